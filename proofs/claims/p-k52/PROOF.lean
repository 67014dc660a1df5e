import PyProof.Rows.All
import Wide.All
import OpenK.AllK
import Wide.FinOn
import HandS.ForMost
import HandS.Wide
import HandS.WideBits
import HandS.IsInst
import HandS.Steps
import HandS.Exc
import HandS.ExcOwn
import HandS.TryOnly
import HandS.WordsExc
import HandS.EndBits
import HandS.Rev
import HandS.RevTup
import HandS.Walk
import HandS.Zip
import HandS.SortInts
import HandS.More
import HandS.SetFor
import KE.GoesMore
import KE.KDictZip
import HandS.Iter
import HandS.Keys
import HandS.Defaults
import HandS.ExcIs
import HandS.Text
import PyProof.EqKinds
import PyProof.NeKinds
import KE.KEqDict
import HandS.Style
import HandS.ClsMeth
import HandS.List
import HandS.ExcInit
import HandS.ExcField
import PyProof.StrOps2
import HandS.Deep
import HandS.TryMany
import HandS.NoneIn
import HandS.Lambda
import HandS.EndTab
import KE.KNestM
import PySem.Challenge.RW_sumwires_k52_states_told_apart
set_option Elab.async false
set_option linter.all false
set_option maxRecDepth 100000
set_option maxHeartbeats 4000000
set_option exponentiation.threshold 4000
namespace Wk
open PySem L2
abbrev Ex (H H' : Hp) : Prop := ∀ a o, H a = some o → H' a = some o
theorem Ex.rfl' {H : Hp} : Ex H H := fun _ _ h => h
theorem Ex.tr {H H1 H2 : Hp} (a : Ex H H1) (b : Ex H1 H2) : Ex H H2 := fun x o h => b x o (a x o h)
theorem Ex.new {H : Hp} {p : Addr} {o : HO} (h : H p = none) : Ex H (upd H p o) := fun a u e => by
  rw [upd_ne (ne_of_none e h)]; exact e
theorem Ex.non {H H' : Hp} (e : Ex H H') {p : Addr} (h : H' p = none) : H p = none := by
  cases q : H p with
  | none => rfl
  | some o => rw [e p o q] at h; cases h
/-- from (F0, H0) to (F, H): all is kept, and F has grown by nothing but what is new to H0 -/
structure Wf (F0 H0 F H : Hp) : Prop where
  h : Ex H0 H
  f : Ex F H
  g : Ex F0 F
  n : ∀ a o, F a = some o → F0 a = none → H0 a = none
theorem Wf.id {F H : Hp} (e : Ex F H) : Wf F H F H := ⟨Ex.rfl', e, Ex.rfl', fun a o h h' => by rw [h] at h'; cases h'⟩
theorem Wf.tr {F0 H0 F H F' H' : Hp} (a : Wf F0 H0 F H) (b : Wf F H F' H') : Wf F0 H0 F' H' := ⟨a.h.tr b.h, b.f, a.g.tr b.g, fun x o h h0 => by
  cases q : F x with
  | none => exact a.h.non (b.n x o h q)
  | some u => exact a.n x u q h0⟩
/-- a new object that stays as it is -/
theorem Wf.new {F H : Hp} {p : Addr} {o : HO} (e : Ex F H) (hp : H p = none) : Wf F H (upd F p o) (upd H p o) := ⟨Ex.new hp, fun a u h => by
    by_cases q : a = p
    · subst q; rw [upd_same] at h ⊢; exact h
    · rw [upd_ne q] at h ⊢; exact e a u h, Ex.new (e.non hp), fun a u h h0 => by
    by_cases q : a = p
    · subst q; exact hp
    · rw [upd_ne q, h0] at h; cases h⟩
/-- a new object that is still changed -/
theorem Wf.newX {F H : Hp} {p : Addr} {o : HO} (e : Ex F H) (hp : H p = none) : Wf F H F (upd H p o) := ⟨Ex.new hp, e.tr (Ex.new hp), Ex.rfl', fun a u h h0 => by rw [h] at h0; cases h0⟩
/-- the heap alone has grown -/
theorem Wf.grow {F H H' : Hp} (e : Ex F H) (h : Ex H H') : Wf F H F H' := ⟨h, e.tr h, Ex.rfl', fun a u h h0 => by rw [h] at h0; cases h0⟩
/-- F' has grown by nothing but p -/
abbrev Fz (F F' : Hp) (p : Addr) : Prop := ∀ q, q ≠ p → F q = none → F' q = none
/-- one's own object, not yet in F -/
structure Xc (H0 F H : Hp) (p : Addr) (o : HO) : Prop where
  z : H0 p = none
  n : F p = none
  h : H p = some o
section
variable {F0 H0 F H F' H' : Hp} {p q : Addr} {o u : HO}
theorem Xc.mk' (w : Wf F0 H0 F H) (hp : H p = none) : Xc H0 F (upd H p o) p o := ⟨w.h.non hp, w.f.non hp, upd_same⟩
theorem Xc.step (x : Xc H0 F H p o) (w : Wf F H F' H') : Xc H0 F' H' p o := ⟨x.z, (by
  cases q : F' p with
  | none => rfl
  | some u => have := w.n p u q x.n; rw [x.h] at this; cases this), w.h _ _ x.h⟩
theorem Xc.set (x : Xc H0 F H p o) : Xc H0 F (upd H p u) p u := ⟨x.z, x.n, upd_same⟩
theorem Wf.set (w : Wf F0 H0 F H) (x : Xc H0 F H p o) : Wf F0 H0 F (upd H p u) := ⟨fun a v e => by
    rw [upd_ne (ne_of_none e x.z)]; exact w.h a v e, fun a v e => by rw [upd_ne (ne_of_none e x.n)]; exact w.f a v e, w.g, w.n⟩
/-- it is changed no more -/
theorem Wf.freeze (w : Wf F0 H0 F H) (x : Xc H0 F H p o) : Wf F0 H0 (upd F p o) H := ⟨w.h, fun a v e => by
    by_cases q : a = p
    · subst q; rw [upd_same] at e; rw [← e]; exact x.h
    · rw [upd_ne q] at e; exact w.f a v e, w.g.tr (Ex.new x.n), fun a v e e0 => by
    by_cases q : a = p
    · subst q; exact x.z
    · rw [upd_ne q] at e; exact w.n a v e e0⟩
theorem Xc.frz (x : Xc H0 F H p o) (y : Xc H0 F H q u) (h : p ≠ q) : Xc H0 (upd F q u) H p o := ⟨x.z, by rw [upd_ne h]; exact x.n, x.h⟩
theorem Xc.ne (x : Xc H0 F H p o) (h : H q = none) : p ≠ q := ne_of_none x.h h
end
structure Rep (α : Type) where
  r : Hp → V → α → Prop
  mono : ∀ {F F' : Hp} {v : V} {x : α}, Ex F F' → r F v x → r F' v x
def pI : Rep Int := ⟨fun _ v x => v = .int x, fun _ h => h⟩
def pN : Rep Nat := ⟨fun _ v x => v = .int (x : Int), fun _ h => h⟩
def pB : Rep Bool := ⟨fun _ v x => v = .bl x, fun _ h => h⟩
def pS : Rep Str := ⟨fun _ v x => v = .str x, fun _ h => h⟩
def All {α : Type} (e : Rep α) (F : Hp) : List V → List α → Prop
  | [], [] => True
  | v :: vs, x :: xs => e.r F v x ∧ All e F vs xs
  | _, _ => False
section
variable {α β γ : Type} {e : Rep α} {F F' : Hp} {vs ws : List V} {xs ys : List α} {v : V} {x : α}
theorem All.mono (h : Ex F F') : ∀ {vs : List V} {xs : List α}, All e F vs xs → All e F' vs xs
  | [], [], _ => trivial
  | _ :: _, _ :: _, ⟨a, b⟩ => ⟨e.mono h a, All.mono h b⟩
  | [], _ :: _, q => q.elim
  | _ :: _, [], q => q.elim
theorem All.len : ∀ {vs : List V} {xs : List α}, All e F vs xs → vs.length = xs.length
  | [], [], _ => rfl
  | _ :: _, _ :: _, ⟨_, b⟩ => by rw [List.length_cons, List.length_cons, All.len b]
  | [], _ :: _, q => q.elim
  | _ :: _, [], q => q.elim
theorem All.get : ∀ {vs : List V} {xs : List α} {i : Nat} {x : α}, All e F vs xs → xs[i]? = some x → ∃ v, vs[i]? = some v ∧ e.r F v x
  | _ :: _, _ :: _, 0, _, ⟨a, _⟩, h => by simp at h; subst h; exact ⟨_, rfl, a⟩
  | _ :: _, _ :: _, i + 1, _, ⟨_, b⟩, h => by
    obtain ⟨v, h1, h2⟩ := All.get (i := i) b (by simpa using h)
    exact ⟨v, by simpa using h1, h2⟩
  | [], [], _, _, _, h => by simp at h
  | [], _ :: _, _, _, q, _ => q.elim
  | _ :: _, [], _, _, q, _ => q.elim
theorem All.got : ∀ {vs : List V} {xs : List α} {i : Nat} {v : V}, All e F vs xs → vs[i]? = some v → ∃ x, xs[i]? = some x ∧ e.r F v x
  | _ :: _, _ :: _, 0, _, ⟨a, _⟩, h => by simp at h; subst h; exact ⟨_, rfl, a⟩
  | _ :: _, _ :: _, i + 1, _, ⟨_, b⟩, h => by
    obtain ⟨v, h1, h2⟩ := All.got (i := i) b (by simpa using h)
    exact ⟨v, by simpa using h1, h2⟩
  | [], [], _, _, _, h => by simp at h
  | [], _ :: _, _, _, q, _ => q.elim
  | _ :: _, [], _, _, q, _ => q.elim
theorem All.app : ∀ {vs : List V} {xs : List α}, All e F vs xs → All e F ws ys → All e F (vs ++ ws) (xs ++ ys)
  | [], [], _, b => b
  | _ :: _, _ :: _, ⟨a, a'⟩, b => ⟨a, All.app a' b⟩
  | [], _ :: _, q, _ => q.elim
  | _ :: _, [], q, _ => q.elim
theorem All.snoc (a : All e F vs xs) (b : e.r F v x) : All e F (vs ++ [v]) (xs ++ [x]) := a.app ⟨b, trivial⟩
theorem All.set : ∀ {vs : List V} {xs : List α} (i : Nat), All e F vs xs → e.r F v x → All e F (vs.set i v) (xs.set i x)
  | [], [], _, _, _ => trivial
  | _ :: _, _ :: _, 0, ⟨_, b⟩, r => ⟨r, b⟩
  | _ :: _, _ :: _, i + 1, ⟨a, b⟩, r => ⟨a, All.set i b r⟩
  | [], _ :: _, _, q, _ => q.elim
  | _ :: _, [], _, q, _ => q.elim
theorem All.take : ∀ {vs : List V} {xs : List α} (i : Nat), All e F vs xs → All e F (vs.take i) (xs.take i)
  | [], [], i, _ => by simp [All]
  | _ :: _, _ :: _, 0, _ => trivial
  | _ :: _, _ :: _, i + 1, ⟨a, b⟩ => ⟨a, All.take i b⟩
  | [], _ :: _, _, q => q.elim
  | _ :: _, [], _, q => q.elim
theorem All.drop : ∀ {vs : List V} {xs : List α} (i : Nat), All e F vs xs → All e F (vs.drop i) (xs.drop i)
  | [], [], i, _ => by simp [All]
  | _ :: _, _ :: _, 0, h => h
  | _ :: _, _ :: _, i + 1, ⟨_, b⟩ => All.drop i b
  | [], _ :: _, _, q => q.elim
  | _ :: _, [], _, q => q.elim
end
/-- a list, a tuple of things of one kind, pairs, triples -/
def pL {α : Type} (e : Rep α) : Rep (List α) := ⟨fun F v xs => ∃ p vs, v = .ref p ∧ F p = some (.lst vs) ∧ All e F vs xs, fun h ⟨p, vs, a, b, c⟩ => ⟨p, vs, a, h _ _ b, c.mono h⟩⟩
def pTL {α : Type} (e : Rep α) : Rep (List α) := ⟨fun F v xs => ∃ p vs, v = .ref p ∧ F p = some (.tup vs) ∧ All e F vs xs, fun h ⟨p, vs, a, b, c⟩ => ⟨p, vs, a, h _ _ b, c.mono h⟩⟩
def pT2 {α β : Type} (e : Rep α) (f : Rep β) : Rep (α × β) := ⟨fun F v x => ∃ p u w, v = .ref p ∧ F p = some (.tup [u, w]) ∧ e.r F u x.1 ∧ f.r F w x.2, fun h ⟨p, u, w, a, b, c, d⟩ => ⟨p, u, w, a, h _ _ b, e.mono h c, f.mono h d⟩⟩
def pT3 {α β γ : Type} (e : Rep α) (f : Rep β) (g : Rep γ) : Rep (α × β × γ) := ⟨fun F v x => ∃ p u w y, v = .ref p ∧ F p = some (.tup [u, w, y]) ∧ e.r F u x.1 ∧ f.r F w x.2.1 ∧ g.r F y x.2.2, fun h ⟨p, u, w, y, a, b, c, d, k⟩ => ⟨p, u, w, y, a, h _ _ b, e.mono h c, f.mono h d, g.mono h k⟩⟩
/-- the script: read only -/
def pScr (K : PySem.W.Frag) : Rep (List Int) := ⟨fun F v xs => ∃ a, v = .ref a ∧ SqL K F a (xs.map V.int), fun h ⟨a, e, q⟩ => ⟨a, e, by
  rcases q with (q | ⟨o, q⟩) | q
  · exact .inl (.inl (h _ _ q))
  · exact .inl (.inr ⟨o, h _ _ q⟩)
  · exact .inr q⟩⟩
/-- one's own list -/
structure XL {α : Type} (e : Rep α) (H0 F H : Hp) (p : Addr) (xs : List α) : Prop where
  x : ∃ vs, Xc H0 F H p (.lst vs) ∧ All e F vs xs
section
variable {α : Type} {e : Rep α} {F0 H0 F H F' H' : Hp} {p q : Addr} {o : HO} {xs : List α} {y : α} {v : V}
theorem XL.step (x : XL e H0 F H p xs) (w : Wf F H F' H') : XL e H0 F' H' p xs := let ⟨vs, a, b⟩ := x.x; ⟨vs, a.step w, b.mono w.g⟩
theorem XL.ne (x : XL e H0 F H p xs) (h : H q = none) : p ≠ q := let ⟨_, a, _⟩ := x.x; a.ne h
theorem XL.nil (w : Wf F0 H0 F H) (hp : H p = none) : XL e H0 F (upd H p (.lst [])) p [] := ⟨[], Xc.mk' w hp, trivial⟩
theorem XL.frz {u : HO} {β : Type} {e' : Rep β} {ys : List β} (x : XL e H0 F H p xs) (z : Xc H0 F H q u) (h : p ≠ q) : XL e H0 (upd F q u) H p xs := let ⟨vs, a, b⟩ := x.x; ⟨vs, a.frz z h, b.mono (Ex.new z.n)⟩
theorem XL.zero (x : XL e H0 F H p xs) : H0 p = none := let ⟨_, a, _⟩ := x.x; a.z
end
def forW {α S : Type} : List α → S → (α → S → (S → Prop) → (S → Prop) → Prop) → (S → Prop) → Prop
  | [], s, _, k => k s
  | x :: xs, s, b, k => b x s (fun s' => forW xs s' b k) k
def compG {α β : Type} : List α → List β → (α → (Option β → Prop) → Prop) → (List β → Prop) → Prop
  | [], acc, _, k => k acc
  | x :: xs, acc, b, k => b x fun o => compG xs (acc ++ o.toList) b k
def compW {α β : Type} (xs : List α) (b : α → (Option β → Prop) → Prop) (k : List β → Prop) : Prop := compG xs [] b k
def whileW {S : Type} (test : S → (Bool → Prop) → Prop) (body : S → (S → Prop) → (S → Prop) → Prop) (s : S) (k : S → Prop) : Prop :=
  ∃ I : Nat → S → Prop, (∃ m, I m s) ∧ ∀ m s, I m s → test s fun b => if b = true then body s (fun s' => ∃ m', m' < m ∧ I m' s') k else k s
section
variable {K : PySem.W.Frag} {σ σ1 : L2.St} {H H1 : Hp} {te ta tb tc : TE} {tt tu : TT} {tA tR : TA} {Q : VK} {v w x y z : V} {D : Ends} {t u : TS} {i j : Int} {a b m n : Nat} {p q : Prop}
theorem e_val (h : Val te σ H v) (q : Q v H) : te σ H Q := h Q q
theorem v_eq (h : Val te σ H v) (e : v = w) : Val te σ H w := e ▸ h
theorem vi_of (h : Val te σ H (.int i)) (e : i = j) : Val te σ H (.int j) := e ▸ h
theorem vb_of {b c : Bool} (h : Val te σ H (.bl b)) (e : b = c) : Val te σ H (.bl c) := e ▸ h
theorem v2 {r : R2} (ha : Val ta σ H x) (hb : Val tb σ H y) (hr : ∀ Q : VK, Q z H → r x y H Q) : Val (tOp r ta tb) σ H z := fun Q k => ha _ (hb _ (hr Q k))
theorem v1 {r : V → Hp → VK → Prop} (ha : Val ta σ H x) (hr : ∀ Q : VK, Q z H → r x H Q) : Val (tUn r ta) σ H z := fun Q k => ha _ (hr Q k)
theorem vi0 {g : Int → Int → V} (ha : Val ta σ H (.int i)) (hb : Val tb σ H (.int j)) : Val (tOp (rI0 g) ta tb) σ H (g i j) := fun _ k => ha _ (hb _ ⟨i, j, rfl, rfl, k⟩)
theorem viC {C : Int → Int → Prop} {g : Int → Int → V} (ha : Val ta σ H (.int i)) (hb : Val tb σ H (.int j)) (hc : C i j) : Val (tOp (rI C g) ta tb) σ H (g i j) := fun _ k => ha _ (hb _ ⟨i, j, rfl, rfl, hc, k⟩)
theorem vn_add (ha : Val ta σ H (.int (a : Int))) (hb : Val tb σ H (.int (b : Int))) : Val (tOp (rI0 fun i j => .int (i + j)) ta tb) σ H (.int ((a + b : Nat) : Int)) := vi_of (vi0 ha hb) (by omega)
theorem vn_sub (ha : Val ta σ H (.int (a : Int))) (hb : Val tb σ H (.int (b : Int))) (h : b ≤ a) : Val (tOp (rI0 fun i j => .int (i - j)) ta tb) σ H (.int ((a - b : Nat) : Int)) := vi_of (vi0 ha hb) (by omega)
def NMul (a b : Nat) : Prop := a < 2 ^ 64 ∨ b < 2 ^ 64
theorem vn_mul (ha : Val ta σ H (.int (a : Int))) (hb : Val tb σ H (.int (b : Int))) (h : NMul a b) : Val (tOp (rI CMul fun i j => .int (i * j)) ta tb) σ H (.int ((a * b : Nat) : Int)) := vi_of (viC ha hb (by
  rcases h with h | h
  · exact .inl ⟨by omega, by omega⟩
  · exact .inr ⟨by omega, by omega⟩)) (by rw [Int.natCast_mul])
def NDiv (b : Nat) : Prop := 0 < b ∧ b.log2 < 9000
theorem vn_div (ha : Val ta σ H (.int (a : Int))) (hb : Val tb σ H (.int (b : Int))) (h : NDiv b) : Val (tOp (rI CDivW fun i j => .int (i / j)) ta tb) σ H (.int ((a / b : Nat) : Int)) := vi_of (viC ha hb ⟨by have := h.1; omega, h.2⟩) (by rw [Int.natCast_ediv])
theorem vi_div (ha : Val ta σ H (.int i)) (hb : Val tb σ H (.int (b : Int))) (h : NDiv b) : Val (tOp (rI CDivW fun i j => .int (i / j)) ta tb) σ H (.int (i / (b : Int))) := viC ha hb ⟨by have := h.1; omega, h.2⟩
theorem vn_mod (ha : Val ta σ H (.int (a : Int))) (hb : Val tb σ H (.int (b : Int))) (h : 0 < b) : Val (tOp (rI (fun _ j => 0 < j) fun i j => .int (i % j)) ta tb) σ H (.int ((a % b : Nat) : Int)) := vi_of (viC (C := fun _ j => 0 < j) ha hb (by omega)) (by rw [Int.natCast_emod])
/-- i % m, as a whole number from 0 on -/
def modN (i : Int) (m : Nat) : Nat := (i % (m : Int)).toNat
theorem modN_cast {i : Int} {m : Nat} (h : 0 < m) : ((modN i m : Nat) : Int) = i % (m : Int) := Int.toNat_of_nonneg (Int.emod_nonneg _ (by omega))
theorem modN_lt {i : Int} {m : Nat} (h : 0 < m) : modN i m < m := by
  have := modN_cast (i := i) h
  have := Int.emod_lt_of_pos i (show (0 : Int) < m by omega)
  omega
theorem vm_mod (ha : Val ta σ H (.int i)) (hb : Val tb σ H (.int (b : Int))) (h : 0 < b) : Val (tOp (rI (fun _ j => 0 < j) fun i j => .int (i % j)) ta tb) σ H (.int ((modN i b : Nat) : Int)) := vi_of (viC (C := fun _ j => 0 < j) ha hb (by omega)) (modN_cast h).symm
theorem bitAnd_N (a b : Nat) : Builtin.bitAnd (a : Int) (b : Int) = ((a &&& b : Nat) : Int) := by
  unfold Builtin.bitAnd
  rw [decide_eq_true (Int.natCast_nonneg a), decide_eq_true (Int.natCast_nonneg b)]
  rfl
theorem bitXor_N (a b : Nat) : Builtin.bitXor (a : Int) (b : Int) = ((a ^^^ b : Nat) : Int) := by rw [Bits.bitXor_pp (Int.natCast_nonneg a) (Int.natCast_nonneg b)]; rfl
theorem vn_and (ha : Val ta σ H (.int (a : Int))) (hb : Val tb σ H (.int (b : Int))) : Val (tOp (rI0 fun i j => .int (Builtin.bitAnd i j)) ta tb) σ H (.int ((a &&& b : Nat) : Int)) := vi_of (vi0 ha hb) (bitAnd_N a b)
theorem vn_xor (ha : Val ta σ H (.int (a : Int))) (hb : Val tb σ H (.int (b : Int))) : Val (tOp (rI0 fun i j => .int (Builtin.bitXor i j)) ta tb) σ H (.int ((a ^^^ b : Nat) : Int)) := vi_of (vi0 ha hb) (bitXor_N a b)
def NShl (a k : Nat) : Prop := a.log2 + k < 100000000
theorem NShl.ok {a k : Nat} (h : NShl a k) : CShl (a : Int) (k : Int) := by
  have e : (2 : Int) ^ 27 = 134217728 := by decide
  refine ⟨Int.natCast_nonneg _, ?_⟩
  rw [e]
  have b : Builtin.Int.intBits (a : Int) ≤ a.log2 + 1 := by
    unfold Builtin.Int.intBits
    split
    · omega
    · exact Nat.le_refl _
  unfold NShl at h
  omega
theorem vn_shl (ha : Val ta σ H (.int (a : Int))) (hb : Val tb σ H (.int (b : Int))) (h : NShl a b) : Val (tOp (rI CShl fun i j => .int (i * 2 ^ j.toNat)) ta tb) σ H (.int ((a <<< b : Nat) : Int)) := vi_of (viC ha hb h.ok) (by
  rw [Int.toNat_natCast, Nat.shiftLeft_eq, Int.natCast_mul, Int.natCast_pow]; rfl)
theorem vn_one (ha : Val ta σ H (.int 1)) (hb : Val tb σ H (.int (b : Int))) (h : b < 100000000) : Val (tOp (rI CShl fun i j => .int (i * 2 ^ j.toNat)) ta tb) σ H (.int ((2 ^ b : Nat) : Int)) := vi_of (vn_shl (a := 1) ha hb (by
  unfold NShl
  have : Nat.log2 1 = 0 := by decide
  omega)) (by rw [Nat.shiftLeft_eq, Nat.one_mul])
theorem vi_shr (ha : Val ta σ H (.int i)) (hb : Val tb σ H (.int (b : Int))) : Val (tOp (rI (fun _ j => 0 ≤ j) fun i j => .int (i / 2 ^ j.toNat)) ta tb) σ H (.int (i / 2 ^ b)) := vi_of (viC (C := fun _ j => 0 ≤ j) ha hb (Int.natCast_nonneg _)) (by rw [Int.toNat_natCast])
theorem vn_shr (ha : Val ta σ H (.int (a : Int))) (hb : Val tb σ H (.int (b : Int))) : Val (tOp (rI (fun _ j => 0 ≤ j) fun i j => .int (i / 2 ^ j.toNat)) ta tb) σ H (.int ((a >>> b : Nat) : Int)) := vi_of (vi_shr ha hb) (by
  rw [Nat.shiftRight_eq_div_pow, Int.natCast_ediv, Int.natCast_pow]; rfl)
theorem v_neg (ha : Val ta σ H (.int i)) : Val (tUn (rU fun i => .int (-i)) ta) σ H (.int (-i)) := v1 ha fun _ k => ⟨i, rfl, k⟩
theorem c_lt (ha : Val ta σ H (.int i)) (hb : Val tb σ H (.int j)) : Val (tOp (rI0 fun i j => .bl (decide (i < j))) ta tb) σ H (.bl (decide (i < j))) := vi0 ha hb
theorem c_le (ha : Val ta σ H (.int i)) (hb : Val tb σ H (.int j)) : Val (tOp (rI0 fun i j => .bl (decide (i ≤ j))) ta tb) σ H (.bl (decide (i ≤ j))) := vi0 ha hb
theorem c_gt (ha : Val ta σ H (.int i)) (hb : Val tb σ H (.int j)) : Val (tOp (rI0 fun i j => .bl (decide (j < i))) ta tb) σ H (.bl (decide (j < i))) := vi0 ha hb
theorem c_ge (ha : Val ta σ H (.int i)) (hb : Val tb σ H (.int j)) : Val (tOp (rI0 fun i j => .bl (decide (j ≤ i))) ta tb) σ H (.bl (decide (j ≤ i))) := vi0 ha hb
theorem dec_iff {p q : Prop} [Decidable p] [Decidable q] (h : p ↔ q) : decide p = decide q := by
  by_cases k : p
  · rw [decide_eq_true k, decide_eq_true (h.mp k)]
  · rw [decide_eq_false k, decide_eq_false (fun z => k (h.mpr z))]
theorem vb_dec [Decidable p] [Decidable q] (h : Val te σ H (.bl (decide p))) (e : p ↔ q) : Val te σ H (.bl (decide q)) := vb_of h (dec_iff e)
theorem c_eqI (ha : Val ta σ H (.int i)) (hb : Val tb σ H (.int j)) : Val (tOp rEq ta tb) σ H (.bl (decide (i = j))) := v2 ha hb fun Q k => ⟨rfl, by
  rw [dec_iff (show V.int i = V.int j ↔ i = j from ⟨fun h => V.int.inj h, fun h => by rw [h]⟩)]; exact k⟩
theorem c_neI (ha : Val ta σ H (.int i)) (hb : Val tb σ H (.int j)) : Val (tOp rNe ta tb) σ H (.bl (decide (i ≠ j))) := v2 ha hb fun Q k => ⟨rfl, by
  rw [← decide_not, dec_iff (show ¬ V.int i = V.int j ↔ i ≠ j from ⟨fun h e => h (by rw [e]), fun h e => h (V.int.inj e)⟩)]; exact k⟩
theorem c_eqS {s r : Str} (ha : Val ta σ H (.str s)) (hb : Val tb σ H (.str r)) : Val (tOp rEq ta tb) σ H (.bl (decide (s = r))) := v2 ha hb fun Q k => ⟨rfl, by
  rw [dec_iff (show V.str s = V.str r ↔ s = r from ⟨fun h => V.str.inj h, fun h => by rw [h]⟩)]; exact k⟩
theorem c_neS {s r : Str} (ha : Val ta σ H (.str s)) (hb : Val tb σ H (.str r)) : Val (tOp rNe ta tb) σ H (.bl (decide (s ≠ r))) := v2 ha hb fun Q k => ⟨rfl, by
  rw [← decide_not, dec_iff (show ¬ V.str s = V.str r ↔ s ≠ r from ⟨fun h e => h (by rw [e]), fun h e => h (V.str.inj e)⟩)]; exact k⟩
theorem c_neB {s r : Bool} (ha : Val ta σ H (.bl s)) (hb : Val tb σ H (.bl r)) : Val (tOp rNe ta tb) σ H (.bl (decide (s ≠ r))) := v2 ha hb fun Q k => ⟨rfl, by
  rw [← decide_not, dec_iff (show ¬ V.bl s = V.bl r ↔ s ≠ r from ⟨fun h e => h (by rw [e]), fun h e => h (V.bl.inj e)⟩)]; exact k⟩
/-- numbers from 0 on: the comparison without casts -/
theorem n_lt : ((a : Int) < (b : Int)) ↔ a < b := by omega
theorem n_le : ((a : Int) ≤ (b : Int)) ↔ a ≤ b := by omega
theorem n_eq : ((a : Int) = (b : Int)) ↔ a = b := by omega
theorem n_ne : ((a : Int) ≠ (b : Int)) ↔ a ≠ b := by omega
/-- a < b < c -/
theorem v_chain {r r' : R2} {b1 b2 : Bool} (ha : Val ta σ H x) (hb : Val tb σ H y) (hc : Val tc σ H z) (h1 : ∀ Q : VK, Q (.bl b1) H → r x y H Q) (h2 : ∀ Q : VK, Q (.bl b2) H → r' y z H Q) : Val (tChain r r' ta tb tc) σ H (.bl (b1 && b2)) := fun Q k => ha _ (hb _ (h1 _ ⟨b1, rfl, by
  cases b1 with
  | true => rw [if_pos rfl]; exact hc _ (h2 _ (by simpa using k))
  | false => rw [if_neg (by simp)]; simpa using k⟩))
theorem t_of (h : Val te σ H (.bl b')) : Ans (tTest te) σ H b' := fun _ k => h _ ⟨_, rfl, k⟩
theorem t_ofB (h : Val te σ H (.bl b')) : Ans (tB te) σ H b' := fun _ k => h _ ⟨_, rfl, k⟩
theorem t_dec {b c : Bool} (h : Ans tt σ H b) (e : b = c) : Ans tt σ H c := e ▸ h
theorem t_iff [Decidable p] [Decidable q] (h : Ans tt σ H (decide p)) (e : p ↔ q) : Ans tt σ H (decide q) := t_dec h (dec_iff e)
theorem t_not [Decidable p] (h : Ans tt σ H (decide p)) : Ans (tNot tt) σ H (decide (¬ p)) := fun Q k => h _ (by rw [← decide_not]; exact k)
theorem t_and [Decidable p] [Decidable q] (h : Ans tt σ H (decide p)) (h2 : p → Ans tu σ H (decide q)) : Ans (tAnd tt tu) σ H (decide (p ∧ q)) := fun Q k => h _ (by
  by_cases hp : p
  · rw [decide_eq_true hp, if_pos rfl]
    exact h2 hp Q (by rw [dec_iff (show q ↔ p ∧ q from ⟨fun z => ⟨hp, z⟩, fun z => z.2⟩)]; exact k)
  · rw [decide_eq_false hp, if_neg (by simp)]
    rw [decide_eq_false (fun z => hp z.1)] at k
    exact k)
theorem t_or [Decidable p] [Decidable q] (h : Ans tt σ H (decide p)) (h2 : ¬ p → Ans tu σ H (decide q)) : Ans (tOr tt tu) σ H (decide (p ∨ q)) := fun Q k => h _ (by
  by_cases hp : p
  · rw [decide_eq_true hp, if_pos rfl]
    rw [decide_eq_true (Or.inl hp)] at k
    exact k
  · rw [decide_eq_false hp, if_neg (by simp)]
    exact h2 hp Q (by rw [dec_iff (show q ↔ p ∨ q from ⟨fun z => .inr z, fun z => z.resolve_left hp⟩)]; exact k))
theorem vt_not [Decidable p] (h : Val te σ H (.bl (decide p))) : Val (tNotV te) σ H (.bl (decide (¬ p))) := fun Q k => h _ ⟨_, rfl, by rw [← decide_not]; exact k⟩
theorem vt_and [Decidable p] [Decidable q] (h : Val ta σ H (.bl (decide p))) (h2 : p → Val tb σ H (.bl (decide q))) : Val (tAndV ta tb) σ H (.bl (decide (p ∧ q))) := fun Q k => h _ ⟨_, rfl, by
  by_cases hp : p
  · rw [decide_eq_true hp, if_pos rfl]
    exact h2 hp Q (by rw [dec_iff (show q ↔ p ∧ q from ⟨fun z => ⟨hp, z⟩, fun z => z.2⟩)]; exact k)
  · rw [decide_eq_false hp, if_neg (by simp)]
    rw [decide_eq_false (fun z => hp z.1)] at k
    exact k⟩
theorem e_call {sp : Sp} {E : XK} (h : tA σ H fun vs H1 => sp vs H1 Q E) : tCall sp [] E tA σ H Q := by
  show tA σ H fun vs H1 => sp (vs ++ []) H1 Q E
  simpa only [List.append_nil] using h
theorem a_nil {R : List V → Hp → Prop} (h : R [] H) : tNil σ H R := h
theorem a_cons {R : List V → Hp → Prop} (h : te σ H fun x H1 => tR σ H1 fun xs H2 => R (x :: xs) H2) : tCons te tR σ H R := h
theorem a_val {R : List V → Hp → Prop} (h : Val te σ H v) (k : tR σ H fun xs H2 => R (v :: xs) H2) : tCons te tR σ H R := h _ k
theorem v_cb1 {r : List V → Hp → VK → Prop} (ha : Val ta σ H x) (hr : ∀ Q : VK, Q z H → r [x] H Q) : Val (tCB r (tCons ta tNil)) σ H z := fun Q k => ha _ (hr Q k)
theorem q_sq (h : ∀ N : L2.St → Hp → Prop, (∀ σ' H', u D σ' H' → N σ' H') → t { D with nx := N } σ H) : tSeq t u D σ H := h _ fun _ _ z => z
theorem a_asg {i : Nat} (h : Val te σ H v) (q : D.nx (σ.set i (some v)) H) : tAsg te (gName i) D σ H := h _ q
theorem a_asgE {i : Nat} (h : te σ H fun v H1 => D.nx (σ.set i (some v)) H1) : tAsg te (gName i) D σ H := h
theorem a_ret (h : Val te σ H v) (q : D.rt v H) : tRet te D σ H := h _ q
theorem a_retE (h : te σ H D.rt) : tRet te D σ H := h
theorem a_dropE (h : te σ H fun _ H1 => D.nx σ H1) : tDrop te D σ H := h
theorem a_ifE (h : tt σ H fun b H1 => if b = true then t D σ H1 else u D σ H1) : tIfS tt t u D σ H := h
theorem ifP [Decidable p] {A B : Prop} (h : if p then A else B) (hp : p) : A := by rw [if_pos hp] at h; exact h
theorem ifN [Decidable p] {A B : Prop} (h : if p then A else B) (hp : ¬ p) : B := by rw [if_neg hp] at h; exact h
end
end Wk
namespace Wk
open PySem L2
class Dat {α : Type} (e : Rep α) (lv : outParam Nat) where
  d : α → PyData
  dp : ∀ {K : PySem.W.Frag} {F : Hp} {v : V} {x : α}, e.r F v x → Dp K F v (d x)
  lay : ∀ x, (d x).canLay0 = true
  dep : ∀ x, (d x).depth ≤ lv
  inj : ∀ x y, PyData.eqv (d x) (d y) = true ↔ x = y
instance : Dat pI 0 := ⟨.int, fun h => by cases (show _ = V.int _ from h); exact .int _, fun _ => rfl, fun _ => Nat.le_refl _, fun x y => by
  show ((x == y) = true) ↔ _
  exact beq_iff_eq⟩
instance : Dat pN 0 := ⟨fun n => .int (n : Int), fun h => by cases (show _ = V.int _ from h); exact .int _, fun _ => rfl, fun _ => Nat.le_refl _, fun x y => by
  show (((x : Int) == (y : Int)) = true) ↔ _
  rw [beq_iff_eq]; omega⟩
instance : Dat pB 0 := ⟨.bool, fun h => by cases (show _ = V.bl _ from h); exact .bl _, fun _ => rfl, fun _ => Nat.le_refl _, fun x y => by
  show ((x == y) = true) ↔ _
  exact beq_iff_eq⟩
theorem lay_all {α : Type} {d : α → PyData} (h : ∀ x, (d x).canLay0 = true) : ∀ xs : List α, PyData.canLayAll0 (xs.map d) = true
  | [] => rfl
  | x :: xs => by show (PyData.canLay0 (d x) && PyData.canLayAll0 (xs.map d)) = true; rw [h x, lay_all h xs]; rfl
theorem dep_all {α : Type} {d : α → PyData} {n : Nat} (h : ∀ x, (d x).depth ≤ n) : ∀ xs : List α, PyData.depthAll (xs.map d) ≤ n
  | [] => Nat.zero_le _
  | x :: xs => by
    show PyData.depthAll (d x :: xs.map d) ≤ n
    have a := h x
    have b := dep_all h xs
    simp only [PyData.depthAll]
    omega
theorem eqv_all {α : Type} {d : α → PyData} (h : ∀ x y, PyData.eqv (d x) (d y) = true ↔ x = y) : ∀ xs ys : List α, PyData.eqvAll (xs.map d) (ys.map d) = true ↔ xs = ys
  | [], [] => ⟨fun _ => rfl, fun _ => rfl⟩
  | x :: xs, [] => ⟨fun q => (by cases q), fun q => (by cases q)⟩
  | [], y :: ys => ⟨fun q => (by cases q), fun q => (by cases q)⟩
  | x :: xs, y :: ys => by
    show (PyData.eqv (d x) (d y) && PyData.eqvAll (xs.map d) (ys.map d)) = true ↔ _
    rw [Bool.and_eq_true, h x y, eqv_all h xs ys, List.cons.injEq]
theorem dp_all {α : Type} {e : Rep α} {lv : Nat} [Dat e lv] {K : PySem.W.Frag} {F : Hp} : ∀ {vs : List V} {xs : List α}, All e F vs xs → DpAll K F vs (xs.map (Dat.d e))
  | [], [], _ => .nil
  | _ :: _, _ :: _, ⟨a, b⟩ => .cons (Dat.dp a) (dp_all b)
  | [], _ :: _, q => q.elim
  | _ :: _, [], q => q.elim
instance {α : Type} {e : Rep α} {n : Nat} [Dat e n] : Dat (pL e) (n + 1) := ⟨fun xs => .list (xs.map (Dat.d e)), fun {K F v xs} h => by
    obtain ⟨p, vs, rfl, hp, a⟩ := h
    exact .lst (SqL.of hp) (dp_all a), fun xs => lay_all (Dat.lay (e := e)) xs, fun xs => by
    have := dep_all (Dat.dep (e := e)) xs
    simp only [PyData.depth]
    omega, fun xs ys => by
    show PyData.eqvAll (xs.map (Dat.d e)) (ys.map (Dat.d e)) = true ↔ _
    exact eqv_all (Dat.inj (e := e)) xs ys⟩
instance {α : Type} {e : Rep α} {n : Nat} [Dat e n] : Dat (pTL e) (n + 1) := ⟨fun xs => .tuple (xs.map (Dat.d e)), fun {K F v xs} h => by
    obtain ⟨p, vs, rfl, hp, a⟩ := h
    exact .tup (SqT.of hp) (dp_all a), fun xs => lay_all (Dat.lay (e := e)) xs, fun xs => by
    have := dep_all (Dat.dep (e := e)) xs
    simp only [PyData.depth]
    omega, fun xs ys => by
    show PyData.eqvAll (xs.map (Dat.d e)) (ys.map (Dat.d e)) = true ↔ _
    exact eqv_all (Dat.inj (e := e)) xs ys⟩
instance {α β : Type} {e : Rep α} {f : Rep β} {n m : Nat} [Dat e n] [Dat f m] : Dat (pT2 e f) (max n m + 1) := ⟨fun x => .tuple [Dat.d e x.1, Dat.d f x.2], fun {K F v x} h => by
    obtain ⟨p, u, w, rfl, hp, a, b⟩ := h
    exact .tup (SqT.of hp) (.cons (Dat.dp a) (.cons (Dat.dp b) .nil)), fun x => by
    show (PyData.canLay0 (Dat.d e x.1) && (PyData.canLay0 (Dat.d f x.2) && PyData.canLayAll0 [])) = true
    rw [Dat.lay, Dat.lay]; rfl, fun x => by
    have a := Dat.dep (e := e) x.1
    have b := Dat.dep (e := f) x.2
    simp only [PyData.depth, PyData.depthAll]
    omega, fun x y => by
    show (PyData.eqv (Dat.d e x.1) (Dat.d e y.1) && (PyData.eqv (Dat.d f x.2) (Dat.d f y.2) && PyData.eqvAll [] [])) = true ↔ _
    have z : PyData.eqvAll [] [] = true := rfl
    rw [z, Bool.and_true, Bool.and_eq_true, Dat.inj, Dat.inj, Prod.ext_iff]⟩
theorem Dat.shp {α : Type} {e : Rep α} {n : Nat} [Dat e n] (h : n ≤ 64) (x : α) : SeqAt.shaped (Dat.d e x) = true := by
  unfold SeqAt.shaped
  rw [Dat.lay, decide_eq_true (Nat.le_trans (Dat.dep x) h)]; rfl
section
variable {α β : Type} {e : Rep α} {f : Rep β} {K : PySem.W.Frag} {σ : L2.St} {F0 H0 F F' H H' : Hp} {te tl ta tb : TE} {tt : TT} {tA : TA} {Q : VK} {v w u : V} {xs ys : List α} {x y : α} {D : Ends} {tu : TS} {p q : Addr} {n : Nat} {i : Int}
theorem c_eqD [DecidableEq α] [Dat e n] (ha : Val ta σ H v) (hb : Val tb σ H w) (f : Ex F H) (r : e.r F v x) (g : Ex F' H) (s : e.r F' w y) (h : n ≤ 64 := by decide) : Val (tOp (rEqD K) ta tb) σ H (.bl (decide (x = y))) :=
  v2 ha hb fun Q k => ⟨_, _, Dat.dp (e.mono f r), Dat.dp (e.mono g s), Dat.shp h x, Dat.shp h y, by
    have z : PyData.eqv (Dat.d e x) (Dat.d e y) = decide (x = y) := Bool.eq_iff_iff.mpr (by rw [Dat.inj, decide_eq_true_iff])
    rw [z]; exact k⟩
theorem c_neD [DecidableEq α] [Dat e n] (ha : Val ta σ H v) (hb : Val tb σ H w) (f : Ex F H) (r : e.r F v x) (g : Ex F' H) (s : e.r F' w y) (h : n ≤ 64 := by decide) : Val (tOp (rNeD K) ta tb) σ H (.bl (decide (x ≠ y))) :=
  v2 ha hb fun Q k => ⟨_, _, Dat.dp (e.mono f r), Dat.dp (e.mono g s), Dat.shp h x, Dat.shp h y, by
    have z : PyData.eqv (Dat.d e x) (Dat.d e y) = decide (x = y) := Bool.eq_iff_iff.mpr (by rw [Dat.inj, decide_eq_true_iff])
    rw [z, ← decide_not]; exact k⟩
theorem XL.rd (z : XL e H0 F H p xs) : ∃ vs, H p = some (.lst vs) ∧ All e F vs xs := let ⟨vs, a, b⟩ := z.x; ⟨vs, a.h, b⟩
theorem L_rd (r : (pL e).r F v xs) (f : Ex F H) : ∃ p vs, v = .ref p ∧ H p = some (.lst vs) ∧ All e F vs xs := let ⟨p, vs, a, b, c⟩ := r; ⟨p, vs, a, f _ _ b, c⟩
theorem TL_rd (r : (pTL e).r F v xs) (f : Ex F H) : ∃ p vs, v = .ref p ∧ H p = some (.tup vs) ∧ All e F vs xs := let ⟨p, vs, a, b, c⟩ := r; ⟨p, vs, a, f _ _ b, c⟩
theorem ix_L (r : (pL e).r F v xs) (f : Ex F H) {i : Nat} (hx : xs[i]? = some x) : ∃ w, e.r F w x ∧ ∀ ⦃σ ta tb⦄, Val ta σ H v → Val tb σ H (.int (i : Int)) → Val (tOp (rIxL K) ta tb) σ H w := by
  obtain ⟨p, vs, rfl, hp, a⟩ := L_rd r f
  obtain ⟨w, h1, h2⟩ := a.get hx
  exact ⟨w, h2, fun _ _ _ ha hb => v2 ha hb fun Q k => ⟨p, vs, _, w, rfl, rfl, SqL.of hp, atI_nat h1, k⟩⟩
theorem ix_X (r : XL e H0 F H p xs) {i : Nat} (hx : xs[i]? = some x) : ∃ w, e.r F w x ∧ ∀ ⦃σ ta tb⦄, Val ta σ H (.ref p) → Val tb σ H (.int (i : Int)) → Val (tOp (rIxL K) ta tb) σ H w := by
  obtain ⟨vs, hp, a⟩ := r.rd
  obtain ⟨w, h1, h2⟩ := a.get hx
  exact ⟨w, h2, fun _ _ _ ha hb => v2 ha hb fun Q k => ⟨p, vs, _, w, rfl, rfl, SqL.of hp, atI_nat h1, k⟩⟩
theorem ix_S (f : Ex F H) {ys : List Int} {i : Nat} {x : Int} (r : (pScr K).r F v ys) (hx : ys[i]? = some x) : ∀ ⦃σ ta tb⦄, Val ta σ H v → Val tb σ H (.int (i : Int)) → Val (tOp (rIxL K) ta tb) σ H (.int x) := by
  obtain ⟨p, rfl, s⟩ := (pScr K).mono f r
  exact fun _ _ _ ha hb => v2 ha hb fun Q k => ⟨p, _, _, .int x, rfl, rfl, s, atI_nat (by rw [List.getElem?_map, hx]; rfl), k⟩
theorem ix_2a {e : Rep α} {f : Rep β} {x : α × β} (r : (pT2 e f).r F v x) (h : Ex F H) : ∃ w, e.r F w x.1 ∧ ∀ ⦃σ ta tb⦄, Val ta σ H v → Val tb σ H (.int 0) → Val (tOp (rIxT K) ta tb) σ H w := by
  obtain ⟨p, u, w, rfl, hp, a, b⟩ := r
  exact ⟨u, a, fun _ _ _ ha hb => v2 ha hb fun Q k => ⟨p, _, _, u, rfl, rfl, SqT.of (h _ _ hp), rfl, k⟩⟩
theorem ix_2b {e : Rep α} {f : Rep β} {x : α × β} (r : (pT2 e f).r F v x) (h : Ex F H) : ∃ w, f.r F w x.2 ∧ ∀ ⦃σ ta tb⦄, Val ta σ H v → Val tb σ H (.int 1) → Val (tOp (rIxT K) ta tb) σ H w := by
  obtain ⟨p, u, w, rfl, hp, a, b⟩ := r
  exact ⟨w, b, fun _ _ _ ha hb => v2 ha hb fun Q k => ⟨p, _, _, w, rfl, rfl, SqT.of (h _ _ hp), rfl, k⟩⟩
def rLen (K : PySem.W.Frag) : List V → Hp → VK → Prop := fun xs H Q => ∃ p ys, xs = [.ref p] ∧ (SqL K H p ys ∨ SqT K H p ys) ∧ Q (.int ys.length) H
theorem len_L (r : (pL e).r F v xs) (f : Ex F H) (ha : Val ta σ H v) : Val (tCB (rLen K) (tCons ta tNil)) σ H (.int ((xs.length : Nat) : Int)) := by
  obtain ⟨p, vs, rfl, hp, a⟩ := L_rd r f
  exact v_cb1 ha fun Q k => ⟨p, vs, rfl, .inl (SqL.of hp), by rw [a.len]; exact k⟩
theorem len_TL (r : (pTL e).r F v xs) (f : Ex F H) (ha : Val ta σ H v) : Val (tCB (rLen K) (tCons ta tNil)) σ H (.int ((xs.length : Nat) : Int)) := by
  obtain ⟨p, vs, rfl, hp, a⟩ := TL_rd r f
  exact v_cb1 ha fun Q k => ⟨p, vs, rfl, .inr (SqT.of hp), by rw [a.len]; exact k⟩
theorem len_X (r : XL e H0 F H p xs) (ha : Val ta σ H (.ref p)) : Val (tCB (rLen K) (tCons ta tNil)) σ H (.int ((xs.length : Nat) : Int)) := by
  obtain ⟨vs, hp, a⟩ := r.rd
  exact v_cb1 ha fun Q k => ⟨p, vs, rfl, .inl (SqL.of hp), by rw [a.len]; exact k⟩
theorem len_S {ys : List Int} (r : (pScr K).r F v ys) (f : Ex F H) (ha : Val ta σ H v) : Val (tCB (rLen K) (tCons ta tNil)) σ H (.int ((ys.length : Nat) : Int)) := by
  obtain ⟨p, rfl, s⟩ := (pScr K).mono f r
  exact v_cb1 ha fun Q k => ⟨p, _, rfl, .inl s, by rw [List.length_map]; exact k⟩
theorem len_T2 {e : Rep α} {f : Rep β} {x : α × β} (r : (pT2 e f).r F v x) (h : Ex F H) (ha : Val ta σ H v) : Val (tCB (rLen K) (tCons ta tNil)) σ H (.int ((2 : Nat) : Int)) := by
  obtain ⟨p, u, w, rfl, hp, a, b⟩ := r
  exact v_cb1 ha fun Q k => ⟨p, _, rfl, .inr (SqT.of (h _ _ hp)), k⟩
def kLst (Q : VK) (xs : List V) (H : Hp) : Prop := xs.length ≤ sizeLine ∧ ∀ p, H p = none → Q (.ref p) (upd H p (.lst xs))
def kTup (Q : VK) (xs : List V) (H : Hp) : Prop := xs.length ≤ sizeLine ∧ ∀ p, H p = none → Q (.ref p) (upd H p (.tup xs))
theorem small_len {n : Nat} (h : n < 1000000) : n < sizeLine := by rw [sizeLine_eq]; omega
theorem n_lstX {vs : List V} (a : All e F vs xs) (hl : xs.length < 1000000) (w : Wf F0 H0 F H) (k : ∀ p H', H p = none → Wf F H F H' → XL e H0 F H' p xs → Q (.ref p) H') :
    kLst Q vs H := ⟨by rw [a.len]; exact Nat.le_of_lt (small_len hl), fun p hp => k p _ hp (Wf.newX w.f hp) ⟨vs, Xc.mk' w hp, a⟩⟩
theorem n_tup2 {e : Rep α} {f : Rep β} {x : α} {y : β} (a : e.r F v x) (b : f.r F w y) (h : Wf F0 H0 F H) (k : ∀ p F' H', Wf F H F' H' → (pT2 e f).r F' (.ref p) (x, y) → Q (.ref p) H') :
    kTup Q [v, w] H := ⟨Nat.le_of_lt (small_len (n := 2) (by decide)), fun p hp => k p _ _ (Wf.new h.f hp) ⟨p, v, w, rfl, upd_same, e.mono (Ex.new (h.f.non hp)) a, f.mono (Ex.new (h.f.non hp)) b⟩⟩
/-- one's own list is changed no more -/
theorem XL.frzE (x : XL e H0 F H p xs) (w : Wf F0 H0 F H) : ∃ F', Wf F0 H0 F' H ∧ Ex F F' ∧ (pL e).r F' (.ref p) xs ∧ Fz F F' p := by
  obtain ⟨vs, a, b⟩ := x.x
  exact ⟨_, w.freeze a, Ex.new a.n, ⟨p, vs, rfl, upd_same, b.mono (Ex.new a.n)⟩, fun q h z => by rw [upd_ne h]; exact z⟩
/-- for a while one's own list is read by others -/
theorem XL.lend (x : XL e H0 F H p xs) (w : Wf F0 H0 F H) : ∃ F', Ex F' H ∧ Ex F F' ∧ (pL e).r F' (.ref p) xs := let ⟨F', a, b, c, _⟩ := x.frzE w; ⟨F', a.f, b, c⟩
theorem a_app (x : XL e H0 F H p xs) (w : Wf F0 H0 F H) (hl : xs.length < 1000000) (r : e.r F v y) (k : ∀ H', Wf F0 H0 F H' → XL e H0 F H' p (xs ++ [y]) → (∀ q o, H q = some o → q ≠ p → H' q = some o) → Q .non H') : rAppend (.ref p) [v] H Q := by
  obtain ⟨vs, a, b⟩ := x.x
  exact ⟨p, vs, v, rfl, rfl, a.h, by rw [b.len]; exact small_len hl, k _ (w.set a) ⟨_, a.set, b.snoc r⟩ fun q o h hq => by rw [upd_ne hq]; exact h⟩
/-- another's place is as it was -/
theorem Xc.kept {o : HO} (x : Xc H0 F H q o) (h : ∀ q o, H q = some o → q ≠ p → H' q = some o) (hq : q ≠ p) : Xc H0 F H' q o := ⟨x.z, x.n, h _ _ x.h hq⟩
theorem XL.kept (x : XL e H0 F H q xs) (h : ∀ q o, H q = some o → q ≠ p → H' q = some o) (hq : q ≠ p) : XL e H0 F H' q xs := let ⟨vs, a, b⟩ := x.x; ⟨vs, a.kept h hq, b⟩
variable {S : Type} {R : Type} {g : TG} {tb : TS} {body : β → S → (S → Prop) → (S → Prop) → Prop} {s0 : S} {k : S → Prop} {vs : List V} {zs : List β} {b : Rep β}
/-- over a list that stays -/
theorem w_forL (Inv : S → L2.St → Hp → Hp → Prop) (r : (pL b).r F v zs) (hW : forW zs s0 body k) (h0 : Inv s0 σ F H)
    (ex : ∀ s σ' F' H', Inv s σ' F' H' → Ex F F' ∧ Ex F' H') (f : Ex F H)
    (turn : ∀ (N Bk : L2.St → Hp → Prop) x u s σ' F' H' (nx bk : S → Prop), Inv s σ' F' H' → x ∈ zs → b.r F' u x → body x s nx bk → (∀ s' σ2 F2 H2, Inv s' σ2 F2 H2 → nx s' → N σ2 H2) → (∀ s' σ2 F2 H2, Inv s' σ2 F2 H2 → bk s' → Bk σ2 H2) →
      g u σ' H' fun σ2 H2 => tb { D with nx := N, ct := N, bk := Bk } σ2 H2)
    (done : ∀ s σ' F' H', Inv s σ' F' H' → k s → D.nx σ' H') :
    ∃ a, v = .ref a ∧ (∃ xs, SqL K H a xs) ∧ (fun J H1 => ∃ W : Nat → Nat → L2.St → Hp → Prop, (∃ m, W 0 m σ H1) ∧ ∀ i m σ H, W i m σ H →
      (J.stop i H ∧ D.nx σ H) ∨ (J.go i H ∧ ∃ N : L2.St → Hp → Prop, (∀ σ' H', N σ' H' → ∃ m', m' < m ∧ W (i + 1) m' σ' H') ∧ ∀ x H', J.yld i H x H' → g x σ H' fun σ2 H2 => tb { D with nx := N, ct := N, bk := D.nx } σ2 H2)) (Itl K a) H := by
  obtain ⟨p, vs, rfl, hp, a⟩ := r
  refine ⟨p, rfl, ⟨_, SqL.of (f _ _ hp)⟩, for_list (xs := vs) (fun i σ' H' => ∃ s F', Inv s σ' F' H' ∧ forW (zs.drop i) s body k) ⟨s0, F, h0, hW⟩ (fun i σ' H' _ ⟨s, F', hI, _⟩ => SqL.of ((ex _ _ _ _ hI).2 _ _ ((ex _ _ _ _ hI).1 _ _ hp))) ?_ ?_⟩
  · rintro i u σ' H' hu ⟨s, F', hI, hw⟩
    obtain ⟨x, hx, rx⟩ := a.got hu
    have e : zs.drop i = x :: zs.drop (i + 1) := by
      obtain ⟨h1, h2⟩ := List.getElem?_eq_some_iff.mp hx
      rw [← h2]; exact List.drop_eq_getElem_cons h1
    rw [e] at hw
    exact turn _ _ x u s σ' F' H' _ _ hI (List.mem_of_getElem? hx) (b.mono (ex _ _ _ _ hI).1 rx) hw (fun s' σ2 F2 H2 q n => ⟨s', F2, q, n⟩) (fun s' σ2 F2 H2 q n => done s' σ2 F2 H2 q n)
  · rintro σ' H' ⟨s, F', hI, hw⟩
    rw [List.drop_of_length_le (by rw [a.len]; exact Nat.le_refl _)] at hw
    exact done _ _ _ _ hI hw
/-- over range(n) -/
theorem w_forR {n : Nat} {body : Nat → S → (S → Prop) → (S → Prop) → Prop} (Inv : S → L2.St → Hp → Hp → Prop) (hn : n < 1000000) (hW : forW (List.range n) s0 body k) (h0 : Inv s0 σ F H)
    (turn : ∀ (N Bk : L2.St → Hp → Prop) (x : Nat) s σ' F' H' (nx bk : S → Prop), Inv s σ' F' H' → x < n → body x s nx bk → (∀ s' σ2 F2 H2, Inv s' σ2 F2 H2 → nx s' → N σ2 H2) → (∀ s' σ2 F2 H2, Inv s' σ2 F2 H2 → bk s' → Bk σ2 H2) →
      g (.int (x : Int)) σ' H' fun σ2 H2 => tb { D with nx := N, ct := N, bk := Bk } σ2 H2)
    (done : ∀ s σ' F' H', Inv s σ' F' H' → k s → D.nx σ' H') :
    ∃ j : Int, [V.int (n : Int)] = [.int j] ∧ -(2 ^ 62) ≤ j ∧ j < 2 ^ 62 ∧ (fun J H1 => ∃ W : Nat → Nat → L2.St → Hp → Prop, (∃ m, W 0 m σ H1) ∧ ∀ i m σ H, W i m σ H →
      (J.stop i H ∧ D.nx σ H) ∨ (J.go i H ∧ ∃ N : L2.St → Hp → Prop, (∀ σ' H', N σ' H' → ∃ m', m' < m ∧ W (i + 1) m' σ' H') ∧ ∀ x H', J.yld i H x H' → g x σ H' fun σ2 H2 => tb { D with nx := N, ct := N, bk := D.nx } σ2 H2)) (Itr 0 j.toNat) H := by
  refine ⟨(n : Int), rfl, by omega, by omega, for_range (lo := 0) (n := n) (fun i σ' H' => ∃ s F', Inv s σ' F' H' ∧ forW ((List.range n).drop i) s body k) ⟨s0, F, h0, hW⟩ ?_ ?_⟩
  · rintro i σ' H' hi ⟨s, F', hI, hw⟩
    have e : (List.range n).drop i = i :: (List.range n).drop (i + 1) := by
      have h1 : i < (List.range n).length := by rw [List.length_range]; exact hi
      rw [List.drop_eq_getElem_cons h1, List.getElem_range]
    rw [e] at hw
    have z : (0 : Int) + (i : Int) = (i : Int) := Int.zero_add _
    rw [z]
    exact turn _ _ i s σ' F' H' _ _ hI hi hw (fun s' σ2 F2 H2 q n => ⟨s', F2, q, n⟩) (fun s' σ2 F2 H2 q n => done s' σ2 F2 H2 q n)
  · rintro σ' H' ⟨s, F', hI, hw⟩
    rw [List.drop_of_length_le (by rw [List.length_range]; exact Nat.le_refl _)] at hw
    exact done _ _ _ _ hI hw
/-- while -/
theorem w_while {test : S → (Bool → Prop) → Prop} {body : S → (S → Prop) → (S → Prop) → Prop} (Inv : S → L2.St → Hp → Hp → Prop) (hW : whileW test body s0 k) (h0 : Inv s0 σ F H)
    (cond : ∀ s σ' F' H' (T : Bool → Prop) (Qc : Bool → Hp → Prop), Inv s σ' F' H' → test s T → (∀ b F2 H2, Inv s σ' F2 H2 → T b → Qc b H2) → tt σ' H' Qc)
    (turn : ∀ (N Bk : L2.St → Hp → Prop) s σ' F' H' (nx bk : S → Prop), Inv s σ' F' H' → body s nx bk → (∀ s' σ2 F2 H2, Inv s' σ2 F2 H2 → nx s' → N σ2 H2) → (∀ s' σ2 F2 H2, Inv s' σ2 F2 H2 → bk s' → Bk σ2 H2) →
      tb { D with nx := N, ct := N, bk := Bk } σ' H')
    (done : ∀ s σ' F' H', Inv s σ' F' H' → k s → D.nx σ' H') : tWhile tt tb D σ H := by
  obtain ⟨I, ⟨m0, hm⟩, hs⟩ := hW
  refine ⟨fun m σ' H' => ∃ s F', Inv s σ' F' H' ∧ I m s, ⟨m0, s0, F, h0, hm⟩, ?_⟩
  rintro m σ' H' ⟨s, F', hI, im⟩
  refine cond s σ' F' H' _ _ hI (hs m s im) fun b F2 H2 hI2 hb => ?_
  cases b with
  | true =>
    rw [if_pos rfl] at hb ⊢
    exact ⟨_, fun _ _ q => q, turn (fun σ2 H2 => ∃ m', m' < m ∧ ∃ s' F', Inv s' σ2 F' H2 ∧ I m' s') _ s σ' F2 H2 _ _ hI2 hb (fun s' σ2 F3 H3 q ⟨m', l, i⟩ => ⟨m', l, s', F3, q, i⟩) (fun s' σ2 F3 H3 q n => done s' σ2 F3 H3 q n)⟩
  | false =>
    rw [if_neg (by simp)] at hb ⊢
    exact done s σ' F2 H2 hI2 hb
/-- ways that meet again -/
def jn {S : Type} (f : (S → Prop) → Prop) (k : S → Prop) : Prop := f k
theorem q_jn {f : (S → Prop) → Prop} {t u : TS} (hW : jn f k) (Inv : S → L2.St → Hp → Hp → Prop)
    (h1 : ∀ N : L2.St → Hp → Prop, (∀ s σ' F' H', Inv s σ' F' H' → k s → N σ' H') → f k → t { D with nx := N } σ H) (h2 : ∀ s σ' F' H', Inv s σ' F' H' → k s → u D σ' H') : tSeq t u D σ H :=
  h1 (u D) (fun s σ' F' H' q n => h2 s σ' F' H' q n) hW
/-- what a comprehension asks of its source's value -/
def kCpL (K : PySem.W.Frag) (g : TG) (tc : TT) (te : TE) (vs : List Nat) (σ : L2.St) (Q : VK) (v : V) (H : Hp) : Prop := ∃ a, v = .ref a ∧ (∃ xs, SqL K H a xs) ∧ (fun J H1 => ∀ D, H1 D = none → ∃ W : Nat → Nat → Hp → Prop, (∃ m, W 0 m (upd H1 D (.lst []))) ∧ ∀ i m H, W i m H →
      (J.stop i H ∧ Q (.ref D) H) ∨ (J.go i H ∧ ∃ Nx : Hp → Prop, (∀ H', Nx H' → ∃ m', m' < m ∧ W (i + 1) m' H') ∧ ∀ x H', J.yld i H x H' → g x (wipe σ vs) H' fun σ2 H2 => wipe σ2 vs = wipe σ vs ∧ tc σ2 H2 fun b H3 =>
        if b = true then te σ2 H3 fun y H4 => ∃ acc, H4 D = some (.lst acc) ∧ acc.length < sizeLine ∧ Nx (upd H4 D (.lst (acc ++ [y]))) else Nx H3)) (Itl K a) H
theorem w_compC {ws : List V} {tc : TT} {vs : List Nat} {bd : β → (Option α → Prop) → Prop} {kk : List α → Prop} (hp : H p = some (.lst ws)) (a : All b F ws zs) (w : Wf F0 H0 F H) (hn : zs.length < 1000000) (hW : compW zs bd kk)
    (turn : ∀ (Qy : V → Hp → Prop) (Qn : Hp → Prop) x u F1 H1 (R : Option α → Prop), Wf F H F1 H1 → x ∈ zs → b.r F1 u x → bd x R → (∀ y z F2 H2, Wf F1 H1 F2 H2 → e.r F2 y z → R (some z) → Qy y H2) → (∀ F2 H2, Wf F1 H1 F2 H2 → R none → Qn H2) →
      g u (wipe σ vs) H1 fun σ2 H2 => wipe σ2 vs = wipe σ vs ∧ tc σ2 H2 fun b H3 => if b = true then te σ2 H3 Qy else Qn H3)
    (done : ∀ p ys F' H', H p = none → Wf F H F' H' → XL e H0 F' H' p ys → kk ys → Q (.ref p) H') :
    kCpL K g tc te vs σ Q (V.ref p) H := by
  unfold kCpL
  refine ⟨p, rfl, ⟨_, SqL.of hp⟩, fun D hD => lc_list (xs := ws) (fun i H' => ∃ F' ac ys, Wf F H F' H' ∧ Xc H F' H' D (.lst ac) ∧ All e F' ac ys ∧ ys.length ≤ i ∧ compG (zs.drop i) ys bd kk)
    ⟨F, [], [], Wf.newX w.f hD, Xc.mk' (Wf.id w.f) hD, trivial, Nat.le_refl _, hW⟩ (fun i H' _ ⟨F', ac, ys, q, _⟩ => SqL.of (q.h _ _ hp)) ?_ ?_⟩
  · rintro i u H' hu ⟨F', ac, ys, q, xc, al, hl, hw⟩
    obtain ⟨x, hx, rx⟩ := a.got hu
    obtain ⟨h1, h2⟩ := List.getElem?_eq_some_iff.mp hx
    have e' : zs.drop i = x :: zs.drop (i + 1) := by rw [← h2]; exact List.drop_eq_getElem_cons h1
    rw [e'] at hw
    refine turn _ _ x u F' H' _ q (List.mem_of_getElem? hx) (b.mono q.g rx) hw (fun y z F2 H2 s ry hR => ?_) (fun F2 H2 s hR => ?_)
    · have xc2 := xc.step s
      exact ⟨ac, xc2.h, by rw [al.len]; exact small_len (by omega), F2, ac ++ [y], ys ++ [z], (q.tr s).set xc2, xc2.set, (al.mono s.g).snoc ry, by rw [List.length_append]; exact Nat.succ_le_succ hl, hR⟩
    · exact ⟨F2, ac, ys, q.tr s, xc.step s, al.mono s.g, Nat.le_succ_of_le hl, by simpa using hR⟩
  · rintro H' ⟨F', ac, ys, q, xc, al, hl, hw⟩
    rw [List.drop_of_length_le (by rw [a.len]; exact Nat.le_refl _)] at hw
    exact done D ys F' H' hD q ⟨ac, ⟨w.h.non hD, xc.n, xc.h⟩, al⟩ hw
theorem w_compL {tc : TT} {vs : List Nat} {bd : β → (Option α → Prop) → Prop} {kk : List α → Prop} (r : (pL b).r F v zs) (w : Wf F0 H0 F H) (hn : zs.length < 1000000) (hW : compW zs bd kk)
    (turn : ∀ (Qy : V → Hp → Prop) (Qn : Hp → Prop) x u F1 H1 (R : Option α → Prop), Wf F H F1 H1 → x ∈ zs → b.r F1 u x → bd x R → (∀ y z F2 H2, Wf F1 H1 F2 H2 → e.r F2 y z → R (some z) → Qy y H2) → (∀ F2 H2, Wf F1 H1 F2 H2 → R none → Qn H2) →
      g u (wipe σ vs) H1 fun σ2 H2 => wipe σ2 vs = wipe σ vs ∧ tc σ2 H2 fun b H3 => if b = true then te σ2 H3 Qy else Qn H3)
    (done : ∀ p ys F' H', H p = none → Wf F H F' H' → XL e H0 F' H' p ys → kk ys → Q (.ref p) H') :
    kCpL K g tc te vs σ Q v H := by
  obtain ⟨p, ws, rfl, hp, a⟩ := r
  exact w_compC (w.f _ _ hp) a w hn hW turn done
end
end Wk
namespace Wk
open PySem L2
section
variable {X : Cx} {σ : L2.St} {H : Hp} {te tl ta tb : TE} {tt tc : TT} {tA : TA} {Q : VK} {v w x y z : V} {D : Ends} {tu : TS} {g : TG} {K : PySem.W.Frag} {p q : Prop}
theorem f_LE (h : tl σ H fun v H => ∃ a, v = .ref a ∧ (∃ xs, SqL K H a xs) ∧ (fun J H1 => ∃ W : Nat → Nat → L2.St → Hp → Prop, (∃ m, W 0 m σ H1) ∧ ∀ i m σ H, W i m σ H →
      (J.stop i H ∧ D.nx σ H) ∨ (J.go i H ∧ ∃ N : L2.St → Hp → Prop, (∀ σ' H', N σ' H' → ∃ m', m' < m ∧ W (i + 1) m' σ' H') ∧ ∀ x H', J.yld i H x H' → g x σ H' fun σ2 H2 => tu { D with nx := N, ct := N, bk := D.nx } σ2 H2)) (Itl K a) H) : tFor (iList K tl) g tu D σ H := h
theorem f_RE (h : te σ H fun v H => ∃ j : Int, [v] = [.int j] ∧ -(2 ^ 62) ≤ j ∧ j < 2 ^ 62 ∧ (fun J H1 => ∃ W : Nat → Nat → L2.St → Hp → Prop, (∃ m, W 0 m σ H1) ∧ ∀ i m σ H, W i m σ H →
      (J.stop i H ∧ D.nx σ H) ∨ (J.go i H ∧ ∃ N : L2.St → Hp → Prop, (∀ σ' H', N σ' H' → ∃ m', m' < m ∧ W (i + 1) m' σ' H') ∧ ∀ x H', J.yld i H x H' → g x σ H' fun σ2 H2 => tu { D with nx := N, ct := N, bk := D.nx } σ2 H2)) (Itr 0 j.toNat) H) : tFor (iRng1 (tCons te tNil)) g tu D σ H := h
theorem c_LE {vs : List Nat} (h : tl σ H (kCpL K g tc te vs σ Q)) : tLc (iList K tl) g tc te vs σ H Q := h
theorem c_yes {A B : Hp → Prop} (h : A H) : tYes σ H fun b H3 => if b = true then A H3 else B H3 := by show if true = true then A H else B H; rw [if_pos rfl]; exact h
theorem b_if {p : Prop} [Decidable p] {A B : Prop} (h1 : p → A) (h2 : ¬ p → B) : if decide p = true then A else B := by
  by_cases hp : p
  · rw [decide_eq_true hp, if_pos rfl]; exact h1 hp
  · rw [decide_eq_false hp, if_neg (by simp)]; exact h2 hp
theorem bb_if {b : Bool} {A B : Prop} (h1 : b = true → A) (h2 : ¬ b = true → B) : if b = true then A else B := by
  by_cases hp : b = true
  · rw [if_pos hp]; exact h1 hp
  · rw [if_neg hp]; exact h2 hp
theorem e_op {r : R2} (h : ta σ H fun x H1 => tb σ H1 fun y H2 => r x y H2 Q) : tOp r ta tb σ H Q := h
theorem rv2 {r : R2} (h : Val (tOp r (tC x) (tC y)) [] H z) (q : Q z H) : r x y H Q := h Q q
theorem rv2T {r : R2} {b : Bool} {Qt : Bool → Hp → Prop} (h : Val (tOp r (tC x) (tC y)) [] H (.bl b)) (q : Qt b H) : r x y H (fun x H' => ∃ k, x = .bl k ∧ Qt k H') := h _ ⟨b, rfl, q⟩
theorem rcb1 {r : List V → Hp → VK → Prop} (h : Val (tCB r (tCons (tC x) tNil)) [] H z) (q : Q z H) : r [x] H Q := h Q q
theorem e_cb {r : List V → Hp → VK → Prop} (h : tA σ H fun vs H1 => r vs H1 Q) : tCB r tA σ H Q := h
theorem e_tB {Qt : Bool → Hp → Prop} (h : te σ H fun x H1 => ∃ c, x = .bl c ∧ Qt c H1) : tB te σ H Qt := h
theorem e_tT {Qt : Bool → Hp → Prop} (h : te σ H fun x H1 => ∃ c, x = .bl c ∧ Qt c H1) : tTest te σ H Qt := h
theorem e_tNot {Qt : Bool → Hp → Prop} (h : tt σ H fun c H1 => Qt (!c) H1) : tNot tt σ H Qt := h
theorem e_ans {Qt : Bool → Hp → Prop} {b : Bool} (h : Ans tt σ H b) (q : Qt b H) : tt σ H Qt := h Qt q
theorem e_tup (h : tA σ H (kTup Q)) : tTup tA σ H Q := h
theorem e_lst (h : tA σ H (kLst Q)) : tLst tA σ H Q := h
theorem a_asgG (h : te σ H fun v H1 => g v σ H1 D.nx) : tAsg te g D σ H := h
theorem a_augE {i : Nat} {ti : TIp} (hx : σ[i]? = some (some x)) (h : te σ H fun y H1 => ti x y H1 fun z H2 => D.nx (σ.set i (some z)) H2) : tAug i te ti D σ H := ⟨x, hx, h⟩
theorem a_augV {i : Nat} {ti : TIp} (hx : σ[i]? = some (some x)) (h : Val te σ H y) (hv : Val (tOp ti (tC x) (tC y)) [] H z) (q : D.nx (σ.set i (some z)) H) : tAug i te ti D σ H := ⟨x, hx, h _ (hv _ q)⟩
theorem XL.base {α : Type} {e : Rep α} {F0 H0 F F' H' : Hp} {p : Addr} {xs : List α} (x : XL e H F' H' p xs) (w : Wf F0 H0 F H) : XL e H0 F' H' p xs := let ⟨vs, a, b⟩ := x.x; ⟨vs, ⟨w.h.non a.z, a.n, a.h⟩, b⟩
end
/-- a def that may be called -/
structure Fn (P : Program) (w : World) (K : PySem.W.Frag) (mg : Str → Option Value) (base : Heap) (CX : CXT) (k : Nat) (x : Str) (ps : List Str) (sp : Sp) : Prop where
  ex : ∃ f fd, FnOk P w K mg base CX k f fd ps sp ∧ mg x = some (.ref f) ∧ PySem.W.keepIn K (.ref f) = true ∧ Binds K fd ps []
theorem pe_fn {X : Cx} {k : Nat} {x : Str} {ps : List Str} {sp : Sp} {e : Expr} {es : List Expr} {p pos : Pos} {t : TA} (C : Fn X.prog X.w X.K X.mg X.base CX0 k x ps sp) (hr : Room k X.A) (hg : Gl X x) (ha : PA X (e :: es) t) (hdb : (x == ("__debug__" : Str)) = false := by decide)
    (he : starEach (e :: es) X.env = (false, eval e X.env) :: starEach es X.env := by rfl) (hpl : (backTo pos (starEach es X.env)).any (·.1) = false := by rfl) : PE X (.Call (.Name x p) (e :: es) [] pos) (tCall sp [] E0 t) := by
  obtain ⟨f, fd, F, hm, hk, hb⟩ := C.ex
  exact pe_call F hr hg hm hk hb .nil pass0 ha hdb he hpl
end Wk
namespace Wk
open PySem L2
theorem dec_and {p q : Prop} [Decidable p] [Decidable q] : (decide p && decide q) = decide (p ∧ q) := by
  by_cases hp : p
  · by_cases hq : q
    · rw [decide_eq_true hp, decide_eq_true hq, decide_eq_true (And.intro hp hq)]; rfl
    · rw [decide_eq_false hq, decide_eq_false (fun z : p ∧ q => hq z.2), Bool.and_false]
  · rw [decide_eq_false hp, decide_eq_false (fun z : p ∧ q => hp z.1), Bool.false_and]
theorem dec_tt {b : Bool} : b = decide (b = true) := by cases b <;> rfl
theorem dec_T : true = decide True := rfl
theorem dec_F : false = decide False := rfl
section
variable {α β : Type} {e : Rep α} {f : Rep β} {K : PySem.W.Frag} {σ : L2.St} {F0 H0 F F' H H' : Hp} {te ta tb : TE} {Q : VK} {v w u : V} {xs : List α} {p : Addr} {i : Int} {n : Nat} {x : V}
/-- bit_length -/
def bits (n : Nat) : Nat := if n = 0 then 0 else n.log2 + 1
theorem bits_int (n : Nat) : Builtin.Int.intBits (n : Int) = bits n := by
  unfold Builtin.Int.intBits bits
  by_cases h : n = 0
  · subst h; rfl
  · rw [if_neg (show ¬ (((n : Nat) : Int) == 0) = true by simpa using h), if_neg h]; rfl
theorem vn_bitl (ha : Val ta σ H (.int (n : Int))) : Val (tBits ta) σ H (.int ((bits n : Nat) : Int)) := fun _ k => ha _ ⟨_, rfl, by rw [bits_int]; exact k⟩
theorem v_isi {b : Bool} {cn tn : String} (ha : Val ta σ H x) (ty : TyX K H x (.type tn)) (h : kitB tn cn = some b) : Val (tCB (rIsi K) (tCons ta (tCons (tC (.ty cn)) tNil))) σ H (.bl b) := fun Q k => ha _ ⟨x, .ty cn, _, _, b, rfl, .ty cn, ty, kit_ty h, k⟩
theorem ty_L (r : (pL e).r F v xs) (f : Ex F H) : TyX K H v (.type "list") := by obtain ⟨p, vs, rfl, hp, _⟩ := r; exact .base (.lst (f _ _ hp))
theorem ty_T2 {z : α × β} (r : (pT2 e f).r F v z) (h : Ex F H) : TyX K H v (.type "tuple") := by obtain ⟨p, _, _, rfl, hp, _⟩ := r; exact .base (.tup (h _ _ hp))
def rInt1 : List V → Hp → VK → Prop := fun xs H Q => (∃ i, xs = [.int i] ∧ Q (.int i) H) ∨ ∃ k, xs = [.bl k] ∧ Q (.int (if k then 1 else 0)) H
theorem v_intB {b : Bool} (ha : Val ta σ H (.bl b)) : Val (tCB rInt1 (tCons ta tNil)) σ H (.int ((b.toNat : Nat) : Int)) := fun _ k => ha _ (.inr ⟨b, rfl, by cases b <;> exact k⟩)
end
end Wk
namespace Wk
open PySem L2
abbrev kAdd : R2 := L2.rI0 fun i j => .int (i + j)
abbrev kSub : R2 := L2.rI0 fun i j => .int (i - j)
abbrev kMul : R2 := L2.rI CMul fun i j => .int (i * j)
abbrev kDiv : R2 := L2.rI CDivW fun i j => .int (i / j)
abbrev kMod : R2 := L2.rI (fun _ j => 0 < j) fun i j => .int (i % j)
abbrev kShl : R2 := L2.rI CShl fun i j => .int (i * 2 ^ j.toNat)
abbrev kShr : R2 := L2.rI (fun _ j => 0 ≤ j) fun i j => .int (i / 2 ^ j.toNat)
abbrev kAnd : R2 := L2.rI0 fun i j => .int (Builtin.bitAnd i j)
abbrev kXor : R2 := L2.rI0 fun i j => .int (Builtin.bitXor i j)
abbrev kLt : R2 := L2.rI0 fun i j => .bl (decide (i < j))
abbrev kLe : R2 := L2.rI0 fun i j => .bl (decide (i ≤ j))
abbrev kGt : R2 := L2.rI0 fun i j => .bl (decide (j < i))
abbrev kGe : R2 := L2.rI0 fun i j => .bl (decide (j ≤ i))
abbrev kNeg : V → Hp → VK → Prop := L2.rU fun i => .int (-i)
def rListOf (K : PySem.W.Frag) : List V → Hp → VK → Prop := fun xs H Q => ∃ p ys, xs = [.ref p] ∧ (SqL K H p ys ∨ SqT K H p ys) ∧ ∀ l, H l = none → Q (.ref l) (upd H l (.lst ys))
section
variable {α β : Type} {e : Rep α} {f : Rep β} {K : PySem.W.Frag} {σ : L2.St} {F0 H0 F F' H H' : Hp} {te ta tb : TE} {Q : VK} {v w u : V} {xs ys : List α} {p q : Addr} {i : Int} {n a b : Nat} {x : V} {tl th : TO}
theorem XL.frzO (x : XL e H0 F H q xs) (h : Fz F F' p) (hq : q ≠ p) (g : Ex F F') : XL e H0 F' H q xs := let ⟨vs, a, b⟩ := x.x; ⟨vs, ⟨a.z, h _ hq a.n, a.h⟩, b.mono g⟩
/-- list(xs): a new one -/
theorem n_listX (r : (pL e).r F v xs) (w : Wf F0 H0 F H) (k : ∀ p H', H p = none → Wf F H F H' → XL e H0 F H' p xs → Q (.ref p) H') : rListOf K [v] H Q := by
  obtain ⟨p, vs, rfl, hp, a⟩ := r
  exact ⟨p, vs, rfl, .inl (SqL.of (w.f _ _ hp)), fun l hl => k l _ hl (Wf.newX w.f hl) ⟨vs, Xc.mk' w hl, a⟩⟩
theorem n_listXT (r : (pTL e).r F v xs) (w : Wf F0 H0 F H) (k : ∀ p H', H p = none → Wf F H F H' → XL e H0 F H' p xs → Q (.ref p) H') : rListOf K [v] H Q := by
  obtain ⟨p, vs, rfl, hp, a⟩ := r
  exact ⟨p, vs, rfl, .inr (SqT.of (w.f _ _ hp)), fun l hl => k l _ hl (Wf.newX w.f hl) ⟨vs, Xc.mk' w hl, a⟩⟩
theorem All.rep (a : All e F vs' xs) : ∀ n, All e F (List.replicate n vs').flatten (List.replicate n xs).flatten
  | 0 => trivial
  | n + 1 => by rw [List.replicate_succ, List.replicate_succ, List.flatten_cons, List.flatten_cons]; exact a.app (All.rep a n)
/-- xs * n -/
theorem n_rep (r : (pL e).r F v xs) (w : Wf F0 H0 F H) (hl : xs.length * n < 1000000) (hn : n < 1000000) (k : ∀ p H', H p = none → Wf F H F H' → XL e H0 F H' p (List.replicate n xs).flatten → Q (.ref p) H') : rRep v (.int (n : Int)) H Q := by
  obtain ⟨p, vs, rfl, hp, a⟩ := r
  exact ⟨p, _, vs, rfl, rfl, w.f _ _ hp, by omega, by omega, by rw [a.len]; exact Nat.le_of_lt (small_len hl), fun l hl => k l _ hl (Wf.newX w.f hl) ⟨_, Xc.mk' w hl, All.rep a n⟩⟩
def cutT (xs : List α) (lo hi : Option Nat) : List α := match lo, hi with
  | none, none => xs
  | none, some b => xs.take b
  | some a, none => xs.drop a
  | some a, some b => (xs.drop a).take (b - a)
theorem cutV_T {ws : List V} (lo hi : Option Nat) : cutV ws (lo.map Int.ofNat) (hi.map Int.ofNat) = cutT ws lo hi := by
  have tk : ∀ (n : Nat) (l : List V), l.take (min n l.length) = l.take n := fun n l => by
    by_cases h : n ≤ l.length
    · rw [Nat.min_eq_left h]
    · rw [Nat.min_eq_right (by omega), List.take_of_length_le (Nat.le_refl _), List.take_of_length_le (by omega)]
  unfold cutV cutT
  cases lo with
  | none =>
    cases hi with
    | none => simp only [Option.map_none, HT.sIx_none, List.drop_zero, Nat.sub_zero, List.take_length]
    | some b =>
      simp only [Option.map_none, Option.map_some, HT.sIx_none, List.drop_zero, Nat.sub_zero]
      rw [show HT.sIx ws.length ws.length (some (Int.ofNat b)) = min b ws.length from HT.sIx_nat _ _ _]
      exact tk b ws
  | some a =>
    have dr : ws.drop (min a ws.length) = ws.drop a := by
      by_cases h : a ≤ ws.length
      · rw [Nat.min_eq_left h]
      · rw [Nat.min_eq_right (by omega), List.drop_of_length_le (Nat.le_refl _), List.drop_of_length_le (by omega)]
    cases hi with
    | none =>
      simp only [Option.map_none, Option.map_some, HT.sIx_none]
      rw [show HT.sIx ws.length 0 (some (Int.ofNat a)) = min a ws.length from HT.sIx_nat _ _ _, dr]
      exact List.take_of_length_le (by rw [List.length_drop]; omega)
    | some b =>
      simp only [Option.map_some]
      rw [show HT.sIx ws.length 0 (some (Int.ofNat a)) = min a ws.length from HT.sIx_nat _ _ _, show HT.sIx ws.length ws.length (some (Int.ofNat b)) = min b ws.length from HT.sIx_nat _ _ _, dr]
      by_cases h : b ≤ ws.length
      · rw [Nat.min_eq_left h]
        by_cases h' : a ≤ ws.length
        · rw [Nat.min_eq_left h']
        · rw [List.drop_of_length_le (by omega), List.take_nil, List.take_nil]
      · rw [Nat.min_eq_right (by omega)]
        rw [List.take_of_length_le (by rw [List.length_drop]; omega), List.take_of_length_le (by rw [List.length_drop]; omega)]
theorem All.cut {ws : List V} (a : All e F ws xs) (lo hi : Option Nat) : All e F (cutT ws lo hi) (cutT xs lo hi) := by
  cases lo <;> cases hi
  · exact a
  · exact a.take _
  · exact a.drop _
  · exact (a.drop _).take _
/-- the two ends of a slice -/
def Part (tl : TO) (σ : L2.St) (H : Hp) (o : Option Nat) : Prop := ∀ Q : Option Int → Hp → Prop, Q (o.map Int.ofNat) H → tl σ H Q
theorem po_n : Part tNoPart σ H none := fun _ k => k
theorem po_s (h : Val te σ H (.int (n : Int))) : Part (tPart te) σ H (some n) := fun _ k => h _ ⟨_, rfl, k⟩
theorem n_cutX {lo hi : Option Nat} (r : (pL e).r F v xs) (hv : Val te σ H v) (h1 : Part tl σ H lo) (h2 : Part th σ H hi) (w : Wf F0 H0 F H) (k : ∀ p H', H p = none → Wf F H F H' → XL e H0 F H' p (cutT xs lo hi) → Q (.ref p) H') : tSl (rSlL K) te tl th σ H Q := by
  obtain ⟨p, vs, rfl, hp, a⟩ := r
  exact hv _ (h1 _ (h2 _ ⟨p, vs, rfl, SqL.of (w.f _ _ hp), fun l hl => by
    rw [cutV_T]
    exact k l _ hl (Wf.newX w.f hl) ⟨_, Xc.mk' w hl, a.cut lo hi⟩⟩))
end
end Wk
namespace Wk
open PySem L2
section
variable {α β γ : Type} {e : Rep α} {f : Rep β} {g : Rep γ} {K : PySem.W.Frag} {σ : L2.St} {F0 H0 F F' H H' : Hp} {te ta tb to : TE} {tt : TT} {tA : TA} {Q : VK} {v w u : V} {xs ys : List α} {p q : Addr} {i : Nat} {D : Ends} {pr : Prop} {ti : TIp} {x y : V}
theorem if_t {A B : Prop} (h : A) : if true = true then A else B := by rw [if_pos rfl]; exact h
theorem if_f {A B : Prop} (h : B) : if false = true then A else B := by rw [if_neg (by simp)]; exact h
theorem bb_ifn {b : Bool} {A B : Prop} (h1 : b = true → B) (h2 : ¬ b = true → A) : if (!b) = true then A else B := by
  cases b with
  | true => rw [if_neg (by simp)]; exact h1 rfl
  | false => rw [if_pos (by rfl)]; exact h2 (by simp)
theorem nx_set {P : L2.St → Hp → Prop} {σ : L2.St} {i : Nat} {H : Hp} (h : v = w) (q : P (σ.set i (some v)) H) : P (σ.set i (some w)) H := h ▸ q
theorem g_name {R : L2.St → Hp → Prop} (h : R (σ.set i (some v)) H) : gName i v σ H R := h
theorem set_same {σ : L2.St} {i : Nat} {v : V} (h : σ[i]? = some (some v)) : σ.set i (some v) = σ := by
  refine List.ext_getElem? fun j => ?_
  rw [List.getElem?_set]
  split
  · rename_i h1
    subst h1
    split
    · exact h.symm
    · rename_i h2
      rw [List.getElem?_eq_none (by omega)] at h; cases h
  · rfl
theorem a_ifAsg [Decidable pr] (h : Ans tt σ H (decide pr)) (h1 : pr → Val te σ H v) (h2 : ¬ pr → σ[i]? = some (some v)) (q : D.nx (σ.set i (some v)) H) : tIfS tt (tAsg te (gName i)) tNext D σ H := h _ (b_if (fun hp => h1 hp _ q) fun hp => by
  have e := set_same (h2 hp)
  rw [e] at q
  exact q)
theorem n_tup3 {x : α} {y : β} {z : γ} (a : e.r F v x) (b : f.r F w y) (c : g.r F u z) (h : Wf F0 H0 F H) (k : ∀ p F' H', Wf F H F' H' → (pT3 e f g).r F' (.ref p) (x, y, z) → Q (.ref p) H') :
    kTup Q [v, w, u] H := ⟨Nat.le_of_lt (small_len (n := 3) (by decide)), fun p hp => k p _ _ (Wf.new h.f hp) ⟨p, v, w, u, rfl, upd_same, e.mono (Ex.new (h.f.non hp)) a, f.mono (Ex.new (h.f.non hp)) b, g.mono (Ex.new (h.f.non hp)) c⟩⟩
theorem m_list {r : V → List V → Hp → VK → Prop} (z : XL e H0 F H p xs) (ho : Val to σ H (.ref p)) (k : tA σ H fun vs H2 => r (.ref p) vs H2 Q) : tBM K "list" r to tA σ H Q := ho _ ⟨let ⟨_, a, _⟩ := z.x; Or.inl ⟨rfl, _, Or.inl (Or.inl a.h)⟩, k⟩
end
end Wk
namespace Wk
open PySem L2
class KeyT (κ : Type) where
  k : κ → Key
  inj : ∀ {a b : κ}, k a = k b → a = b
instance : KeyT Nat := ⟨fun n => .inl (n : Int), fun h => by have := Sum.inl.inj h; omega⟩
instance : KeyT Int := ⟨fun n => .inl n, fun h => Sum.inl.inj h⟩
instance : KeyT Str := ⟨fun n => .inr n, fun h => Sum.inr.inj h⟩
section
variable {κ α : Type} [DecidableEq κ] [KeyT κ]
def valT (m : List (κ × α)) (j : κ) : Option α := (m.find? fun q => decide (q.1 = j)).map (·.2)
def hasT (m : List (κ × α)) (j : κ) : Bool := (valT m j).isSome
def putT (m : List (κ × α)) (j : κ) (x : α) : List (κ × α) := if hasT m j = true then m.map (fun q => if q.1 = j then (q.1, x) else q) else m ++ [(j, x)]
def DA (e : Rep α) (F : Hp) : List (Key × V) → List (κ × α) → Prop
  | [], [] => True
  | p :: r, q :: s => p.1 = KeyT.k q.1 ∧ e.r F p.2 q.2 ∧ DA e F r s
  | _, _ => False
variable {e : Rep α} {F F' : Hp}
omit [DecidableEq κ] in
theorem DA.mono (h : Ex F F') : ∀ {kvs : List (Key × V)} {m : List (κ × α)}, DA e F kvs m → DA e F' kvs m
  | [], [], _ => trivial
  | _ :: _, _ :: _, ⟨a, b, c⟩ => ⟨a, e.mono h b, DA.mono h c⟩
  | [], _ :: _, q => q.elim
  | _ :: _, [], q => q.elim
theorem DA.len : ∀ {kvs : List (Key × V)} {m : List (κ × α)}, DA e F kvs m → kvs.length = m.length
  | [], [], _ => rfl
  | _ :: _, _ :: _, ⟨_, _, c⟩ => by rw [List.length_cons, List.length_cons, DA.len c]
  | [], _ :: _, q => q.elim
  | _ :: _, [], q => q.elim
theorem valT_cons {q : κ × α} {m : List (κ × α)} {j : κ} : valT (q :: m) j = if q.1 = j then some q.2 else valT m j := by
  unfold valT
  rw [List.find?_cons]
  by_cases h : q.1 = j
  · rw [if_pos h, decide_eq_true h]; rfl
  · rw [if_neg h, decide_eq_false h]
theorem DA.get : ∀ {kvs : List (Key × V)} {m : List (κ × α)} (j : κ), DA e F kvs m → (∀ x, valT m j = some x → ∃ v, valV kvs (KeyT.k j) = some v ∧ e.r F v x) ∧ (valT m j = none → valV kvs (KeyT.k j) = none)
  | [], [], _, _ => ⟨fun x h => (by cases h), fun _ => rfl⟩
  | p :: r, q :: s, j, ⟨a, b, c⟩ => by
    obtain ⟨ih1, ih2⟩ := DA.get j c
    rw [valT_cons]
    by_cases h : q.1 = j
    · rw [if_pos h]
      have e1 : p.1 = KeyT.k j := by rw [a, h]
      exact ⟨fun x hx => ⟨p.2, valV_pos e1, by cases hx; exact b⟩, fun z => by cases z⟩
    · rw [if_neg h]
      have e1 : ¬ p.1 = KeyT.k j := fun z => h (KeyT.inj (a.symm.trans z))
      rw [valV_neg e1]
      exact ⟨ih1, ih2⟩
  | [], _ :: _, _, q => q.elim
  | _ :: _, [], _, q => q.elim
theorem DA.has {kvs : List (Key × V)} {m : List (κ × α)} (j : κ) (d : DA e F kvs m) : (valV kvs (KeyT.k j)).isSome = hasT m j := by
  obtain ⟨h1, h2⟩ := d.get j
  unfold hasT
  cases q : valT m j with
  | none => rw [h2 q]; rfl
  | some x => obtain ⟨v, h, _⟩ := h1 x q; rw [h]; rfl
theorem DA.app : ∀ {kvs : List (Key × V)} {m : List (κ × α)} {kvs' : List (Key × V)} {m' : List (κ × α)}, DA e F kvs m → DA e F kvs' m' → DA e F (kvs ++ kvs') (m ++ m')
  | [], [], _, _, _, h => h
  | _ :: _, _ :: _, _, _, ⟨a, b, c⟩, h => ⟨a, b, DA.app c h⟩
  | [], _ :: _, _, _, q, _ => q.elim
  | _ :: _, [], _, _, q, _ => q.elim
theorem DA.upd {v : V} {x : α} {j : κ} (r : e.r F v x) : ∀ {kvs : List (Key × V)} {m : List (κ × α)}, DA e F kvs m → DA e F (kvs.map fun kv => if kv.1 = KeyT.k j then (kv.1, v) else kv) (m.map fun q => if q.1 = j then (q.1, x) else q)
  | [], [], _ => trivial
  | p :: _, q :: _, ⟨a, b, c⟩ => by
    rw [List.map_cons, List.map_cons]
    refine ⟨?_, ?_, DA.upd r c⟩
    · by_cases h : q.1 = j
      · rw [if_pos h, if_pos (by rw [a, h])]; exact a
      · rw [if_neg h, if_neg (fun z => h (KeyT.inj (a.symm.trans z)))]; exact a
    · by_cases h : q.1 = j
      · rw [if_pos h, if_pos (by rw [a, h])]; exact r
      · rw [if_neg h, if_neg (fun z => h (KeyT.inj (a.symm.trans z)))]; exact b
  | [], _ :: _, q => q.elim
  | _ :: _, [], q => q.elim
theorem DA.put {v : V} {x : α} {j : κ} {kvs : List (Key × V)} {m : List (κ × α)} (d : DA e F kvs m) (r : e.r F v x) : DA e F (putK kvs (KeyT.k j) v) (putT m j x) := by
  unfold putK putT
  rw [valV_any, d.has j]
  by_cases h : hasT m j = true
  · rw [if_pos h, if_pos h]; exact d.upd r
  · rw [if_neg h, if_neg h]; exact d.app ⟨rfl, r, trivial⟩
end
def pD {κ α : Type} [KeyT κ] (e : Rep α) : Rep (List (κ × α)) := ⟨fun F v m => ∃ p kvs, v = .ref p ∧ F p = some (.dK kvs) ∧ DA e F kvs m, fun h ⟨p, kvs, a, b, c⟩ => ⟨p, kvs, a, h _ _ b, c.mono h⟩⟩
structure XD {κ α : Type} [KeyT κ] (e : Rep α) (H0 F H : Hp) (p : Addr) (m : List (κ × α)) : Prop where
  x : ∃ kvs, Xc H0 F H p (.dK kvs) ∧ DA e F kvs m
section
variable {κ α : Type} [DecidableEq κ] [KeyT κ] {e : Rep α} {K : PySem.W.Frag} {σ : L2.St} {F0 H0 F F' H H' : Hp} {te td ty tx tv : TE} {Q : VK} {v w y z : V} {m : List (κ × α)} {p q : Addr} {j : κ} {x : α} {D : Ends}
theorem XD.step (x : XD e H0 F H p m) (w : Wf F H F' H') : XD e H0 F' H' p m := let ⟨vs, a, b⟩ := x.x; ⟨vs, a.step w, b.mono w.g⟩
theorem XD.ne (x : XD e H0 F H p m) (h : H q = none) : p ≠ q := let ⟨_, a, _⟩ := x.x; a.ne h
theorem XD.zero (x : XD e H0 F H p m) : H0 p = none := let ⟨_, a, _⟩ := x.x; a.z
theorem XD.base (x : XD e H F' H' p m) (w : Wf F0 H0 F H) : XD e H0 F' H' p m := let ⟨vs, a, b⟩ := x.x; ⟨vs, ⟨w.h.non a.z, a.n, a.h⟩, b⟩
theorem XD.kept (x : XD e H0 F H q m) (h : ∀ q o, H q = some o → q ≠ p → H' q = some o) (hq : q ≠ p) : XD e H0 F H' q m := let ⟨vs, a, b⟩ := x.x; ⟨vs, a.kept h hq, b⟩
theorem XD.frzO (x : XD e H0 F H q m) (h : Fz F F' p) (hq : q ≠ p) (g : Ex F F') : XD e H0 F' H q m := let ⟨vs, a, b⟩ := x.x; ⟨vs, ⟨a.z, h _ hq a.n, a.h⟩, b.mono g⟩
theorem XD.frzE (x : XD e H0 F H p m) (w : Wf F0 H0 F H) : ∃ F', Wf F0 H0 F' H ∧ Ex F F' ∧ (pD e).r F' (.ref p) m ∧ Fz F F' p := by
  obtain ⟨vs, a, b⟩ := x.x
  exact ⟨_, w.freeze a, Ex.new a.n, ⟨p, vs, rfl, upd_same, b.mono (Ex.new a.n)⟩, fun q h z => by rw [upd_ne h]; exact z⟩
theorem XD.lend (x : XD e H0 F H p m) (w : Wf F0 H0 F H) : ∃ F', Ex F' H ∧ Ex F F' ∧ (pD e).r F' (.ref p) m := let ⟨F', a, b, c, _⟩ := x.frzE w; ⟨F', a.f, b, c⟩
theorem XD.rd (x : XD e H0 F H p m) : ∃ kvs, H p = some (.dK kvs) ∧ DA e F kvs m := let ⟨vs, a, b⟩ := x.x; ⟨vs, a.h, b⟩
theorem D_rd (r : (pD e).r F v m) (f : Ex F H) : ∃ p kvs, v = .ref p ∧ H p = some (.dK kvs) ∧ DA e F kvs m := let ⟨p, vs, a, b, c⟩ := r; ⟨p, vs, a, f _ _ b, c⟩
/-- {} -/
theorem n_dict (w : Wf F0 H0 F H) (k : ∀ p H', H p = none → Wf F H F H' → XD e H0 F H' p ([] : List (κ × α)) → Q (.ref p) H') : tDNewK σ H Q := fun p hp => k p _ hp (Wf.newX w.f hp) ⟨[], Xc.mk' w hp, trivial⟩
theorem ix_D (r : (pD e).r F v m) (f : Ex F H) (hx : valT m j = some x) : ∃ w, e.r F w x ∧ ∀ ⦃σ td ty⦄, Val td σ H v → Val ty σ H (kV (KeyT.k j)) → Val (tDGet td ty) σ H w := by
  obtain ⟨p, kvs, rfl, hp, a⟩ := D_rd r f
  obtain ⟨w, h1, h2⟩ := (a.get j).1 x hx
  exact ⟨w, h2, fun _ _ _ hd hy Q k => hd _ (hy _ ⟨p, w, rfl, by rw [← h1]; exact DGet.k hp, k⟩)⟩
/-- d[k] = v, v evaluated -/
theorem d_put (r : XD e H0 F H p m) (w : Wf F0 H0 F H) (hl : m.length < 1000000) (rv : e.r F v x) (hd : Val td σ H (.ref p)) (hy : Val ty σ H (kV (KeyT.k j))) (k : ∀ H', Wf F0 H0 F H' → XD e H0 F H' p (putT m j x) → (∀ q o, H q = some o → q ≠ p → H' q = some o) → D.nx σ H') :
    (fun v H1 => td σ H1 fun x H2 => ty σ H2 fun y H3 => ∃ a H4, x = .ref a ∧ DPut H3 a y v H4 ∧ D.nx σ H4) v H := by
  obtain ⟨kvs, a, b⟩ := r.x
  exact hd _ (hy _ ⟨p, _, rfl, DPut.k a.h (by rw [b.len]; exact small_len hl), k _ (w.set a) ⟨_, a.set, b.put rv⟩ fun q o h hq => by rw [upd_ne hq]; exact h⟩)
theorem e_dput (h : tv σ H fun v H1 => td σ H1 fun x H2 => ty σ H2 fun y H3 => ∃ a H4, x = .ref a ∧ DPut H3 a y v H4 ∧ D.nx σ H4) : sDPut td ty tv D σ H := h
end
section
variable {S : Type} {σ : L2.St} {H : Hp} {te ta tb : TE} {tt tu : TT} {Q : VK} {k : Bool → Prop}
theorem e_jnT {f : (Bool → Prop) → Prop} {Qt : Bool → Hp → Prop} (hW : jn f k) (Inv : Bool → Hp → Hp → Prop)
    (h1 : ∀ N : Bool → Hp → Prop, (∀ b F' H', Inv b F' H' → k b → N b H') → f k → tt σ H N) (h2 : ∀ b F' H', Inv b F' H' → k b → Qt b H') : tt σ H Qt :=
  h1 Qt (fun b F' H' q n => h2 b F' H' q n) hW
theorem e_jnV {f : (Bool → Prop) → Prop} (hW : jn f k) (Inv : Bool → Hp → Hp → Prop)
    (h1 : ∀ N : VK, (∀ b F' H', Inv b F' H' → k b → N (.bl b) H') → f k → te σ H N) (h2 : ∀ b F' H', Inv b F' H' → k b → Q (.bl b) H') : te σ H Q :=
  h1 Q (fun b F' H' q n => h2 b F' H' q n) hW
theorem e_tAnd {Qt : Bool → Hp → Prop} (h : tt σ H fun c H1 => if c = true then tu σ H1 Qt else Qt false H1) : tAnd tt tu σ H Qt := h
theorem e_tOr {Qt : Bool → Hp → Prop} (h : tt σ H fun c H1 => if c = true then Qt true H1 else tu σ H1 Qt) : tOr tt tu σ H Qt := h
theorem e_AndV (h : ta σ H fun x H1 => ∃ c, x = .bl c ∧ if c = true then tb σ H1 Q else Q (.bl false) H1) : tAndV ta tb σ H Q := h
theorem e_OrV (h : ta σ H fun x H1 => ∃ c, x = .bl c ∧ if c = true then Q (.bl true) H1 else tb σ H1 Q) : tOrV ta tb σ H Q := h
theorem bl_if {b : Bool} {A B : Prop} (h : if b = true then A else B) : ∃ c, V.bl b = .bl c ∧ if c = true then A else B := ⟨b, rfl, h⟩
theorem bl_v {b : Bool} {A : Bool → Prop} (h : A b) : ∃ c, V.bl b = .bl c ∧ A c := ⟨b, rfl, h⟩
end
end Wk
namespace Wk
end Wk
namespace Wk.LR
open PySem PyProof.Rows L2
end Wk.LR
namespace Wk
open PySem L2 PyProof.Rows
end Wk
namespace Wk
section
variable {α β S : Type}
theorem forW_ind {xs : List α} {s : S} {body : α → S → (S → Prop) → (S → Prop) → Prop} {k : S → Prop} (P : List α → S → Prop) (h0 : P [] s)
    (hb : ∀ pre x post s nx bk, xs = pre ++ x :: post → P pre s → (∀ s', P (pre ++ [x]) s' → nx s') → (∀ s', k s' → bk s') → body x s nx bk)
    (hk : ∀ s, P xs s → k s) : forW xs s body k := by
  suffices h : ∀ (post pre : List α) (s : S), xs = pre ++ post → P pre s → forW post s body k from h xs [] s rfl h0
  intro post
  induction post with
  | nil => intro pre s e p; rw [List.append_nil] at e; subst e; exact hk s p
  | cons x post ih => intro pre s e p; exact hb pre x post s _ _ e p (fun s' p' => ih (pre ++ [x]) s' (by rw [e, List.append_assoc]; rfl) p') (fun _ h => h)
theorem forW_foldI {xs : List α} {s : S} {body : α → S → (S → Prop) → (S → Prop) → Prop} {k : S → Prop} (f : S → α → S) (I : S → Prop) (h0 : I s)
    (hb : ∀ x ∈ xs, ∀ s nx bk, I s → (I (f s x) → nx (f s x)) → body x s nx bk) (hi : ∀ x ∈ xs, ∀ s, I s → I (f s x))
    (hk : I (xs.foldl f s) → k (xs.foldl f s)) : forW xs s body k := by
  induction xs generalizing s with
  | nil => exact hk h0
  | cons x xs ih =>
    refine hb x (List.mem_cons_self ..) s _ _ h0 fun h1 => ih (s := f s x) h1 (fun y hy => hb y (List.mem_cons_of_mem _ hy)) (fun y hy => hi y (List.mem_cons_of_mem _ hy)) hk
theorem forW_fold {xs : List α} {s : S} {body : α → S → (S → Prop) → (S → Prop) → Prop} {k : S → Prop} (f : S → α → S)
    (hb : ∀ x ∈ xs, ∀ s nx bk, nx (f s x) → body x s nx bk) (hk : k (xs.foldl f s)) : forW xs s body k :=
  forW_foldI f (fun _ => True) trivial (fun x hx s nx bk _ h => hb x hx s nx bk (h trivial)) (fun _ _ _ _ => trivial) fun _ => hk
theorem forW_unit {xs : List α} {body : α → Unit → (Unit → Prop) → (Unit → Prop) → Prop} {k : Unit → Prop}
    (hb : ∀ x ∈ xs, ∀ nx bk, nx () → body x () nx bk) (hk : k ()) : forW xs () body k :=
  forW_fold (fun s _ => s) (fun x hx _ nx bk h => hb x hx nx bk h) hk
theorem compG_fm {xs : List α} {acc : List β} {b : α → (Option β → Prop) → Prop} {k : List β → Prop} (f : α → Option β) (hb : ∀ x ∈ xs, ∀ kk, kk (f x) → b x kk) (hk : k (acc ++ xs.filterMap f)) : compG xs acc b k := by
  induction xs generalizing acc with
  | nil => simpa [compG] using hk
  | cons x xs ih =>
    refine hb x (List.mem_cons_self ..) _ (ih (fun y hy => hb y (List.mem_cons_of_mem _ hy)) ?_)
    rw [List.filterMap_cons] at hk
    cases h : f x with
    | none => rw [h] at hk; simpa using hk
    | some y => rw [h] at hk; simpa using hk
theorem compW_fm {xs : List α} {b : α → (Option β → Prop) → Prop} {k : List β → Prop} (f : α → Option β) (hb : ∀ x ∈ xs, ∀ kk, kk (f x) → b x kk) (hk : k (xs.filterMap f)) : compW xs b k :=
  compG_fm f hb (by simpa using hk)
theorem compW_map {xs : List α} {b : α → (Option β → Prop) → Prop} {k : List β → Prop} (f : α → β) (hb : ∀ x ∈ xs, ∀ kk, kk (some (f x)) → b x kk) (hk : k (xs.map f)) : compW xs b k :=
  compW_fm (fun x => some (f x)) hb (by rw [show (fun x => some (f x)) = some ∘ f from rfl, List.filterMap_eq_map]; exact hk)
/-- a comprehension whose turns are told by what they may give -/
def CR (P : α → Option β → Prop) : List α → List β → Prop
  | [], ys => ys = []
  | x :: xs, ys => ∃ o ys', P x o ∧ ys = o.toList ++ ys' ∧ CR P xs ys'
theorem compG_rel {xs : List α} {acc : List β} {b : α → (Option β → Prop) → Prop} {k : List β → Prop} (P : α → Option β → Prop) (hb : ∀ x ∈ xs, ∀ kk, (∀ o, P x o → kk o) → b x kk) (hk : ∀ ys, CR P xs ys → k (acc ++ ys)) : compG xs acc b k := by
  induction xs generalizing acc with
  | nil => have := hk [] rfl; rwa [List.append_nil] at this
  | cons x xs ih =>
    refine hb x (List.mem_cons_self ..) _ fun o ho => ih (fun y hy => hb y (List.mem_cons_of_mem _ hy)) fun ys hy => ?_
    rw [List.append_assoc]
    exact hk _ ⟨o, ys, ho, rfl, hy⟩
theorem compW_rel {xs : List α} {b : α → (Option β → Prop) → Prop} {k : List β → Prop} (P : α → Option β → Prop) (hb : ∀ x ∈ xs, ∀ kk, (∀ o, P x o → kk o) → b x kk) (hk : ∀ ys, CR P xs ys → k ys) : compW xs b k := compG_rel P hb fun ys h => by rw [List.nil_append]; exact hk ys h
theorem jnI {f : (S → Prop) → Prop} {k : S → Prop} (h : f k) : jn f k := h
/-- a while loop without a measure that must be told -/
theorem whileW_ind {test : S → (Bool → Prop) → Prop} {body : S → (S → Prop) → (S → Prop) → Prop} {s : S} {k : S → Prop} (I : S → Prop) (μ : S → Nat) (h0 : I s)
    (hb : ∀ s (nx : S → Prop), I s → (∀ s', I s' → μ s' < μ s → nx s') → test s fun b => if b = true then body s nx k else k s) : whileW test body s k :=
  ⟨fun m s => m = μ s ∧ I s, ⟨_, rfl, h0⟩, fun m s ⟨e, h⟩ => hb s _ h fun s' h' hl => ⟨μ s', by rw [e]; exact hl, rfl, h'⟩⟩
end
end Wk
namespace Wk
theorem halfBit (n i : Nat) : (n / 2).testBit i = n.testBit (i + 1) := by rw [Nat.testBit_add_one]
theorem half_xor (a b : Nat) : (a ^^^ b) / 2 = a / 2 ^^^ b / 2 := Nat.eq_of_testBit_eq fun i => by rw [Nat.testBit_xor, halfBit, halfBit, halfBit, Nat.testBit_xor]
/-- is the number of bits odd? -/
def par (n : Nat) : Bool := if h : n = 0 then false else xor (n.testBit 0) (par (n / 2))
termination_by n
decreasing_by omega
theorem par_zero : par 0 = false := by rw [par]; simp
theorem par_step (n : Nat) : par n = xor (n.testBit 0) (par (n / 2)) := by
  by_cases h : n = 0
  · subst h; simp [par_zero]
  · rw [par, dif_neg h]
theorem par_xor : ∀ a b : Nat, par (a ^^^ b) = xor (par a) (par b) := by
  intro a
  induction a using Nat.strongRecOn with
  | ind a ih =>
    intro b
    by_cases h : a = 0
    · subst h; simp [par_zero]
    · rw [par_step (a ^^^ b), par_step a, par_step b, half_xor, ih (a / 2) (by omega), Nat.testBit_xor]
      cases a.testBit 0 <;> cases b.testBit 0 <;> cases par (a / 2) <;> cases par (b / 2) <;> rfl
theorem par_two_pow (k : Nat) : par (2 ^ k) = true := by
  induction k with
  | zero => rw [par_step]; simp [par_zero]
  | succ k ih =>
    rw [par_step, Nat.testBit_two_pow]
    have e : 2 ^ (k + 1) / 2 = 2 ^ k := by rw [Nat.pow_succ]; omega
    rw [e, ih]; simp
/-- the places of the bits below k -/
def bl (k n : Nat) : List Nat := (List.range k).filter n.testBit
theorem mem_bl {k n j : Nat} : j ∈ bl k n ↔ j < k ∧ n.testBit j = true := by simp [bl, List.mem_filter, List.mem_range]
theorem bl_len (k n : Nat) : (bl k n).length ≤ k := by
  have := List.length_filter_le n.testBit (List.range k)
  rw [List.length_range] at this; exact this
theorem bl_snoc (k n : Nat) : bl (k + 1) n = bl k n ++ if n.testBit k = true then [k] else [] := by
  unfold bl
  rw [List.range_succ, List.filter_append]
  by_cases h : n.testBit k = true
  · rw [if_pos h, List.filter_cons_of_pos h]; rfl
  · rw [if_neg h, List.filter_cons_of_neg h]; rfl
theorem bl_more {p k n : Nat} (h : p ≤ k) (z : n >>> p = 0) : bl k n = bl p n := by
  induction k with
  | zero => have : p = 0 := by omega
            subst this; rfl
  | succ k ih =>
    by_cases e : p = k + 1
    · subst e; rfl
    · rw [bl_snoc, ih (by omega)]
      have : n.testBit k = false := by
        have a : (n >>> p).testBit (k - p) = n.testBit (p + (k - p)) := Nat.testBit_shiftRight ..
        rw [z, Nat.zero_testBit] at a
        rw [show p + (k - p) = k by omega] at a
        exact a.symm
      simp [this]
theorem testBit_big {n k j : Nat} (h : n < 2 ^ k) (hj : k ≤ j) : n.testBit j = false := Nat.testBit_lt_two_pow (Nat.lt_of_lt_of_le h (Nat.pow_le_pow_right (by decide) hj))
section
variable {κ α : Type} [DecidableEq κ] [KeyT κ]
theorem valT_app {m : List (κ × α)} {j i : κ} {x : α} (h : hasT m j = false) : valT (m ++ [(j, x)]) i = if j = i then some x else valT m i := by
  induction m with
  | nil => show valT [(j, x)] i = _; rw [valT_cons]
  | cons q m ih =>
    have h' : q.1 ≠ j ∧ hasT m j = false := by
      unfold hasT at h ⊢
      rw [valT_cons] at h
      by_cases e : q.1 = j
      · rw [if_pos e] at h; cases h
      · rw [if_neg e] at h; exact ⟨e, h⟩
    rw [List.cons_append, valT_cons, valT_cons, ih h'.2]
    by_cases e : q.1 = i
    · rw [if_pos e, if_pos e, if_neg]
      intro z; exact h'.1 (e.trans z.symm)
    · rw [if_neg e, if_neg e]
theorem valT_map {m : List (κ × α)} {j i : κ} {x : α} : valT (m.map fun q => if q.1 = j then (q.1, x) else q) i = if j = i ∧ hasT m j = true then some x else valT m i := by
  induction m with
  | nil => show none = _; rw [if_neg (fun z => by cases z.2)]; rfl
  | cons q m ih =>
    rw [List.map_cons, valT_cons, valT_cons, ih]
    have hh : hasT (q :: m) j = if q.1 = j then true else hasT m j := by
      unfold hasT; rw [valT_cons]
      by_cases e : q.1 = j
      · rw [if_pos e, if_pos e]; rfl
      · rw [if_neg e, if_neg e]
    rw [hh]
    by_cases e : q.1 = j
    · rw [if_pos e, if_pos e]
      by_cases f : q.1 = i
      · rw [if_pos f, if_pos ⟨e.symm.trans f, rfl⟩]
      · rw [if_neg f, if_neg (fun z => f (e.trans z.1)), if_neg (fun z => f (e.trans z.1)), if_neg f]
    · rw [if_neg e, if_neg e]
      by_cases f : q.1 = i
      · rw [if_pos f, if_neg (fun z => e (f.trans z.1.symm))]
        rw [if_pos f]
      · rw [if_neg f, if_neg f]
theorem valT_putT {m : List (κ × α)} {j i : κ} {x : α} : valT (putT m j x) i = if j = i then some x else valT m i := by
  unfold putT
  cases h : hasT m j with
  | true =>
    rw [if_pos rfl, valT_map]
    by_cases e : j = i
    · rw [if_pos ⟨e, h⟩, if_pos e]
    · rw [if_neg (fun z => e z.1), if_neg e]
  | false => rw [if_neg (by simp), valT_app h]
theorem hasT_putT {m : List (κ × α)} {j i : κ} {x : α} : hasT (putT m j x) i = (decide (j = i) || hasT m i) := by
  unfold hasT; rw [valT_putT]
  by_cases e : j = i
  · rw [if_pos e, decide_eq_true e]; rfl
  · rw [if_neg e, decide_eq_false e]; rfl
theorem hasT_iff {m : List (κ × α)} {j : κ} : hasT m j = true ↔ j ∈ m.map (·.1) := by
  induction m with
  | nil => exact ⟨fun h => (by cases h), fun h => (by cases h)⟩
  | cons q m ih =>
    unfold hasT at ih ⊢
    rw [valT_cons, List.map_cons, List.mem_cons]
    by_cases e : q.1 = j
    · rw [if_pos e]; exact ⟨fun _ => .inl e.symm, fun _ => rfl⟩
    · rw [if_neg e, ih]; exact ⟨.inr, fun h => h.resolve_left fun z => e z.symm⟩
end
theorem NDiv_pow {k : Nat} (h : k < 9000) : NDiv (2 ^ k) := ⟨Nat.two_pow_pos k, by rw [Nat.log2_two_pow]; exact h⟩
end Wk
namespace Wk
theorem bits_zero : bits 0 = 0 := rfl
theorem bits_le {n k : Nat} : bits n ≤ k ↔ n < 2 ^ k := by
  unfold bits
  by_cases h : n = 0
  · subst h; simp [Nat.two_pow_pos]
  · rw [if_neg h]
    exact ⟨fun z => (Nat.log2_lt h).mp (Nat.lt_of_succ_le z), fun z => Nat.succ_le_of_lt ((Nat.log2_lt h).mpr z)⟩
theorem lt_bits (n : Nat) : n < 2 ^ bits n := bits_le.mp (Nat.le_refl _)
theorem bits_pos {n : Nat} (h : n ≠ 0) : 0 < bits n := by unfold bits; rw [if_neg h]; exact Nat.succ_pos _
theorem bits_eq_zero {n : Nat} : bits n = 0 ↔ n = 0 := ⟨fun h => by
  by_cases e : n = 0
  · exact e
  · have := bits_pos e; omega, fun h => by subst h; rfl⟩
theorem bits_ge {n k : Nat} (h : n.testBit k = true) : k < bits n := by
  refine Nat.lt_of_not_le fun z => ?_
  rw [testBit_big (bits_le.mp z) (Nat.le_refl _)] at h; cases h
theorem bits_bit {n : Nat} (h : n ≠ 0) : n.testBit (bits n - 1) = true := by
  have hp := bits_pos h
  have h1 : n < 2 ^ (bits n - 1 + 1) := by rw [Nat.sub_add_cancel hp]; exact lt_bits n
  have h2 : 2 ^ (bits n - 1) ≤ n := by
    refine Nat.le_of_not_lt fun z => ?_
    have := bits_le.mpr z
    omega
  rw [Nat.testBit_eq_decide_div_mod_eq, decide_eq_true_iff]
  have h3 : n / 2 ^ (bits n - 1) = 1 := by
    refine Nat.le_antisymm ?_ ?_
    · refine Nat.le_of_lt_succ (Nat.div_lt_of_lt_mul ?_)
      rw [Nat.pow_succ] at h1; exact h1
    · exact (Nat.one_le_div_iff (Nat.two_pow_pos _)).mpr h2
  rw [h3]
theorem bits_of_bit {n k : Nat} (h : n.testBit k = true) (h2 : n < 2 ^ (k + 1)) : bits n = k + 1 := Nat.le_antisymm (bits_le.mpr h2) (bits_ge h)
theorem bits_xor_ne {u l : Nat} (h : bits u < bits l) : bits (u ^^^ l) = bits l := by
  have hl : l ≠ 0 := fun z => by subst z; rw [bits_zero] at h; omega
  have hp := bits_pos hl
  have e : bits l - 1 + 1 = bits l := Nat.sub_add_cancel hp
  rw [← e]
  refine bits_of_bit ?_ ?_
  · rw [Nat.testBit_xor, bits_bit hl, testBit_big (lt_bits u) (by omega)]; rfl
  · rw [e]; exact Nat.xor_lt_two_pow (Nat.lt_trans (lt_bits u) (Nat.pow_lt_pow_right (by decide) h)) (lt_bits l)
theorem bits_xor_max {u l : Nat} (h : bits u ≠ bits l) : bits (u ^^^ l) = max (bits u) (bits l) := by
  rcases Nat.lt_or_gt_of_ne h with q | q
  · rw [bits_xor_ne q, Nat.max_eq_right (Nat.le_of_lt q)]
  · rw [Nat.xor_comm, bits_xor_ne q, Nat.max_eq_left (Nat.le_of_lt q)]
theorem bits_xor_eq {u l : Nat} (h : bits u = bits l) (hu : u ≠ 0) : bits (u ^^^ l) < bits u := by
  have hl : l ≠ 0 := fun z => by subst z; rw [bits_zero] at h; exact hu (bits_eq_zero.mp h)
  have hp := bits_pos hu
  refine Nat.lt_of_le_of_ne (bits_le.mpr (Nat.xor_lt_two_pow (lt_bits u) (by rw [h]; exact lt_bits l))) fun z => ?_
  have n0 : u ^^^ l ≠ 0 := fun q => by rw [q, bits_zero] at z; omega
  have := bits_bit n0
  rw [z, Nat.testBit_xor, bits_bit hu, h, bits_bit hl] at this
  cases this
theorem xor0 {a b : Nat} (h : a ^^^ b = 0) : a = b := by
  have e : (a ^^^ b) ^^^ b = b := by rw [h, Nat.zero_xor]
  rw [Nat.xor_assoc, Nat.xor_self, Nat.xor_zero] at e; exact e
def comb : List Nat → Nat → Nat
  | [], _ => 0
  | r :: rs, S => (if S.testBit 0 = true then r else 0) ^^^ comb rs (S / 2)
theorem comb_xor : ∀ (rs : List Nat) (S T : Nat), comb rs (S ^^^ T) = comb rs S ^^^ comb rs T
  | [], _, _ => by simp [comb]
  | r :: rs, S, T => by
    show (if (S ^^^ T).testBit 0 = true then r else 0) ^^^ comb rs ((S ^^^ T) / 2) = _
    rw [half_xor, comb_xor rs, Nat.testBit_xor]
    show _ = ((if S.testBit 0 = true then r else 0) ^^^ comb rs (S / 2)) ^^^ ((if T.testBit 0 = true then r else 0) ^^^ comb rs (T / 2))
    generalize comb rs (S / 2) = a
    generalize comb rs (T / 2) = b
    cases S.testBit 0 <;> cases T.testBit 0
    · simp
    · simp only [Bool.false_xor, if_true, Bool.false_eq_true, if_false, Nat.zero_xor]
      rw [← Nat.xor_assoc, ← Nat.xor_assoc, Nat.xor_comm a r]
    · simp only [Bool.xor_false, if_true, Bool.false_eq_true, if_false, Nat.zero_xor]
      rw [Nat.xor_assoc]
    · simp only [Bool.xor_self, if_true, Bool.false_eq_true, if_false, Nat.zero_xor]
      rw [Nat.xor_comm r b, ← Nat.xor_assoc, Nat.xor_assoc (r ^^^ a), ]
      rw [Nat.xor_comm r a, Nat.xor_assoc a r, ← Nat.xor_assoc r b r, Nat.xor_comm r b, Nat.xor_assoc b r r, Nat.xor_self, Nat.xor_zero]
theorem comb_zero : ∀ rs : List Nat, comb rs 0 = 0
  | [] => rfl
  | r :: rs => by show (if Nat.testBit 0 0 = true then r else 0) ^^^ comb rs (0 / 2) = 0; rw [Nat.zero_div, comb_zero rs]; simp
theorem comb_ext : ∀ {rs : List Nat} {S T : Nat}, (∀ j, j < rs.length → S.testBit j = T.testBit j) → comb rs S = comb rs T
  | [], _, _, _ => rfl
  | r :: rs, S, T, h => by
    show (if S.testBit 0 = true then r else 0) ^^^ comb rs (S / 2) = (if T.testBit 0 = true then r else 0) ^^^ comb rs (T / 2)
    rw [h 0 (by simp), comb_ext (rs := rs) (S := S / 2) (T := T / 2) fun j hj => by
      rw [halfBit, halfBit]; exact h (j + 1) (by simpa using hj)]
theorem comb_snoc : ∀ (rs : List Nat) (r S : Nat), comb (rs ++ [r]) S = comb rs S ^^^ if S.testBit rs.length = true then r else 0
  | [], r, S => by simp [comb]
  | q :: rs, r, S => by
    show (if S.testBit 0 = true then q else 0) ^^^ comb (rs ++ [r]) (S / 2) = _
    rw [comb_snoc rs, halfBit]
    show _ = ((if S.testBit 0 = true then q else 0) ^^^ comb rs (S / 2)) ^^^ _
    rw [← Nat.xor_assoc]; rfl
theorem comb_lt : ∀ {rs : List Nat} {S k : Nat}, (∀ r ∈ rs, r < 2 ^ k) → comb rs S < 2 ^ k
  | [], _, _, _ => Nat.two_pow_pos _
  | r :: rs, S, k, h => by
    refine Nat.xor_lt_two_pow ?_ (comb_lt fun x hx => h x (List.mem_cons_of_mem _ hx))
    by_cases q : S.testBit 0 = true
    · rw [if_pos q]; exact h r (List.mem_cons_self ..)
    · rw [if_neg q]; exact Nat.two_pow_pos _
theorem comb_pow_len (rs : List Nat) : comb rs (2 ^ rs.length) = 0 := by
  rw [← comb_zero rs]
  refine comb_ext fun j hj => ?_
  rw [Nat.testBit_two_pow, Nat.zero_testBit, decide_eq_false (by omega)]
theorem comb_map (f : Nat → Nat) (h0 : f 0 = 0) (hf : ∀ a b, f (a ^^^ b) = f a ^^^ f b) : ∀ (vs : List Nat) (S : Nat), comb (vs.map f) S = f (comb vs S)
  | [], _ => h0.symm
  | v :: vs, S => by
    show (if S.testBit 0 = true then f v else 0) ^^^ comb (vs.map f) (S / 2) = f ((if S.testBit 0 = true then v else 0) ^^^ comb vs (S / 2))
    rw [comb_map f h0 hf vs, hf]
    by_cases q : S.testBit 0 = true
    · rw [if_pos q, if_pos q]
    · rw [if_neg q, if_neg q, h0]
/-- the sums of the rows -/
def Span (vs : List Nat) (v : Nat) : Prop := ∃ S, comb vs S = v
theorem Span.zero (vs : List Nat) : Span vs 0 := ⟨0, comb_zero vs⟩
theorem Span.xor {vs : List Nat} {u v : Nat} : Span vs u → Span vs v → Span vs (u ^^^ v) := fun ⟨S, a⟩ ⟨T, b⟩ => ⟨S ^^^ T, by rw [comb_xor, a, b]⟩
theorem Span.low {vs : List Nat} {v : Nat} : Span vs v → ∃ S, S < 2 ^ vs.length ∧ comb vs S = v := fun ⟨S, a⟩ => ⟨S % 2 ^ vs.length, Nat.mod_lt _ (Nat.two_pow_pos _), by
  rw [← a]
  refine comb_ext fun j hj => ?_
  rw [Nat.testBit_mod_two_pow, decide_eq_true hj, Bool.true_and]⟩
theorem Span.snoc {vs : List Nat} {r v : Nat} : Span (vs ++ [r]) v ↔ Span vs v ∨ Span vs (v ^^^ r) := by
  constructor
  · rintro ⟨S, h⟩
    rw [comb_snoc] at h
    by_cases q : S.testBit vs.length = true
    · rw [if_pos q] at h
      exact .inr ⟨S, by rw [← h, Nat.xor_assoc, Nat.xor_self, Nat.xor_zero]⟩
    · rw [if_neg q, Nat.xor_zero] at h
      exact .inl ⟨S, h⟩
  · rintro (h | h)
    · obtain ⟨S, hl, e⟩ := h.low
      exact ⟨S, by rw [comb_snoc, testBit_big hl (Nat.le_refl _), e]; simp⟩
    · obtain ⟨S, hl, e⟩ := h.low
      refine ⟨S ^^^ 2 ^ vs.length, ?_⟩
      rw [comb_snoc, comb_xor, comb_pow_len, e, Nat.testBit_xor, testBit_big hl (Nat.le_refl _), Nat.testBit_two_pow, decide_eq_true rfl]
      simp [Nat.xor_assoc]
theorem Span.nil {v : Nat} : Span [] v ↔ v = 0 := ⟨fun ⟨_, h⟩ => h.symm, fun h => by subst h; exact Span.zero _⟩
theorem Span.inj {vs : List Nat} {k : Nat} (f : Nat → Nat) (h0 : f 0 = 0) (hf : ∀ a b, f (a ^^^ b) = f a ^^^ f b) (hi : ∀ a, a < 2 ^ k → f a = 0 → a = 0) (hv : ∀ v ∈ vs, v < 2 ^ k) {v : Nat} (hk : v < 2 ^ k) : Span (vs.map f) (f v) ↔ Span vs v := by
  constructor
  · rintro ⟨S, h⟩
    rw [comb_map f h0 hf] at h
    refine ⟨S, ?_⟩
    have : comb vs S ^^^ v = 0 := hi _ (Nat.xor_lt_two_pow (comb_lt hv) hk) (by rw [hf, h, Nat.xor_self])
    exact xor0 this
  · rintro ⟨S, h⟩
    exact ⟨S, by rw [comb_map f h0 hf, h]⟩
/-- masks with unlike highest bits, rising -/
def Incr (ws : List Nat) : Prop := ws.Pairwise (fun a b => bits a < bits b) ∧ ∀ w ∈ ws, w ≠ 0
theorem Incr.snoc {ws : List Nat} {w : Nat} (h : Incr ws) (hb : ∀ x ∈ ws, bits x < bits w) (h0 : w ≠ 0) : Incr (ws ++ [w]) := ⟨List.pairwise_append.mpr ⟨h.1, List.pairwise_singleton _ _, fun a ha b hb' => by rw [List.mem_singleton.mp hb']; exact hb a ha⟩, fun x hx => by
  rcases List.mem_append.mp hx with q | q
  · exact h.2 x q
  · rw [List.mem_singleton.mp q]; exact h0⟩
theorem comb_snoc_bits {ws : List Nat} {w S : Nat} (hb : ∀ x ∈ ws, bits x < bits w) : bits (comb ws S) < bits w ∨ w = 0 := by
  by_cases h : w = 0
  · exact .inr h
  · left
    have hp := bits_pos h
    refine Nat.lt_of_le_of_lt (bits_le.mpr (comb_lt (k := bits w - 1) fun x hx => ?_)) (by omega)
    have := hb x hx
    exact bits_le.mp (by omega)
theorem Incr.inj : ∀ {ws : List Nat} {S : Nat}, Incr ws → S < 2 ^ ws.length → comb ws S = 0 → S = 0 := by
  intro ws
  induction hn : ws.length generalizing ws with
  | zero => intro S _ hS _; simpa using hS
  | succ n ih =>
    intro S hI hS h
    obtain ⟨us, w, rfl⟩ : ∃ us w, ws = us ++ [w] := ⟨ws.dropLast, ws.getLast (by intro z; subst z; cases hn), (List.dropLast_concat_getLast _).symm⟩
    have hl : us.length = n := by rw [List.length_append] at hn; simpa using hn
    obtain ⟨hp, h0⟩ := hI
    rw [List.pairwise_append] at hp
    have hw : w ≠ 0 := h0 w (List.mem_append_right _ (List.mem_singleton_self _))
    have hb : ∀ x ∈ us, bits x < bits w := fun x hx => hp.2.2 x hx w (List.mem_singleton_self _)
    rw [comb_snoc, hl] at h
    by_cases q : S.testBit n = true
    · rw [if_pos q] at h
      have e := xor0 h
      rcases comb_snoc_bits (S := S) hb with z | z
      · rw [e] at z; exact absurd z (Nat.lt_irrefl _)
      · exact absurd z hw
    · rw [if_neg q, Nat.xor_zero] at h
      have hS' : S < 2 ^ n := by
        refine Nat.lt_pow_two_of_testBit _ fun j hj => ?_
        by_cases e : j = n
        · subst e; simpa using q
        · exact testBit_big hS (by omega)
      exact ih (ws := us) hl ⟨hp.1, fun x hx => h0 x (List.mem_append_left _ hx)⟩ hS' h
/-- the places of rows that are no sums of rows ahead -/
noncomputable def fndP (rs : List Nat) : List Nat := open Classical in (List.range rs.length).filter fun j => decide (¬ Span (rs.take j) (rs.getD j 0))
theorem fndP_snoc (rs : List Nat) (r : Nat) : fndP (rs ++ [r]) = fndP rs ++ open Classical in if Span rs r then [] else [rs.length] := by
  classical
  unfold fndP
  rw [List.length_append, List.length_singleton, List.range_succ, List.filter_append]
  congr 1
  · refine List.filter_congr fun j hj => ?_
    have hj' := List.mem_range.mp hj
    rw [List.take_append_of_le_length (Nat.le_of_lt hj'), List.getD_eq_getElem?_getD, List.getD_eq_getElem?_getD, List.getElem?_append_left hj']
  · have e1 : (rs ++ [r]).take rs.length = rs := by rw [List.take_append_of_le_length (Nat.le_refl _), List.take_length]
    have e2 : (rs ++ [r]).getD rs.length 0 = r := by rw [List.getD_eq_getElem?_getD, List.getElem?_append_right (Nat.le_refl _), Nat.sub_self]; rfl
    by_cases q : Span rs r
    · rw [if_pos q, List.filter_cons_of_neg (by rw [e1, e2]; simpa using q)]; rfl
    · rw [if_neg q, List.filter_cons_of_pos (by rw [e1, e2]; simpa using q)]; rfl
/-- numbers below k, none twice: at most k of them -/
theorem nodup_len : ∀ {k : Nat} {l : List Nat}, l.Nodup → (∀ x ∈ l, x < k) → l.length ≤ k
  | 0, l, _, h => by cases l with
    | nil => exact Nat.le_refl _
    | cons x l => exact absurd (h x (List.mem_cons_self ..)) (Nat.not_lt_zero _)
  | k + 1, l, hn, h => by
    have h1 : (l.erase k).length ≤ k := nodup_len (hn.erase k) fun x hx => by
      have hm := List.mem_of_mem_erase hx
      have := h x hm
      have hk : x ≠ k := fun z => by subst z; exact (List.Nodup.not_mem_erase hn) hx
      omega
    have h2 : l.length ≤ (l.erase k).length + 1 := by
      by_cases q : k ∈ l
      · rw [List.length_erase_of_mem q]; omega
      · rw [List.erase_of_not_mem q]; omega
    omega
end Wk
namespace Wk
def pm (a b : Nat) : Nat := if h : b = 0 then 0 else (if b.testBit 0 = true then a else 0) ^^^ pm (2 * a) (b / 2)
termination_by b
decreasing_by omega
theorem pm_zero (a : Nat) : pm a 0 = 0 := by rw [pm]; simp
theorem pm_step (a b : Nat) : pm a b = (if b.testBit 0 = true then a else 0) ^^^ pm (2 * a) (b / 2) := by
  by_cases h : b = 0
  · subst h; simp [pm_zero]
  · rw [pm, dif_neg h]
theorem two_xor (a b : Nat) : 2 * (a ^^^ b) = 2 * a ^^^ 2 * b := Nat.eq_of_testBit_eq fun i => by
  rw [Nat.testBit_xor]
  cases i with
  | zero => simp [Nat.testBit_zero]
  | succ i => rw [Nat.testBit_add_one, Nat.testBit_add_one, Nat.testBit_add_one]; simp [Nat.testBit_xor]
theorem ifx {c : Bool} {a b : Nat} : (if c = true then a ^^^ b else 0) = (if c = true then a else 0) ^^^ (if c = true then b else 0) := by cases c <;> simp
theorem xor_swap (a b c d : Nat) : (a ^^^ b) ^^^ (c ^^^ d) = (a ^^^ c) ^^^ (b ^^^ d) := by
  rw [Nat.xor_assoc, ← Nat.xor_assoc b c d, Nat.xor_comm b c, Nat.xor_assoc c b d, ← Nat.xor_assoc]
theorem pm_xor_r (b : Nat) : ∀ a c : Nat, pm a (b ^^^ c) = pm a b ^^^ pm a c := by
  induction b using Nat.strongRecOn with
  | ind b ih =>
    intro a c
    by_cases h : b = 0
    · subst h; rw [Nat.zero_xor, pm_zero, Nat.zero_xor]
    · rw [pm_step a (b ^^^ c), pm_step a b, pm_step a c, half_xor, ih (b / 2) (by omega), Nat.testBit_xor, xor_swap]
      congr 1
      cases b.testBit 0 <;> cases c.testBit 0 <;> simp
theorem pm_xor_l (c : Nat) : ∀ a b : Nat, pm (a ^^^ b) c = pm a c ^^^ pm b c := by
  induction c using Nat.strongRecOn with
  | ind c ih =>
    intro a b
    by_cases h : c = 0
    · subst h; simp [pm_zero]
    · rw [pm_step (a ^^^ b), pm_step a c, pm_step b c, two_xor, ih (c / 2) (by omega), ifx, xor_swap]
theorem pm_dbl (b : Nat) : ∀ a, pm (2 * a) b = 2 * pm a b := by
  induction b using Nat.strongRecOn with
  | ind b ih =>
    intro a
    by_cases h : b = 0
    · subst h; simp [pm_zero]
    · rw [pm_step (2 * a), pm_step a, ih (b / 2) (by omega), two_xor]
      congr 1
      cases b.testBit 0 <;> simp
theorem pm_half (a b : Nat) : pm a b = (if b.testBit 0 = true then a else 0) ^^^ 2 * pm a (b / 2) := by rw [pm_step, pm_dbl]
theorem pm_zero_l (b : Nat) : pm 0 b = 0 := by
  induction b using Nat.strongRecOn with
  | ind b ih =>
    by_cases h : b = 0
    · subst h; exact pm_zero 0
    · rw [pm_half, ih (b / 2) (by omega)]; simp
theorem pm_one_l (b : Nat) : pm 1 b = b := by
  induction b using Nat.strongRecOn with
  | ind b ih =>
    by_cases h : b = 0
    · subst h; exact pm_zero 1
    · rw [pm_half, ih (b / 2) (by omega), Nat.testBit_zero]
      rcases Nat.mod_two_eq_zero_or_one b with e | e
      · rw [if_neg (by simp [e]), Nat.zero_xor]; omega
      · rw [if_pos (by simp [e])]
        have : 1 ^^^ 2 * (b / 2) = 2 * (b / 2) + 1 := Nat.eq_of_testBit_eq fun i => by
          rw [Nat.testBit_xor]
          cases i with
          | zero => simp [Nat.testBit_zero]
          | succ i =>
            rw [Nat.testBit_add_one, Nat.testBit_add_one, Nat.testBit_add_one]
            have a : (2 * (b / 2) + 1) / 2 = 2 * (b / 2) / 2 := by omega
            rw [a]; simp
        rw [this]; omega
theorem dbl_half (b : Nat) : b = (if b.testBit 0 = true then 1 else 0) ^^^ 2 * (b / 2) := by
  have := pm_half 1 b
  rw [pm_one_l, pm_one_l] at this; exact this
theorem pm_comm (b : Nat) : ∀ a, pm a b = pm b a := by
  induction b using Nat.strongRecOn with
  | ind b ih =>
    intro a
    by_cases h : b = 0
    · subst h; rw [pm_zero, pm_zero_l]
    · rw [pm_half a b, ih (b / 2) (by omega)]
      conv => rhs; rw [dbl_half b]
      rw [pm_xor_l, pm_dbl]
      congr 1
      cases b.testBit 0 <;> simp [pm_one_l, pm_zero_l]
theorem pm_assoc (c : Nat) : ∀ a b, pm (pm a b) c = pm a (pm b c) := by
  induction c using Nat.strongRecOn with
  | ind c ih =>
    intro a b
    by_cases h : c = 0
    · subst h; simp [pm_zero]
    · rw [pm_half (pm a b) c, pm_half b c, pm_xor_r, ih (c / 2) (by omega)]
      congr 1
      · cases c.testBit 0 <;> simp [pm_zero]
      · rw [pm_comm (2 * pm b (c / 2)), pm_dbl, pm_comm a]
theorem pm_pow (a k : Nat) : pm a (2 ^ k) = a <<< k := by
  induction k with
  | zero => rw [Nat.pow_zero, pm_comm, pm_one_l, Nat.shiftLeft_zero]
  | succ k ih =>
    rw [pm_half, Nat.testBit_two_pow, decide_eq_false (by omega), Nat.pow_succ, Nat.mul_div_cancel _ (by decide), ih]
    simp [Nat.shiftLeft_eq, Nat.pow_succ, Nat.mul_comm, Nat.mul_left_comm]
theorem bits_shl {a : Nat} (h : a ≠ 0) (k : Nat) : bits (a <<< k) = bits a + k := by
  have hp := bits_pos h
  have e : bits a + k = (bits a - 1 + k) + 1 := by omega
  rw [e]
  refine bits_of_bit ?_ ?_
  · rw [Nat.testBit_shiftLeft, decide_eq_true (by omega), Bool.true_and, show bits a - 1 + k - k = bits a - 1 by omega]
    exact bits_bit h
  · rw [Nat.shiftLeft_eq, show bits a - 1 + k + 1 = bits a + k by omega, Nat.pow_add]
    exact Nat.mul_lt_mul_of_pos_right (lt_bits a) (Nat.two_pow_pos k)
theorem bits_pm (b : Nat) : ∀ a, a ≠ 0 → b ≠ 0 → bits (pm a b) + 1 = bits a + bits b := by
  induction b using Nat.strongRecOn with
  | ind b ih =>
    intro a ha hb
    have hp := bits_pos hb
    have hpa := bits_pos ha
    generalize hk : bits b - 1 = k
    have tb : b.testBit k = true := by rw [← hk]; exact bits_bit hb
    have e : b = (b ^^^ 2 ^ k) ^^^ 2 ^ k := by rw [Nat.xor_assoc, Nat.xor_self, Nat.xor_zero]
    have bp : bits (2 ^ k) = k + 1 := bits_of_bit (by rw [Nat.testBit_two_pow]; simp) (Nat.pow_lt_pow_right (by decide) (Nat.lt_succ_self _))
    have lt : bits (b ^^^ 2 ^ k) < bits b := bits_xor_eq (by rw [bp]; omega) hb
    have ltn : b ^^^ 2 ^ k < b := by
      have h1 : b ^^^ 2 ^ k < 2 ^ k := bits_le.mp (by omega)
      have h2 : 2 ^ k ≤ b := by
        refine Nat.le_of_not_lt fun z => ?_
        have := bits_le.mpr z
        omega
      omega
    have e1 : pm a b = pm a (b ^^^ 2 ^ k) ^^^ a <<< k := by
      conv => lhs; rw [e]
      rw [pm_xor_r, pm_pow]
    have s := bits_shl ha k
    have l2 : bits (pm a (b ^^^ 2 ^ k)) < bits (a <<< k) := by
      by_cases z : b ^^^ 2 ^ k = 0
      · rw [z, pm_zero, bits_zero, s]; omega
      · have := ih _ ltn a ha z
        rw [s]; omega
    rw [e1, bits_xor_ne l2, s]; omega
/-- d goes into a -/
def Dv (d a : Nat) : Prop := ∃ q, pm q d = a
theorem Dv.zero (d : Nat) : Dv d 0 := ⟨0, pm_zero_l d⟩
theorem Dv.xor {d a b : Nat} : Dv d a → Dv d b → Dv d (a ^^^ b) := fun ⟨q, h⟩ ⟨r, k⟩ => ⟨q ^^^ r, by rw [pm_xor_l, h, k]⟩
theorem Dv.tr {a b c : Nat} : Dv a b → Dv b c → Dv a c := fun ⟨q, h⟩ ⟨r, k⟩ => ⟨pm r q, by rw [pm_assoc, h, k]⟩
theorem Dv.le {d a : Nat} (h : Dv d a) (ha : a ≠ 0) : bits d ≤ bits a ∧ d ≠ 0 := by
  obtain ⟨q, rfl⟩ := h
  have hq : q ≠ 0 := fun z => ha (by rw [z, pm_zero_l])
  have hd : d ≠ 0 := fun z => ha (by rw [z, pm_zero])
  have := bits_pm d q hq hd
  have := bits_pos hq
  exact ⟨by omega, hd⟩
end Wk
namespace Wk
open PySem L2
section
variable {α β S : Type} {K : PySem.W.Frag} {σ : L2.St} {F0 H0 F F' H H' : Hp} {te tl ta tb to : TE} {tt tc : TT} {tA : TA} {Q : VK} {v w u : V} {xs ys : List α} {x y : α} {D : Ends} {tu : TS} {p q : Addr} {n : Nat} {i : Int} {g : TG} {J : It} {e : Rep α} {b : Rep β} {zs : List β} {o : HO}
def kFor (g : TG) (tu : TS) (D : Ends) (σ : L2.St) (J : It) (H : Hp) : Prop := ∃ W : Nat → Nat → L2.St → Hp → Prop, (∃ m, W 0 m σ H) ∧ ∀ i m σ H, W i m σ H →
  (J.stop i H ∧ D.nx σ H) ∨ (J.go i H ∧ ∃ N : L2.St → Hp → Prop, (∀ σ' H', N σ' H' → ∃ m', m' < m ∧ W (i + 1) m' σ' H') ∧ ∀ x H', J.yld i H x H' → g x σ H' fun σ2 H2 => tu { D with nx := N, ct := N, bk := D.nx } σ2 H2)
def kCp (g : TG) (tc : TT) (te : TE) (vs : List Nat) (σ : L2.St) (Q : VK) (J : It) (H : Hp) : Prop := ∀ D, H D = none → ∃ W : Nat → Nat → Hp → Prop, (∃ m, W 0 m (upd H D (.lst []))) ∧ ∀ i m H, W i m H →
  (J.stop i H ∧ Q (.ref D) H) ∨ (J.go i H ∧ ∃ Nx : Hp → Prop, (∀ H', Nx H' → ∃ m', m' < m ∧ W (i + 1) m' H') ∧ ∀ x H', J.yld i H x H' → g x (wipe σ vs) H' fun σ2 H2 => wipe σ2 vs = wipe σ vs ∧ tc σ2 H2 fun b H3 =>
    if b = true then te σ2 H3 fun y H4 => ∃ acc, H4 D = some (.lst acc) ∧ acc.length < sizeLine ∧ Nx (upd H4 D (.lst (acc ++ [y]))) else Nx H3)
/-- a walk over frozen things: its turns give the items of zs -/
def TWk (J : It) (F : Hp) (b : Rep β) (zs : List β) : Prop := ∃ G Y, Walk J zs.length G Y ∧ (∀ F' H', Ex F F' → Ex F' H' → G H') ∧
  ∀ i H x H' F', i < zs.length → Ex F F' → Ex F' H → Y i H x H' → ∃ z F1, zs[i]? = some z ∧ Wf F' H F1 H' ∧ b.r F1 x z
theorem f_J {wi : TI} (h : wi σ H (kFor g tu D σ)) : tFor wi g tu D σ H := h
theorem c_J {wi : TI} {vs : List Nat} (h : wi σ H (kCp g tc te vs σ Q)) : tLc wi g tc te vs σ H Q := h
theorem w_forG {s0 : S} {k : S → Prop} {body : β → S → (S → Prop) → (S → Prop) → Prop} (T : TWk J F b zs) (Inv : S → L2.St → Hp → Hp → Prop) (hW : forW zs s0 body k) (h0 : Inv s0 σ F H)
    (ex : ∀ s σ' F' H', Inv s σ' F' H' → Ex F F' ∧ Ex F' H') (f : Ex F H)
    (turn : ∀ (N Bk : L2.St → Hp → Prop) x u s σ' F' H' F1 H1 (nx bk : S → Prop), Inv s σ' F' H' → x ∈ zs → Wf F' H' F1 H1 → b.r F1 u x → body x s nx bk → (∀ s' σ2 F2 H2, Inv s' σ2 F2 H2 → nx s' → N σ2 H2) → (∀ s' σ2 F2 H2, Inv s' σ2 F2 H2 → bk s' → Bk σ2 H2) →
      g u σ' H1 fun σ2 H2 => tu { D with nx := N, ct := N, bk := Bk } σ2 H2)
    (done : ∀ s σ' F' H', Inv s σ' F' H' → k s → D.nx σ' H') : kFor g tu D σ J H := by
  obtain ⟨G, Y, wk, hG, hY⟩ := T
  refine for_it wk (fun i σ' H' => ∃ s F', Inv s σ' F' H' ∧ forW (zs.drop i) s body k) ⟨s0, F, h0, hW⟩ (fun i σ' H' _ ⟨s, F', hI, _⟩ => hG F' H' (ex _ _ _ _ hI).1 (ex _ _ _ _ hI).2) ?_ ?_
  · rintro i u σ' H' H1 hi ⟨s, F', hI, hw⟩ hy
    obtain ⟨x, F1, hx, q, rx⟩ := hY i H' u H1 F' hi (ex _ _ _ _ hI).1 (ex _ _ _ _ hI).2 hy
    have e : zs.drop i = x :: zs.drop (i + 1) := by
      obtain ⟨h1, h2⟩ := List.getElem?_eq_some_iff.mp hx
      rw [← h2]; exact List.drop_eq_getElem_cons h1
    rw [e] at hw
    exact turn _ _ x u s σ' F' H' F1 H1 _ _ hI (List.mem_of_getElem? hx) q rx hw (fun s' σ2 F2 H2 q n => ⟨s', F2, q, n⟩) (fun s' σ2 F2 H2 q n => done s' σ2 F2 H2 q n)
  · rintro σ' H' ⟨s, F', hI, hw⟩
    rw [List.drop_of_length_le (Nat.le_refl _)] at hw
    exact done _ _ _ _ hI hw
theorem w_compG {vs : List Nat} {bd : β → (Option α → Prop) → Prop} {kk : List α → Prop} (T : TWk J F b zs) (w : Wf F0 H0 F H) (hn : zs.length < 1000000) (hW : compW zs bd kk)
    (turn : ∀ (Qy : V → Hp → Prop) (Qn : Hp → Prop) x u F1 H1 (R : Option α → Prop), Wf F H F1 H1 → x ∈ zs → b.r F1 u x → bd x R → (∀ y z F2 H2, Wf F1 H1 F2 H2 → e.r F2 y z → R (some z) → Qy y H2) → (∀ F2 H2, Wf F1 H1 F2 H2 → R none → Qn H2) →
      g u (wipe σ vs) H1 fun σ2 H2 => wipe σ2 vs = wipe σ vs ∧ tc σ2 H2 fun b H3 => if b = true then te σ2 H3 Qy else Qn H3)
    (done : ∀ p ys F' H', H p = none → Wf F H F' H' → XL e H0 F' H' p ys → kk ys → Q (.ref p) H') : kCp g tc te vs σ Q J H := by
  obtain ⟨G, Y, wk, hG, hY⟩ := T
  intro D hD
  refine lc_it wk (fun i H' => ∃ F' ac ys, Wf F H F' H' ∧ Xc H F' H' D (.lst ac) ∧ All e F' ac ys ∧ ys.length ≤ i ∧ compG (zs.drop i) ys bd kk)
    ⟨F, [], [], Wf.newX w.f hD, Xc.mk' (Wf.id w.f) hD, trivial, Nat.le_refl _, hW⟩ (fun i H' _ ⟨F', ac, ys, q, _⟩ => hG F' H' q.g q.f) ?_ ?_
  · rintro i u H' H1 hi ⟨F', ac, ys, q, xc, al, hl, hw⟩ hy
    obtain ⟨x, F1, hx, q1, rx⟩ := hY i H' u H1 F' hi q.g q.f hy
    have e' : zs.drop i = x :: zs.drop (i + 1) := by
      obtain ⟨h1, h2⟩ := List.getElem?_eq_some_iff.mp hx
      rw [← h2]; exact List.drop_eq_getElem_cons h1
    rw [e'] at hw
    have xc1 := xc.step q1
    have al1 := al.mono q1.g
    refine turn _ _ x u F1 H1 _ (q.tr q1) (List.mem_of_getElem? hx) rx hw (fun y z F2 H2 s ry hR => ?_) (fun F2 H2 s hR => ?_)
    · have xc2 := xc1.step s
      exact ⟨ac, xc2.h, by rw [al.len]; exact small_len (by omega), F2, ac ++ [y], ys ++ [z], ((q.tr q1).tr s).set xc2, xc2.set, (al1.mono s.g).snoc ry, by rw [List.length_append]; exact Nat.succ_le_succ hl, hR⟩
    · exact ⟨F2, ac, ys, (q.tr q1).tr s, xc1.step s, al1.mono s.g, Nat.le_succ_of_le hl, by simpa using hR⟩
  · rintro H' ⟨F', ac, ys, q, xc, al, hl, hw⟩
    rw [List.drop_of_length_le (Nat.le_refl _)] at hw
    exact done D ys F' H' hD q ⟨ac, ⟨w.h.non hD, xc.n, xc.h⟩, al⟩ hw
theorem TWk.pairs {γ δ : Type} {c : Rep γ} {d : Rep δ} {G : Hp → Prop} {X Y : Nat → Option V} {us : List (γ × δ)} (wk : Walk J us.length G (YPair X Y)) (hG : ∀ F' H', Ex F F' → Ex F' H' → G H')
    (hx : ∀ i F' x, Ex F F' → i < us.length → X i = some x → ∃ z, (us[i]?.map Prod.fst) = some z ∧ c.r F' x z) (hy : ∀ i F' x, Ex F F' → i < us.length → Y i = some x → ∃ z, (us[i]?.map Prod.snd) = some z ∧ d.r F' x z) : TWk J F (pT2 c d) us := by
  refine ⟨G, _, wk, hG, fun i H v H' F' hi f g hy' => ?_⟩
  obtain ⟨T, x, y, rfl, hT, rfl, h1, h2⟩ := hy'
  obtain ⟨z1, e1, r1⟩ := hx i F' x f hi h1
  obtain ⟨z2, e2, r2⟩ := hy i F' y f hi h2
  have e : us[i]? = some (z1, z2) := by
    cases q : us[i]? with
    | none => rw [q] at e1; cases e1
    | some t =>
      rw [q] at e1 e2
      have a : t.1 = z1 := Option.some.inj e1
      have b : t.2 = z2 := Option.some.inj e2
      rw [← a, ← b]
  exact ⟨(z1, z2), _, e, Wf.new g hT, ⟨T, x, y, rfl, upd_same, c.mono (Ex.new (g.non hT)) r1, d.mono (Ex.new (g.non hT)) r2⟩⟩
def enumT (xs : List α) : List (Nat × α) := (List.range xs.length).zip xs
theorem enumT_len (xs : List α) : (enumT xs).length = xs.length := by unfold enumT; rw [List.length_zip, List.length_range]; exact Nat.min_self _
theorem enumT_get (xs : List α) (i : Nat) : (enumT xs)[i]? = xs[i]?.map fun x => (i, x) := by
  show ((List.range xs.length).zip xs)[i]? = _
  by_cases h : i < xs.length
  · have h2 : i < ((List.range xs.length).zip xs).length := by rw [List.length_zip, List.length_range]; omega
    rw [List.getElem?_eq_getElem h2, List.getElem?_eq_getElem h, List.getElem_zip, List.getElem_range]; rfl
  · rw [List.getElem?_eq_none (by rw [List.length_zip, List.length_range]; omega), List.getElem?_eq_none (by omega)]; rfl
/-- enumerate(xs) -/
theorem src_enum {R : It → Hp → Prop} (r : (pL e).r F v xs) (f : Ex F H) (k : ∀ a, TWk (Ite K a) F (pT2 pN e) (enumT xs) → R (Ite K a) H) : ∃ a ws, [v] = [V.ref a] ∧ SqL K H a ws ∧ R (Ite K a) H := by
  obtain ⟨p, vs, rfl, hp, a⟩ := r
  refine ⟨p, vs, rfl, SqL.of (f _ _ hp), k p ?_⟩
  refine TWk.pairs (G := fun H => SqL K H p vs) (X := fun i => some (.int (i : Nat))) (Y := fun i => vs[i]?) (by rw [enumT_len, ← a.len]; exact walk_enum) (fun F' H' h1 h2 => SqL.of (h2 _ _ (h1 _ _ hp))) ?_ ?_
  · intro i F' x _ hi hx
    rw [enumT_len] at hi
    rw [enumT_get, List.getElem?_eq_getElem hi]
    exact ⟨i, rfl, (Option.some.inj hx).symm⟩
  · intro i F' x h1 hi hx
    obtain ⟨z, hz, rz⟩ := a.got hx
    rw [enumT_get, hz]
    exact ⟨z, rfl, e.mono h1 rz⟩
theorem lk_ne {k g : Str} {v : V} {r : List (Str × V)} (h : (k == g) = false) : List.lookup k ((g, v) :: r) = List.lookup k r := by simp only [List.lookup, h]
theorem lk_eq {k : Str} {v : V} {r : List (Str × V)} : List.lookup k ((k, v) :: r) = some v := by
  have e : (k == k) = true := beq_self_eq_true k
  simp only [List.lookup, e]
/-- an instance of C that stays as it is: its fields, all told by Fs -/
def pOb (C : Addr) (Fs : Hp → List (Str × V) → α → Prop) (mono : ∀ {F F' : Hp} {fs : List (Str × V)} {x : α}, Ex F F' → Fs F fs x → Fs F' fs x) : Rep α :=
  ⟨fun F v x => ∃ p dx fs, v = .ref p ∧ F p = some (.ins C dx fs) ∧ Fs F fs x, fun h ⟨p, dx, fs, a, b, c⟩ => ⟨p, dx, fs, a, h _ _ b, mono h c⟩⟩
def F1s {α : Type} (n : Str) (e : Rep α) (F : Hp) (fs : List (Str × V)) (x : α) : Prop := ∃ u, fs = [(n, u)] ∧ e.r F u x
def F2s {α β : Type} (n m : Str) (e : Rep α) (f : Rep β) (F : Hp) (fs : List (Str × V)) (x : α × β) : Prop := ∃ u w, fs = [(n, u), (m, w)] ∧ e.r F u x.1 ∧ f.r F w x.2
def F3s {α β γ : Type} (n m l : Str) (e : Rep α) (f : Rep β) (g : Rep γ) (F : Hp) (fs : List (Str × V)) (x : α × β × γ) : Prop := ∃ u w y, fs = [(n, u), (m, w), (l, y)] ∧ e.r F u x.1 ∧ f.r F w x.2.1 ∧ g.r F y x.2.2
theorem F1s.mono {α : Type} {n : Str} {e : Rep α} {F F' : Hp} {fs : List (Str × V)} {x : α} (h : Ex F F') : F1s n e F fs x → F1s n e F' fs x := fun ⟨u, a, b⟩ => ⟨u, a, e.mono h b⟩
theorem F2s.mono {α β : Type} {n m : Str} {e : Rep α} {f : Rep β} {F F' : Hp} {fs : List (Str × V)} {x : α × β} (h : Ex F F') : F2s n m e f F fs x → F2s n m e f F' fs x := fun ⟨u, w, a, b, c⟩ => ⟨u, w, a, e.mono h b, f.mono h c⟩
theorem F3s.mono {α β γ : Type} {n m l : Str} {e : Rep α} {f : Rep β} {g : Rep γ} {F F' : Hp} {fs : List (Str × V)} {x : α × β × γ} (h : Ex F F') : F3s n m l e f g F fs x → F3s n m l e f g F' fs x := fun ⟨u, w, y, a, b, c, d⟩ => ⟨u, w, y, a, e.mono h b, f.mono h c, g.mono h d⟩
def pO2 {α β : Type} (C : Addr) (n m : Str) (e : Rep α) (f : Rep β) : Rep (α × β) := pOb C (F2s n m e f) F2s.mono
def pO3 {α β γ : Type} (C : Addr) (n m l : Str) (e : Rep α) (f : Rep β) (g : Rep γ) : Rep (α × β × γ) := pOb C (F3s n m l e f g) F3s.mono
section
variable {γ : Type} {C : Addr} {a b c : Str} {f : Rep β} {g' : Rep γ} {s : α} {t : α × β} {z : α × β × γ}
theorem fl_31 (cl : Cls K C) (na : NoAttr K C a) (r : (pO3 C a b c e f g').r F v z) (h : Ex F H) : ∃ w, e.r F w z.1 ∧ ∀ ⦃σ ta⦄, Val ta σ H v → Val (tFld K ta a) σ H w := by
  obtain ⟨p, dx, fs, rfl, hp, u, w, y, rfl, r1, r2, r3⟩ := r
  exact ⟨u, r1, fun _ _ ha Q k => ha _ ⟨p, C, dx, _, u, rfl, h _ _ hp, cl, na, lk_eq, k⟩⟩
theorem fl_32 (cl : Cls K C) (na : NoAttr K C b) (r : (pO3 C a b c e f g').r F v z) (h : Ex F H) (h1 : (b == a) = false := by decide +kernel) : ∃ w, f.r F w z.2.1 ∧ ∀ ⦃σ ta⦄, Val ta σ H v → Val (tFld K ta b) σ H w := by
  obtain ⟨p, dx, fs, rfl, hp, u, w, y, rfl, r1, r2, r3⟩ := r
  exact ⟨w, r2, fun _ _ ha Q k => ha _ ⟨p, C, dx, _, w, rfl, h _ _ hp, cl, na, (lk_ne h1).trans lk_eq, k⟩⟩
theorem fl_33 (cl : Cls K C) (na : NoAttr K C c) (r : (pO3 C a b c e f g').r F v z) (h : Ex F H) (h1 : (c == a) = false := by decide +kernel) (h2 : (c == b) = false := by decide +kernel) : ∃ w, g'.r F w z.2.2 ∧ ∀ ⦃σ ta⦄, Val ta σ H v → Val (tFld K ta c) σ H w := by
  obtain ⟨p, dx, fs, rfl, hp, u, w, y, rfl, r1, r2, r3⟩ := r
  exact ⟨y, r3, fun _ _ ha Q k => ha _ ⟨p, C, dx, _, y, rfl, h _ _ hp, cl, na, (lk_ne h1).trans ((lk_ne h2).trans lk_eq), k⟩⟩
theorem me_3 {m : Str} (r : (pO3 C a b c e f g').r F v z) (h : Ex F H) (h1 : (m == a) = false := by decide +kernel) (h2 : (m == b) = false := by decide +kernel) (h3 : (m == c) = false := by decide +kernel) : ∃ p dx fs, v = .ref p ∧ H p = some (.ins C dx fs) ∧ fs.lookup m = none := by
  obtain ⟨p, dx, fs, rfl, hp, u, w, y, rfl, _⟩ := r
  exact ⟨p, dx, _, rfl, h _ _ hp, (lk_ne h1).trans ((lk_ne h2).trans ((lk_ne h3).trans rfl))⟩
end
/-- the heap without p -/
def wo (H : Hp) (p : Addr) : Hp := fun a => if a = p then none else H a
theorem wo_same {H : Hp} {p : Addr} : wo H p p = none := if_pos rfl
theorem wo_ne {H : Hp} {p q : Addr} (h : q ≠ p) : wo H p q = H q := if_neg h
theorem Wf.start (f : Ex F H) (n : F p = none) : Wf F (wo H p) F H := ⟨fun a o h => by
    by_cases q : a = p
    · subst q; rw [wo_same] at h; cases h
    · rw [wo_ne q] at h; exact h, f, Ex.rfl', fun a o h h0 => by rw [h] at h0; cases h0⟩
theorem Xc.start (n : F p = none) (h : H p = some o) : Xc (wo H p) F H p o := ⟨wo_same, n, h⟩
/-- behind the making of x -/
theorem Wf.made {x dx : Addr} {o u : HO} (nx : H x = none) (nd : H dx = none) (w : Wf F (wo (upd (upd H dx o) x u) x) F' H') : Wf F H F' H' := by
  have e : Ex H (wo (upd (upd H dx o) x u) x) := fun a v h => by
    have h1 : a ≠ x := ne_of_none h nx
    have h2 : a ≠ dx := ne_of_none h nd
    rw [wo_ne h1, upd_ne h1, upd_ne h2]; exact h
  exact ⟨e.tr w.h, w.f, w.g, fun a o h h0 => e.non (w.n a o h h0)⟩
theorem Ex.made {x dx : Addr} {o u : HO} (f : Ex F H) (nx : H x = none) (nd : H dx = none) : Ex F (upd (upd H dx o) x u) := fun a v h => by
  have h' := f a v h
  rw [upd_ne (ne_of_none h' nx), upd_ne (ne_of_none h' nd)]; exact h'
theorem Xc.frzO {u : HO} (x : Xc H0 F H q u) (h : Fz F F' p) (hq : q ≠ p) (g : Ex F F') : Xc H0 F' H q u := ⟨x.z, h _ hq x.n, x.h⟩
/-- self.f = v -/
theorem a_fld {C dx : Addr} {fs : List (Str × V)} {a : Str} (cl : Cls K C) (na : NoAttr K C a) (x : Xc H0 F H p (.ins C dx fs)) (w : Wf F0 H0 F H) (hl : fs.length < 1000) (ho : Val to σ H (.ref p))
    (k : ∀ H', Wf F0 H0 F H' → Xc H0 F H' p (.ins C dx (putF a v fs)) → (∀ q o, H q = some o → q ≠ p → H' q = some o) → D.nx σ H') :
    (fun y H1 => to σ H1 fun x H2 => ∃ a' C' dx' fs', x = .ref a' ∧ H2 a' = some (.ins C' dx' fs') ∧ Cls K C' ∧ NoAttr K C' a ∧ fs'.length < 1000 ∧ D.nx σ (upd H2 a' (.ins C' dx' (putF a y fs')))) v H :=
  ho _ ⟨p, C, dx, fs, rfl, x.h, cl, na, hl, k _ (w.set x) x.set fun q o h hq => by rw [upd_ne hq]; exact h⟩
theorem e_fld {tv : TE} {a : Str} (h : tv σ H fun y H1 => to σ H1 fun x H2 => ∃ a' C' dx' fs', x = .ref a' ∧ H2 a' = some (.ins C' dx' fs') ∧ Cls K C' ∧ NoAttr K C' a ∧ fs'.length < 1000 ∧ D.nx σ (upd H2 a' (.ins C' dx' (putF a y fs')))) : sFld K to tv a D σ H := h
/-- reading a field of one's own object -/
theorem fl_X {C dx : Addr} {fs : List (Str × V)} {a : Str} (cl : Cls K C) (na : NoAttr K C a) (x : Xc H0 F H p (.ins C dx fs)) (hl : fs.lookup a = some u) (ho : Val to σ H (.ref p)) : Val (tFld K to a) σ H u :=
  fun Q k => ho _ ⟨p, C, dx, fs, u, rfl, x.h, cl, na, hl, k⟩
/-- it is made: it changes no more -/
theorem Xc.frzE {o : HO} (x : Xc H0 F H p o) (w : Wf F0 H0 F H) : ∃ F', Wf F0 H0 F' H ∧ Ex F F' ∧ F' p = some o := ⟨_, w.freeze x, Ex.new x.n, upd_same⟩
structure BL {α : Type} (e : Rep α) (F H : Hp) (p : Addr) (xs : List α) : Prop where
  x : ∃ vs, H p = some (.lst vs) ∧ All e F vs xs
structure BD {κ α : Type} [KeyT κ] (e : Rep α) (F H : Hp) (p : Addr) (m : List (κ × α)) : Prop where
  x : ∃ kvs, H p = some (.dK kvs) ∧ DA e F kvs m
theorem BL.step (x : BL e F H p xs) (w : Wf F H F' H') : BL e F' H' p xs := let ⟨vs, a, b⟩ := x.x; ⟨vs, w.h _ _ a, b.mono w.g⟩
theorem BL.ne (x : BL e F H p xs) (h : H q = none) : p ≠ q := let ⟨_, a, _⟩ := x.x; ne_of_none a h
theorem BL.frzO {X : Prop} (x : BL e F H q xs) (h : X) (hq : q ≠ p) (g : Ex F F') : BL e F' H q xs := let ⟨vs, a, b⟩ := x.x; ⟨vs, a, b.mono g⟩
theorem BL.kept (x : BL e F H q xs) (h : ∀ q o, H q = some o → q ≠ p → H' q = some o) (hq : q ≠ p) : BL e F H' q xs := let ⟨vs, a, b⟩ := x.x; ⟨vs, h _ _ a hq, b⟩
theorem XL.bw (x : XL e H0 F H p xs) : BL e F H p xs := let ⟨vs, a, b⟩ := x.x; ⟨vs, a.h, b⟩
end
section
variable {κ α : Type} [DecidableEq κ] [KeyT κ] {e : Rep α} {K : PySem.W.Frag} {σ : L2.St} {F0 H0 F F' H H' : Hp} {te td ty tx tv : TE} {Q : VK} {v w y z : V} {m : List (κ × α)} {p q : Addr} {j : κ} {x : α} {D : Ends}
omit [DecidableEq κ] in
theorem BD.step (x : BD e F H p m) (w : Wf F H F' H') : BD e F' H' p m := let ⟨vs, a, b⟩ := x.x; ⟨vs, w.h _ _ a, b.mono w.g⟩
omit [DecidableEq κ] in
theorem BD.ne (x : BD e F H p m) (h : H q = none) : p ≠ q := let ⟨_, a, _⟩ := x.x; ne_of_none a h
omit [DecidableEq κ] in
theorem BD.frzO {X : Prop} (x : BD e F H q m) (h : X) (hq : q ≠ p) (g : Ex F F') : BD e F' H q m := let ⟨vs, a, b⟩ := x.x; ⟨vs, a, b.mono g⟩
omit [DecidableEq κ] in
theorem BD.kept (x : BD e F H q m) (h : ∀ q o, H q = some o → q ≠ p → H' q = some o) (hq : q ≠ p) : BD e F H' q m := let ⟨vs, a, b⟩ := x.x; ⟨vs, h _ _ a hq, b⟩
omit [DecidableEq κ] in
theorem XD.bw (x : XD e H0 F H p m) : BD e F H p m := let ⟨vs, a, b⟩ := x.x; ⟨vs, a.h, b⟩
omit [DecidableEq κ] in
theorem D_bw (r : (pD e).r F v m) (f : Ex F H) : ∃ p, v = .ref p ∧ BD e F H p m := let ⟨p, vs, a, b, c⟩ := r; ⟨p, a, ⟨vs, f _ _ b, c⟩⟩
theorem in_BD (r : BD e F H p m) (hy : Val ty σ H (kV (KeyT.k j))) (hd : Val td σ H (.ref p)) : Val (tDIn ty td) σ H (.bl (hasT m j)) := by
  obtain ⟨kvs, hp, a⟩ := r.x
  exact fun Q k => hy _ (hd _ ⟨p, _, rfl, DGet.k hp, by rw [a.has j]; exact k⟩)
theorem ix_BD (r : BD e F H p m) (hx : valT m j = some x) : ∃ w, e.r F w x ∧ ∀ ⦃σ td ty⦄, Val td σ H (.ref p) → Val ty σ H (kV (KeyT.k j)) → Val (tDGet td ty) σ H w := by
  obtain ⟨kvs, hp, a⟩ := r.x
  obtain ⟨w, h1, h2⟩ := (a.get j).1 x hx
  exact ⟨w, h2, fun _ _ _ hd hy Q k => hd _ (hy _ ⟨p, w, rfl, by rw [← h1]; exact DGet.k hp, k⟩)⟩
/-- list(d) -/
def keyC (κ : Type) [KeyT κ] (b : Rep κ) : Prop := ∀ (F : Hp) (k : κ), b.r F (kV (KeyT.k k)) k
omit [DecidableEq κ] in
theorem DA.keys {b : Rep κ} (hb : keyC κ b) : ∀ {kvs : List (Key × V)} {m : List (κ × α)}, DA e F kvs m → All b F (kvs.map fun kv => kV kv.1) (m.map (·.1))
  | [], [], _ => trivial
  | p :: r, q :: s, ⟨a, _, c⟩ => ⟨by show b.r F (kV p.1) q.1; rw [a]; exact hb F q.1, DA.keys hb c⟩
  | [], _ :: _, q => q.elim
  | _ :: _, [], q => q.elim
end
/-- a method that may be called -/
structure Md (P : Program) (w : World) (K : PySem.W.Frag) (mg : Str → Option Value) (base : Heap) (CX : CXT) (k : Nat) (C : Addr) (m : Str) (ps : List Str) (sp : Sp) : Prop where
  ex : ∃ f fd, FnOk P w K mg base CX k f fd ps sp ∧ Meth K C m f ∧ Binds K fd ps []
/-- a class that makes -/
structure Nw (P : Program) (w : World) (K : PySem.W.Frag) (mg : Str → Option Value) (base : Heap) (CX : CXT) (k : Nat) (C : Addr) (x : Str) (ps : List Str) (sp : Sp) : Prop where
  ex : ∃ f fd, FnOk P w K mg base CX k f fd ps sp ∧ Mk K C f ∧ mg x = some (.ref C) ∧ Binds K fd ps []
section
variable {X : Cx} {k : Nat} {C : Addr} {x m : Str} {ps : List Str} {sp : Sp} {o e : Expr} {es : List Expr} {p pos apos : Pos} {ta : TE} {t : TA} {pl : Sem Bool}
theorem pe_md (M : Md X.prog X.w X.K X.mg X.base CX0 k C m ps sp) (cl : Cls X.K C) (hr : Room k X.A) (he : PE X o ta) (ha : PA X (e :: es) t)
    (hst : starEach (e :: es) X.env = (false, eval e X.env) :: starEach es X.env := by rfl) (hpl : (backTo pos (starEach es X.env)).any (·.1) = false := by rfl)
    (ht : eval (.Call (.Attribute o m apos) (e :: es) [] pos) X.env = (do
      let ov ← eval o X.env
      standAt apos.atName
      let (f, first) ← holding [ov] (getMethod ov m pl)
      callWith pos f first (backTo pos (starEach (e :: es) X.env)) (backToKw pos (keywordEach [] X.env))) := by rfl) :
    PE X (.Call (.Attribute o m apos) (e :: es) [] pos) (tMeth C m sp [] E0 ta t) := by
  obtain ⟨f, fd, F, hm, hb⟩ := M.ex
  exact pe_meth he cl hm F hr hb .nil pass0 ha hst hpl ht
theorem pe_md0 (M : Md X.prog X.w X.K X.mg X.base CX0 k C m ps sp) (cl : Cls X.K C) (hr : Room k X.A) (he : PE X o ta)
    (ht : eval (.Call (.Attribute o m apos) [] [] pos) X.env = (do
      let ov ← eval o X.env
      standAt apos.atName
      let (f, first) ← holding [ov] (getMethod ov m pl)
      callWith pos f first (backTo pos (starEach [] X.env)) (backToKw pos (keywordEach [] X.env))) := by rfl) :
    PE X (.Call (.Attribute o m apos) [] [] pos) (tMeth C m sp [] E0 ta tNil) := by
  obtain ⟨f, fd, F, hm, hb⟩ := M.ex
  exact pe_meth0 he cl hm F hr hb .nil pass0 ht
theorem pe_nw (M : Nw X.prog X.w X.K X.mg X.base CX0 k C x ps sp) (hr : Room (k + 1) X.A) (hg : Gl X x) (ha : PA X (e :: es) t) (hdb : (x == ("__debug__" : Str)) = false := by decide)
    (he : starEach (e :: es) X.env = (false, eval e X.env) :: starEach es X.env := by rfl) (hpl : (backTo pos (starEach es X.env)).any (·.1) = false := by rfl) : PE X (.Call (.Name x p) (e :: es) [] pos) (tMake C sp [] E0 t) := by
  obtain ⟨f, fd, F, hk, hm, hb⟩ := M.ex
  exact pe_make hk F hr hg hm hb .nil pass0 ha hdb he hpl
end
section
variable {σ : L2.St} {H : Hp} {C : Addr} {m : Str} {sp : Sp} {E : XK} {ta : TE} {t : TA} {Q : VK} {v : V} {p dx : Addr} {fs : List (Str × V)} {vs : List V}
theorem e_md (h : ta σ H fun x H1 => ∃ a dx fs, x = .ref a ∧ H1 a = some (.ins C dx fs) ∧ fs.lookup m = none ∧ t σ H1 fun vs H2 => sp (x :: vs) H2 Q E) : tMeth C m sp [] E ta t σ H Q := by
  show ta σ H fun x H1 => ∃ a dx fs, x = .ref a ∧ H1 a = some (.ins C dx fs) ∧ fs.lookup m = none ∧ t σ H1 fun vs H2 => sp (x :: (vs ++ [])) H2 Q E
  simpa only [List.append_nil] using h
theorem e_nw (h : t σ H fun vs H1 => ∀ x dx, H1 x = none → H1 dx = none → dx ≠ x → sp (.ref x :: vs) (upd (upd H1 dx (.own x)) x (.ins C dx [])) (fun v H2 => v = .non ∧ Q (.ref x) H2) E) : tMake C sp [] E t σ H Q := by
  show t σ H fun vs H1 => ∀ x dx, H1 x = none → H1 dx = none → dx ≠ x → sp (.ref x :: (vs ++ [])) (upd (upd H1 dx (.own x)) x (.ins C dx [])) (fun v H2 => v = .non ∧ Q (.ref x) H2) E
  simpa only [List.append_nil] using h
end
/-- an object of which only the fields are read -/
structure BO (C : Addr) (F H : Hp) (p dx : Addr) (fs : List (Str × V)) : Prop where
  h : H p = some (.ins C dx fs)
section
variable {α β γ : Type} {K : PySem.W.Frag} {σ : L2.St} {C p q dx : Addr} {fs : List (Str × V)} {H0 F F' H H' : Hp} {to ta : TE} {Q : VK} {a b c m : Str} {u v : V} {o : HO}
theorem BO.step (x : BO C F H p dx fs) (w : Wf F H F' H') : BO C F' H' p dx fs := ⟨w.h _ _ x.h⟩
theorem BO.ne (x : BO C F H p dx fs) (h : H q = none) : p ≠ q := ne_of_none x.h h
theorem BO.frzO {X : Prop} (x : BO C F H q dx fs) (h : X) (hq : q ≠ p) (g : Ex F F') : BO C F' H q dx fs := ⟨x.h⟩
theorem BO.kept (x : BO C F H q dx fs) (h : ∀ q o, H q = some o → q ≠ p → H' q = some o) (hq : q ≠ p) : BO C F H' q dx fs := ⟨h _ _ x.h hq⟩
theorem fl_B (na : NoAttr K C a) (cl : Cls K C) (x : BO C F H p dx fs) (hl : fs.lookup a = some u) (ho : Val to σ H (.ref p)) : Val (tFld K to a) σ H u :=
  fun Q k => ho _ ⟨p, C, dx, fs, u, rfl, x.h, cl, na, hl, k⟩
theorem put_ne {f g : Str} {v x : V} {r : List (Str × V)} (h : ¬ g = f) : putF f v ((g, x) :: r) = (g, x) :: putF f v r := if_neg h
theorem Xc.cast {fs' : List (Str × V)} (x : Xc H0 F H p (.ins C dx fs)) (e : fs = fs') : Xc H0 F H p (.ins C dx fs') := e ▸ x
/-- the first field, a dict, as it is borrowed -/
theorem st_bw {κ : Type} [KeyT κ] {e : Rep α} {f : Rep β} {g : Rep γ} {z : List (κ × α) × β × γ} (r : (pO3 C a b c (pD e) f g).r F v z) (h : Ex F H) (h1 : (m == a) = false := by decide +kernel) (h2 : (m == b) = false := by decide +kernel) (h3 : (m == c) = false := by decide +kernel) :
    ∃ p dx fs d, v = .ref p ∧ H p = some (.ins C dx fs) ∧ fs.lookup a = some (.ref d) ∧ BD e F H d z.1 ∧ fs.lookup m = none := by
  obtain ⟨p, dx, fs, rfl, hp, u, w, y, rfl, r1, r2, r3⟩ := r
  obtain ⟨d, rfl, bd⟩ := D_bw r1 h
  exact ⟨p, dx, _, d, rfl, h _ _ hp, lk_eq, bd, (lk_ne h1).trans ((lk_ne h2).trans ((lk_ne h3).trans rfl))⟩
end
end Wk
namespace Wk
open PySem L2
section
variable {K : PySem.W.Frag} {σ : L2.St} {F0 H0 F H H' : Hp} {ta to : TE} {Q : VK} {v : V} {xs : List Nat} {p q : Addr} {x : Nat}
theorem DA.nkeys {α : Type} {e : Rep α} {F : Hp} : ∀ {kvs : List (Key × V)} {m : List (Nat × α)}, DA e F kvs m → kvs.map (·.1) = ((m.map (·.1)).map Int.ofNat).map Sum.inl
  | [], [], _ => rfl
  | p :: r, q :: s, ⟨a, _, c⟩ => by rw [List.map_cons, List.map_cons, List.map_cons, List.map_cons, DA.nkeys c, a]; rfl
  | [], _ :: _, q => q.elim
  | _ :: _, [], q => q.elim
end
end Wk
namespace Wk
open PySem L2
/-- one of two kinds -/
def pAlt {α β : Type} (e : Rep α) (f : Rep β) : Rep (Sum α β) := ⟨fun F v x => match x with | .inl a => e.r F v a | .inr b => f.r F v b, fun {_ _ _ x} h q => by cases x with | inl a => exact e.mono h q | inr b => exact f.mono h q⟩
theorem alt_l {α β : Type} {e : Rep α} {f : Rep β} {F : Hp} {v : V} {x : Sum α β} {y : α} (r : (pAlt e f).r F v x) (h : x = Sum.inl y) : e.r F v y := by subst h; exact r
end Wk
namespace Wk
open PySem PySem.Spec PyProof.Rows L2
/-- sorted(d), any number of keys -/
def rSortedDX : List V → Hp → VK → Prop := fun xs H Q => ∃ (a : Addr) (kvs : List (Key × V)) (ks : List Int), xs = [.ref a] ∧ Rd H a (.dK kvs) ∧ kvs.map (·.1) = ks.map Sum.inl ∧ ks.length < 1000000 ∧ ∀ (ys : List Int) (p : Addr), ys.Perm ks → ys.Pairwise (· ≤ ·) → H p = none → Q (.ref p) (upd H p (.lst (ys.map V.int)))
section
variable {X : Cx}
theorem call_sortedDX (hcalm : X.calm = true) : CallR X (.builtin "sorted") rSortedDX := by
  intro pins s σ H xs us Q Iv rr qq
  obtain ⟨da, kvs, ks, ex, hd, hks, hbig, qq⟩ := qq
  subst ex
  obtain ⟨u1, eu, rx⟩ := vals1 rr
  subst eu
  cases rx
  obtain ⟨zz, lo, vs, rel, dd⟩ := dk_rd Iv.hok hd
  obtain ⟨ep, hat⟩ := dd.dictAt
  have hks2 : vs.map (·.1) = ks.map Sum.inl := rel.keys.symm.trans hks
  have hln : vs.length = ks.length := by
    have el := congrArg List.length hks2
    rw [List.length_map, List.length_map] at el; exact el
  have hsz : ks.length ≤ sizeLine := by rw [sizeLine_eq]; omega
  refine Calls.call_function_entry kind_sorted plain_sorted entry_sorted (args_sorted1 _) ?_
  unfold Builtin.«sorted»
  refine wpAny_bind (m := checkCount "sorted" 1 1 _) (wpAny_pure ?_)
  refine wpAny_bind (PySem.W.kdu_collect (A := X.A.in1) (PySem.W.kdl_dict (knd := mixKind X.prog X.w) (kvs := vs) (ep := ep) lo) (Iv.ok.hd hcalm) hat (by rw [hln]; exact hsz) fun hp2 tk2 ac hkp hac => ?_)
  have hal2 : ac.toList.length = ks.length := by rw [Array.length_toList, hac.1, hln]
  have hInt : IntsAre ac.toList ks := ints_each hal2 fun j v e => by
    obtain ⟨key, x, e1, e2⟩ := hac.2 j v (by rw [← Array.getElem?_toList]; exact e)
    have e3 : (vs.map (·.1))[j]? = some key := by rw [List.getElem?_map, e1]; rfl
    rw [hks2, List.getElem?_map] at e3
    cases e4 : ks[j]? with
    | none => rw [e4] at e3; cases e3
    | some y =>
      rw [e4] at e3
      have e5 : Sum.inl y = key := Option.some.inj e3
      subst e5
      rcases keyIs_shape (show keyIs (Sum.inl y) v = true from e2) with ⟨i, t, ek, ev⟩ | ⟨z, t, ek, ev⟩
      · cases ek; exact ⟨y, t, rfl, ev⟩
      · cases ek
  have Iv2 : Inv X pins σ H { s with heap := hp2, toks := tk2 } := Iv.kept hkp
  refine wpAny_bind (wpAny_newList ?_ (by rw [hal2]; exact hsz))
  have hob2 : (hp2.push (seqObj "list" ac.toList.toArray 0)).get? hp2.objs.size = some (seqObj "list" ac.toList.toArray 0) := Heap.get?_push_size _ rfl
  show wpAny _ _ _ _ _ { s with heap := hp2.push (seqObj "list" ac.toList.toArray 0), toks := tk2 }
  refine wpAny_bind (wpAny_holding (wpAny_call_entry slot_list_sort ⟨_, hob2, rfl⟩ entry_list_sort
    (SrtO.list_sort_ord (s := { s with heap := hp2.push (seqObj "list" ac.toList.toArray 0), toks := tk2 }) SrtO.swo_int hob2 (by rw [hal2]; exact hsz) (fun h2 => SrtO.ints_sortable hInt h2) fun out g1 g2 => ⟨_, rfl, ?_⟩) (args_list_sort _)))
  obtain ⟨k1, k2, k3⟩ := SrtO.ints_out hInt g1 g2
  obtain ⟨ep2, hep2⟩ := sortedHeap_at (vs := ac.toList) (out := out.toArray) hob2
  have hlen2 : ((out.map SrtO.iv).map V.int).length ≤ sizeLine := by rw [List.length_map, k2.length_eq]; exact hsz
  refine wpAny_pure ⟨_, rfl, .ref hp2.objs.size, upd H hp2.objs.size (.lst ((out.map SrtO.iv).map V.int)), Iv2.laid (t' := tk2) (fun b u e => ?_) (Nat.le_refl _)
    (show ObjOk X.prog X.w _ _ _ (.lst ((out.map SrtO.iv).map V.int)) from ⟨hlen2, out, ep2, vals_of_ints k1, hep2⟩), rfl, qq _ _ k2 k3 (Iv2.hok.fresh (Nat.le_refl _))⟩
  have hbl : b < hp2.objs.size := Heap.lt_size e
  rw [sortedHeap_old (Nat.ne_of_lt hbl) (by rw [size_push']; exact Nat.lt_succ_of_lt hbl)]
  exact Heap.get?_push_of_some _ e
end
section
variable {K : PySem.W.Frag} {F0 H0 F H H' : Hp} {Q : VK} {v : V}
theorem n_sortDX {α : Type} {e : Rep α} {m : List (Nat × α)} (r : (pD e).r F v m) (w : Wf F0 H0 F H) (hl : m.length < 1000000) (k : ∀ (ys : List Nat) p H', ys.Perm (m.map (·.1)) → ys.Pairwise (· ≤ ·) → H p = none → Wf F H F H' → XL pN H0 F H' p ys → Q (.ref p) H') : rSortedDX [v] H Q := by
  obtain ⟨p, kvs, rfl, hp, a⟩ := r
  refine ⟨p, kvs, (m.map (·.1)).map Int.ofNat, rfl, .inl (w.f _ _ hp), a.nkeys, by rw [List.length_map, List.length_map]; exact hl, fun ys q hperm hs hq => ?_⟩
  have e1 : ys = (ys.map Int.toNat).map Int.ofNat := by
    rw [List.map_map]
    have : ys.map (Int.ofNat ∘ Int.toNat) = ys.map id := List.map_congr_left fun y hy => by
      obtain ⟨n, _, rfl⟩ := List.mem_map.mp (hperm.mem_iff.mp hy)
      rfl
    rw [this, List.map_id]
  have e2 : (ys.map Int.toNat).Perm (m.map (·.1)) := by
    have := hperm.map Int.toNat
    rw [List.map_map (l := m.map (·.1))] at this
    have z : (m.map (·.1)).map (Int.toNat ∘ Int.ofNat) = (m.map (·.1)).map id := List.map_congr_left fun y _ => rfl
    rw [z, List.map_id] at this
    exact this
  have e3 : (ys.map Int.toNat).Pairwise (· ≤ ·) := List.pairwise_map.mpr (hs.imp fun h => Int.toNat_le_toNat h)
  have go : ∀ zs : List Nat, All pN F ((zs.map Int.ofNat).map V.int) zs := by
    intro zs
    induction zs with
    | nil => trivial
    | cons y zs ih => exact ⟨rfl, ih⟩
  have a2 := go (ys.map Int.toNat)
  rw [← e1] at a2
  exact k _ q _ e2 e3 hq (Wf.newX w.f hq) ⟨_, Xc.mk' w hq, a2⟩
end
end Wk
namespace Wk
open PySem L2
def tTry (K : PySem.W.Frag) (c : Value) (tb : WX → TS) (ts : Addr → Value → Option Addr → TS) (Wout : WX) : TS := fun D σ H => tb (wOnly K c ts Wout D) D σ H
theorem a_tryI {K : PySem.W.Frag} {c : Value} {tb : WX → TS} {ts : Addr → Value → Option Addr → TS} {Wout : WX} {D : Ends} {σ : L2.St} {H : Hp} (h : tb (wOnly K c ts Wout D) D σ H) : tTry K c tb ts Wout D σ H := h
theorem a_exc {K : PySem.W.Frag} {c cls : Value} {d : Option Addr} {ts : Addr → Value → Option Addr → TS} {Wout : WX} {D : Ends} {σ : L2.St} {H : Hp} (he : PySem.W.exmOne K cls c = some true) (h : ∀ a, H a = none → ts a cls d D σ H) : wOnly K c ts Wout D cls d σ H :=
  ⟨true, he, fun _ => h, fun q => Bool.noConfusion q⟩
/-- raise, in short -/
def tRaise (W : WX) (C : Addr) : TS := fun _ σ H => W (.ref C) none σ H
theorem e_callS {sp : Sp} {E : L2.St → XK} {tA : TA} {σ : L2.St} {H : Hp} {Q : VK} (h : tA σ H fun vs H1 => sp vs H1 Q (E σ)) : tCallS sp E tA σ H Q := h
/-- what the walk asks of an exception's class -/
structure XC (K : PySem.W.Frag) (mg : Str → Option Value) (n : Str) (C : Addr) : Prop where
  x : PySem.W.excIn K C [.type "ValueError", .type "Exception", .type "BaseException", .type "object"] "ValueError.__new__" = true
  g : mg n = some (.ref C)
  k : PySem.W.keepIn K (.ref C) = true
  b : PySem.W.subIn K (.ref C) (.type "BaseException") = some true
  t : PySem.W.typeIn K (.ref C) = some (.type "type")
theorem exm_of {K : PySem.W.Frag} {S T : Addr} {b : Bool} (h1 : PySem.W.subIn K (.ref T) (.type "BaseException") = some true) (h2 : PySem.W.isClsIn K T = true) (h3 : PySem.W.typeIn K (.ref T) = some (.type "type")) (h4 : PySem.W.subIn K (.ref S) (.ref T) = some b) :
    PySem.W.exmOne K (.ref S) (.ref T) = some b := by
  have e1 : (PySem.W.subIn K (.ref T) (.type "BaseException") == some true) = true := by rw [h1]; rfl
  have e2 : ((PySem.W.clsIn K T).isSome && PySem.W.typeIn K (.ref T) == some (.type "type")) = true := by
    have h2' : (PySem.W.clsIn K T).isSome = true := h2
    rw [h2', h3]; rfl
  show (if (PySem.W.subIn K (.ref T) (.type "BaseException") == some true) = true then (if ((PySem.W.clsIn K T).isSome && PySem.W.typeIn K (.ref T) == some (.type "type")) = true then PySem.W.subIn K (.ref S) (.ref T) else none) else none) = some b
  rw [if_pos e1, if_pos e2]; exact h4
section
variable {X : Cx} {k : Nat} {C : Addr} {x m : Str} {ps : List Str} {sp : Sp} {W : WX} {o e : Expr} {es : List Expr} {p pos apos : Pos} {ta : TE} {t : TA} {pl : Sem Bool}
theorem pe_fnL (F : Fn X.prog X.w X.K X.mg X.base (L2.CX X.prog X.w) k x ps sp) (hr : Room k X.A) (hg : Gl X x) (ha : PA X (e :: es) t) (hdb : (x == ("__debug__" : Str)) = false := by decide)
    (he : starEach (e :: es) X.env = (false, eval e X.env) :: starEach es X.env := by rfl) (hpl : (backTo pos (starEach es X.env)).any (·.1) = false := by rfl) : PE X (.Call (.Name x p) (e :: es) [] pos) (tCall sp [] E0 t) := by
  obtain ⟨f, fd, F, hm, hk, hb⟩ := F.ex
  exact pe_call F hr hg hm hk hb .nil passL ha hdb he hpl
theorem pe_fnS (F : Fn X.prog X.w X.K X.mg X.base (L2.CX X.prog X.w) k x ps sp) (tk : Takes X W) (hr : Room k X.A) (hg : Gl X x) (ha : PA X (e :: es) t) (hdb : (x == ("__debug__" : Str)) = false := by decide)
    (he : starEach (e :: es) X.env = (false, eval e X.env) :: starEach es X.env := by rfl) (hpl : (backTo pos (starEach es X.env)).any (·.1) = false := by rfl) : PE X (.Call (.Name x p) (e :: es) [] pos) (tCallS sp (WE W) t) := by
  obtain ⟨f, fd, F, hm, hk, hb⟩ := F.ex
  exact pe_callS F hr hg hm hk hb (fun σ => passAt tk σ) ha hdb he hpl
/-- methods -/
theorem pe_mdL (M : Md X.prog X.w X.K X.mg X.base (L2.CX X.prog X.w) k C m ps sp) (cl : Cls X.K C) (hr : Room k X.A) (he : PE X o ta) (ha : PA X (e :: es) t)
    (hst : starEach (e :: es) X.env = (false, eval e X.env) :: starEach es X.env := by rfl) (hpl : (backTo pos (starEach es X.env)).any (·.1) = false := by rfl)
    (ht : eval (.Call (.Attribute o m apos) (e :: es) [] pos) X.env = (do
      let ov ← eval o X.env
      standAt apos.atName
      let (f, first) ← holding [ov] (getMethod ov m pl)
      callWith pos f first (backTo pos (starEach (e :: es) X.env)) (backToKw pos (keywordEach [] X.env))) := by rfl) :
    PE X (.Call (.Attribute o m apos) (e :: es) [] pos) (tMeth C m sp [] E0 ta t) := by
  obtain ⟨f, fd, F, hm, hb⟩ := M.ex
  exact pe_meth he cl hm F hr hb .nil passL ha hst hpl ht
def tMdS (C : Addr) (m : Str) (sp : Sp) (E : L2.St → XK) (ta : TE) (t : TA) : TE := fun σ H Q => ta σ H fun x H1 => ∃ a dx fs, x = .ref a ∧ H1 a = some (.ins C dx fs) ∧ fs.lookup m = none ∧ t σ H1 fun vs H2 => sp (x :: vs) H2 Q (E σ)
theorem e_mdS {E : L2.St → XK} {σ : L2.St} {H : Hp} {Q : VK} (h : ta σ H fun x H1 => ∃ a dx fs, x = .ref a ∧ H1 a = some (.ins C dx fs) ∧ fs.lookup m = none ∧ t σ H1 fun vs H2 => sp (x :: vs) H2 Q (E σ)) : tMdS C m sp E ta t σ H Q := h
theorem pe_mdS (M : Md X.prog X.w X.K X.mg X.base (L2.CX X.prog X.w) k C m ps sp) (tk : Takes X W) (cl : Cls X.K C) (hr : Room k X.A) (he : PE X o ta) (ha : PA X (e :: es) t)
    (hst : starEach (e :: es) X.env = (false, eval e X.env) :: starEach es X.env := by rfl) (hpl : (backTo pos (starEach es X.env)).any (·.1) = false := by rfl)
    (ht : eval (.Call (.Attribute o m apos) (e :: es) [] pos) X.env = (do
      let ov ← eval o X.env
      standAt apos.atName
      let (f, first) ← holding [ov] (getMethod ov m pl)
      callWith pos f first (backTo pos (starEach (e :: es) X.env)) (backToKw pos (keywordEach [] X.env))) := by rfl) :
    PE X (.Call (.Attribute o m apos) (e :: es) [] pos) (tMdS C m sp (WE W) ta t) := by
  obtain ⟨f, fd, F, hm, hb⟩ := M.ex
  refine ⟨fun pins s σ H Q Iv hh => ?_⟩
  refine PySem.W.methodCall_KW (pl := pl) (thn (he.run pins s σ H _ Iv hh) fun u s1 ⟨x, H1, Iv1, rx, a, dx, fs, ex, ea, lk, qq⟩ => ?_) ht
  subst ex
  obtain rfl : u = Value.ref a := rx
  refine getmeth_ok Iv1 ea cl hm lk ?_
  refine PySem.W.callWith_K (first := [.ref a]) (h₀ := X.base) Iv1.ok.mod.kin hm.kp (thn (ha.run pos pins s1 σ H1 _ Iv1 qq) fun us s2 ⟨vs, H2, Iv2, rv, q2⟩ => ⟨Iv2.kIn, ?_⟩) hst hpl
  exact run_fnS (us := .ref a :: us) (vs := .ref a :: vs) F hr hb (passAt tk σ) Iv2 (.cons rfl rv) q2
end
theorem a_raise {W : WX} {C : Addr} {D : Ends} {σ : L2.St} {H : Hp} (h : W (.ref C) none σ H) : tRaise W C D σ H := h
end Wk
namespace Wk
open PySem L2
/-- a thing: a whole number, a truth, None, a text, or another one of a kind that is told -/
inductive An where
  | i (n : Int)
  | b (b : Bool)
  | n
  | s (x : Str)
  | o (T : String)
  | l (xs : List An)
  | t (xs : List An)
mutual
def anR (F : Hp) : An → V → Prop
  | .i n, v => v = .int n
  | .b b, v => v = .bl b
  | .n, v => v = .non
  | .s x, v => v = .str x
  | .o T, v => ∃ p, v = .ref p ∧ ((T = "list" ∧ ∃ vs, F p = some (.lst vs)) ∨ (T = "tuple" ∧ ∃ vs, F p = some (.tup vs)) ∨ (T = "dict" ∧ ∃ kvs, F p = some (.dK kvs)))
  | .l xs, v => ∃ p vs, v = .ref p ∧ F p = some (.lst vs) ∧ anRs F xs vs
  | .t xs, v => ∃ p vs, v = .ref p ∧ F p = some (.tup vs) ∧ anRs F xs vs
def anRs (F : Hp) : List An → List V → Prop
  | [], [] => True
  | x :: xs, v :: vs => anR F x v ∧ anRs F xs vs
  | _, _ => False
end
mutual
theorem anR_mono {F F' : Hp} (h : Ex F F') : ∀ {x : An} {v : V}, anR F x v → anR F' x v
  | .i _, _, r => r
  | .b _, _, r => r
  | .n, _, r => r
  | .s _, _, r => r
  | .o T, v, r => by
    obtain ⟨p, e, q⟩ := (show ∃ p, v = .ref p ∧ _ from r)
    refine ⟨p, e, ?_⟩
    rcases q with ⟨t, vs, q⟩ | ⟨t, vs, q⟩ | ⟨t, vs, q⟩
    · exact .inl ⟨t, vs, h _ _ q⟩
    · exact .inr (.inl ⟨t, vs, h _ _ q⟩)
    · exact .inr (.inr ⟨t, vs, h _ _ q⟩)
  | .l _, _, ⟨p, vs, a, b, c⟩ => ⟨p, vs, a, h _ _ b, anRs_mono h c⟩
  | .t _, _, ⟨p, vs, a, b, c⟩ => ⟨p, vs, a, h _ _ b, anRs_mono h c⟩
theorem anRs_mono {F F' : Hp} (h : Ex F F') : ∀ {xs : List An} {vs : List V}, anRs F xs vs → anRs F' xs vs
  | [], [], _ => trivial
  | _ :: _, _ :: _, ⟨a, b⟩ => ⟨anR_mono h a, anRs_mono h b⟩
  | [], _ :: _, r => r.elim
  | _ :: _, [], r => r.elim
end
def pA : Rep An := ⟨fun F v x => anR F x v, fun h r => anR_mono h r⟩
theorem anRs_all {F : Hp} : ∀ {xs : List An} {vs : List V}, anRs F xs vs ↔ All pA F vs xs
  | [], [] => Iff.rfl
  | x :: xs, v :: vs => ⟨fun ⟨a, b⟩ => ⟨a, anRs_all.mp b⟩, fun ⟨a, b⟩ => ⟨a, anRs_all.mpr b⟩⟩
  | [], _ :: _ => ⟨fun q => q.elim, fun q => q.elim⟩
  | _ :: _, [] => ⟨fun q => q.elim, fun q => q.elim⟩
theorem an_l {F : Hp} {v : V} {xs : List An} : pA.r F v (.l xs) ↔ (pL pA).r F v xs :=
  ⟨fun r => let ⟨p, vs, a, b, c⟩ := (show ∃ p vs, v = .ref p ∧ F p = some (.lst vs) ∧ anRs F xs vs from r); ⟨p, vs, a, b, anRs_all.mp c⟩, fun ⟨p, vs, a, b, c⟩ => (show ∃ p vs, v = .ref p ∧ F p = some (.lst vs) ∧ anRs F xs vs from ⟨p, vs, a, b, anRs_all.mpr c⟩)⟩
theorem an_t {F : Hp} {v : V} {xs : List An} : pA.r F v (.t xs) ↔ (pTL pA).r F v xs :=
  ⟨fun r => let ⟨p, vs, a, b, c⟩ := (show ∃ p vs, v = .ref p ∧ F p = some (.tup vs) ∧ anRs F xs vs from r); ⟨p, vs, a, b, anRs_all.mp c⟩, fun ⟨p, vs, a, b, c⟩ => (show ∃ p vs, v = .ref p ∧ F p = some (.tup vs) ∧ anRs F xs vs from ⟨p, vs, a, b, anRs_all.mpr c⟩)⟩
def An.ty : An → String
  | .i _ => "int"
  | .b _ => "bool"
  | .n => "NoneType"
  | .s _ => "str"
  | .o T => T
  | .l _ => "list"
  | .t _ => "tuple"
/-- isinstance(x, T) for a built-in T -/
def isA (T : String) (x : An) : Bool := x.ty == T || (T == "int" && x.ty == "bool")
section
variable {α β : Type} {e : Rep α} {f : Rep β} {K : PySem.W.Frag} {σ : L2.St} {F F' H : Hp} {ta : TE} {v : V} {x : An} {xs : List α} {y : α × β}
theorem an_ty (r : pA.r F v x) (h : Ex F H) : TyX K H v (.type x.ty) := by
  cases x with
  | i n => cases (show v = V.int n from r); exact .base (.int _)
  | b b => cases (show v = V.bl b from r); exact .base (.bl _)
  | n => cases (show v = V.non from r); exact .base .non
  | s x => cases (show v = V.str x from r); exact .base (.str _)
  | o T =>
    obtain ⟨p, rfl, q⟩ := (show ∃ p, v = .ref p ∧ _ from r)
    rcases q with ⟨rfl, vs, q⟩ | ⟨rfl, vs, q⟩ | ⟨rfl, vs, q⟩
    · exact .base (.lst (h _ _ q))
    · exact .base (.tup (h _ _ q))
    · exact .base (.dK (h _ _ q))
  | l xs =>
    obtain ⟨p, vs, rfl, q, _⟩ := an_l.mp r
    exact .base (.lst (h _ _ q))
  | t xs =>
    obtain ⟨p, vs, rfl, q, _⟩ := an_t.mp r
    exact .base (.tup (h _ _ q))
theorem kit_isA (T : String) (r : pA.r F v x) (hT : ∀ u ∈ ["int", "bool", "NoneType", "str", "list", "tuple", "dict"], kitB u T = some (u == T || (T == "int" && u == "bool"))) : kitB x.ty T = some (isA T x) := by
  unfold isA
  cases x with
  | i n => exact hT "int" (by simp)
  | b b => exact hT "bool" (by simp)
  | n => exact hT "NoneType" (by simp)
  | s x => exact hT "str" (by simp)
  | o T' =>
    obtain ⟨p, _, q⟩ := (show ∃ p, v = .ref p ∧ _ from r)
    rcases q with ⟨e, _⟩ | ⟨e, _⟩ | ⟨e, _⟩ <;> subst e
    · exact hT "list" (by simp)
    · exact hT "tuple" (by simp)
    · exact hT "dict" (by simp)
  | l xs => exact hT "list" (by simp)
  | t xs => exact hT "tuple" (by simp)
theorem v_isiA (T : String) (ha : Val ta σ H v) (r : pA.r F v x) (h : Ex F H) (hT : ∀ u ∈ ["int", "bool", "NoneType", "str", "list", "tuple", "dict"], kitB u T = some (u == T || (T == "int" && u == "bool")) := by decide +kernel) : Val (tCB (rIsi K) (tCons ta (tCons (tC (.ty T)) tNil))) σ H (.bl (isA T x)) :=
  v_isi ha (an_ty r h) (kit_isA T r hT)
theorem an_i {n : Int} (r : pA.r F v x) (h : x = An.i n) : v = .int n := by subst h; exact r
end
/-- a constant of the module -/
theorem pe_globE {X : Cx} {x : Str} {v : V} {pos : Pos} (h : ∃ u, X.mg x = some u ∧ RelV v u) (hg : Gl X x) (hd : (x == ("__debug__" : Str)) = false := by decide) : PE X (.Name x pos) (tC v) := by
  obtain ⟨u, h1, h2⟩ := h
  exact pe_glob hg h1 h2 hd
end Wk
namespace PySem
open Sem (wp)
open AutoSeq1 (wpAny_loadPart')
theorem enumT_meets (tt : Addr) (o : Obj) (items : Array Value) (n : Nat) (hcls : o.cls = .type "tuple") (hdat : o.data = .seq items n) :
    Meets (Builtin.«enumerate.__new__» ⟨[.type "enumerate", .ref tt], []⟩) (fun _ R s => s.heap.get? tt = some o ∧
      R (.ok (.ret (.ref (s.heap.push { cls := .type "tuple_iterator", data := .fields #[.ref tt, .int 0 0] }).objs.size)))
        { s with heap := (s.heap.push { cls := .type "tuple_iterator", data := .fields #[.ref tt, .int 0 0] }).push { cls := .type "enumerate", data := .fields #[.none, .bool false, .ref s.heap.objs.size, rawInt 0, .none, .none] } }) :=
  .of_wp fun prog w A R s h => by
    obtain ⟨hp, g, d, tk, os⟩ := s
    obtain ⟨hl, h⟩ := h
    have hsub := sub_enumerate
    obtain ⟨oc, od, odt, osl⟩ := o
    replace hcls : oc = .type "tuple" := hcls
    replace hdat : odt = .seq items n := hdat
    subst hcls hdat
    have hT : Heap.IsTuple (Shared.heap ⟨hp, g, d, tk, os⟩) tt items := ⟨_, hl, rfl, n, rfl⟩
    wp_walk using wpAny_loadPart' hl
    refine wpAny_stack_any fun st => wpAny_pure ?_
    split
    · rename_i c _ _ _ _ _
      cases (c == Value.type "enumerate")
      · (wp_walk using wpAny_loadPart' hl, wpAny_pyIter_tuple hT); exact ⟨_, rfl, h⟩
      · (wp_walk using wpAny_loadPart' hl, wpAny_pyIter_tuple hT); exact ⟨_, rfl, h⟩
    · (wp_walk using wpAny_loadPart' hl, wpAny_pyIter_tuple hT); exact ⟨_, rfl, h⟩
section
variable {prog : Program} {w : World} {A : Around} {E : Value → Shared → Prop} {s : Shared}
theorem call_enumT {tt : Addr} {items : Array Value} {Q : Value → Shared → Prop} (hL : s.heap.IsTuple tt items)
    (h : ∀ h', IsEnum h' (s.heap.objs.size + 1) s.heap.objs.size 0 .none → h'.IsTupleIter s.heap.objs.size tt 0 → h'.objs.size = s.heap.objs.size + 2 → (∀ b o, s.heap.get? b = some o → h'.get? b = some o) → Q (.ref (s.heap.objs.size + 1)) { s with heap := h' }) :
    wpAny (model prog w) A (call (.type "enumerate") [.ref tt]) Q E s := by
  obtain ⟨ob, hl, hcl, n, hda⟩ := hL
  refine callType_new F.called_enumerate (by decide) (F.typeCall_enumerate_1 _) (F.newCall_enumerate_1 _) (fun obj => F.args_object_init_2 obj _) F.entry_enumerate_new (enumT_meets tt ob items n hcl hda) ⟨hl, ?_⟩
  have hsz : (s.heap.push { cls := .type "tuple_iterator", data := .fields #[.ref tt, .int 0 0] }).objs.size = s.heap.objs.size + 1 := Heap.size_push ..
  show _ ∧ _
  rw [hsz]
  have hen : IsEnum ((s.heap.push { cls := .type "tuple_iterator", data := .fields #[.ref tt, .int 0 0] }).push { cls := .type "enumerate", data := .fields #[.none, .bool false, .ref s.heap.objs.size, rawInt 0, .none, .none] }) (s.heap.objs.size + 1) s.heap.objs.size 0 .none := by
    have q := Heap.get?_push_size (s.heap.push { cls := .type "tuple_iterator", data := .fields #[.ref tt, .int 0 0] }) (o := { cls := .type "enumerate", data := .fields #[.none, .bool false, .ref s.heap.objs.size, rawInt 0, .none, .none] }) rfl
    rw [hsz] at q; exact q
  exact ⟨⟨_, hen, rfl⟩, h _ hen ⟨_, Heap.get?_push_of_some _ (Heap.get?_push_size _ rfl), rfl, rfl⟩ (by rw [Heap.size_push, hsz]) fun b o x => Heap.get?_push_of_some _ (Heap.get?_push_of_some _ x)⟩
end
end PySem
namespace Wk
open PySem PySem.Spec PyProof.Rows L2
/-- the tuple at a as it stands at each turn, each item in a new pair -/
def IteT (K : PySem.W.Frag) (a : Addr) : It :=
  ⟨fun i H => ∃ (xs : List V) (x : V), SqT K H a xs ∧ xs[i]? = some x, fun i H v H' => ∃ T x, v = .ref T ∧ H T = none ∧ H' = upd H T (.tup [.int (i : Nat), x]) ∧ ∀ xs, SqT K H a xs → xs[i]? = some x, fun i H => ∃ xs : List V, SqT K H a xs ∧ xs.length ≤ i⟩
theorem enumT_end {prog : Program} {w : World} {A : Around} {E : Value → Shared → Prop} {s : Shared} {en iw tt : Addr} {c : Int} {i : Nat} {items : Array Value} {old : Value} {Q : Option Value → Shared → Prop} (hh : A.handled = none)
    (hen : IsEnum s.heap en iw c old) (hit : s.heap.IsTupleIter iw tt i) (ht : s.heap.IsTuple tt items) (hx : items[i]? = none) (hQ : ∀ h', Heap.ExtBut iw s.heap h' → Q none { s with heap := h' }) : wpAny (model prog w) A (pyNext (.ref en)) Q E s := by
  have hTy2 : s.TypeIs (.ref en) "enumerate" := ⟨_, hen, rfl⟩
  unfold pyNext
  refine wpAny_bind (wpAny_attempt (wpAny_callSpecial?_slot (name := Str.ofString "__next__") hTy2 F.slot_enumerate_next (wpAny_call_entry F.slot_enumerate_next hTy2 F.entry_enumerate_next ?_ (F.args_enumerate_next_1 _))))
  show wpAny _ _ (field (.ref en) 2 >>= _) _ _ _
  refine wpAny_bind (wpAny_field hen rfl (x := .ref iw) rfl ?_)
  refine wpAny_bind (wpAny_nextOf_tuple_end hh hit ht hx fun h' x2 hx1 hx2 => ?_)
  obtain ⟨ob, ho, hcl⟩ := hx2
  refine wpAny_bind (wpAny_isInstance (T := "StopIteration") (b := true) ⟨ob, ho, hcl⟩ isSubtype_stop ?_)
  exact wpAny_pure (hQ _ hx1)
theorem turn_enumT {P : Program} {w : World} {K : PySem.W.Frag} {elts : List Expr} {kk : Nat} {tpos : Pos} (a en iw : Addr) :
    Turn P w K (.Tuple elts kk tpos) (IteT K a) [en, iw] en (fun i h => (∃ old, IsEnum h en iw ((i : Nat) : Int) old) ∧ h.IsTupleIter iw a i ∧ en ≠ iw ∧ a ≠ iw ∧ en ≠ a) where
  mem := by simp
  obj := fun i h stt b hb => by
    obtain ⟨⟨old, hen⟩, ⟨o, ho, hc, hd⟩, _⟩ := stt
    have e' : b = en ∨ b = iw := by simpa using hb
    rcases e' with z | z
    · rw [z]; exact ⟨_, hen, fun v q => nomatch q⟩
    · rw [z]; exact ⟨o, ho, fun v q => by rw [hd] at q; cases q⟩
  keep := fun i h h' stt k => let ⟨⟨old, hen⟩, hi, hne⟩ := stt; ⟨⟨old, k en (by simp) _ hen⟩, hi.at fun o q => k iw (by simp) o q, hne⟩
  item := by
    intro X hP hw hK hc i pins s σ H E Iv hff stt hg
    subst hP hw hK
    obtain ⟨⟨old, hen⟩, hit, hne, hai, hea⟩ := stt
    obtain ⟨xs, x, hq, hx⟩ := hg
    obtain ⟨its, rv, pt, hz⟩ := Iv.tuple hq
    obtain ⟨u, hu, ru⟩ := rv.get hx
    have hT0 : s.heap.IsTuple a its.toArray := pt
    have hel : en < s.heap.objs.size := Heap.lt_size hen
    have hil : iw < s.heap.objs.size := by obtain ⟨_, q, _⟩ := hit; exact Heap.lt_size q
    have hlt : i < its.toArray.size := by rw [List.size_toArray]; exact (List.getElem?_eq_some_iff.mp hu).1
    refine wpAny_pyNext_enum_itemD (Draws.tuple (A := X.A.in1) (Iv.ok.hd hc) iw a hai its.toArray) hen ⟨hit, hT0⟩ hlt hne (by simp [hne, hea]) fun x2 h' tk hP ho hstt' hT hsz hkp => ?_
    obtain rfl : x2 = u := by
      have h1 : its[i]? = some x2 := by simpa using hP
      rw [hu] at h1; exact (Option.some.inj h1).symm
    refine ⟨_, rfl, wpAny_letOwnedTupleGo_enum (s := { s with heap := h', toks := tk + 1 }) ho fun h'' he' sb => ?_⟩
    have hT2 : h''.get? s.heap.objs.size = some { cls := .type "tuple", data := .seq #[.int i tk, x2] } := (sb.2 _ (Nat.ne_of_gt hel)).trans hT
    have newt : ObjOk X.prog X.w (upd H s.heap.objs.size (.tup [.int (i : Nat), x])) h'' s.heap.objs.size (.tup [.int (i : Nat), x]) :=
      ⟨by show 2 ≤ sizeLine; decide, [.int i tk, x2], .cons ⟨_, rfl⟩ (.cons ru .nil), ⟨_, hT2, rfl, _, rfl⟩⟩
    have Iv1 : Inv X pins σ (upd H s.heap.objs.size (.tup [.int (i : Nat), x])) { s with heap := h'', toks := tk + 1 } :=
      Iv.turnedNew (ch := [en, iw]) (fun b ob hb q => (sb.2 b (fun z => hb (by simp [z]))).trans (hkp b ob (fun z => hb (by simp [z])) (fun z => hb (by simp [z])) q)) hff (Nat.le_refl _) newt
    refine ⟨.ref s.heap.objs.size, _, Iv1, rfl, ⟨_, x, rfl, Iv.hok.fresh (Nat.le_refl _), rfl, fun ys hy => by rw [Iv.tuple_inj hy hq]; exact hx⟩, ⟨⟨x2, ?_⟩, hstt'.1.at fun o q => (sb.2 iw (Ne.symm hne)).trans q, hne, hai, hea⟩, fun b hb => ?_⟩
    · have e1 : ((i + 1 : Nat) : Int) = (i : Int) + 1 := by omega
      rw [e1]; exact he'
    · have hb' : b < s.heap.objs.size := by
        have e' : b = en ∨ b = iw := by simpa using hb
        rcases e' with z | z <;> rw [z] <;> assumption
      rw [upd_ne (Nat.ne_of_lt hb')]
      exact (hff b hb).1
  done := by
    intro X hP hw hK hc i pins s σ H E Iv hff stt hg
    subst hP hw hK
    obtain ⟨⟨old, hen⟩, hit, hne, hai, hea⟩ := stt
    obtain ⟨xs, hq, hx⟩ := hg
    obtain ⟨its, rv, pt, hz⟩ := Iv.tuple hq
    obtain ⟨f0, f1, f2, f3, f4, f5⟩ := hff iw (by simp)
    have hlen := rv.length
    have hT0 : s.heap.IsTuple a its.toArray := pt
    exact enumT_end (Iv.ok.hd hc) hen hit hT0 (by simp; omega) fun h' eb => ⟨rfl, Iv.turned (t' := s.toks) (fun b o hb q => eb b o hb q) f0 f1 f3 f4 f5⟩
  self := fun A i s Q E stt h => let ⟨⟨_, hen⟩, _⟩ := stt; wpAny_pyIter_enum hen h
def iEnumT (K : PySem.W.Frag) (ta : TA) : TI := fun σ H R => ta σ H fun vs H1 => ∃ a xs, vs = [.ref a] ∧ SqT K H1 a xs ∧ R (IteT K a) H1
theorem pi_enumT {X : Cx} {e : Expr} {ta : TA} {p pos tpos : Pos} {elts : List Expr} {kk : Nat} (hg : Gl X "enumerate") (hm : X.mg "enumerate" = none) (ha : PA X [e] ta) (hs : starEach [e] X.env = [(false, eval e X.env)] := by rfl) :
    PI X (.Tuple elts kk tpos) (.Call (.Name "enumerate" p) [e] [] pos) (iEnumT X.K ta) := by
  refine ⟨fun pins s σ H R Iv h => ?_⟩
  refine Call_ (ld_blt Iv hg hm boot_enumerate (PyProof.Rows.callWith_type1 (thn (ha.run pos pins s σ H _ Iv h) fun us s1 ⟨vs, H1, Iv1, r1, q1⟩ => ?_) hs rfl))
  obtain ⟨a, xs, ex, hq, qq⟩ := q1
  subst ex
  cases r1 with
  | cons r rr =>
    cases rr
    cases r
    obtain ⟨its, rv, pt, hz⟩ := Iv1.tuple hq
    have hT0 : s1.heap.IsTuple a its.toArray := pt
    have hal : a < s1.heap.objs.size := by obtain ⟨o, ho, _⟩ := hT0; exact Heap.lt_size ho
    refine call_enumT hT0 fun h' hen hit hsz hkp => wpAny_pyIter_enum hen ?_
    have Iv2 : Inv X pins σ H1 { s1 with heap := h' } := Iv1.kept (t' := s1.toks) hkp
    refine ⟨s1.heap.objs.size + 1, [s1.heap.objs.size + 1, s1.heap.objs.size], _, _, H1, rfl, Iv2, turn_enumT a (s1.heap.objs.size + 1) s1.heap.objs.size, ⟨⟨.none, hen⟩, hit, Nat.succ_ne_self _, Nat.ne_of_lt hal, Nat.ne_of_gt (Nat.lt_succ_of_lt hal)⟩, fun b hb => ?_, qq⟩
    have hle2 : s1.heap.objs.size ≤ b := by
      have z : b = s1.heap.objs.size + 1 ∨ b = s1.heap.objs.size := by simpa using hb
      rcases z with z | z
      · rw [z]; exact Nat.le_succ _
      · rw [z]; exact Nat.le_refl _
    exact Iv1.fpOk hle2 (Iv1.hok.fresh hle2)
section
variable {α : Type} {e : Rep α} {K : PySem.W.Frag} {F H : Hp} {v : V} {xs : List α}
theorem src_enumT {R : It → Hp → Prop} (r : (pTL e).r F v xs) (f : Ex F H) (k : ∀ a, TWk (IteT K a) F (pT2 pN e) (enumT xs) → R (IteT K a) H) : ∃ a ws, [v] = [V.ref a] ∧ SqT K H a ws ∧ R (IteT K a) H := by
  obtain ⟨p, vs, rfl, hp, a⟩ := r
  refine ⟨p, vs, rfl, SqT.of (f _ _ hp), k p ?_⟩
  refine TWk.pairs (G := fun H => SqT K H p vs) (X := fun i => some (.int (i : Nat))) (Y := fun i => vs[i]?) ?_ (fun F' H' h1 h2 => SqT.of (h2 _ _ (h1 _ _ hp))) ?_ ?_
  · rw [enumT_len, ← a.len]
    refine ⟨fun i _ hi q => ⟨vs, vs[i], q, by simp [hi]⟩, fun _ q => ⟨vs, q, Nat.le_refl _⟩, fun i H v H' _ q y => ?_⟩
    obtain ⟨T, x, h1, h2, h3, h4⟩ := y
    exact ⟨T, .int (i : Nat), x, h1, h2, h3, rfl, h4 vs q⟩
  · intro i F' x _ hi hx
    rw [enumT_len] at hi
    rw [enumT_get, List.getElem?_eq_getElem hi]
    exact ⟨i, rfl, (Option.some.inj hx).symm⟩
  · intro i F' x h1 hi hx
    obtain ⟨z, hz, rz⟩ := a.got hx
    rw [enumT_get, hz]
    exact ⟨z, rfl, e.mono h1 rz⟩
/-- tuple(a list) -/
def rTupOf (K : PySem.W.Frag) : List V → Hp → VK → Prop := fun xs H Q => ∃ p ys, xs = [.ref p] ∧ ((SqL K H p ys ∧ ∀ l, H l = none → Q (.ref l) (upd H l (.tup ys))) ∨ (SqT K H p ys ∧ Q (.ref p) H))
theorem n_tupOf {F0 H0 : Hp} {Q : VK} (r : (pL e).r F v xs) (w : Wf F0 H0 F H) (k : ∀ p F' H', Wf F H F' H' → (pTL e).r F' (.ref p) xs → Q (.ref p) H') : rTupOf K [v] H Q := by
  obtain ⟨p, vs, rfl, hp, a⟩ := r
  exact ⟨p, vs, rfl, .inl ⟨SqL.of (w.f _ _ hp), fun l hl => k l _ _ (Wf.new w.f hl) ⟨l, vs, rfl, upd_same, a.mono (Ex.new (w.f.non hl))⟩⟩⟩
end
end Wk
namespace Wk
open PySem PySem.Spec PyProof.Rows L2
end Wk
namespace Wk
open PySem L2
end Wk
namespace Wk
open PySem L2
end Wk
namespace Wk
/-- of n + 1 masks below 2 ** n one is a sum of those ahead -/
theorem some_sum {n : Nat} {vs : List Nat} (hl : vs.length = n + 1) (hv : ∀ v ∈ vs, v < 2 ^ n) : ∃ j, j ≤ n ∧ Span (vs.take j) (vs.getD j 0) := by
  refine Classical.byContradiction fun hno => ?_
  have inj : ∀ S, S < 2 ^ (n + 1) → comb vs S = 0 → S = 0 := by
    intro S hS h0
    refine Classical.byContradiction fun z => ?_
    have hp := bits_pos z
    generalize hk : bits S - 1 = k at *
    have kb : S.testBit k = true := by rw [← hk]; exact bits_bit z
    have kn : k ≤ n := by have := bits_le.mpr hS; omega
    refine hno ⟨k, kn, S, ?_⟩
    have e1 : comb vs S = comb (vs.take (k + 1)) S := by
      have : ∀ (vs : List Nat) (k S : Nat), bits S ≤ k → comb vs S = comb (vs.take k) S := by
        intro vs
        induction vs with
        | nil => intro k S _; rw [List.take_nil]
        | cons v vs ih =>
          intro k S hb
          cases k with
          | zero =>
            have : S = 0 := bits_eq_zero.mp (by omega)
            subst this; rw [comb_zero]; rfl
          | succ k =>
            show (if S.testBit 0 = true then v else 0) ^^^ comb vs (S / 2) = (if S.testBit 0 = true then v else 0) ^^^ comb (vs.take k) (S / 2)
            rw [ih k (S / 2) (bits_le.mpr (by have := bits_le.mp hb; rw [Nat.pow_succ] at this; omega))]
      exact this vs (k + 1) S (by omega)
    have lt : k < vs.length := by omega
    have e2 : vs.take (k + 1) = vs.take k ++ [vs[k]] := List.take_succ_eq_append_getElem lt
    rw [e1, e2, comb_snoc, show (vs.take k).length = k by rw [List.length_take]; omega, if_pos kb] at h0
    rw [List.getD_eq_getElem?_getD, List.getElem?_eq_getElem lt]
    exact xor0 h0
  have nd : ((List.range (2 ^ (n + 1))).map (comb vs)).Nodup := by
    refine List.pairwise_map.mpr (List.Pairwise.imp_of_mem (fun {a b} ha hb hne e => hne ?_) List.nodup_range)
    have ha' := List.mem_range.mp ha
    have hb' := List.mem_range.mp hb
    exact xor0 (inj _ (Nat.xor_lt_two_pow ha' hb') (by rw [comb_xor, e, Nat.xor_self]))
  have := nodup_len (k := 2 ^ n) nd fun x hx => by
    obtain ⟨S, _, rfl⟩ := List.mem_map.mp hx
    exact comb_lt hv
  rw [List.length_map, List.length_range, Nat.pow_succ] at this
  have := Nat.two_pow_pos n
  omega
end Wk
namespace Wk.LZ
open PySem PyProof.Rows L2
theorem zip_no_len : typeLookup (.type "zip") "__len__" = pure none := am_miss_of_fast (by decide +kernel)
theorem zip_no_hint : typeLookup (.type "zip") "__length_hint__" = pure none := am_miss_of_fast (by decide +kernel)
/-- the zip's own things at turn i; S: a list that is none of them -/
structure ZS (h : Heap) (z TI TO i1 i2 l1 l2 S : Addr) (i : Nat) (xs ys : Array Value) : Prop where
  ti : IsPair h TI (.ref i1) (.ref i2)
  to : ∃ x y, IsPair h TO x y
  h1 : h.IsListIter i1 l1 i
  h2 : h.IsListIter i2 l2 i
  a1 : h.IsList l1 xs
  a2 : h.IsList l2 ys
  zz : IsZip h z TI TO .none ∨ ∃ T f oT, IsZipHeld h z TI TO T f ∧ h.get? T = some oT ∧ T ≠ S ∧ T ≠ z ∧ T ≠ i1 ∧ T ≠ i2
section
variable {prog : Program} {w : World} {A : Around} {E : Value → Shared → Prop} {s : Shared} {z TI TO i1 i2 l1 l2 S : Addr} {i : Nat} {xs ys : Array Value}
theorem ZS.ty (h : ZS s.heap z TI TO i1 i2 l1 l2 S i xs ys) : s.TypeIs (.ref z) "zip" := by
  rcases h.zz with q | ⟨T, f, oT, q, _⟩
  · exact ⟨_, q, rfl⟩
  · exact ⟨_, q, rfl⟩
theorem ZS.frame {h h' : Heap} (q : ZS h z TI TO i1 i2 l1 l2 S i xs ys) (n : ∀ b ∈ [z, TI, TO, i1, i2, l1, l2], b ≠ S) (k : ∀ b o, b ≠ S → h.get? b = some o → h'.get? b = some o) : ZS h' z TI TO i1 i2 l1 l2 S i xs ys := by
  refine ⟨k _ _ (n _ (by simp)) q.ti, ?_, q.h1.at fun o e => k _ o (n _ (by simp)) e, q.h2.at fun o e => k _ o (n _ (by simp)) e, q.a1.at fun o e => k _ o (n _ (by simp)) e, q.a2.at fun o e => k _ o (n _ (by simp)) e, ?_⟩
  · obtain ⟨x, y, e⟩ := q.to; exact ⟨x, y, k _ _ (n _ (by simp)) e⟩
  · rcases q.zz with e | ⟨T, f, oT, e1, e2, e3⟩
    · exact .inl (k _ _ (n _ (by simp)) e)
    · exact .inr ⟨T, f, oT, k _ _ (n _ (by simp)) e1, k _ _ e3.1 e2, e3⟩
theorem next_item {Q : Option Value → Shared → Prop} {x y : Value} (D : ZipApart z TI TO i1 i2 l1 l2) (q : ZS s.heap z TI TO i1 i2 l1 l2 S i xs ys) (hS : S < s.heap.objs.size) (hx : xs[i]? = some x) (hy : ys[i]? = some y)
    (hQ : ∀ h', ZS h' z TI TO i1 i2 l1 l2 S (i + 1) xs ys → IsPair h' s.heap.objs.size x y → h'.objs.size = s.heap.objs.size + 1 →
      (∀ c o, c ≠ z → c ≠ TO → c ≠ i1 → c ≠ i2 → s.heap.get? c = some o → h'.get? c = some o) → Q (some (.ref s.heap.objs.size)) { s with heap := h' }) :
    wpAny (model prog w) A (pyNext (.ref z)) Q E s := by
  obtain ⟨ti, ⟨x0, y0, to⟩, h1, h2, a1, a2, zz⟩ := q
  rcases zz with e | ⟨T, f, oT, e1, e2, e3⟩
  · refine wpAny_pyNext_zip_item D e ti to h1 h2 a1 a2 hx hy fun h' z' TO' h1' h2' hT hsz hk => ?_
    exact hQ h' ⟨hk _ _ D.TIz D.TITO D.TIi1 D.TIi2 ti, ⟨_, _, TO'⟩, h1', h2', a1.at fun o e => hk _ o D.l1z D.l1TO D.l1i1 D.l1i2 e, a2.at fun o e => hk _ o D.l2z D.l2TO D.l2i1 D.l2i2 e, .inr ⟨_, false, _, z', hT, Nat.ne_of_gt hS, Nat.ne_of_gt (Heap.lt_size e), (by obtain ⟨_, q, _⟩ := h1; exact Nat.ne_of_gt (Heap.lt_size q)), (by obtain ⟨_, q, _⟩ := h2; exact Nat.ne_of_gt (Heap.lt_size q))⟩⟩ hT hsz hk
  · refine wpAny_pyNext_zip_item_held D e1 e2 ti h1 h2 a1 a2 hx hy fun h' z' h1' h2' hT hsz hk => ?_
    exact hQ h' ⟨hk _ _ D.TIz D.TIi1 D.TIi2 ti, ⟨_, _, hk _ _ D.TOz D.TOi1 D.TOi2 to⟩, h1', h2', a1.at fun o e => hk _ o D.l1z D.l1i1 D.l1i2 e, a2.at fun o e => hk _ o D.l2z D.l2i1 D.l2i2 e, .inr ⟨T, true, oT, z', hk _ _ e3.2.1 e3.2.2.1 e3.2.2.2 e2, e3⟩⟩ hT hsz fun c o c1 _ c3 c4 e => hk c o c1 c3 c4 e
theorem next_end {Q : Option Value → Shared → Prop} (hh : A.handled = none) (D : ZipApart z TI TO i1 i2 l1 l2) (q : ZS s.heap z TI TO i1 i2 l1 l2 S i xs ys) (he : xs[i]? = none ∨ ys[i]? = none)
    (hQ : ∀ h', (∀ c o, c ≠ z → c ≠ TO → c ≠ i1 → c ≠ i2 → s.heap.get? c = some o → h'.get? c = some o) → Q none { s with heap := h' }) : wpAny (model prog w) A (pyNext (.ref z)) Q E s := by
  obtain ⟨ti, ⟨x0, y0, to⟩, h1, h2, a1, a2, zz⟩ := q
  rcases zz with e | ⟨T, f, oT, e1, e2, e3⟩
  · exact wpAny_pyNext_zip_end hh D e ti to h1 h2 a1 a2 he fun h' hk => hQ h' fun c o c1 c2 c3 c4 e => hk c o c1 c2 c3 c4 e
  · exact wpAny_pyNext_zip_end_held hh D e1 e2 ti h1 h2 a1 a2 he fun h' hk => hQ h' fun c o c1 _ c3 c4 e => hk c o c1 c3 c4 e
end
/-- one tuple after the other is made -/
def NewT : Hp → List (V × V) → List V → Hp → Prop
  | H, [], ts, H' => ts = [] ∧ H' = H
  | H, (x, y) :: r, ts, H' => ∃ T ts', ts = .ref T :: ts' ∧ H T = none ∧ NewT (upd H T (.tup [x, y])) r ts' H'
theorem lst_get {S : Addr} {h : Heap} {acc : Array Value} {c : Nat} {f : Array Value → Array Value} (e : h.get? S = some { cls := .type "list", dict := none, data := .seq acc c, slots := #[] }) : ∃ c', (h.update S (Obj.mapSeq f)).get? S = some { cls := .type "list", dict := none, data := .seq (f acc) c', slots := #[] } :=
  ⟨_, Heap.get?_update_self (Obj.mapSeq f) e rfl⟩
section
variable {X : Cx} {pins : List (Addr × Obj)} {σ : L2.St} {z TI TO i1 i2 l1 l2 S : Addr} {vx vy : List V} {ix iy : List Value}
theorem loop {R : Result → Shared → Prop} {A : Around} (hh : A.handled = none) (D : ZipApart z TI TO i1 i2 l1 l2) (hS : ∀ b ∈ [z, TI, TO, i1, i2, l1, l2], b ≠ S) (rx : Vals vx ix) (ry : Vals vy iy) (hx : vx.length ≤ sizeLine) (res : Value) :
    ∀ (rest : List (V × V)) (i : Nat) (s : Shared) (H : Hp) (acc : Array Value) (c : Nat) (outs : List V), (vx.zip vy).drop i = rest → i ≤ (vx.zip vy).length → Inv X pins σ H s → (∀ b ∈ [S, z, TO, i1, i2], FpOk X pins H b) → ZS s.heap z TI TO i1 i2 l1 l2 S i ix.toArray iy.toArray →
    s.heap.get? S = some { cls := .type "list", dict := none, data := .seq acc c, slots := #[] } → Vals outs acc.toList → outs.length = i →
    (∀ s' H' acc' c' ts, Inv X pins σ H' s' → (∀ b ∈ [S, z, TO, i1, i2], FpOk X pins H' b) → s'.heap.get? S = some { cls := .type "list", dict := none, data := .seq acc' c', slots := #[] } → NewT H rest ts H' → Vals (outs ++ ts) acc'.toList → R (.ok (.ret res)) s') →
    codeAny (model X.prog X.w) A (.builtin "list.extend.loop" ⟨[.ref S, .ref z, res], []⟩) R s := by
  intro rest
  induction rest with
  | nil =>
    intro i s H acc c outs hd hi I hf q hL r hl hR
    have hin : (vx.zip vy).length ≤ i := List.drop_eq_nil_iff.mp hd
    rw [List.length_zip] at hin
    have he : ix.toArray[i]? = none ∨ iy.toArray[i]? = none := by
      have l1 := rx.length
      have l2 := ry.length
      rcases Nat.le_total vx.length vy.length with h | h
      · rw [Nat.min_eq_left h] at hin; exact .inl (by simp; omega)
      · rw [Nat.min_eq_right h] at hin; exact .inr (by simp; omega)
    refine codeAny_builtin F.entry_extend_loop ?_
    rw [Around.under_plainId F.plain_extend_loop _]
    show wpAny _ A.in1 (pyNext (.ref z) >>= _) _ _ s
    refine wpAny_bind (next_end hh D q he fun h' hk => ?_)
    have I' : Inv X pins σ H { s with heap := h' } := I.turnedL (t' := s.toks) (ch := [S, z, TO, i1, i2]) (fun b o hb e => hk b o (fun q => hb (by simp [q])) (fun q => hb (by simp [q])) (fun q => hb (by simp [q])) (fun q => hb (by simp [q])) e) hf
    exact wpAny_pure (hR _ H acc c [] I' hf (hk S _ (hS _ (by simp)).symm (hS _ (by simp)).symm (hS _ (by simp)).symm (hS _ (by simp)).symm hL) ⟨rfl, rfl⟩ (by rw [List.append_nil]; exact r))
  | cons p rest ih =>
    obtain ⟨x, y⟩ := p
    intro i s H acc c outs hd hi I hf q hL r hl hR
    have hget : (vx.zip vy)[i]? = some (x, y) := by
      have e : ((vx.zip vy).drop i)[0]? = some (x, y) := by rw [hd]; rfl
      rw [List.getElem?_drop] at e; exact e
    have hlt : i < (vx.zip vy).length := (List.getElem?_eq_some_iff.mp hget).1
    obtain ⟨ex, ey⟩ := List.getElem?_zip_eq_some.mp hget
    obtain ⟨u, hu, ru⟩ := rx.get ex
    obtain ⟨u2, hu2, ru2⟩ := ry.get ey
    have hmin : (vx.zip vy).length ≤ vx.length := by rw [List.length_zip]; exact Nat.min_le_left _ _
    have hacc : acc.size = i := by rw [← Array.length_toList, ← r.length]; exact hl
    refine codeAny_builtin F.entry_extend_loop ?_
    rw [Around.under_plainId F.plain_extend_loop _]
    show wpAny _ A.in1 (pyNext (.ref z) >>= _) _ _ s
    have hSl : S < s.heap.objs.size := Heap.lt_size hL
    refine wpAny_bind (next_item D q hSl (x := u) (y := u2) (by simpa using hu) (by simpa using hu2) fun h' q' hT hsz hk => ?_)
    have new : ObjOk X.prog X.w (upd H s.heap.objs.size (.tup [x, y])) h' s.heap.objs.size (.tup [x, y]) :=
      ⟨by show 2 ≤ sizeLine; decide, [u, u2], .cons ru (.cons ru2 .nil), ⟨_, hT, rfl, _, rfl⟩⟩
    have hfr : H s.heap.objs.size = none := I.hok.fresh (Nat.le_refl _)
    have I1 : Inv X pins σ (upd H s.heap.objs.size (.tup [x, y])) { s with heap := h' } :=
      I.turnedNew (t' := s.toks) (ch := [S, z, TO, i1, i2]) (fun b o hb e => hk b o (fun q => hb (by simp [q])) (fun q => hb (by simp [q])) (fun q => hb (by simp [q])) (fun q => hb (by simp [q])) e) hf (Nat.le_refl _) new
    have hlts : ∀ b ∈ [S, z, TO, i1, i2], b < s.heap.objs.size := by
      intro b hb
      have e' : b = S ∨ b = z ∨ b = TO ∨ b = i1 ∨ b = i2 := by simpa using hb
      rcases e' with e | e | e | e | e
      · rw [e]; exact hSl
      · rw [e]; rcases q.zz with e1 | ⟨_, _, _, e1, _⟩
        · exact Heap.lt_size e1
        · exact Heap.lt_size e1
      · rw [e]; obtain ⟨_, _, e1⟩ := q.to; exact Heap.lt_size e1
      · rw [e]; obtain ⟨_, e1, _⟩ := q.h1; exact Heap.lt_size e1
      · rw [e]; obtain ⟨_, e1, _⟩ := q.h2; exact Heap.lt_size e1
    have hf1 : ∀ b ∈ [S, z, TO, i1, i2], FpOk X pins (upd H s.heap.objs.size (.tup [x, y])) b := fun b hb => by
      obtain ⟨n1, rest⟩ := hf b hb
      exact ⟨by rw [upd_ne (Nat.ne_of_lt (hlts b hb))]; exact n1, rest⟩
    have hL' := hk S _ (hS _ (by simp)).symm (hS _ (by simp)).symm (hS _ (by simp)).symm (hS _ (by simp)).symm hL
    show wpAny _ A.in1 (updateSeq S (·.push (.ref s.heap.objs.size)) >>= _) _ _ _
    refine wpAny_bind ?_
    refine wpAny_updateSeq hL' rfl (wpAny_pure ⟨plainId_quiet F.plain_extend_loop _, ?_⟩) (by rw [hacc]; omega) (by show (acc.push _).size ≤ sizeLine + 1; rw [Array.size_push, hacc]; omega)
    obtain ⟨c2, hL2⟩ := lst_get (f := (·.push (.ref s.heap.objs.size))) hL'
    have oth : ∀ b o, b ≠ S → h'.get? b = some o → (h'.update S (Obj.mapSeq (·.push (.ref s.heap.objs.size)))).get? b = some o := fun b o hb e => (Heap.get?_update_other _ _ (Ne.symm hb)).trans e
    have I2 : Inv X pins σ (upd H s.heap.objs.size (.tup [x, y])) { s with heap := h'.update S (Obj.mapSeq (·.push (.ref s.heap.objs.size))) } :=
      Inv.turnedL (s := { s with heap := h' }) I1 (t' := s.toks) (ch := [S]) (fun b o hb e => oth b o (fun q => hb (by simp [q])) e) (fun b hb => hf1 b (by rw [List.mem_singleton.mp hb]; simp))
    refine ih (i + 1) _ _ (acc.push (.ref s.heap.objs.size)) c2 (outs ++ [.ref s.heap.objs.size]) (by rw [← List.drop_drop, hd]; rfl) hlt I2 hf1 (q'.frame hS oth) hL2 (by rw [Array.toList_push]; exact r.append (.cons rfl .nil)) (by rw [List.length_append, hl]; rfl) fun s' H' acc' c' ts I' hf' hL' hn hv => ?_
    exact hR s' H' acc' c' (.ref s.heap.objs.size :: ts) I' hf' hL' ⟨_, _, rfl, hfr, hn⟩ (by rw [List.append_assoc] at hv; exact hv)
end
section
variable {X : Cx} {pins : List (Addr × Obj)} {σ : L2.St} {z TI TO i1 i2 l1 l2 : Addr} {vx vy : List V} {ix iy : List Value}
/-- extend by a zip -/
theorem extend_zip {R : Result → Shared → Prop} {A : Around} {s : Shared} {H : Hp} {S : Addr} {c₀ : Nat} (hh : A.handled = none) (D : ZipApart z TI TO i1 i2 l1 l2) (hS : ∀ b ∈ [z, TI, TO, i1, i2, l1, l2], b ≠ S) (rx : Vals vx ix) (ry : Vals vy iy) (hx : vx.length ≤ sizeLine) (res : Value)
    (I : Inv X pins σ H s) (hf : ∀ b ∈ [S, z, TO, i1, i2], FpOk X pins H b) (q : ZS s.heap z TI TO i1 i2 l1 l2 S 0 ix.toArray iy.toArray) (hL : s.heap.get? S = some { cls := .type "list", data := .seq #[] c₀ })
    (hR : ∀ s' H' acc' c' ts, Inv X pins σ H' s' → (∀ b ∈ [S, z, TO, i1, i2], FpOk X pins H' b) → s'.heap.get? S = some { cls := .type "list", dict := none, data := .seq acc' c', slots := #[] } → NewT H (vx.zip vy) ts H' → Vals ts acc'.toList → R (.ok (.ret res)) s') :
    wpAny (model X.prog X.w) A.in1 (Builtin.List.listExtendWith (.ref S) (.ref z) res)
      (fun fin s' => match fin with | .done f => R (.ok f) s' | .again c' => c'.quiet = true ∧ codeAny (model X.prog X.w) A c' R s') (fun e s' => R (.error e) s') s := by
  have hSz : S ≠ z := (hS z (by simp)).symm
  have h1 : Builtin.List.listSameRef (.ref S) (.ref z) = false := by simp [Builtin.List.listSameRef, hSz]
  have h2 : (Value.type "zip" == Value.type "list") = false := by decide
  have h3 : (Value.type "zip" == Value.type "tuple") = false := by decide
  unfold Builtin.List.listExtendWith
  refine wpAny_bind (wpAny_typeOf q.ty ?_)
  simp only [h1, h2, h3, Bool.or_false, Bool.false_eq_true, if_false]
  have hit : ∀ {Q : Value → Shared → Prop} {E : Value → Shared → Prop}, Q (.ref z) s → wpAny (model X.prog X.w) A.in1 (pyIter (.ref z)) Q E s := fun h => by
    rcases q.zz with e | ⟨T, f, oT, e, _⟩
    · exact wpAny_pyIter_zip e h
    · have hT : s.TypeIs (.ref z) "zip" := ⟨_, e, rfl⟩
      refine wpAny_pyIter_slot hT F.slot_zip_iter (wpAny_call_entry F.slot_zip_iter hT F.entry_zip_iter ?_ (F.args_zip_iter_1 _))
      show wpAny _ _ (ret (.ref z)) _ _ s
      exact wpAny_pure ⟨_, rfl, "zip", _, hT, F.slot_zip_next.lookup, h⟩
  refine wpAny_bind (hit ?_)
  refine wpAny_bind (wpAny_holding ?_)
  unfold Builtin.List.listLengthHint
  refine wpAny_bind (wpAny_specialOf q.ty zip_no_len ?_)
  show wpAny _ A.in1 (specialOf (Value.ref z) (Str.ofString "__length_hint__") >>= _) _ _ _
  refine wpAny_bind (wpAny_specialOf q.ty zip_no_hint ?_)
  refine wpAny_pure ?_
  show wpAny _ A.in1 (rule "list.extend.makes-room" >>= fun _ => Builtin.List.listTouch (.ref S) >>= fun _ =>
    again (.builtin "list.extend.loop" ⟨[.ref S, .ref z, res], []⟩)) _ _ _
  refine wpAny_bind (wpAny_rule ?_)
  refine wpAny_bind ?_
  show wpAny _ A.in1 (updateSeq S (·.push .none) >>= fun _ => updateSeq S (·.pop)) _ _ _
  refine wpAny_bind (wpAny_updateSeq hL rfl ?_)
  obtain ⟨c1, hL1⟩ := lst_get (f := (·.push Value.none)) hL
  refine wpAny_updateSeq hL1 rfl ?_
  obtain ⟨c2, hL2⟩ := lst_get (f := (·.pop)) hL1
  have oth : ∀ b o, b ≠ S → s.heap.get? b = some o → ((s.heap.update S (Obj.mapSeq (·.push Value.none))).update S (Obj.mapSeq (·.pop))).get? b = some o :=
    fun b o hb e => (Heap.get?_update_other _ _ (Ne.symm hb)).trans ((Heap.get?_update_other _ _ (Ne.symm hb)).trans e)
  have I2 : Inv X pins σ H { s with heap := (s.heap.update S (Obj.mapSeq (·.push Value.none))).update S (Obj.mapSeq (·.pop)) } :=
    I.turnedL (t' := s.toks) (ch := [S]) (fun b o hb e => oth b o (fun q => hb (by simp [q])) e) (fun b hb => hf b (by rw [List.mem_singleton.mp hb]; simp))
  refine wpAny_pure ⟨plainId_quiet F.plain_extend_loop _, loop hh D hS rx ry hx res (vx.zip vy) 0 _ H #[] c2 [] rfl (Nat.zero_le _) I2 hf (q.frame hS oth) hL2 .nil rfl fun s' H' acc' c' ts I' hf' hL' hn hv => ?_⟩
  exact hR s' H' acc' c' ts I' hf' hL' hn hv
end
end Wk.LZ
namespace Wk
open PySem L2 PyProof.Rows
def rLstZip (K : PySem.W.Frag) (Q : VK) (vs : List V) (H1 : Hp) : Prop := ∃ (a b : Addr) (xs ys : List V), vs = [.ref a, .ref b] ∧ SqL K H1 a xs ∧ SqL K H1 b ys ∧ ∀ ts H2, LZ.NewT H1 (xs.zip ys) ts H2 → ∀ q, H2 q = none → Q (.ref q) (upd H2 q (.lst ts))
def tLstZip (K : PySem.W.Frag) (ta : TA) : TE := fun σ H Q => ta σ H (rLstZip K Q)
theorem e_lzip {K : PySem.W.Frag} {ta : TA} {σ : L2.St} {H : Hp} {Q : VK} (h : ta σ H (rLstZip K Q)) : tLstZip K ta σ H Q := h
theorem LZ.len : ∀ {r : List (V × V)} {H : Hp} {ts : List V} {H2 : Hp}, LZ.NewT H r ts H2 → ts.length = r.length
  | [], _, _, _, ⟨a, _⟩ => by rw [a]; rfl
  | (x, y) :: r, _, _, _, ⟨T, ts', a, _, c⟩ => by rw [a, List.length_cons, List.length_cons, LZ.len c]
section
variable {X : Cx}
theorem pe_lstZip {e e2 : Expr} {ta : TA} {p p2 pos pos2 : Pos} (hc : X.calm = true) (hg : Gl X "list") (hm : X.mg "list" = none) (hg2 : Gl X "zip") (hm2 : X.mg "zip" = none) (ha : PA X [e, e2] ta)
    (hs : starEach [e, e2] X.env = (false, eval e X.env) :: starEach [e2] X.env := by rfl) (hpl : (backTo pos2 (starEach [e2] X.env)).any (·.1) = false := by rfl)
    (hs2 : starEach [.Call (.Name "zip" p2) [e, e2] [] pos2] X.env = (false, eval (.Call (.Name "zip" p2) [e, e2] [] pos2) X.env) :: starEach [] X.env := by rfl) :
    PE X (.Call (.Name "list" p) [.Call (.Name "zip" p2) [e, e2] [] pos2] [] pos) (tLstZip X.K ta) := by
  refine ⟨fun pins s σ H Q I h => ?_⟩
  refine Call_ (ld_blt I hg hm PyProof.Rows.boot_list (PyProof.Rows.callWith_type1 (args_cons (Call_ (ld_blt I hg2 hm2 PyProof.Rows.boot_zip (PyProof.Rows.callWith_type1 (thn (ha.run pos2 pins s σ H _ I h) fun us s1 ⟨vs, H1, I1, r1, q1⟩ => ?_) hs hpl))) hs2) hs2 rfl))
  obtain ⟨a, b, xs, ys, ex, hqx, hqy, q⟩ := q1
  subst ex
  cases r1 with
  | cons r rr =>
    cases rr with
    | cons r' rr =>
      cases rr
      cases r
      cases r'
      obtain ⟨its, rv, p1, hz1⟩ := I1.list hqx
      obtain ⟨its2, rv2, p2', _⟩ := I1.list hqy
      have la : a < s1.heap.objs.size := p1.lt
      have lb : b < s1.heap.objs.size := p2'.lt
      refine call_zip_2 p1.isList p2'.isList fun h' hz hTI hTO h1 h2 hsz hk => args_nil ?_
      have D := PySem.W.ktu_apart s1.heap.objs.size a b la lb
      have I2 : Inv X pins σ H1 { s1 with heap := h' } := I1.kept (t' := s1.toks) hk
      -- the list
      refine callType_codes (Q₁ := fun obj s₁ => obj = .ref h'.objs.size ∧ s₁ = { s1 with heap := h'.push { cls := .type "list", data := .seq #[] } }) F.called_list (F.typeCall_list_1 _) F.entry_list_init
        (code_list_new _ ⟨rfl, rfl⟩) fun obj s₁ h₁ => ?_
      obtain ⟨rfl, rfl⟩ := h₁
      have hS : (h'.push { cls := .type "list", data := .seq #[] }).get? h'.objs.size = some { cls := .type "list", data := .seq #[] } := Heap.get?_push_size _ rfl
      refine ⟨⟨_, hS, rfl⟩, F.args_list_init_2 _ _, ?_⟩
      show wpAny _ _ (do let old ← Builtin.List.listItems (.ref h'.objs.size); Builtin.List.listUpdate (.ref h'.objs.size) (fun _ => #[]); letGo old.toList.reverse; Builtin.List.listExtendWith (.ref h'.objs.size) (.ref (s1.heap.objs.size + 4)) .none) _ _ _
      refine wpAny_bind ?_
      unfold Builtin.List.listItems
      refine wpAny_bind (wpAny_seqItems hS rfl (wpAny_pure ?_))
      show wpAny _ _ (updateSeq h'.objs.size (fun _ => #[]) >>= fun _ => letGo (#[] : Array Value).toList.reverse >>= fun _ => Builtin.List.listExtendWith (.ref h'.objs.size) (.ref (s1.heap.objs.size + 4)) .none) _ _ _
      refine wpAny_bind (wpAny_updateSeq hS rfl ?_)
      obtain ⟨c₂, hS₂⟩ : ∃ c, ((h'.push { cls := .type "list", data := .seq #[] }).update h'.objs.size (Obj.mapSeq (fun _ => (#[] : Array Value)))).get? h'.objs.size = some { cls := .type "list", data := .seq #[] c } := ⟨_, Heap.get?_update_self (Obj.mapSeq (fun _ => (#[] : Array Value))) hS rfl⟩
      have oth : ∀ b o, h'.get? b = some o → ((h'.push { cls := .type "list", data := .seq #[] }).update h'.objs.size (Obj.mapSeq (fun _ => (#[] : Array Value)))).get? b = some o :=
        fun b o e => (Heap.get?_update_other _ _ (Nat.ne_of_gt (Heap.lt_size e))).trans (Heap.get?_push_of_some _ e)
      refine wpAny_bind (wpAny_letGo ?_)
      have I3 : Inv X pins σ H1 { s1 with heap := (h'.push { cls := .type "list", data := .seq #[] }).update h'.objs.size (Obj.mapSeq (fun _ => (#[] : Array Value))) } := I1.kept (t' := s1.toks) fun b u e => oth b u (hk b u e)
      have hlt : ∀ {b o}, h'.get? b = some o → b ≠ h'.objs.size := fun e => Nat.ne_of_lt (Heap.lt_size e)
      have hSs : ∀ c ∈ [s1.heap.objs.size + 4, s1.heap.objs.size + 2, s1.heap.objs.size + 3, s1.heap.objs.size, s1.heap.objs.size + 1, a, b], c ≠ h'.objs.size := by
        intro c hc
        rw [hsz]
        have e' : c = s1.heap.objs.size + 4 ∨ c = s1.heap.objs.size + 2 ∨ c = s1.heap.objs.size + 3 ∨ c = s1.heap.objs.size ∨ c = s1.heap.objs.size + 1 ∨ c = a ∨ c = b := by simpa using hc
        refine Nat.ne_of_lt ?_
        rcases e' with e | e | e | e | e | e | e
        · rw [e]; exact Nat.lt_succ_self _
        · rw [e]; exact Nat.add_lt_add_left (by decide) _
        · rw [e]; exact Nat.add_lt_add_left (by decide) _
        · rw [e]; exact Nat.lt_add_of_pos_right (by decide)
        · rw [e]; exact Nat.add_lt_add_left (by decide) _
        · rw [e]; exact Nat.lt_of_lt_of_le la (Nat.le_add_right _ _)
        · rw [e]; exact Nat.lt_of_lt_of_le lb (Nat.le_add_right _ _)
      have hf : ∀ c ∈ [h'.objs.size, s1.heap.objs.size + 4, s1.heap.objs.size + 3, s1.heap.objs.size, s1.heap.objs.size + 1], FpOk X pins H1 c := by
        intro c hc
        have e' : c = h'.objs.size ∨ c = s1.heap.objs.size + 4 ∨ c = s1.heap.objs.size + 3 ∨ c = s1.heap.objs.size ∨ c = s1.heap.objs.size + 1 := by simpa using hc
        have hle : s1.heap.objs.size ≤ c := by
          rw [hsz] at e'
          rcases e' with e | e | e | e | e
          · rw [e]; exact Nat.le_add_right _ _
          · rw [e]; exact Nat.le_add_right _ _
          · rw [e]; exact Nat.le_add_right _ _
          · rw [e]; exact Nat.le_refl _
          · rw [e]; exact Nat.le_add_right _ _
        exact I1.fpOk hle (I1.hok.fresh hle)
      refine LZ.extend_zip (X := X) (pins := pins) (σ := σ) (H := H1) (A := X.A.in1) (R := wants (fun r s₂ => r = Value.none ∧ _) _) (I1.ok.hd hc) D hSs rv rv2 hz1 .none I3 hf ⟨oth _ _ hTI, ⟨_, _, oth _ _ hTO⟩, h1.at fun o e => oth _ o e, h2.at fun o e => oth _ o e, (p1.isList.at fun o e => oth _ o (hk _ o e)), (p2'.isList.at fun o e => oth _ o (hk _ o e)), .inl (oth _ _ hz)⟩ hS₂ fun s' H' acc' c' ts I' hf' hL' hn hv => ?_
      refine ⟨rfl, ?_⟩
      have hl : ts.length ≤ sizeLine := by rw [LZ.len hn, List.length_zip]; exact Nat.le_trans (Nat.min_le_left _ _) hz1
      have hnew : ObjOk X.prog X.w (upd H' h'.objs.size (.lst ts)) s'.heap h'.objs.size (.lst ts) := ⟨hl, acc'.toList, c', hv, by rw [Array.toArray_toList]; exact hL'⟩
      have hfS := hf' h'.objs.size (by simp)
      exact ⟨.ref h'.objs.size, upd H' h'.objs.size (.lst ts), I'.take (t' := s'.toks) (fun _ _ _ e => e) hfS hnew, rfl, q ts H' hn _ hfS.1⟩
end
section
variable {α β : Type} {e : Rep α} {f : Rep β} {K : PySem.W.Frag} {F0 H0 F H H2 : Hp} {p q : Addr} {xs : List α} {ys : List β} {Q : VK}
/-- the new tuples -/
theorem newT_all : ∀ {us vs : List V} {xs : List α} {ys : List β} {F H : Hp} {ts : List V}, Ex F H → All e F us xs → All f F vs ys → LZ.NewT H (us.zip vs) ts H2 →
    ∃ F2, Wf F H F2 H2 ∧ All (pT2 e f) F2 ts (xs.zip ys)
  | [], _, [], _, F, H, ts, hf, _, _, ⟨a, b⟩ => by subst a b; exact ⟨F, Wf.id hf, trivial⟩
  | _ :: _, [], _ :: _, [], F, H, ts, hf, _, _, ⟨a, b⟩ => by subst a b; exact ⟨F, Wf.id hf, trivial⟩
  | u :: us, v :: vs, x :: xs, y :: ys, F, H, ts, hf, ⟨a1, a2⟩, ⟨b1, b2⟩, ⟨T, ts', hts, hT, hn⟩ => by
    subst hts
    have w := Wf.new (o := .tup [u, v]) hf hT
    have g := w.g
    obtain ⟨F2, w2, a⟩ := newT_all w.f (a2.mono g) (b2.mono g) hn
    refine ⟨F2, w.tr w2, ⟨⟨T, u, v, rfl, w2.g _ _ upd_same, e.mono w2.g (e.mono g a1), f.mono w2.g (f.mono g b1)⟩, a⟩⟩
  | [], _, _ :: _, _, _, _, _, _, q, _, _ => q.elim
  | _ :: _, _, [], _, _, _, _, _, q, _, _ => q.elim
  | _ :: _, [], _ :: _, _ :: _, _, _, _, _, _, q, _ => q.elim
  | _ :: _, _ :: _, _ :: _, [], _, _, _, _, _, q, _ => q.elim
theorem n_lzip {v1 v2 : V} (r1 : (pL e).r F v1 xs) (r2 : (pL f).r F v2 ys) (w : Wf F0 H0 F H) (k : ∀ p F' H', H p = none → Wf F H F' H' → XL (pT2 e f) H0 F' H' p (xs.zip ys) → Q (.ref p) H') : rLstZip K Q [v1, v2] H := by
  obtain ⟨p1, us, rfl, h1, a1⟩ := r1
  obtain ⟨p2, vs, rfl, h2, a2⟩ := r2
  refine ⟨p1, p2, us, vs, rfl, SqL.of (w.f _ _ h1), SqL.of (w.f _ _ h2), fun ts H2 hn l hl => ?_⟩
  obtain ⟨F2, w2, a⟩ := newT_all w.f a1 a2 hn
  exact k l F2 _ (w2.h.non hl) (w2.tr (Wf.newX w2.f hl)) ⟨ts, Xc.mk' (w.tr w2) hl, a⟩
end
end Wk
namespace Wk
open PySem L2
/-- a raw value -/
def pV : Rep V := ⟨fun _ v x => v = x, fun _ h => h⟩
abbrev anN (n : Nat) : An := .i (n : Int)
section
variable {α β γ : Type} {e : Rep α} {f : Rep β} {g : Rep γ} {K : PySem.W.Frag} {F H : Hp} {v : V} {x : α × β × γ}
theorem ix_3b (r : (pT3 e f g).r F v x) (h : Ex F H) : ∃ w, f.r F w x.2.1 ∧ ∀ ⦃σ ta tb⦄, Val ta σ H v → Val tb σ H (.int 1) → Val (tOp (rIxT K) ta tb) σ H w := by
  obtain ⟨p, u, w, y, rfl, hp, a, b, c⟩ := r
  exact ⟨w, b, fun _ _ _ ha hb => v2 ha hb fun Q k => ⟨p, _, _, w, rfl, rfl, SqT.of (h _ _ hp), rfl, k⟩⟩
theorem ix_3c (r : (pT3 e f g).r F v x) (h : Ex F H) : ∃ w, g.r F w x.2.2 ∧ ∀ ⦃σ ta tb⦄, Val ta σ H v → Val tb σ H (.int 2) → Val (tOp (rIxT K) ta tb) σ H w := by
  obtain ⟨p, u, w, y, rfl, hp, a, b, c⟩ := r
  exact ⟨y, c, fun _ _ _ ha hb => v2 ha hb fun Q k => ⟨p, _, _, y, rfl, rfl, SqT.of (h _ _ hp), rfl, k⟩⟩
theorem ix_3a (r : (pT3 e f g).r F v x) (h : Ex F H) : ∃ w, e.r F w x.1 ∧ ∀ ⦃σ ta tb⦄, Val ta σ H v → Val tb σ H (.int 0) → Val (tOp (rIxT K) ta tb) σ H w := by
  obtain ⟨p, u, w, y, rfl, hp, a, b, c⟩ := r
  exact ⟨u, a, fun _ _ _ ha hb => v2 ha hb fun Q k => ⟨p, _, _, u, rfl, rfl, SqT.of (h _ _ hp), rfl, k⟩⟩
instance {n m k : Nat} [Dat e n] [Dat f m] [Dat g k] : Dat (pT3 e f g) (max n (max m k) + 1) := ⟨fun x => .tuple [Dat.d e x.1, Dat.d f x.2.1, Dat.d g x.2.2], fun {K F v x} h => by
    obtain ⟨p, u, w, y, rfl, hp, a, b, c⟩ := h
    exact .tup (SqT.of hp) (.cons (Dat.dp a) (.cons (Dat.dp b) (.cons (Dat.dp c) .nil))), fun x => by
    show (PyData.canLay0 (Dat.d e x.1) && (PyData.canLay0 (Dat.d f x.2.1) && (PyData.canLay0 (Dat.d g x.2.2) && PyData.canLayAll0 []))) = true
    rw [Dat.lay, Dat.lay, Dat.lay]; rfl, fun x => by
    have a := Dat.dep (e := e) x.1
    have b := Dat.dep (e := f) x.2.1
    have c := Dat.dep (e := g) x.2.2
    simp only [PyData.depth, PyData.depthAll]
    omega, fun x y => by
    show (PyData.eqv (Dat.d e x.1) (Dat.d e y.1) && (PyData.eqv (Dat.d f x.2.1) (Dat.d f y.2.1) && (PyData.eqv (Dat.d g x.2.2) (Dat.d g y.2.2) && PyData.eqvAll [] []))) = true ↔ _
    have z : PyData.eqvAll [] [] = true := rfl
    rw [z, Bool.and_true, Bool.and_eq_true, Bool.and_eq_true, Dat.inj, Dat.inj, Dat.inj, Prod.ext_iff, Prod.ext_iff]⟩
end
/-- a method with a default -/
structure MdD (P : Program) (w : World) (K : PySem.W.Frag) (mg : Str → Option Value) (base : Heap) (CX : CXT) (k : Nat) (C : Addr) (m : Str) (ps : List Str) (sp : Sp) (dvs : List V) : Prop where
  ex : ∃ f fd, FnOk P w K mg base CX k f fd ps sp ∧ Meth K C m f ∧ Binds K fd ps [] ∧ ∃ ds, Vals dvs ds ∧ Binds K fd ps ds
theorem MdD.full {P : Program} {w : World} {K : PySem.W.Frag} {mg : Str → Option Value} {base : Heap} {CX : CXT} {k : Nat} {C : Addr} {m : Str} {ps : List Str} {sp : Sp} {dvs : List V} (M : MdD P w K mg base CX k C m ps sp dvs) : Md P w K mg base CX k C m ps sp :=
  let ⟨f, fd, a, b, c, _⟩ := M.ex; ⟨f, fd, a, b, c⟩
theorem funD_mk {K : PySem.W.Frag} {x qual : Str} {st : Stmt} {f T : Addr} {oc aT : Value} {od an bT : Option Addr} {osl sT : Array (Option Value)} {kV doc pm cdv ct : Value} {its : Array Value} {n : Nat} {dvs : List V}
    (l : K.lookup f = some ⟨oc, od, .func (PySem.W.fnOf x qual (defArgs st) (defBody st) (defScope st) (.ref T) kV doc pm an cdv ct), osl⟩) (c : PySem.W.codeIn K cdv qual = true) (k : PySem.W.keepIn K (.ref f) = true)
    (lT : K.lookup T = some ⟨aT, bT, .seq its n, sT⟩) (r : Vals dvs its.toList) (hne : dvs ≠ []) : FunD K x qual (defArgs st) (defBody st) (defScope st) dvs [] f (PySem.W.fnOf x qual (defArgs st) (defBody st) (defScope st) (.ref T) kV doc pm an cdv ct) :=
  ⟨⟨oc, od, _, kV, doc, pm, an, cdv, ct, osl, rfl, l, c, .inr ⟨hne, T, _, its.toList, n, rfl, lT, by rw [Array.toArray_toList], r⟩, .inl rfl⟩, k⟩
theorem FunD.full {K : PySem.W.Frag} {x qual : Str} {params : Arguments} {body : List Stmt} {scope : Scope} {dvs : List V} {f : Addr} {fd : FuncData} {ps : List Str} (F : FunD K x qual params body scope dvs [] f fd) (hd : dvs ≠ [])
    (h : ∀ (T : Addr) (kV doc pm : Value) (an : Option Addr) (cdv ct : Value) (us its : List Value), us.length = ps.length → its.length = dvs.length →
      ∃ k, bindArgs (PySem.W.fnOf x qual params body scope (.ref T) kV doc pm an cdv ct) ⟨us, []⟩ = seqItems? (.ref T) >>= k ∧ k (some its.toArray) = pure (ps.zip (us ++ its.drop dvs.length))) : Binds K fd ps [] := by
  obtain ⟨ds, r, b⟩ := F.binds1 (ps := ps) ps.length dvs.length hd (by rw [Nat.sub_self]; rfl) h
  rw [List.drop_length] at r
  cases r
  exact b
/-- xs[:-n] -/
theorem n_cutNeg {α : Type} {e : Rep α} {K : PySem.W.Frag} {σ : L2.St} {F0 H0 F H : Hp} {te th : TE} {v : V} {xs : List α} {Q : VK} {n : Nat} (hn : 0 < n) (r : (pL e).r F v xs) (hv : Val te σ H v) (h2 : Val th σ H (.int (-(n : Int)))) (w : Wf F0 H0 F H)
    (k : ∀ p H', H p = none → Wf F H F H' → XL e H0 F H' p (xs.take (xs.length - n)) → Q (.ref p) H') : L2.tSl (rSlL K) te tNoPart (tPart th) σ H Q := by
  obtain ⟨p, vs, rfl, hp, a⟩ := r
  refine hv _ (h2 _ ⟨_, rfl, p, vs, rfl, SqL.of (w.f _ _ hp), fun l hl => ?_⟩)
  have e1 : cutV vs none (some (-(n : Int))) = vs.take (vs.length - n) := by
    unfold cutV
    have e2 : HT.sIx vs.length vs.length (some (-(n : Int))) = vs.length - n := by
      show (if (-(n : Int)) < 0 then ((-(n : Int)) + (vs.length : Int)).toNat else _) = _
      rw [if_pos (by omega)]; omega
    rw [e2, HT.sIx_none, List.drop_zero, Nat.sub_zero]
  rw [e1, a.len]
  exact k l _ hl (Wf.newX w.f hl) ⟨_, Xc.mk' w hl, a.take _⟩
def nw (H F : Hp) : Hp := fun a => if H a = none then F a else none
theorem nw_ex {H F F' : Hp} (h : Ex F F') : Ex (nw H F) (nw H F') := fun a o e => by
  unfold nw at e ⊢
  by_cases q : H a = none
  · rw [if_pos q] at e ⊢; exact h a o e
  · rw [if_neg q] at e; cases e
theorem nw_sub {H F : Hp} : Ex (nw H F) F := fun a o e => by
  unfold nw at e
  by_cases q : H a = none
  · rw [if_pos q] at e; exact e
  · rw [if_neg q] at e; cases e
theorem nw_at {H F : Hp} {a : Addr} {o : HO} (h : H a = none) (e : F a = some o) : nw H F a = some o := by unfold nw; rw [if_pos h]; exact e
def Fre {α : Type} (H : Hp) (e : Rep α) (F : Hp) (v : V) (x : α) : Prop := e.r (nw H F) v x
section
variable {α β : Type} {e : Rep α} {f : Rep β} {F0 H0 F F' Fl H H2 F2 : Hp} {v u : V} {x : α} {y : β} {p : Addr} {Q : VK}
theorem Fre.r (h : Fre H e F v x) : e.r F v x := e.mono nw_sub h
theorem Fre.mono (g : Ex F F') (h : Fre H e F v x) : Fre H e F' v x := e.mono (nw_ex g) h
/-- behind a call to which one's own list was lent -/
theorem Fre.back (ex : Ex F H) (hx : Ex F Fl) (s : Wf Fl H F2 H2) (h : Fre H e F2 v x) : ∃ F3, Wf F H F3 H2 ∧ e.r F3 v x := by
  refine ⟨fun a => match nw H F2 a with | some o => some o | none => F a, ⟨s.h, fun a o q => ?_, fun a o q => ?_, fun a o q q0 => ?_⟩, e.mono (fun a o q => ?_) h⟩
  · cases z : nw H F2 a with
    | some o' =>
      have q' : (match nw H F2 a with | some o => some o | none => F a) = some o := q
      rw [z] at q'; cases q'
      exact s.f a _ (nw_sub a _ z)
    | none =>
      have q' : (match nw H F2 a with | some o => some o | none => F a) = some o := q
      rw [z] at q'
      exact s.h a o (ex a o q')
  · show (match nw H F2 a with | some o => some o | none => F a) = some o
    have : nw H F2 a = none := by unfold nw; rw [if_neg (by rw [ex a o q]; simp)]
    rw [this]; exact q
  · cases z : nw H F2 a with
    | some o' =>
      unfold nw at z
      by_cases c : H a = none
      · exact c
      · rw [if_neg c] at z; cases z
    | none =>
      have q' : (match nw H F2 a with | some o => some o | none => F a) = some o := q
      rw [z] at q'
      have q2 : F a = some o := q'
      rw [q0] at q2; cases q2
  · show (match nw H F2 a with | some o => some o | none => F a) = some o
    rw [q]
theorem all_sc {xs : List Nat} {F G : Hp} : ∀ {vs : List V} {xs : List Nat}, All pN F vs xs → All pN G vs xs
  | [], [], _ => trivial
  | _ :: _, _ :: _, ⟨a, b⟩ => ⟨a, all_sc (xs := xs) b⟩
  | [], _ :: _, q => q.elim
  | _ :: _, [], q => q.elim
/-- one's own list of numbers is changed no more, and is new -/
theorem XL.frzN {xs : List Nat} (x : XL pN H0 F H p xs) (w : Wf F0 H0 F H) : ∃ F', Wf F0 H0 F' H ∧ Ex F F' ∧ Fre H0 (pL pN) F' (.ref p) xs ∧ Fz F F' p := by
  obtain ⟨vs, a, b⟩ := x.x
  exact ⟨_, w.freeze a, Ex.new a.n, ⟨p, vs, rfl, nw_at a.z upd_same, all_sc (xs := xs) b⟩, fun q h z => by rw [upd_ne h]; exact z⟩
theorem n_fre2 (w : Wf F0 H0 F H) (a : Fre H0 e F v x) (b : Fre H0 f F u y) (k : ∀ p F' H', Wf F H F' H' → Fre H0 (pT2 e f) F' (.ref p) (x, y) → Q (.ref p) H') : kTup Q [v, u] H :=
  ⟨Nat.le_of_lt (small_len (n := 2) (by decide)), fun p hp => k p _ _ (Wf.new w.f hp) ⟨p, v, u, rfl, nw_at (w.h.non hp) upd_same, Fre.mono (Ex.new (w.f.non hp)) a, Fre.mono (Ex.new (w.f.non hp)) b⟩⟩
end
end Wk
namespace Wk
/-- the mask of a row of bits -/
def maskB : List Bool → Nat
  | [] => 0
  | b :: bs => b.toNat + 2 * maskB bs
theorem maskB_lt : ∀ bs : List Bool, maskB bs < 2 ^ bs.length
  | [] => by decide
  | b :: bs => by
    have := maskB_lt bs
    have hb : b.toNat ≤ 1 := by cases b <;> decide
    show b.toNat + 2 * maskB bs < 2 ^ (bs.length + 1)
    rw [Nat.pow_succ]; omega
theorem maskB_bit : ∀ (bs : List Bool) (j : Nat), (maskB bs).testBit j = bs.getD j false
  | [], j => by show (0 : Nat).testBit j = _; rw [Nat.zero_testBit]; rfl
  | b :: bs, 0 => by
    show (b.toNat + 2 * maskB bs).testBit 0 = b
    rw [Nat.testBit_zero]
    cases b
    · exact decide_eq_false (by show ¬ (0 + 2 * maskB bs) % 2 = 1; omega)
    · exact decide_eq_true (by show (1 + 2 * maskB bs) % 2 = 1; omega)
  | b :: bs, j + 1 => by
    show (b.toNat + 2 * maskB bs).testBit (j + 1) = bs.getD j false
    have e : (b.toNat + 2 * maskB bs) / 2 = maskB bs := by
      have hb : b.toNat ≤ 1 := by cases b <;> decide
      omega
    rw [← halfBit, e, maskB_bit bs j]
theorem maskB_snoc : ∀ (bs : List Bool) (b : Bool), maskB (bs ++ [b]) = maskB bs + b.toNat <<< bs.length
  | [], b => by show b.toNat + 2 * 0 = 0 + b.toNat <<< 0; rw [Nat.shiftLeft_eq]; omega
  | a :: bs, b => by
    show a.toNat + 2 * maskB (bs ++ [b]) = a.toNat + 2 * maskB bs + b.toNat <<< (bs.length + 1)
    rw [maskB_snoc bs b, Nat.shiftLeft_eq, Nat.shiftLeft_eq, Nat.pow_succ, ← Nat.mul_assoc]; omega
theorem NShl_bit {b : Bool} {k : Nat} (h : k < 1000000) : NShl b.toNat k := by
  unfold NShl
  have : b.toNat.log2 = 0 := by cases b <;> decide
  omega
/-- bits below w, all together -/
def px (f : Nat → Bool) : Nat → Bool
  | 0 => false
  | m + 1 => xor (px f m) (f m)
abbrev Mach := Nat × List (Nat × Nat) × List (Nat × Nat)
def bitf (p : Nat × Nat) (s r : Nat) : Bool := xor (par (p.1 &&& s)) (par (p.2 &&& r))
def bitsV (ps : List (Nat × Nat)) (s r : Nat) : Nat := maskB (ps.map fun p => bitf p s r)
theorem bitsV_lt (ps : List (Nat × Nat)) (s r : Nat) : bitsV ps s r < 2 ^ ps.length := by
  have := maskB_lt (ps.map fun p => bitf p s r)
  rwa [List.length_map] at this
theorem bitsV_bit (ps : List (Nat × Nat)) (s r j : Nat) : (bitsV ps s r).testBit j = (decide (j < ps.length) && bitf (ps.getD j (0, 0)) s r) := by
  unfold bitsV
  rw [maskB_bit, List.getD_eq_getElem?_getD, List.getD_eq_getElem?_getD, List.getElem?_map]
  by_cases h : j < ps.length
  · rw [List.getElem?_eq_getElem h, decide_eq_true h]; simp
  · rw [List.getElem?_eq_none (by omega), decide_eq_false h]; rfl
structure MOk (M : Mach) : Prop where
  i : M.1 ≤ 6
  n : M.2.1.length ≤ 120
  o : M.2.2.length ≤ 6
  mn : ∀ p ∈ M.2.1, p.1 < 2 ^ M.2.1.length ∧ p.2 < 2 ^ M.1
  mo : ∀ p ∈ M.2.2, p.1 < 2 ^ M.2.1.length ∧ p.2 < 2 ^ M.1
def nextV (M : Mach) (s r : Nat) : Nat := bitsV M.2.1 s r
def outV (M : Mach) (s r : Nat) : Nat := bitsV M.2.2 s r
def walkV (M : Mach) (rows : List Nat) (s : Nat) : List Nat × Nat := rows.foldl (fun t r => (t.1 ++ [outV M t.2 r], nextV M t.2 r)) ([], s)
theorem walkF_len (M : Mach) : ∀ (rows : List Nat) (t : List Nat × Nat), (rows.foldl (fun t r => (t.1 ++ [outV M t.2 r], nextV M t.2 r)) t).1.length = t.1.length + rows.length
  | [], t => rfl
  | r :: rows, t => by
    rw [List.foldl_cons, walkF_len M rows, List.length_append]
    show t.1.length + 1 + rows.length = t.1.length + (rows.length + 1)
    omega
theorem walkV_len (M : Mach) (rows : List Nat) (s : Nat) : (walkV M rows s).1.length = rows.length := by
  unfold walkV; rw [walkF_len]; exact Nat.zero_add _
theorem walkF_lt {M : Mach} : ∀ (rows : List Nat) (t : List Nat × Nat), t.2 < 2 ^ M.2.1.length → (rows.foldl (fun t r => (t.1 ++ [outV M t.2 r], nextV M t.2 r)) t).2 < 2 ^ M.2.1.length
  | [], t, h => h
  | r :: rows, t, h => walkF_lt rows _ (bitsV_lt ..)
theorem walkV_lt {M : Mach} {rows : List Nat} {s : Nat} (h : s < 2 ^ M.2.1.length) : (walkV M rows s).2 < 2 ^ M.2.1.length := walkF_lt rows ([], s) h
theorem walkV_snoc (M : Mach) (rows : List Nat) (r s : Nat) : walkV M (rows ++ [r]) s = ((walkV M rows s).1 ++ [outV M (walkV M rows s).2 r], nextV M (walkV M rows s).2 r) := by
  unfold walkV; rw [List.foldl_append]; rfl
def okA (x : An) (w : Nat) : Prop := ∃ n : Nat, x = An.i (n : Int) ∧ n < 2 ^ w
def fineA : An → Prop
  | .o T => T ≠ "int" ∧ T ≠ "bool"
  | _ => True
theorem isA_int (x : An) (h : fineA x) : (isA "int" x = true ∧ ¬ isA "bool" x = true) ↔ ∃ z : Int, x = An.i z := by
  cases x with
  | i z => exact ⟨fun _ => ⟨z, rfl⟩, fun _ => by simp [isA, An.ty]⟩
  | b b => exact ⟨fun q => absurd (by simp [isA, An.ty]) q.2, fun ⟨z, e⟩ => by cases e⟩
  | n => exact ⟨fun q => absurd q.1 (by simp [isA, An.ty]), fun ⟨z, e⟩ => by cases e⟩
  | s t => exact ⟨fun q => absurd q.1 (by simp [isA, An.ty]), fun ⟨z, e⟩ => by cases e⟩
  | l t => exact ⟨fun q => absurd q.1 (by simp [isA, An.ty]), fun ⟨z, e⟩ => by cases e⟩
  | t t => exact ⟨fun q => absurd q.1 (by simp [isA, An.ty]), fun ⟨z, e⟩ => by cases e⟩
  | o T =>
    refine ⟨fun q => absurd q.1 ?_, fun ⟨z, e⟩ => by cases e⟩
    obtain ⟨h1, h2⟩ := h
    unfold isA An.ty
    simp [h1, h2]
section
variable {α : Type}
theorem enumT_snd (xs : List α) : (enumT xs).map (·.2) = xs := by
  unfold enumT
  exact List.map_snd_zip (by rw [List.length_range]; exact Nat.le_refl _)
theorem enumT_split {xs : List α} {pre post : List (Nat × α)} {x : Nat × α} (h : enumT xs = pre ++ x :: post) : x.1 = pre.length ∧ xs = pre.map (·.2) ++ x.2 :: post.map (·.2) := by
  constructor
  · have e := enumT_get xs pre.length
    rw [h, List.getElem?_append_right (Nat.le_refl _), Nat.sub_self] at e
    have e' : some x = xs[pre.length]?.map fun y => (pre.length, y) := e
    cases q : xs[pre.length]? with
    | none => rw [q] at e'; cases e'
    | some y => rw [q] at e'; cases e'; rfl
  · have e := enumT_snd xs
    rw [h, List.map_append, List.map_cons] at e
    exact e.symm
theorem w_bits {ps : List α} {body : Nat × α → Nat → (Nat → Prop) → (Nat → Prop) → Prop} {k : Nat → Prop} (f : α → Bool) (hb : ∀ pre p post nx bk, ps = pre ++ p :: post → nx (maskB ((pre ++ [p]).map f)) → body (pre.length, p) (maskB (pre.map f)) nx bk) (hk : k (maskB (ps.map f))) : forW (enumT ps) 0 body k := by
  refine forW_ind (fun pre s => s = maskB ((pre.map (·.2)).map f)) rfl (fun pre x post s nx bk e hs hn _ => ?_) fun s hs => ?_
  · obtain ⟨e1, e2⟩ := enumT_split e
    obtain ⟨i, p⟩ := x
    have e1' : i = pre.length := e1
    subst hs e1'
    have := hb (pre.map (·.2)) p (post.map (·.2)) nx bk e2 (hn _ (by rw [List.map_append, List.map_append, List.map_append]; rfl))
    rwa [List.length_map] at this
  · rw [hs, enumT_snd]; exact hk
theorem forW_enum {S : Type} {ps : List α} {s : S} {body : Nat × α → S → (S → Prop) → (S → Prop) → Prop} {k : S → Prop} (P : List α → S → Prop) (h0 : P [] s)
    (hb : ∀ pre p post s nx bk, ps = pre ++ p :: post → P pre s → (∀ s', P (pre ++ [p]) s' → nx s') → body (pre.length, p) s nx bk) (hk : ∀ s, P ps s → k s) : forW (enumT ps) s body k := by
  refine forW_ind (fun pre s => P (pre.map (·.2)) s) h0 (fun pre x post s nx bk e hs hn _ => ?_) fun s hs => ?_
  · obtain ⟨e1, e2⟩ := enumT_split e
    obtain ⟨i, p⟩ := x
    have e1' : i = pre.length := e1
    subst e1'
    have := hb (pre.map (·.2)) p (post.map (·.2)) s nx bk e2 hs (fun s' h => hn s' (by rw [List.map_append]; exact h))
    rwa [List.length_map] at this
  · rw [enumT_snd] at hs; exact hk s hs
end
end Wk
namespace Wk
/-- v behind i turns -/
def itV (f : Nat → Nat) (v : Nat) : Nat → Nat
  | 0 => v
  | i + 1 => f (itV f v i)
theorem itV_add (f : Nat → Nat) (v a : Nat) : ∀ b, itV f v (a + b) = itV f (itV f v a) b
  | 0 => rfl
  | b + 1 => by show f (itV f v (a + b)) = f (itV f (itV f v a) b); rw [itV_add f v a b]
theorem itV_succ (f : Nat → Nat) (v : Nat) (b : Nat) : itV f v (b + 1) = itV f (f v) b := by rw [Nat.add_comm, itV_add]; rfl
structure Lin (f : Nat → Nat) : Prop where
  z : f 0 = 0
  x : ∀ a b, f (a ^^^ b) = f a ^^^ f b
theorem Lin.it {f : Nat → Nat} (h : Lin f) (i : Nat) : Lin (fun v => itV f v i) := by
  induction i with
  | zero => exact ⟨rfl, fun _ _ => rfl⟩
  | succ i ih => exact ⟨by show f (itV f 0 i) = 0; rw [show itV f 0 i = 0 from ih.z, h.z], fun a b => by show f (itV f (a ^^^ b) i) = f (itV f a i) ^^^ f (itV f b i); rw [show itV f (a ^^^ b) i = itV f a i ^^^ itV f b i from ih.x a b, h.x]⟩
/-- a polynomial of the turn, at v -/
def pa (f : Nat → Nat) (v q : Nat) : Nat := if h : q = 0 then 0 else (if q.testBit 0 = true then v else 0) ^^^ pa f (f v) (q / 2)
termination_by q
decreasing_by omega
section
variable {f : Nat → Nat}
/-- the states one behind another -/
def orb (f : Nat → Nat) (v k : Nat) : List Nat := (List.range k).map (itV f v)
theorem orb_len (v k : Nat) : (orb f v k).length = k := by unfold orb; rw [List.length_map, List.length_range]
theorem orb_take (v : Nat) {j k : Nat} (h : j ≤ k) : (orb f v k).take j = orb f v j := by
  unfold orb
  rw [← List.map_take, List.take_range, Nat.min_eq_left h]
theorem orb_getD (v : Nat) {j k : Nat} (h : j < k) : (orb f v k).getD j 0 = itV f v j := by
  unfold orb
  rw [List.getD_eq_getElem?_getD, List.getElem?_map, List.getElem?_range h]; rfl
end
/-- the turn with rows 0 -/
theorem lin_bits (ps : List (Nat × Nat)) : Lin (fun s => bitsV ps s 0) := by
  have b0 : ∀ p s, bitf p s 0 = par (p.1 &&& s) := fun p s => by unfold bitf; rw [Nat.and_zero, par_zero]; simp
  constructor
  · refine Nat.eq_of_testBit_eq fun j => ?_
    rw [bitsV_bit, b0, Nat.and_zero, par_zero, Nat.zero_testBit]; simp
  · intro a b
    refine Nat.eq_of_testBit_eq fun j => ?_
    have ax : ∀ c a b : Nat, c &&& (a ^^^ b) = (c &&& a) ^^^ (c &&& b) := fun c a b => Nat.eq_of_testBit_eq fun i => by
      rw [Nat.testBit_and, Nat.testBit_xor, Nat.testBit_xor, Nat.testBit_and, Nat.testBit_and]
      cases a.testBit i <;> cases b.testBit i <;> cases c.testBit i <;> rfl
    rw [Nat.testBit_xor, bitsV_bit, bitsV_bit, bitsV_bit, b0, b0, b0, ax, par_xor]
    cases decide (j < ps.length) <;> simp
theorem itV_lt {f : Nat → Nat} {n : Nat} (hf : ∀ s, f s < 2 ^ n) {v : Nat} (hv : v < 2 ^ n) : ∀ i, itV f v i < 2 ^ n
  | 0 => hv
  | i + 1 => hf _
end Wk
namespace Wk
open PySem L2
section
variable {α β γ : Type} {e : Rep α} {f : Rep β} {g : Rep γ} {K : PySem.W.Frag} {σ : L2.St} {F H : Hp} {v : V} {x : α × β × γ} {ta : TE} {C : Addr} {a b c : Str}
theorem len_T3 (r : (pT3 e f g).r F v x) (h : Ex F H) (ha : Val ta σ H v) : Val (tCB (rLen K) (tCons ta tNil)) σ H (.int ((3 : Nat) : Int)) := by
  obtain ⟨p, u, w, y, rfl, hp, _⟩ := r
  exact v_cb1 ha fun Q k => ⟨p, _, rfl, .inr (SqT.of (h _ _ hp)), k⟩
theorem ty_T3 (r : (pT3 e f g).r F v x) (h : Ex F H) : TyX K H v (.type "tuple") := by
  obtain ⟨p, u, w, y, rfl, hp, _⟩ := r
  exact .base (.tup (h _ _ hp))
end
end Wk
namespace Wk
open PySem L2
/-- a text of one sign -/
def sg (c : Nat) : Str := ⟨#[c]⟩
section
variable {K : PySem.W.Frag} {σ : L2.St} {F0 H0 F H : Hp} {ta tb te : TE} {tl th : TO} {x y : Str} {v w : V} {i c : Nat} {Q : VK}
theorem all_str {ys : List Str} : ∀ {vs : List V} {ys : List Str}, All pS F vs ys → vs = ys.map V.str
  | [], [], _ => rfl
  | v :: vs, z :: ys, ⟨a, b⟩ => by rw [List.map_cons, ← all_str (ys := ys) b, show v = V.str z from a]
  | [], _ :: _, q => q.elim
  | _ :: _, [], q => q.elim
end
end Wk
namespace Wk
open PySem L2
/-- things that stand in G -/
def pAt {α : Type} (G : Hp) (e : Rep α) : Rep α := ⟨fun _ v x => e.r G v x, fun _ r => r⟩
/-- what a call has made -/
def NLst (o : HO) : Prop := ∀ vs, o ≠ .lst vs
/-- what stands in a region is new and not in F, or is in F and no list -/
abbrev NewOr (H0 F G : Hp) : Prop := ∀ a o, G a = some o → (H0 a = none ∧ F a = none) ∨ (F a = some o ∧ NLst o)
structure RG (H0 F H G : Hp) : Prop where
  z : NewOr H0 F G
  h : Ex G H
/-- the same, its lists changed: each has grown by at most k -/
structure RD (H0 F H G : Hp) (k : Nat) : Prop where
  z : NewOr H0 F G
  c : ∀ a o, G a = some o → ∃ o', H a = some o'
  l : ∀ a vs, G a = some (.lst vs) → ∃ ws, H a = some (.lst ws) ∧ ws.length ≤ vs.length + k
/-- but for its lists -/
def nl (G : Hp) : Hp := fun a => match G a with | some (.lst _) => none | o => o
theorem nl_sub {G : Hp} : Ex (nl G) G := fun a o e => by
  unfold nl at e
  split at e
  · cases e
  · exact e
theorem nl_lst {G : Hp} {p : Addr} {vs : List V} (h : G p = some (.lst vs)) : nl G p = none := by unfold nl; rw [h]
theorem nl_tup {G : Hp} {p : Addr} {vs : List V} (h : G p = some (.tup vs)) : nl G p = some (.tup vs) := by unfold nl; rw [h]
section
variable {α β γ : Type} {e : Rep α} {f : Rep β} {k3 : Rep γ} {K : PySem.W.Frag} {σ : L2.St} {F0 H0 F F' F2 H H' H2 G : Hp} {p q : Addr} {v u : V} {x : α} {xs : List α} {Q : VK} {to : TE} {tA : TA} {vs : List V} {o : HO} {k : Nat}
theorem NewOr.lst (z : NewOr H0 F G) {vs : List V} (e : G p = some (.lst vs)) : H0 p = none ∧ F p = none := (z p _ e).resolve_right fun q => q.2 vs rfl
theorem NewOr.step (z : NewOr H0 F G) (c : ∀ a o, G a = some o → ∃ o', H a = some o') (w : Wf F H F' H') : NewOr H0 F' G := fun a o e => by
  rcases z a o e with ⟨h0, hn⟩ | ⟨h1, h2⟩
  · refine .inl ⟨h0, ?_⟩
    cases q : F' a with
    | none => rfl
    | some u =>
      obtain ⟨o', h⟩ := c a o e
      have := w.n a u q hn
      rw [h] at this
      cases this
  · exact .inr ⟨w.g _ _ h1, h2⟩
theorem NewOr.frzO (z : NewOr H0 F G) (fz : Fz F F' p) (hq : G p = none) (g : Ex F F') : NewOr H0 F' G := fun a o e => by
  rcases z a o e with ⟨h0, hn⟩ | ⟨h1, h2⟩
  · exact .inl ⟨h0, fz a (ne_of_none e hq) hn⟩
  · exact .inr ⟨g _ _ h1, h2⟩
theorem RG.step (g : RG H0 F H G) (w : Wf F H F' H') : RG H0 F' H' G := ⟨g.z.step (fun a o e => ⟨o, g.h a o e⟩) w, g.h.tr w.h⟩
theorem RG.ne (g : RG H0 F H G) (h : H q = none) : G q = none := g.h.non h
theorem RG.frzO (g : RG H0 F H G) (fz : Fz F F' p) (hq : G p = none) (x : Ex F F') : RG H0 F' H G := ⟨g.z.frzO fz hq x, g.h⟩
theorem RG.kept (g : RG H0 F H G) (h : ∀ q o, H q = some o → q ≠ p → H' q = some o) (hq : G p = none) : RG H0 F H' G := ⟨g.z, fun a o e => h a o (g.h a o e) (ne_of_none e hq)⟩
theorem RD.step (g : RD H0 F H G k) (w : Wf F H F' H') : RD H0 F' H' G k := by
  refine ⟨g.z.step g.c w, fun a o e => ?_, fun a vs e => ?_⟩
  · obtain ⟨o', h⟩ := g.c a o e
    exact ⟨o', w.h _ _ h⟩
  · obtain ⟨ws, h1, h2⟩ := g.l a vs e
    exact ⟨ws, w.h _ _ h1, h2⟩
theorem RD.ne (g : RD H0 F H G k) (h : H q = none) : G q = none := by
  cases e : G q with
  | none => rfl
  | some o => obtain ⟨o', z⟩ := g.c q o e; rw [h] at z; cases z
theorem RD.frzO (g : RD H0 F H G k) (fz : Fz F F' p) (hq : G p = none) (x : Ex F F') : RD H0 F' H G k := ⟨g.z.frzO fz hq x, g.c, g.l⟩
theorem RD.kept (g : RD H0 F H G k) (h : ∀ q o, H q = some o → q ≠ p → H' q = some o) (hq : G p = none) : RD H0 F H' G k := by
  refine ⟨g.z, fun a o e => ?_, fun a vs e => ?_⟩
  · obtain ⟨o', z⟩ := g.c a o e
    exact ⟨o', h a o' z (ne_of_none e hq)⟩
  · obtain ⟨ws, h1, h2⟩ := g.l a vs e
    exact ⟨ws, h _ _ h1 (ne_of_none e hq), h2⟩
theorem RG.rd (g : RG H0 F H G) : RD H0 F H G 0 := ⟨g.z, fun a o e => ⟨o, g.h a o e⟩, fun a vs e => ⟨vs, g.h a _ e, Nat.le_refl _⟩⟩
theorem RG.nl (g : RG H0 F H G) : RG H0 F H (nl G) := ⟨fun a o e => g.z a o (nl_sub a o e), fun a o e => g.h a o (nl_sub a o e)⟩
/-- both heaps together -/
def un (F G : Hp) : Hp := fun a => match F a with | some o => some o | none => G a
theorem un_l {F G : Hp} : Ex F (un F G) := fun a o e => by unfold un; rw [e]
theorem RG.un_r (g : RG H0 F H G) : Ex G (un F G) := fun a o e => by
  unfold un
  rcases g.z a o e with ⟨_, hn⟩ | ⟨h1, _⟩
  · rw [hn]; exact e
  · rw [h1]
theorem RG.frz (g : RG H0 F H G) (w : Wf F0 H0 F H) : Wf F0 H0 (un F G) H := ⟨w.h, fun a o e => by
    unfold un at e
    cases q : F a with
    | some u => rw [q] at e; cases e; exact w.f a _ q
    | none => rw [q] at e; exact g.h a o e, w.g.tr un_l, fun a o e e0 => by
    unfold un at e
    cases q : F a with
    | some u => exact w.n a u q e0
    | none => rw [q] at e; exact (g.z a o e).elim (fun y => y.1) fun y => by rw [y.1] at q; cases q⟩
theorem RG.frzE (g : RG H0 F H G) (w : Wf F0 H0 F H) : ∃ F', Wf F0 H0 F' H ∧ Ex F F' ∧ Ex G F' ∧ (∀ q, G q = none → F q = none → F' q = none) :=
  ⟨_, g.frz w, un_l, g.un_r, fun q h x => by unfold un; rw [x]; exact h⟩
theorem RG.lend (g : RG H0 F H G) (w : Wf F0 H0 F H) : ∃ Fl, Ex Fl H ∧ Ex F Fl ∧ Ex G Fl := ⟨_, (g.frz w).f, un_l, g.un_r⟩
/-- behind a call -/
theorem RG.of (w : Wf F0 H0 F H) (sf : Ex F2 H2) : RG H0 F H2 (nw H F2) := by
  have key : ∀ a o, nw H F2 a = some o → H a = none := fun a o e => by
    unfold nw at e
    by_cases c : H a = none
    · exact c
    · rw [if_neg c] at e; cases e
  exact ⟨fun a o e => .inl ⟨w.h.non (key a o e), w.f.non (key a o e)⟩, fun a o e => sf a o (nw_sub a o e)⟩
def NoL {α : Type} (e : Rep α) : Prop := ∀ {F : Hp} {v : V} {x : α}, e.r F v x → e.r (Wk.nl F) v x
theorem nl_o {o : HO} (h : G p = some o) (n : NLst o) : Wk.nl G p = some o := by
  unfold Wk.nl
  rw [h]
  cases o <;> first | rfl | exact absurd rfl (n _)
theorem NoL.N : NoL pN := fun r => r
theorem NoL.all (h : NoL e) : ∀ {vs : List V} {xs : List α}, All e F vs xs → All e (Wk.nl F) vs xs
  | [], [], _ => trivial
  | _ :: _, _ :: _, ⟨a, b⟩ => ⟨h a, NoL.all h b⟩
  | [], _ :: _, q => q.elim
  | _ :: _, [], q => q.elim
theorem NoL.TL (h : NoL e) : NoL (pTL e) := fun ⟨p, vs, a, b, c⟩ => ⟨p, vs, a, nl_tup b, h.all c⟩
theorem NoL.T2 (h : NoL e) (k : NoL f) : NoL (pT2 e f) := fun ⟨p, u, w, a, b, c, d⟩ => ⟨p, u, w, a, nl_tup b, h c, k d⟩
theorem NoL.O3 {C : Addr} {a b c : Str} (h : NoL e) (k : NoL f) (l : NoL k3) : NoL (pO3 C a b c e f k3) := fun {F v x} r => by
  obtain ⟨p, dx, fs, rfl, hp, u1, u2, u3, rfl, r1, r2, r3⟩ := r
  exact ⟨p, dx, _, rfl, nl_o hp (fun vs z => by cases z), u1, u2, u3, rfl, h r1, k r2, l r3⟩
theorem ne_rg (hq : G q = none) (hp : G p = some o) : q ≠ p := fun z => by rw [z, hp] at hq; cases hq
theorem all_cv {e' : Rep α} (h : ∀ {v x}, e.r G v x → e'.r F v x) : ∀ {vs : List V} {xs : List α}, All e G vs xs → All e' F vs xs
  | [], [], _ => trivial
  | _ :: _, _ :: _, ⟨a, b⟩ => ⟨h a, all_cv h b⟩
  | [], _ :: _, q => q.elim
  | _ :: _, [], q => q.elim
theorem n_listG {e' : Rep α} (cv : ∀ {v x}, e.r G v x → e'.r F v x) (r : (pL e).r G v xs) (g : Ex G H) (w : Wf F0 H0 F H) (k : ∀ p H', H p = none → Wf F H F H' → XL e' H0 F H' p xs → Q (.ref p) H') : rListOf K [v] H Q := by
  obtain ⟨p, vs, rfl, hp, a⟩ := r
  exact ⟨p, vs, rfl, .inl (SqL.of (g _ _ hp)), fun l hl => k l _ hl (Wf.newX w.f hl) ⟨vs, Xc.mk' w hl, all_cv cv a⟩⟩
theorem L_at (r : (pL e).r G v xs) : ∃ p vs, v = .ref p ∧ G p = some (.lst vs) ∧ vs.length = xs.length := let ⟨p, vs, a, b, c⟩ := r; ⟨p, vs, a, b, c.len⟩
theorem m_rd {r : V → List V → Hp → VK → Prop} (g : RD H0 F H G k) (hp : G p = some (.lst vs)) (ho : Val to σ H (.ref p)) (kk : tA σ H fun vs H2 => r (.ref p) vs H2 Q) : tBM K "list" r to tA σ H Q :=
  ho _ ⟨let ⟨ws, h, _⟩ := g.l p vs hp; Or.inl ⟨rfl, _, Or.inl (Or.inl h)⟩, kk⟩
theorem RD.setL (g : RD H0 F H G k) {vs ws us : List V} {j : Nat} (hp : G p = some (.lst vs)) (hl : us.length ≤ vs.length + j) (hk : k ≤ j) : RD H0 F (upd H p (.lst us)) G j := ⟨g.z, fun a o e => by
    by_cases q : a = p
    · subst q; exact ⟨_, upd_same⟩
    · rw [upd_ne q]; exact g.c a o e, fun a vs' e => by
    by_cases q : a = p
    · subst q; rw [hp] at e; cases e; exact ⟨us, upd_same, hl⟩
    · rw [upd_ne q]; obtain ⟨ws, h1, h2⟩ := g.l a vs' e; exact ⟨ws, h1, by omega⟩⟩
theorem Wf.setG (w : Wf F0 H0 F H) (g : RD H0 F H G k) (hp : G p = some (.lst vs)) {u : HO} : Wf F0 H0 F (upd H p u) := ⟨fun a v e => by
    rw [upd_ne (ne_of_none e (g.z.lst hp).1)]; exact w.h a v e, fun a v e => by rw [upd_ne (ne_of_none e (g.z.lst hp).2)]; exact w.f a v e, w.g, w.n⟩
theorem a_appD (g : RD H0 F H G k) (hp : G p = some (.lst vs)) (w : Wf F0 H0 F H) (hl : vs.length + k < 1000000) (kk : ∀ H', Wf F0 H0 F H' → RD H0 F H' G (k + 1) → (∀ q o, H q = some o → q ≠ p → H' q = some o) → Q .non H') : rAppend (.ref p) [v] H Q := by
  obtain ⟨ws, h1, h2⟩ := g.l p vs hp
  exact ⟨p, ws, v, rfl, rfl, h1, small_len (by omega), kk _ (w.setG g hp) (g.setL (ws := ws) hp (by rw [List.length_append]; simp; omega) (by omega)) fun q o h hq => by rw [upd_ne hq]; exact h⟩
theorem T3_at {z : α × β × γ} (r : (pT3 e f k3).r G v z) : (pT3 (pAt G e) (pAt G f) (pAt G k3)).r (nl G) v z := let ⟨p, u, w, y, a, b, c, d, h⟩ := r; ⟨p, u, w, y, a, nl_tup b, c, d, h⟩
theorem nl_ne (h : G q = none) : nl G q = none := by unfold nl; rw [h]
theorem inV_str {x : Str} : ∀ {ys : List Str}, inV (.str x) (ys.map V.str) = decide (x ∈ ys)
  | [] => rfl
  | y :: ys => by
    have ih := inV_str (x := x) (ys := ys)
    unfold inV at ih ⊢
    rw [List.map_cons, List.any_cons, ih]
    have e : eqV (.str y) (.str x) = decide (x = y) := by
      show (y == x) = _
      by_cases h : x = y
      · subst h; simp
      · rw [decide_eq_false h]; exact beq_eq_false_iff_ne.mpr (fun z => h z.symm)
    rw [e, Bool.eq_iff_iff]
    simp
theorem flat_str : ∀ {ys : List Str}, (ys.map V.str).all flatV = true
  | [] => rfl
  | _ :: ys => by rw [List.map_cons, List.all_cons, flat_str (ys := ys)]; rfl
theorem v_notInLS {ta tb : TE} {y : Str} {ys : List Str} (ha : Val ta σ H (.str y)) (hb : Val tb σ H v) (r : (pL pS).r F v ys) (f1 : Ex F H) : Val (tOp (rIn K true) ta tb) σ H (.bl (decide (¬ y ∈ ys))) := v2 ha hb fun Q k => by
  obtain ⟨p, vs, rfl, hp, a⟩ := r
  have e := all_str (ys := ys) a
  subst e
  exact ⟨p, _, rfl, .inl (SqL.of (f1 _ _ hp)), rfl, flat_str, by rw [if_pos rfl, inV_str, ← decide_not]; exact k⟩
end
class Dao {α : Type} (e : Rep α) (lv : outParam Nat) where
  ok : α → Prop
  d : α → PyData
  dp : ∀ {K : PySem.W.Frag} {F : Hp} {v : V} {x : α}, e.r F v x → Dp K F v (d x)
  lay : ∀ x, ok x → (d x).canLay0 = true
  dep : ∀ x, (d x).depth ≤ lv
  inj : ∀ x y, PyData.eqv (d x) (d y) = true ↔ x = y
def okV {α : Type} (e : Rep α) {n : Nat} [Dao e n] (x : α) : Prop := Dao.ok e x
def okS (x : Str) : Prop := PyData.canLay0 (.str x) = true
instance : Dao pI 0 := ⟨fun _ => True, Dat.d pI, Dat.dp, fun x _ => Dat.lay (e := pI) x, Dat.dep, Dat.inj⟩
instance : Dao pN 0 := ⟨fun _ => True, Dat.d pN, Dat.dp, fun x _ => Dat.lay (e := pN) x, Dat.dep, Dat.inj⟩
instance : Dao pB 0 := ⟨fun _ => True, Dat.d pB, Dat.dp, fun x _ => Dat.lay (e := pB) x, Dat.dep, Dat.inj⟩
instance : Dao pS 0 := ⟨okS, .str, fun h => by cases (show _ = V.str _ from h); exact .str _, fun _ h => h, fun _ => Nat.le_refl _, fun x y => by
  show ((x == y) = true) ↔ _
  exact beq_iff_eq⟩
theorem lay_allO {α : Type} {d : α → PyData} {ok : α → Prop} (h : ∀ x, ok x → (d x).canLay0 = true) : ∀ xs : List α, (∀ x ∈ xs, ok x) → PyData.canLayAll0 (xs.map d) = true
  | [], _ => rfl
  | x :: xs, q => by
    show (PyData.canLay0 (d x) && PyData.canLayAll0 (xs.map d)) = true
    rw [h x (q x (List.mem_cons_self ..)), lay_allO h xs fun y hy => q y (List.mem_cons_of_mem _ hy)]; rfl
theorem dp_allO {α : Type} {e : Rep α} {lv : Nat} [Dao e lv] {K : PySem.W.Frag} {F : Hp} : ∀ {vs : List V} {xs : List α}, All e F vs xs → DpAll K F vs (xs.map (Dao.d e))
  | [], [], _ => .nil
  | _ :: _, _ :: _, ⟨a, b⟩ => .cons (Dao.dp a) (dp_allO b)
  | [], _ :: _, q => q.elim
  | _ :: _, [], q => q.elim
instance {α : Type} {e : Rep α} {n : Nat} [Dao e n] : Dao (pL e) (n + 1) := ⟨fun xs => ∀ x ∈ xs, Dao.ok e x, fun xs => .list (xs.map (Dao.d e)), fun {K F v xs} h => by
    obtain ⟨p, vs, rfl, hp, a⟩ := h
    exact .lst (SqL.of hp) (dp_allO a), fun xs => lay_allO (Dao.lay (e := e)) xs, fun xs => by
    have := dep_all (Dao.dep (e := e)) xs
    simp only [PyData.depth]
    omega, fun xs ys => by
    show PyData.eqvAll (xs.map (Dao.d e)) (ys.map (Dao.d e)) = true ↔ _
    exact eqv_all (Dao.inj (e := e)) xs ys⟩
instance {α : Type} {e : Rep α} {n : Nat} [Dao e n] : Dao (pTL e) (n + 1) := ⟨fun xs => ∀ x ∈ xs, Dao.ok e x, fun xs => .tuple (xs.map (Dao.d e)), fun {K F v xs} h => by
    obtain ⟨p, vs, rfl, hp, a⟩ := h
    exact .tup (SqT.of hp) (dp_allO a), fun xs => lay_allO (Dao.lay (e := e)) xs, fun xs => by
    have := dep_all (Dao.dep (e := e)) xs
    simp only [PyData.depth]
    omega, fun xs ys => by
    show PyData.eqvAll (xs.map (Dao.d e)) (ys.map (Dao.d e)) = true ↔ _
    exact eqv_all (Dao.inj (e := e)) xs ys⟩
instance {α β : Type} {e : Rep α} {f : Rep β} {n m : Nat} [Dao e n] [Dao f m] : Dao (pT2 e f) (max n m + 1) := ⟨fun x => Dao.ok e x.1 ∧ Dao.ok f x.2, fun x => .tuple [Dao.d e x.1, Dao.d f x.2], fun {K F v x} h => by
    obtain ⟨p, u, w, rfl, hp, a, b⟩ := h
    exact .tup (SqT.of hp) (.cons (Dao.dp a) (.cons (Dao.dp b) .nil)), fun x h => by
    show (PyData.canLay0 (Dao.d e x.1) && (PyData.canLay0 (Dao.d f x.2) && PyData.canLayAll0 [])) = true
    rw [Dao.lay _ h.1, Dao.lay _ h.2]; rfl, fun x => by
    have a := Dao.dep (e := e) x.1
    have b := Dao.dep (e := f) x.2
    simp only [PyData.depth, PyData.depthAll]
    omega, fun x y => by
    show (PyData.eqv (Dao.d e x.1) (Dao.d e y.1) && (PyData.eqv (Dao.d f x.2) (Dao.d f y.2) && PyData.eqvAll [] [])) = true ↔ _
    have z : PyData.eqvAll [] [] = true := rfl
    rw [z, Bool.and_true, Bool.and_eq_true, Dao.inj, Dao.inj, Prod.ext_iff]⟩
instance {α β γ : Type} {e : Rep α} {f : Rep β} {g : Rep γ} {n m k : Nat} [Dao e n] [Dao f m] [Dao g k] : Dao (pT3 e f g) (max n (max m k) + 1) := ⟨fun x => Dao.ok e x.1 ∧ Dao.ok f x.2.1 ∧ Dao.ok g x.2.2, fun x => .tuple [Dao.d e x.1, Dao.d f x.2.1, Dao.d g x.2.2], fun {K F v x} h => by
    obtain ⟨p, u, w, y, rfl, hp, a, b, c⟩ := h
    exact .tup (SqT.of hp) (.cons (Dao.dp a) (.cons (Dao.dp b) (.cons (Dao.dp c) .nil))), fun x h => by
    show (PyData.canLay0 (Dao.d e x.1) && (PyData.canLay0 (Dao.d f x.2.1) && (PyData.canLay0 (Dao.d g x.2.2) && PyData.canLayAll0 []))) = true
    rw [Dao.lay _ h.1, Dao.lay _ h.2.1, Dao.lay _ h.2.2]; rfl, fun x => by
    have a := Dao.dep (e := e) x.1
    have b := Dao.dep (e := f) x.2.1
    have c := Dao.dep (e := g) x.2.2
    simp only [PyData.depth, PyData.depthAll]
    omega, fun x y => by
    show (PyData.eqv (Dao.d e x.1) (Dao.d e y.1) && (PyData.eqv (Dao.d f x.2.1) (Dao.d f y.2.1) && (PyData.eqv (Dao.d g x.2.2) (Dao.d g y.2.2) && PyData.eqvAll [] []))) = true ↔ _
    have z : PyData.eqvAll [] [] = true := rfl
    rw [z, Bool.and_true, Bool.and_eq_true, Bool.and_eq_true, Dao.inj, Dao.inj, Dao.inj, Prod.ext_iff, Prod.ext_iff]⟩
instance {α : Type} {e : Rep α} {n : Nat} [Dao e n] : Dao (pAlt (pL e) pN) (n + 1) := ⟨fun x => match x with | .inl xs => ∀ y ∈ xs, Dao.ok e y | .inr _ => True, fun x => match x with | .inl xs => .list (xs.map (Dao.d e)) | .inr m => .int (m : Int), fun {K F v x} h => by
    cases x with
    | inl xs =>
      obtain ⟨p, vs, rfl, hp, a⟩ := (show (pL e).r F v xs from h)
      exact .lst (SqL.of hp) (dp_allO a)
    | inr m => cases (show v = V.int _ from h); exact .int _, fun x h => by
    cases x with
    | inl xs => exact lay_allO (Dao.lay (e := e)) xs h
    | inr m => rfl, fun x => by
    cases x with
    | inl xs =>
      have := dep_all (Dao.dep (e := e)) xs
      simp only [PyData.depth]
      omega
    | inr m => simp only [PyData.depth]; omega, fun x y => by
    cases x with
    | inl xs =>
      cases y with
      | inl ys =>
        show PyData.eqvAll (xs.map (Dao.d e)) (ys.map (Dao.d e)) = true ↔ _
        rw [eqv_all (Dao.inj (e := e)) xs ys]
        exact ⟨fun h => by rw [h], fun h => Sum.inl.inj h⟩
      | inr m => exact ⟨fun h => absurd (show false = true from h) (by decide), fun h => nomatch h⟩
    | inr m =>
      cases y with
      | inl ys => exact ⟨fun h => absurd (show false = true from h) (by decide), fun h => nomatch h⟩
      | inr k =>
        show (((m : Int) == (k : Int)) = true) ↔ _
        rw [beq_iff_eq]
        exact ⟨fun h => by rw [show m = k by omega], fun h => by rw [Sum.inr.inj h]⟩⟩
theorem Dao.shp {α : Type} {e : Rep α} {n : Nat} [Dao e n] (h : n ≤ 64) {x : α} (o : okV e x) : SeqAt.shaped (Dao.d e x) = true := by
  unfold SeqAt.shaped
  rw [Dao.lay x o, decide_eq_true (Nat.le_trans (Dao.dep x) h)]; rfl
section
variable {α : Type} {e : Rep α} {K : PySem.W.Frag} {σ : L2.St} {F F' H : Hp} {ta tb : TE} {v w : V} {x y : α} {n : Nat}
theorem c_neO [DecidableEq α] [Dao e n] (ha : Val ta σ H v) (hb : Val tb σ H w) (f : Ex F H) (r : e.r F v x) (g : Ex F' H) (s : e.r F' w y) (o : okV e x ∧ okV e y) (h : n ≤ 64 := by decide) : Val (tOp (rNeD K) ta tb) σ H (.bl (decide (x ≠ y))) :=
  v2 ha hb fun Q k => ⟨_, _, Dao.dp (e.mono f r), Dao.dp (e.mono g s), Dao.shp h o.1, Dao.shp h o.2, by
    have z : PyData.eqv (Dao.d e x) (Dao.d e y) = decide (x = y) := Bool.eq_iff_iff.mpr (by rw [Dao.inj, decide_eq_true_iff])
    rw [z, ← decide_not]; exact k⟩
end
end Wk
namespace Wk
class Ctx (C : Type) where
  Out : Type
  at_ : Out → C → Prop
instance {α : Type} : Ctx (α → Prop) := ⟨α, fun z c => c z⟩
instance {C E : Type} [Ctx C] [Ctx E] : Ctx (C × E) := ⟨Sum (Ctx.Out C) (Ctx.Out E), fun o d => match o with | .inl o => Ctx.at_ o d.1 | .inr o => Ctx.at_ o d.2⟩
def Det {C : Type} [Ctx C] (W : C → Prop) : Prop := ∀ c, W c → (∀ c', W c') ∨ ∃ o : Ctx.Out C, Ctx.at_ o c ∧ ∀ c', Ctx.at_ o c' → W c'
theorem Det.lf0a {S : Type} (z : S) : Det (fun d : (S → Prop) => d z) := fun d h => .inr ⟨z, h, fun _ q => q⟩
theorem Det.lf0r {C S : Type} [Ctx C] (z : S) : Det (fun d : (C × (S → Prop)) => d.2 z) := fun d h => .inr ⟨Sum.inr z, h, fun _ q => q⟩
theorem Det.lf0rl {C S T : Type} [Ctx C] [Ctx T] (z : S) : Det (fun d : (C × ((S → Prop) × T)) => d.2.1 z) := fun d h => .inr ⟨Sum.inr (Sum.inl z), h, fun _ q => q⟩
theorem Det.lf1a {S : Type} {E0 : Type} [Ctx E0] (z : S) : Det (fun d : ((S → Prop) × E0) => d.1 z) := fun d h => .inr ⟨Sum.inl (z), h, fun _ q => q⟩
section
variable {C α S β : Type} [Ctx C]
theorem Det.const {p : Prop} : Det (fun _ : C => p) := fun c h => .inl fun _ => h
theorem Det.and {p : Prop} {W : C → Prop} (h : p → Det W) : Det (fun c => p ∧ W c) := fun c ⟨a, b⟩ => (h a c b).imp (fun q c' => ⟨a, q c'⟩) fun ⟨o, x, y⟩ => ⟨o, x, fun c' q => ⟨a, y c' q⟩⟩
theorem Det.ex {W : α → C → Prop} (h : ∀ x, Det (W x)) : Det (fun c => ∃ x, W x c) := fun c ⟨a, b⟩ => (h a c b).imp (fun q c' => ⟨a, q c'⟩) fun ⟨o, x, y⟩ => ⟨o, x, fun c' q => ⟨a, y c' q⟩⟩
theorem Det.alleq {t : α} {W : α → C → Prop} (h : Det (W t)) : Det (fun c => ∀ x, x = t → W x c) := fun c k => (h c (k t rfl)).imp (fun q c' x e => by subst e; exact q c') fun ⟨o, a, b⟩ => ⟨o, a, fun c' q x e => by subst e; exact b c' q⟩
theorem Det.ite {p : Prop} [Decidable p] {A B : C → Prop} (ha : Det A) (hb : Det B) : Det (fun c => if p then A c else B c) := by
  by_cases h : p
  · intro c k
    have k' : A c := by have := k; simp only [if_pos h] at this; exact this
    exact (ha c k').imp (fun q c' => by show if p then _ else _; rw [if_pos h]; exact q c') fun ⟨o, a, b⟩ => ⟨o, a, fun c' q => by show if p then _ else _; rw [if_pos h]; exact b c' q⟩
  · intro c k
    have k' : B c := by have := k; simp only [if_neg h] at this; exact this
    exact (hb c k').imp (fun q c' => by show if p then _ else _; rw [if_neg h]; exact q c') fun ⟨o, a, b⟩ => ⟨o, a, fun c' q => by show if p then _ else _; rw [if_neg h]; exact b c' q⟩
theorem Det.jn {A : C → (S → Prop) → Prop} {K : S → C → Prop} (hA : Det (fun d : C × (S → Prop) => A d.1 d.2)) (hK : ∀ x, Det (K x)) : Det (fun c => Wk.jn (fun kk => A c kk) (fun x => K x c)) := fun c h => by
  rcases hA (c, fun x => K x c) h with h1 | ⟨o, h2, h3⟩
  · exact .inl fun c' => h1 (c', _)
  · cases o with
    | inl o => exact .inr ⟨o, h2, fun c' q => h3 (c', _) q⟩
    | inr x =>
      rcases hK x c h2 with a | ⟨o, a, b⟩
      · exact .inl fun c' => h3 (c', fun x => K x c') (a c')
      · exact .inr ⟨o, a, fun c' q => h3 (c', fun x => K x c') (b c' q)⟩
/-- a call -/
theorem Det.call {W : (S → Prop) → Prop} {K : S → C → Prop} (hW : Det W) (hK : ∀ x, Det (K x)) : Det (fun c => W (fun x => K x c)) := fun c h => by
  rcases hW (fun x => K x c) h with h1 | ⟨x, h2, h3⟩
  · exact .inl fun c' => h1 _
  · rcases hK x c h2 with a | ⟨o, a, b⟩
    · exact .inl fun c' => h3 (fun x => K x c') (a c')
    · exact .inr ⟨o, a, fun c' q => h3 (fun x => K x c') (b c' q)⟩
theorem Det.for_ {B : C → α → S → (S → Prop) → (S → Prop) → Prop} {K : S → C → Prop} (hB : ∀ x s, Det (fun d : C × ((S → Prop) × (S → Prop)) => B d.1 x s d.2.1 d.2.2)) (hK : ∀ s, Det (K s)) :
    ∀ (xs : List α) (s : S), Det (fun c => forW xs s (fun x s nx bk => B c x s nx bk) (fun s => K s c))
  | [], s => hK s
  | x :: xs, s => fun c h => by
    rcases hB x s (c, (fun s' => forW xs s' (fun x s nx bk => B c x s nx bk) (fun s => K s c)), (fun s => K s c)) h with h1 | ⟨o, h2, h3⟩
    · exact .inl fun c' => h1 (c', _, _)
    · cases o with
      | inl o => exact .inr ⟨o, h2, fun c' q => h3 (c', _, _) q⟩
      | inr o =>
        cases o with
        | inl s' =>
          rcases Det.for_ hB hK xs s' c h2 with a | ⟨o, a, b⟩
          · exact .inl fun c' => h3 (c', _, _) (a c')
          · exact .inr ⟨o, a, fun c' q => h3 (c', _, _) (b c' q)⟩
        | inr s' =>
          rcases hK s' c h2 with a | ⟨o, a, b⟩
          · exact .inl fun c' => h3 (c', _, fun s => K s c') (a c')
          · exact .inr ⟨o, a, fun c' q => h3 (c', _, fun s => K s c') (b c' q)⟩
theorem Det.mono {W : C → Prop} (h : Det W) {c c' : C} (hc : ∀ o : Ctx.Out C, Ctx.at_ o c → Ctx.at_ o c') (hw : W c) : W c' := by
  rcases h c hw with a | ⟨o, a, b⟩
  · exact a c'
  · exact b c' (hc o a)
/-- the way out of a loop goes on with K -/
theorem Det.sub {B : C → (S → Prop) → (S → Prop) → Prop} {K : S → C → Prop} (hB : Det (fun d : C × ((S → Prop) × (S → Prop)) => B d.1 d.2.1 d.2.2)) (hK : ∀ s, Det (K s)) : Det (fun d : C × (S → Prop) => B d.1 d.2 (fun s => K s d.1)) := fun d h => by
  rcases hB (d.1, d.2, fun s => K s d.1) h with h1 | ⟨o, h2, h3⟩
  · exact .inl fun d' => h1 (d'.1, d'.2, _)
  · cases o with
    | inl o => exact .inr ⟨.inl o, h2, fun d' q => h3 (d'.1, d'.2, _) q⟩
    | inr o =>
      cases o with
      | inl s' => exact .inr ⟨.inr s', h2, fun d' q => h3 (d'.1, d'.2, _) q⟩
      | inr s' =>
        rcases hK s' d.1 h2 with a | ⟨o, a, b⟩
        · exact .inl fun d' => h3 (d'.1, d'.2, fun s => K s d'.1) (a d'.1)
        · exact .inr ⟨.inl o, a, fun d' q => h3 (d'.1, d'.2, fun s => K s d'.1) (b d'.1 q)⟩
theorem Det.fst {E : Type} [Ctx E] {W : C → Prop} (h : Det W) : Det (fun d : C × E => W d.1) := fun d k => by
  rcases h d.1 k with a | ⟨o, a, b⟩
  · exact .inl fun d' => a d'.1
  · exact .inr ⟨.inl o, a, fun d' q => b d'.1 q⟩
/-- a while: its test tells by one outcome, too -/
theorem Det.while_ {T : S → (Bool → Prop) → Prop} {B : C → S → (S → Prop) → (S → Prop) → Prop} {K : S → C → Prop} (hT : ∀ s, Det (T s)) (hB : ∀ s, Det (fun d : C × ((S → Prop) × (S → Prop)) => B d.1 s d.2.1 d.2.2)) (hK : ∀ s, Det (K s)) (s : S) :
    Det (fun c => whileW (fun s t => T s t) (fun s nx bk => B c s nx bk) s (fun s => K s c)) := by
  have turn : ∀ u, Det (fun d : C × (S → Prop) => T u fun b => if b = true then B d.1 u d.2 (fun s => K s d.1) else K u d.1) := fun u =>
    Det.call (K := fun b (d : C × (S → Prop)) => if b = true then B d.1 u d.2 (fun s => K s d.1) else K u d.1) (hT u) fun b => Det.ite (Det.sub (B := fun c N k => B c u N k) (hB u) hK) (Det.fst (hK u))
  intro c ⟨I, ⟨m, hm⟩, hI⟩
  suffices go : ∀ m s, I m s → (∀ c', whileW (fun s t => T s t) (fun s nx bk => B c' s nx bk) s (fun s => K s c')) ∨ ∃ o : Ctx.Out C, Ctx.at_ o c ∧ ∀ c', Ctx.at_ o c' → whileW (fun s t => T s t) (fun s nx bk => B c' s nx bk) s (fun s => K s c') from go m s hm
  intro m
  induction m using Nat.strongRecOn with
  | ind m ih =>
    intro s hs
    have now : ∀ c', (∀ N : S → Prop, T s fun b => if b = true then B c' s N (fun s => K s c') else K s c') → whileW (fun s t => T s t) (fun s nx bk => B c' s nx bk) s (fun s => K s c') := fun c' h =>
      ⟨fun _ u => u = s, ⟨0, rfl⟩, fun n u e => by subst e; exact h _⟩
    rcases turn s (c, fun s' => ∃ m', m' < m ∧ I m' s') (hI m s hs) with h1 | ⟨o, h2, h3⟩
    · exact .inl fun c' => now c' fun N => h1 (c', N)
    · cases o with
      | inl o => exact .inr ⟨o, h2, fun c' q => now c' fun N => h3 (c', N) q⟩
      | inr s1 =>
        obtain ⟨m1, hlt, hs1⟩ := h2
        have step : ∀ c', whileW (fun s t => T s t) (fun s nx bk => B c' s nx bk) s1 (fun s => K s c') → whileW (fun s t => T s t) (fun s nx bk => B c' s nx bk) s (fun s => K s c') := fun c' ⟨J, ⟨n1, hn1⟩, hJ⟩ => by
          refine ⟨fun n u => J n u ∨ (u = s ∧ n = n1 + 1), ⟨n1 + 1, .inr ⟨rfl, rfl⟩⟩, fun n u hu => ?_⟩
          rcases hu with hu | ⟨rfl, rfl⟩
          · refine Det.mono (turn u) (c := (c', fun s' => ∃ m', m' < n ∧ J m' s')) (c' := (c', fun s' => ∃ m', m' < n ∧ (J m' s' ∨ (s' = s ∧ m' = n1 + 1)))) (fun o q => ?_) (hJ n u hu)
            cases o with
            | inl o => exact q
            | inr x => obtain ⟨m', a, b⟩ := q; exact ⟨m', a, .inl b⟩
          · exact h3 (c', fun s' => ∃ m', m' < n1 + 1 ∧ (J m' s' ∨ (s' = u ∧ m' = n1 + 1))) ⟨n1, Nat.lt_succ_self _, .inl hn1⟩
        rcases ih m1 hlt s1 hs1 with a | ⟨o, a, b⟩
        · exact .inl fun c' => step c' (a c')
        · exact .inr ⟨o, a, fun c' q => step c' (b c' q)⟩
/-- sorted keys -/
theorem sorted_unique {ys zs : List Nat} (p : ys.Perm zs) (hy : ys.Pairwise (· ≤ ·)) (hz : zs.Pairwise (· ≤ ·)) : ys = zs := p.eq_of_pairwise (fun a b _ _ => Nat.le_antisymm) hy hz
theorem Det.sorted {l : List Nat} {W : List Nat → C → Prop} (h : ∀ ys, Det (W ys)) : Det (fun c => ∀ ys : List Nat, ys.Perm l → ys.Pairwise (· ≤ ·) → W ys c) := by
  have ex : ∃ ys : List Nat, ys.Perm l ∧ ys.Pairwise (· ≤ ·) := ⟨l.mergeSort (fun a b => decide (a ≤ b)), List.mergeSort_perm _ _, by
    have := List.pairwise_mergeSort (le := fun a b => decide (a ≤ b)) (fun a b c h1 h2 => by simp at h1 h2 ⊢; omega) (fun a b => by simp; omega) l
    exact this.imp fun h => by simpa using h⟩
  obtain ⟨ys, hp, hs⟩ := ex
  intro c k
  have un : ∀ zs : List Nat, zs.Perm l → zs.Pairwise (· ≤ ·) → zs = ys := fun zs p s => sorted_unique (p.trans hp.symm) s hs
  rcases h ys c (k ys hp hs) with a | ⟨o, a, b⟩
  · exact .inl fun c' zs p s => by rw [un zs p s]; exact a c'
  · exact .inr ⟨o, a, fun c' q zs p s => by rw [un zs p s]; exact b c' q⟩
theorem Det.tells' {W : (α → Prop) → Prop} (h : Det W) {P : α → Prop} (hp : ∀ R : α → Prop, (∀ z, P z → R z) → W R) : (∀ R, W R) ∨ ∃ z, P z ∧ ∀ R : α → Prop, R z → W R := by
  rcases h P (hp P fun _ q => q) with a | ⟨o, a, b⟩
  · exact .inl a
  · exact .inr ⟨o, a, fun R q => b R q⟩
end
end Wk
namespace Wk
open PySem L2
section
variable {α β : Type} {e : Rep α} {b : Rep β} {K : PySem.W.Frag} {σ : L2.St} {F0 H0 F F' F2 H H' H2 G : Hp} {p q : Addr} {v u : V} {x : α} {xs : List α} {D : Ends} {S : Type} {g : TG} {tb : TS} {s0 : S} {k : S → Prop} {te : TE} {Q : VK}
/-- a comprehension over a list in a region -/
theorem w_compRG {zs : List β} {tc : TT} {vs : List Nat} {bd : β → (Option α → Prop) → Prop} {kk : List α → Prop} (gr : RG H0 F H G) (r : (pL b).r G v zs) (w : Wf F0 H0 F H) (hn : zs.length < 1000000) (hW : compW zs bd kk)
    (turn : ∀ (Qy : V → Hp → Prop) (Qn : Hp → Prop) x u F1 H1 (R : Option α → Prop), Wf F H F1 H1 → x ∈ zs → b.r G u x → bd x R → (∀ y z F2 H2, Wf F1 H1 F2 H2 → e.r F2 y z → R (some z) → Qy y H2) → (∀ F2 H2, Wf F1 H1 F2 H2 → R none → Qn H2) →
      g u (wipe σ vs) H1 fun σ2 H2 => wipe σ2 vs = wipe σ vs ∧ tc σ2 H2 fun b H3 => if b = true then te σ2 H3 Qy else Qn H3)
    (done : ∀ p ys F' H', H p = none → Wf F H F' H' → XL e H0 F' H' p ys → kk ys → Q (.ref p) H') :
    kCpL K g tc te vs σ Q v H := by
  obtain ⟨p, ws, rfl, hp, a⟩ := r
  exact w_compC (b := pAt G b) (gr.h _ _ hp) (all_cv (e := b) (e' := pAt G b) (fun h => h) a) w hn hW turn done
end
end Wk
namespace Wk
open PySem L2 ClX
abbrev WireV := Sum (Str × Nat) (Sum (Str × List Str) (Str × Str × Nat))
def pW (I S T : Addr) : Rep WireV := pAlt (pO2 I "name" "number" pS pN) (pAlt (pO2 S "name" "wires" pS (pTL pS)) (pO3 T "name" "wire" "number" pS pS pN))
theorem Md.mono {P : Program} {w : World} {K : PySem.W.Frag} {mg : Str → Option Value} {base : Heap} {CX : CXT} {j k : Nat} {C : Addr} {m : Str} {ps : List Str} {sp : Sp} (M : Md P w K mg base CX j C m ps sp) (h : j ≤ k) : Md P w K mg base CX k C m ps sp := let ⟨f, fd, F, a, b⟩ := M.ex; ⟨f, fd, F.mono h, a, b⟩
def pT4 {α β γ δ : Type} (e : Rep α) (f : Rep β) (g : Rep γ) (h : Rep δ) : Rep (α × β × γ × δ) := ⟨fun F v x => ∃ p u w y z, v = .ref p ∧ F p = some (.tup [u, w, y, z]) ∧ e.r F u x.1 ∧ f.r F w x.2.1 ∧ g.r F y x.2.2.1 ∧ h.r F z x.2.2.2, fun ex ⟨p, u, w, y, z, a, b, c, d, k, l⟩ => ⟨p, u, w, y, z, a, ex _ _ b, e.mono ex c, f.mono ex d, g.mono ex k, h.mono ex l⟩⟩
end Wk
namespace Wk
open PySem L2
section
variable {α : Type} {e : Rep α} {K : PySem.W.Frag} {σ : L2.St} {F0 H0 F H F' H' : Hp} {v : V} {xs : List α} {p q : Addr} {Q : VK} {ta : TE}
theorem BL.made (b : BL e F H p xs) {x dx : Addr} {o o' : HO} (nx : H x = none) (nd : H dx = none) : BL e F (upd (upd H dx o) x o') p xs := by
  obtain ⟨vs, hp, a⟩ := b.x
  exact ⟨vs, by rw [upd_ne (ne_of_none hp nx), upd_ne (ne_of_none hp nd)]; exact hp, a⟩
end
end Wk
namespace Wk
open PySem L2
/-- the heap without some places -/
def woL (H : Hp) (L : List Addr) : Hp := fun a => if a ∈ L then none else H a
section
variable {α β κ : Type} [KeyT κ] {e : Rep α} {F0 H0 F F' H H' : Hp} {L : List Addr} {p d : Addr} {o : HO} {xs : List α} {m : List (κ × α)} {C dx : Addr} {fs : List (Str × V)}
theorem woL_in (h : d ∈ L) : woL H L d = none := if_pos h
theorem woL_out (h : d ∉ L) : woL H L d = H d := if_neg h
theorem woL_sub : Ex (woL H L) H := fun a u q => by
  by_cases c : a ∈ L
  · rw [woL_in c] at q; cases q
  · rw [woL_out c] at q; exact q
theorem Wf.startL (f : Ex F H) (n : ∀ d ∈ L, F d = none) : Wf F (woL H L) F H := ⟨woL_sub, f, Ex.rfl', fun a u h h0 => by rw [h] at h0; cases h0⟩
theorem Xc.toL (x : Xc H0 F H p o) (hp : p ∈ L) : Xc (woL H L) F H p o := ⟨woL_in hp, x.n, x.h⟩
theorem XL.toL (x : XL e H0 F H p xs) (hp : p ∈ L) : XL e (woL H L) F H p xs := let ⟨vs, a, b⟩ := x.x; ⟨vs, a.toL hp, b⟩
theorem XD.toL (x : XD e H0 F H p m) (hp : p ∈ L) : XD e (woL H L) F H p m := let ⟨vs, a, b⟩ := x.x; ⟨vs, a.toL hp, b⟩
theorem Xc.fromL {H1 : Hp} (x : Xc H1 F' H' p o) (z : H0 p = none) : Xc H0 F' H' p o := ⟨z, x.n, x.h⟩
theorem XL.fromL {H1 : Hp} (x : XL e H1 F' H' p xs) (z : H0 p = none) : XL e H0 F' H' p xs := let ⟨vs, a, b⟩ := x.x; ⟨vs, a.fromL z, b⟩
theorem XD.fromL {H1 : Hp} (x : XD e H1 F' H' p m) (z : H0 p = none) : XD e H0 F' H' p m := let ⟨vs, a, b⟩ := x.x; ⟨vs, a.fromL z, b⟩
theorem XL.nF (x : XL e H0 F H p xs) : F p = none := let ⟨_, a, _⟩ := x.x; a.n
theorem XD.nF (x : XD e H0 F H p m) : F p = none := let ⟨_, a, _⟩ := x.x; a.n
/-- behind a method that has changed what stands at L -/
theorem Wf.mcall (w : Wf F0 H0 F H) (hz : ∀ d ∈ L, H0 d = none) (s : Wf F (woL H L) F' H') (hn : ∀ d ∈ L, F' d = none) : Wf F0 H0 F' H' := by
  refine ⟨fun a u h => ?_, s.f, w.g.tr s.g, fun a u h h0 => ?_⟩
  · have hL : a ∉ L := fun q => by rw [hz a q] at h; cases h
    exact s.h a u (by rw [woL_out hL]; exact w.h a u h)
  · cases q : F a with
    | some y => exact w.n a y q h0
    | none =>
      have hL : a ∉ L := fun z => by rw [hn a z] at h; cases h
      have := s.n a u h q
      rw [woL_out hL] at this
      exact w.h.non this
theorem away_h (hp : p ∉ L) (s : Wf F (woL H L) F' H') (h : H p = some o) : H' p = some o := s.h p o (by rw [woL_out hp]; exact h)
theorem Xc.away (x : Xc H0 F H p o) (hp : p ∉ L) (s : Wf F (woL H L) F' H') : Xc H0 F' H' p o := by
  refine ⟨x.z, ?_, away_h hp s x.h⟩
  cases q : F' p with
  | none => rfl
  | some y =>
    have := s.n p y q x.n
    rw [woL_out hp, x.h] at this; cases this
theorem XL.away (x : XL e H0 F H p xs) (hp : p ∉ L) (s : Wf F (woL H L) F' H') : XL e H0 F' H' p xs := let ⟨vs, a, b⟩ := x.x; ⟨vs, a.away hp s, b.mono s.g⟩
theorem XD.away (x : XD e H0 F H p m) (hp : p ∉ L) (s : Wf F (woL H L) F' H') : XD e H0 F' H' p m := let ⟨vs, a, b⟩ := x.x; ⟨vs, a.away hp s, b.mono s.g⟩
theorem BL.away (x : BL e F H p xs) (hp : p ∉ L) (s : Wf F (woL H L) F' H') : BL e F' H' p xs := let ⟨vs, a, b⟩ := x.x; ⟨vs, away_h hp s a, b.mono s.g⟩
theorem BD.away (x : BD e F H p m) (hp : p ∉ L) (s : Wf F (woL H L) F' H') : BD e F' H' p m := let ⟨vs, a, b⟩ := x.x; ⟨vs, away_h hp s a, b.mono s.g⟩
theorem BO.away (x : BO C F H p dx fs) (hp : p ∉ L) (s : Wf F (woL H L) F' H') : BO C F' H' p dx fs := ⟨away_h hp s x.h⟩
theorem allL1 {P : Addr → Prop} (h : P d) : ∀ x ∈ [d], P x := fun x hx => by rw [List.mem_singleton.mp hx]; exact h
end
section
variable {α β κ : Type} [DecidableEq κ] [KeyT κ] {e : Rep α} {b : Rep β} {K : PySem.W.Frag} {σ : L2.St} {F0 H0 F H : Hp} {d ob C dx : Addr} {fs : List (Str × V)} {m : List (κ × β)} {Q : VK} {g : TG} {te to : TE} {tc : TT} {vs : List Nat}
theorem DA.got : ∀ {kvs : List (Key × V)} {m : List (κ × β)} {i : Nat} {k : Key} {v : V}, DA b F kvs m → kvs[i]? = some (k, v) → ∃ q, m[i]? = some q ∧ b.r F v q.2
  | [], [], _, _, _, _, h => by simp at h
  | p :: r, q :: s, 0, k, v, ⟨_, c, _⟩, h => by
    simp at h
    subst h
    exact ⟨q, rfl, c⟩
  | p :: r, q :: s, i + 1, k, v, ⟨_, _, c⟩, h => by
    obtain ⟨z, h1, h2⟩ := DA.got (i := i) c (by simpa using h)
    exact ⟨z, by simpa using h1, h2⟩
  | [], _ :: _, _, _, _, q, _ => q.elim
  | _ :: _, [], _, _, _, q, _ => q.elim
/-- things that hold nothing but objects and tuples -/
def NoD {α : Type} (e : Rep α) : Prop := ∀ (F G : Hp) (d : Addr) (v : V) (x : α), (∀ a o, a ≠ d → F a = some o → G a = some o) → (∀ C dx fs, F d ≠ some (.ins C dx fs)) → (∀ us, F d ≠ some (.tup us)) → e.r F v x → e.r G v x
theorem NoD.S : NoD pS := fun _ _ _ _ _ _ _ _ h => h
theorem NoD.N : NoD pN := fun _ _ _ _ _ _ _ _ h => h
theorem NoD.all (n : NoD e) {F G : Hp} {d : Addr} (h : ∀ a o, a ≠ d → F a = some o → G a = some o) (h1 : ∀ C dx fs, F d ≠ some (.ins C dx fs)) (h2 : ∀ us, F d ≠ some (.tup us)) : ∀ {us : List V} {xs : List α}, All e F us xs → All e G us xs
  | [], [], _ => trivial
  | _ :: _, _ :: _, ⟨a, c⟩ => ⟨n F G d _ _ h h1 h2 a, NoD.all n h h1 h2 c⟩
  | [], _ :: _, q => q.elim
  | _ :: _, [], q => q.elim
theorem NoD.TL (n : NoD e) : NoD (pTL e) := fun F G d v x h h1 h2 ⟨p, us, a, b, c⟩ => ⟨p, us, a, h p _ (fun z => h2 us (by rw [← z]; exact b)) b, n.all h h1 h2 c⟩
theorem NoD.O2 {γ : Type} {f : Rep γ} {C : Addr} {a c : Str} (n : NoD e) (k : NoD f) : NoD (pO2 C a c e f) := fun F G d v x h h1 h2 ⟨p, dx, fs, a, b, u, w, q, r1, r2⟩ => ⟨p, dx, fs, a, h p _ (fun z => h1 C dx fs (by rw [← z]; exact b)) b, u, w, q, n F G d _ _ h h1 h2 r1, k F G d _ _ h h1 h2 r2⟩
theorem NoD.O3 {γ δ : Type} {f : Rep γ} {i : Rep δ} {C : Addr} {a c l : Str} (n : NoD e) (k : NoD f) (j : NoD i) : NoD (pO3 C a c l e f i) := fun F G d v x h h1 h2 ⟨p, dx, fs, a, b, u, w, y, q, r1, r2, r3⟩ => ⟨p, dx, fs, a, h p _ (fun z => h1 C dx fs (by rw [← z]; exact b)) b, u, w, y, q, n F G d _ _ h h1 h2 r1, k F G d _ _ h h1 h2 r2, j F G d _ _ h h1 h2 r3⟩
theorem NoD.W {I S T : Addr} : NoD (pW I S T) := fun F G d v x h h1 h2 r => match x, r with
  | .inl _, r => NoD.O2 NoD.S NoD.N F G d v _ h h1 h2 r
  | .inr (.inl _), r => NoD.O2 NoD.S (NoD.TL NoD.S) F G d v _ h h1 h2 r
  | .inr (.inr _), r => NoD.O3 NoD.S NoD.S NoD.N F G d v _ h h1 h2 r
end
def F4s {α β γ δ : Type} (n m l k : Str) (e : Rep α) (f : Rep β) (g : Rep γ) (i : Rep δ) (F : Hp) (fs : List (Str × V)) (x : α × β × γ × δ) : Prop := ∃ u w y t, fs = [(n, u), (m, w), (l, y), (k, t)] ∧ e.r F u x.1 ∧ f.r F w x.2.1 ∧ g.r F y x.2.2.1 ∧ i.r F t x.2.2.2
theorem F4s.mono {α β γ δ : Type} {n m l k : Str} {e : Rep α} {f : Rep β} {g : Rep γ} {i : Rep δ} {F F' : Hp} {fs : List (Str × V)} {x : α × β × γ × δ} (h : Ex F F') : F4s n m l k e f g i F fs x → F4s n m l k e f g i F' fs x := fun ⟨u, w, y, t, a, b, c, d, j⟩ => ⟨u, w, y, t, a, e.mono h b, f.mono h c, g.mono h d, i.mono h j⟩
end Wk
namespace Wk
open PySem L2
section
variable {α : Type} {e : Rep α} {F0 H0 F F' H H' : Hp} {x dx d : Addr} {o u : HO} {xs : List α}
theorem XL.made (r : XL e (wo (upd (upd H dx o) x u) x) F' H' d xs) (hne : d ≠ x) (w : Wf F0 H0 F H) : XL e H0 F' H' d xs ∧ H d = none := by
  have z := r.zero
  rw [wo_ne hne, upd_ne hne] at z
  have hd : d ≠ dx := fun q => by rw [q, upd_same] at z; cases z
  rw [upd_ne hd] at z
  exact ⟨r.fromL (w.h.non z), z⟩
end
end Wk
namespace Wk
open PySem L2
end Wk
namespace Wk
open PySem L2
section
variable {K : PySem.W.Frag} {α : Type} {e : Rep α} {F0 H0 F H : Hp} {v : V} {x : α} {xs : List α} {vs : List V} {p : Addr}
theorem All.gl (a : All e F vs xs) (hx : xs.getLast? = some x) : ∃ w ys, vs = ys ++ [w] ∧ e.r F w x := by
  rw [List.getLast?_eq_getElem?] at hx
  obtain ⟨w, h1, h2⟩ := a.get hx
  rw [← a.len, ← List.getLast?_eq_getElem?] at h1
  obtain ⟨ys, hy⟩ := List.getLast?_eq_some_iff.mp h1
  exact ⟨w, ys, hy, h2⟩
theorem ix_Lm (r : (pL e).r F v xs) (f : Ex F H) (hx : xs.getLast? = some x) : ∃ w, e.r F w x ∧ ∀ ⦃σ ta tb⦄, Val ta σ H v → Val tb σ H (.int (-1)) → Val (tOp (rIxL K) ta tb) σ H w := by
  obtain ⟨p, vs, rfl, hp, a⟩ := L_rd r f
  obtain ⟨w, ys, rfl, h2⟩ := a.gl hx
  exact ⟨w, h2, fun _ _ _ ha hb => v2 ha hb fun Q k => ⟨p, _, _, w, rfl, rfl, SqL.of hp, atI_last ys w, k⟩⟩
theorem ix_Xm (r : XL e H0 F H p xs) (hx : xs.getLast? = some x) : ∃ w, e.r F w x ∧ ∀ ⦃σ ta tb⦄, Val ta σ H (.ref p) → Val tb σ H (.int (-1)) → Val (tOp (rIxL K) ta tb) σ H w := by
  obtain ⟨vs, hp, a⟩ := r.rd
  obtain ⟨w, ys, rfl, h2⟩ := a.gl hx
  exact ⟨w, h2, fun _ _ _ ha hb => v2 ha hb fun Q k => ⟨p, _, _, w, rfl, rfl, SqL.of hp, atI_last ys w, k⟩⟩
end
end Wk
namespace Wk
open PySem L2
instance {α β γ δ : Type} {e : Rep α} {f : Rep β} {g : Rep γ} {i : Rep δ} {n m k l : Nat} [Dao e n] [Dao f m] [Dao g k] [Dao i l] : Dao (pT4 e f g i) (max n (max m (max k l)) + 1) := ⟨fun x => Dao.ok e x.1 ∧ Dao.ok f x.2.1 ∧ Dao.ok g x.2.2.1 ∧ Dao.ok i x.2.2.2, fun x => .tuple [Dao.d e x.1, Dao.d f x.2.1, Dao.d g x.2.2.1, Dao.d i x.2.2.2], fun {K F v x} h => by
    obtain ⟨p, u, w, y, z, rfl, hp, a, b, c, d⟩ := h
    exact .tup (SqT.of hp) (.cons (Dao.dp a) (.cons (Dao.dp b) (.cons (Dao.dp c) (.cons (Dao.dp d) .nil)))), fun x h => by
    show (PyData.canLay0 (Dao.d e x.1) && (PyData.canLay0 (Dao.d f x.2.1) && (PyData.canLay0 (Dao.d g x.2.2.1) && (PyData.canLay0 (Dao.d i x.2.2.2) && PyData.canLayAll0 [])))) = true
    rw [Dao.lay _ h.1, Dao.lay _ h.2.1, Dao.lay _ h.2.2.1, Dao.lay _ h.2.2.2]; rfl, fun x => by
    have a := Dao.dep (e := e) x.1
    have b := Dao.dep (e := f) x.2.1
    have c := Dao.dep (e := g) x.2.2.1
    have d := Dao.dep (e := i) x.2.2.2
    simp only [PyData.depth, PyData.depthAll]
    omega, fun x y => by
    show (PyData.eqv (Dao.d e x.1) (Dao.d e y.1) && (PyData.eqv (Dao.d f x.2.1) (Dao.d f y.2.1) && (PyData.eqv (Dao.d g x.2.2.1) (Dao.d g y.2.2.1) && (PyData.eqv (Dao.d i x.2.2.2) (Dao.d i y.2.2.2) && PyData.eqvAll [] [])))) = true ↔ _
    have z : PyData.eqvAll [] [] = true := rfl
    rw [z, Bool.and_true, Bool.and_eq_true, Bool.and_eq_true, Bool.and_eq_true, Dao.inj, Dao.inj, Dao.inj, Dao.inj, Prod.ext_iff, Prod.ext_iff, Prod.ext_iff]⟩
end Wk
namespace Wk
open PySem L2
/-- things that are never None -/
def NN {α : Type} (e : Rep α) : Prop := ∀ F v x, e.r F v x → v ≠ .non
section
variable {α β γ δ : Type} {e : Rep α} {f : Rep β} {g : Rep γ} {i : Rep δ}
theorem NN.N : NN pN := fun F v x hv h => by rw [show v = .int (x : Int) from hv] at h; cases h
variable {K : PySem.W.Frag} {σ : L2.St} {F F' H H0 F0 : Hp} {ta tb : TE} {v : V} {z : Option α} {y : α} {Q : VK}
theorem alt_r {x : Sum α β} {y : β} (r : (pAlt e f).r F v x) (h : x = Sum.inr y) : f.r F v y := by subst h; exact r
end
end Wk
namespace Wk
open PySem L2
section
variable {α κ : Type} [DecidableEq κ] [KeyT κ] {e : Rep α} {K : PySem.W.Frag} {σ : L2.St} {F0 H0 F H F' H' : Hp} {d p : Addr} {od : Obj} {kvs : List (Key × V)} {m : List (κ × α)} {td ty : TE} {g : TG} {tb : TS} {D : Ends} {v : V} {x : α} {j : κ}
abbrev lk1 (F : Hp) (d : Addr) (od : Obj) (kvs : List (Key × V)) : Hp := upd F d (.frz od (.dK kvs))
end
end Wk
namespace Wk
open PySem L2
theorem BL.lend {α : Type} {e : Rep α} {F0 H0 F H : Hp} {p : Addr} {xs : List α} (b : BL e F H p xs) (w : Wf F0 H0 F H) : ∃ Fl, Ex Fl H ∧ Ex F Fl ∧ (pL e).r Fl (.ref p) xs := by
  obtain ⟨vs, h, a⟩ := b.x
  have g : Ex F (upd F p (.lst vs)) := fun q u hq => by
    by_cases c : q = p
    · subst c
      have := w.f _ _ hq
      rw [h] at this; cases this; exact upd_same
    · rw [upd_ne c]; exact hq
  exact ⟨upd F p (.lst vs), fun q u hq => by
    by_cases c : q = p
    · subst c; rw [upd_same] at hq; cases hq; exact h
    · rw [upd_ne c] at hq; exact w.f q u hq, g, p, vs, rfl, upd_same, a.mono g⟩
end Wk
namespace Wk
open PySem L2
end Wk
namespace Wk
open PySem L2 ClX
end Wk
namespace Wk
open PySem L2 ClX
end Wk
namespace Wk
open PySem L2 ClX
/-- the dict of an exception with one field -/
def pXd {α : Type} (f : Str) (e : Rep α) : Rep α := ⟨fun F v z => ∃ d w, v = .ref d ∧ F d = some (.xd [(f, w)]) ∧ e.r F w z, fun h q => by
  obtain ⟨d, w, rfl, hd, r⟩ := q
  exact ⟨d, w, rfl, h _ _ hd, e.mono h r⟩⟩
section
variable {α : Type} {f : Str} {e : Rep α} {F H : Hp} {d a C : Addr} {v w : V} {z : α} {K : PySem.W.Frag} {i : Nat} {σ : L2.St}
theorem pXd.get (r : (pXd f e).r F (.ref d) z) : ∃ w, F d = some (.xd [(f, w)]) ∧ e.r F w z := by
  obtain ⟨d', w, q, hd, r⟩ := r
  cases q
  exact ⟨w, hd, r⟩
end
end Wk
namespace Wk
open PySem PySem.Spec PySem.Calls PyProof.Rows L2 PySem.W
end Wk
namespace Wk
open PySem PySem.Spec PyProof.Rows L2
end Wk
namespace Wk
open PySem L2 ClX
end Wk
namespace Wk
open PySem L2
end Wk
namespace Wk
open PySem L2
/-- a list of two, of three things of unlike kinds -/
def pH2 {α β : Type} (e : Rep α) (f : Rep β) : Rep (α × β) := ⟨fun F v x => ∃ p u w, v = .ref p ∧ F p = some (.lst [u, w]) ∧ e.r F u x.1 ∧ f.r F w x.2, fun h ⟨p, u, w, a, b, c, d⟩ => ⟨p, u, w, a, h _ _ b, e.mono h c, f.mono h d⟩⟩
def pH3 {α β γ : Type} (e : Rep α) (f : Rep β) (g : Rep γ) : Rep (α × β × γ) := ⟨fun F v x => ∃ p u w y, v = .ref p ∧ F p = some (.lst [u, w, y]) ∧ e.r F u x.1 ∧ f.r F w x.2.1 ∧ g.r F y x.2.2, fun h ⟨p, u, w, y, a, b, c, d, k⟩ => ⟨p, u, w, y, a, h _ _ b, e.mono h c, f.mono h d, g.mono h k⟩⟩
section
variable {α β γ : Type} {e : Rep α} {f : Rep β} {g : Rep γ} {K : PySem.W.Frag} {F0 H0 F H : Hp} {v w u : V} {x : α} {y : β} {z : γ} {Q : VK} {n m k : Nat}
instance [Dat e n] [Dat f m] : Dat (pH2 e f) (max n m + 1) := ⟨fun x => .list [Dat.d e x.1, Dat.d f x.2], fun {K F v x} h => by
    obtain ⟨p, u, w, rfl, hp, a, b⟩ := h
    exact .lst (SqL.of hp) (.cons (Dat.dp a) (.cons (Dat.dp b) .nil)), fun x => by
    show (PyData.canLay0 (Dat.d e x.1) && (PyData.canLay0 (Dat.d f x.2) && PyData.canLayAll0 [])) = true
    rw [Dat.lay, Dat.lay]; rfl, fun x => by
    have a := Dat.dep (e := e) x.1
    have b := Dat.dep (e := f) x.2
    simp only [PyData.depth, PyData.depthAll]
    omega, fun x y => by
    show (PyData.eqv (Dat.d e x.1) (Dat.d e y.1) && (PyData.eqv (Dat.d f x.2) (Dat.d f y.2) && PyData.eqvAll [] [])) = true ↔ _
    have z : PyData.eqvAll [] [] = true := rfl
    rw [z, Bool.and_true, Bool.and_eq_true, Dat.inj, Dat.inj, Prod.ext_iff]⟩
instance [Dat e n] [Dat f m] [Dat g k] : Dat (pH3 e f g) (max n (max m k) + 1) := ⟨fun x => .list [Dat.d e x.1, Dat.d f x.2.1, Dat.d g x.2.2], fun {K F v x} h => by
    obtain ⟨p, u, w, y, rfl, hp, a, b, c⟩ := h
    exact .lst (SqL.of hp) (.cons (Dat.dp a) (.cons (Dat.dp b) (.cons (Dat.dp c) .nil))), fun x => by
    show (PyData.canLay0 (Dat.d e x.1) && (PyData.canLay0 (Dat.d f x.2.1) && (PyData.canLay0 (Dat.d g x.2.2) && PyData.canLayAll0 []))) = true
    rw [Dat.lay, Dat.lay, Dat.lay]; rfl, fun x => by
    have a := Dat.dep (e := e) x.1
    have b := Dat.dep (e := f) x.2.1
    have c := Dat.dep (e := g) x.2.2
    simp only [PyData.depth, PyData.depthAll]
    omega, fun x y => by
    show (PyData.eqv (Dat.d e x.1) (Dat.d e y.1) && (PyData.eqv (Dat.d f x.2.1) (Dat.d f y.2.1) && (PyData.eqv (Dat.d g x.2.2) (Dat.d g y.2.2) && PyData.eqvAll [] []))) = true ↔ _
    have z : PyData.eqvAll [] [] = true := rfl
    rw [z, Bool.and_true, Bool.and_eq_true, Bool.and_eq_true, Dat.inj, Dat.inj, Dat.inj, Prod.ext_iff, Prod.ext_iff]⟩
end
end Wk
namespace Wk
open PySem L2
end Wk
namespace Wk
open PySem L2
section
variable {α β γ : Type} {e : Rep α} {f : Rep β} {g : Rep γ} {K : PySem.W.Frag} {F H : Hp} {v : V} {k : Int}
/-- x[k] of a tuple of one of two kinds -/
theorem ix_alt {x : Sum α β} {pa : α → γ} {pb : β → γ} (r : (pAlt e f).r F v x)
    (ga : ∀ a, e.r F v a → ∃ w, g.r F w (pa a) ∧ ∀ ⦃σ ta tb⦄, Val ta σ H v → Val tb σ H (.int k) → Val (tOp (rIxT K) ta tb) σ H w)
    (gb : ∀ b, f.r F v b → ∃ w, g.r F w (pb b) ∧ ∀ ⦃σ ta tb⦄, Val ta σ H v → Val tb σ H (.int k) → Val (tOp (rIxT K) ta tb) σ H w) :
    ∃ w, g.r F w (Sum.elim pa pb x) ∧ ∀ ⦃σ ta tb⦄, Val ta σ H v → Val tb σ H (.int k) → Val (tOp (rIxT K) ta tb) σ H w := by
  cases x with
  | inl a => exact ga a r
  | inr b => exact gb b r
end
end Wk
namespace Wk
open PySem L2
end Wk
namespace Wk
open PySem PySem.Spec PyProof.Rows L2
end Wk
namespace Wk
open PySem PySem.Spec PyProof.Rows L2
/-- reversed(x), the next place i -/
def IsRv (h : Heap) (a : Addr) (x : Str) (t : Tok) (i : Int) : Prop := ∃ ob, h.get? a = some ob ∧ ob.cls = .type "reversed" ∧ ob.data = .fields #[.str x t, rawInt i]
section
variable {prog : Program} {w : World} {A : Around} {E : Value → Shared → Prop} {s : Shared}
theorem IsRv.ty {a : Addr} {x : Str} {t : Tok} {i : Int} (q : IsRv s.heap a x t i) : s.TypeIs (.ref a) "reversed" := let ⟨ob, ho, hc, _⟩ := q; ⟨ob, ho, hc⟩
end
end Wk
namespace Wk
open PySem PySem.Spec PyProof.Rows L2
theorem kit_ty {K : PySem.W.Frag} {S : Addr} {T : String} {b : Bool} (hT : PySem.W.kitMeta T = true) (h : PySem.W.subIn K (.ref S) (.type T) = some b) : PySem.W.kitOne K (.ref S) (.type T) = some b := by
  show (if ((Value.ref S == Value.type T) = true) then some true else (if PySem.W.kitMeta T = true then PySem.W.subIn K (.ref S) (.type T) else none)) = some b
  rw [if_neg (by intro z; cases beq_iff_eq.mp z), if_pos hT]; exact h
end Wk
namespace Wk
open PySem PySem.Spec PyProof.Rows L2
end Wk
namespace Wk
open PySem L2
section
variable {α β γ δ : Type} {e : Rep α} {f : Rep β} {g : Rep γ} {k4 : Rep δ} {K : PySem.W.Frag} {σ : L2.St} {F0 H0 F H : Hp} {te tl th ta : TE} {tp tq : TO} {Q : VK} {v : V}
theorem ty_alt {x : Sum α β} {T : Value} (r : (pAlt e f).r F v x) (h1 : ∀ y, e.r F v y → TyX K H v T) (h2 : ∀ y, f.r F v y → TyX K H v T) : TyX K H v T := match x, r with
  | .inl y, r => h1 y r
  | .inr y, r => h2 y r
theorem len_alt {x : Sum α β} {n m : Nat} {t : TE} (r : (pAlt e f).r F v x) (h1 : ∀ y, e.r F v y → Val t σ H (.int ((n : Nat) : Int))) (h2 : ∀ y, f.r F v y → Val t σ H (.int ((m : Nat) : Int))) : Val t σ H (.int (((Sum.elim (fun _ => n) (fun _ => m) x : Nat) : Nat) : Int)) := match x, r with
  | .inl y, r => h1 y r
  | .inr y, r => h2 y r
theorem n_cutT3 {x : α × β × γ} (r : (pT3 e f g).r F v x) (hv : Val te σ H v) (h1 : Part tp σ H (some 1)) (h2 : Part tq σ H none) (w : Wf F0 H0 F H) (k : ∀ p F' H', Wf F H F' H' → (pT2 f g).r F' (.ref p) x.2 → Q (.ref p) H') : tSl (rSlT K) te tp tq σ H Q := by
  obtain ⟨p, a, b, c, rfl, hp, ra, rb, rc⟩ := r
  exact hv _ (h1 _ (h2 _ ⟨p, [a, b, c], rfl, SqT.of (w.f _ _ hp), fun z => absurd (show HT.sIx 3 0 (some 1) = 0 from z.1) (by decide), fun l hl => by
    rw [cutV_T]
    exact k l _ _ (Wf.new w.f hl) ⟨l, b, c, rfl, upd_same, f.mono (Ex.new (w.f.non hl)) rb, g.mono (Ex.new (w.f.non hl)) rc⟩⟩))
end
end Wk
namespace Wk
open PySem PySem.Spec PyProof.Rows L2
end Wk
namespace Wk
open PySem L2
instance {α β γ δ : Type} {e : Rep α} {f : Rep β} {g : Rep γ} {i : Rep δ} {n m k l : Nat} [Dao e n] [Dao f m] [Dao g k] [Dao i l] : Dao (pT4 e f g i) (max n (max m (max k l)) + 1) := ⟨fun x => Dao.ok e x.1 ∧ Dao.ok f x.2.1 ∧ Dao.ok g x.2.2.1 ∧ Dao.ok i x.2.2.2, fun x => .tuple [Dao.d e x.1, Dao.d f x.2.1, Dao.d g x.2.2.1, Dao.d i x.2.2.2], fun {K F v x} h => by
    obtain ⟨p, u, w, y, z, rfl, hp, a, b, c, d⟩ := h
    exact .tup (SqT.of hp) (.cons (Dao.dp a) (.cons (Dao.dp b) (.cons (Dao.dp c) (.cons (Dao.dp d) .nil)))), fun x h => by
    show (PyData.canLay0 (Dao.d e x.1) && (PyData.canLay0 (Dao.d f x.2.1) && (PyData.canLay0 (Dao.d g x.2.2.1) && (PyData.canLay0 (Dao.d i x.2.2.2) && PyData.canLayAll0 [])))) = true
    rw [Dao.lay _ h.1, Dao.lay _ h.2.1, Dao.lay _ h.2.2.1, Dao.lay _ h.2.2.2]; rfl, fun x => by
    have a := Dao.dep (e := e) x.1
    have b := Dao.dep (e := f) x.2.1
    have c := Dao.dep (e := g) x.2.2.1
    have d := Dao.dep (e := i) x.2.2.2
    simp only [PyData.depth, PyData.depthAll]
    omega, fun x y => by
    show (PyData.eqv (Dao.d e x.1) (Dao.d e y.1) && (PyData.eqv (Dao.d f x.2.1) (Dao.d f y.2.1) && (PyData.eqv (Dao.d g x.2.2.1) (Dao.d g y.2.2.1) && (PyData.eqv (Dao.d i x.2.2.2) (Dao.d i y.2.2.2) && PyData.eqvAll [] [])))) = true ↔ _
    have z : PyData.eqvAll [] [] = true := rfl
    rw [z, Bool.and_true, Bool.and_eq_true, Bool.and_eq_true, Bool.and_eq_true, Dao.inj, Dao.inj, Dao.inj, Dao.inj, Prod.ext_iff, Prod.ext_iff, Prod.ext_iff]⟩
instance decSum {α β : Type} [DecidableEq α] [DecidableEq β] : DecidableEq (Sum α β) := instDecidableEqSum
/-- never alike -/
class Dsj {α β : Type} (e : Rep α) (f : Rep β) (n m : outParam Nat) [Dao e n] [Dao f m] : Prop where
  l : ∀ x y, PyData.eqv (Dao.d e x) (Dao.d f y) = false
  r : ∀ x y, PyData.eqv (Dao.d f y) (Dao.d e x) = false
instance {α β γ α' β' γ' δ' : Type} {e : Rep α} {f : Rep β} {g : Rep γ} {e' : Rep α'} {f' : Rep β'} {g' : Rep γ'} {i' : Rep δ'} {n m k n' m' k' l' : Nat} [Dao e n] [Dao f m] [Dao g k] [Dao e' n'] [Dao f' m'] [Dao g' k'] [Dao i' l'] :
    Dsj (pT3 e f g) (pT4 e' f' g' i') (max n (max m k) + 1) (max n' (max m' (max k' l')) + 1) := ⟨fun x y => by
    show (PyData.eqv _ _ && (PyData.eqv _ _ && (PyData.eqv _ _ && false))) = false
    rw [Bool.and_false, Bool.and_false, Bool.and_false], fun x y => by
    show (PyData.eqv _ _ && (PyData.eqv _ _ && (PyData.eqv _ _ && false))) = false
    rw [Bool.and_false, Bool.and_false, Bool.and_false]⟩
instance {α β : Type} {e : Rep α} {f : Rep β} {n m : Nat} [Dao e n] [Dao f m] [D : Dsj e f n m] : Dao (pAlt e f) (max n m) := ⟨fun x => match x with | .inl y => Dao.ok e y | .inr y => Dao.ok f y, fun x => match x with | .inl y => Dao.d e y | .inr y => Dao.d f y, fun {K F v x} h => match x, h with
    | .inl y, h => Dao.dp (e := e) h
    | .inr y, h => Dao.dp (e := f) h, fun x h => match x, h with
    | .inl y, h => Dao.lay (e := e) y h
    | .inr y, h => Dao.lay (e := f) y h, fun x => match x with
    | .inl y => Nat.le_trans (Dao.dep (e := e) y) (Nat.le_max_left ..)
    | .inr y => Nat.le_trans (Dao.dep (e := f) y) (Nat.le_max_right ..), fun x y => match x, y with
    | .inl a, .inl b => (Dao.inj (e := e) a b).trans ⟨fun h => by rw [h], fun h => Sum.inl.inj h⟩
    | .inr a, .inr b => (Dao.inj (e := f) a b).trans ⟨fun h => by rw [h], fun h => Sum.inr.inj h⟩
    | .inl a, .inr b => ⟨fun h => absurd ((D.l a b).symm.trans h) (by decide), fun h => nomatch h⟩
    | .inr a, .inl b => ⟨fun h => absurd ((D.r b a).symm.trans h) (by decide), fun h => nomatch h⟩⟩
end Wk
namespace Wk
open PySem L2
end Wk
namespace Wk
open PySem PySem.Spec PyProof.Rows L2 LamX
section
variable {X : Cx} {pins : List (Addr × Obj)} {σ : L2.St} {H : Hp} {s : Shared}
/-- what one sees of the table at P behind the making: c is the lambda's code object -/
structure Made (P : Addr) (q : Str) (ps : Array Value) (H H1 : Hp) (c : Addr) : Prop where
  keep : ∀ r o, H r = some o → r ≠ P → H1 r = some o
  tab : ∃ qs : Array Value, H1 P = some (.tbl qs) ∧ TriplesOk qs.toList ∧ ∀ x u, codeAmong x qs.toList = some u → codeAmong x ps.toList = some u ∨ u = .ref c
  new : H c = none ∨ ∃ x, codeAmong x ps.toList = some (.ref c)
  code : H1 c = some (CodeO c q)
abbrev lamQ (X : Cx) : Str := X.env.qual ++ "<lambda>"
abbrev lamO (X : Cx) (a : Arguments) (b : Expr) (sc : Scope) (pm : Value) (c : Addr) (ct : Value) : Obj := PySem.W.kla_obj "<lambda>" (lamQ X) a b sc (cloFrom X.env.cells sc.names []) pm c ct
theorem lam1_mk {m P : Addr} {a : Arguments} {b : Expr} {sc : Scope} {pos : Pos} {E Q : Value → Shared → Prop} {ps : Array Value}
    (I : Inv X pins σ H s) (B : TabB X.base X.mg m P) (cd : X.env.code = .ref m)
    (hP : H P = some (.tbl ps)) (tr : TriplesOk ps.toList) (am : ∀ x u, codeAmong x ps.toList = some u → ∃ c, u = .ref c ∧ H c = some (CodeO c (lamQ X)))
    (df : defaultsOf a X.env = ([], [])) (fr : ∀ y ∈ sc.names, y.2 = .free → ∃ c, X.env.cells.lookup y.1 = some c)
    (k : ∀ (f c : Addr) (pm ct : Value) (H1 : Hp) (s1 : Shared), Inv X pins σ H1 s1 → Made P (lamQ X) ps H H1 c → s1.heap.get? f = some (lamO X a b sc pm c ct) → H1 f = none → f ∉ frs X.stack → Q (.ref f) s1) :
    wpAny (model X.prog X.w) X.A (eval (.Lambda a b sc pos) X.env) Q E s := by
  have hb : s.heap.BuiltinsAt X.mg P := B.bm.keeps I.bk
  have hO : s.heap.get? P = some { cls := .none, data := .fields ps } := I.hok P _ hP
  have out : ∀ f, s.heap.objs.size ≤ f → f ∉ frs X.stack := fun f le hf =>
    (List.mem_cons.mp (I.stkSub f hf)).elim (fun e => absurd I.lt (Nat.not_lt.mpr (e ▸ le))) (I.nofs le)
  apply PySem.W.kla_eval df
  cases ca : codeAmong pos ps.toList with
  | some u =>
    obtain ⟨c, rfl, hc⟩ := am pos u ca
    apply PySem.W.kla_makeFunctionHit (mg := X.mg) (c := m) (P := P) (ps := ps) (closure_ok fr) I.ok.glob (I.mod.glob.keeps I.bk) cd (B.code.keeps I.bk) hO tr ca hb
    intro ct h1 tk up sz
    refine k h1.objs.size c ((X.mg "__name__").getD .none) ct H _ (I.kept fun r o e => Heap.get?_push_of_some _ (up r o e)) ⟨fun _ _ e _ => e, ⟨ps, hP, tr, fun _ _ e => .inl e⟩, .inr ⟨pos, ca⟩, hc⟩ (Heap.get?_push_size _ rfl) (I.hok.fresh sz) (out _ sz)
  | none =>
    apply PySem.W.kla_makeFunction (mg := X.mg) (c := m) (P := P) (ps := ps) (closure_ok fr) I.ok.glob (I.mod.glob.keeps I.bk) cd (B.code.keeps I.bk) hO tr ca B.gP hb
    intro c ct h1 tk up ge lt rec_ tb
    obtain ⟨c2, oc, vs, t, e2, g1, g2, g3⟩ := rec_
    cases e2
    have sz : s.heap.objs.size ≤ h1.objs.size := Nat.le_trans ge (Nat.le_of_lt lt)
    have nc : H c = none := I.hok.fresh ge
    have nP : P ≠ c := ne_of_none hP nc
    have J := inv_table (q := lamQ X) (t' := tk) (more := #[rawInt pos.line, rawInt pos.col, .ref c]) (h' := h1.push (lamO X a b sc ((X.mg "__name__").getD .none) c ct)) I hP
      (fun r o ne e => Heap.get?_push_of_some _ (up r o ne e)) (Heap.get?_push_of_some _ tb) ge ⟨oc, vs, t, Heap.get?_push_of_some _ g1, g2, g3⟩
    have lE : (ps ++ #[rawInt pos.line, rawInt pos.col, .ref c]).toList = ps.toList ++ [rawInt pos.line, rawInt pos.col, .ref c] := by simp
    refine k h1.objs.size c ((X.mg "__name__").getD .none) ct _ _ J ⟨fun r o e ne => ?_, ⟨_, (upd_ne nP).trans upd_same, ?_, fun x u e => ?_⟩, .inl nc, upd_same⟩ (Heap.get?_push_size _ rfl) ?_ (out _ sz)
    · rw [upd_ne (ne_of_none e nc), upd_ne ne]; exact e
    · rw [lE]; exact PySem.TriplesOk_snoc _ _ _ _ tr
    · rw [lE] at e; exact among_app _ tr e
    · rw [upd_ne (Nat.ne_of_gt lt), upd_ne (Nat.ne_of_gt (Nat.lt_of_lt_of_le (Heap.lt_size hO) sz))]
      exact I.hok.fresh sz
end
structure LamS1 (sc scope : Scope) (a : Str) : Prop where
  kind : scope.kind = .function
  co : scope.isCoroutine = false
  gen : scope.isGenerator = false
  par : scope.names.lookup a = some .local
  own : ∀ y ∈ scope.names, y.2 = .local → y.1 = a
  cel : ∀ y ∈ scope.names, y.2 ≠ .cell
  free : ∀ y ∈ scope.names, y.2 = .free → sc.names.lookup y.1 = some .cell ∨ sc.names.lookup y.1 = some .free
def lamS1B (sc scope : Scope) (a : Str) : Bool :=
  decide (scope.kind = .function) && !scope.isCoroutine && !scope.isGenerator && decide (scope.names.lookup a = some .local) && scope.names.all fun y => (!decide (y.2 = .local) || decide (y.1 = a)) && !decide (y.2 = .cell) && (!decide (y.2 = .free) || decide (sc.names.lookup y.1 = some .cell) || decide (sc.names.lookup y.1 = some .free))
theorem lamS1_by {sc scope : Scope} {a : Str} (h : lamS1B sc scope a = true) : LamS1 sc scope a := by
  unfold lamS1B at h
  simp only [Bool.and_eq_true, Bool.or_eq_true, Bool.not_eq_true', decide_eq_true_eq, decide_eq_false_iff_not, List.all_eq_true] at h
  obtain ⟨⟨⟨⟨h1, h2⟩, h3⟩, h4⟩, h5⟩ := h
  refine ⟨h1, h2, h3, h4, fun y hy e => (h5 y hy).1.1.resolve_left fun z => z e, fun y hy => (h5 y hy).1.2, fun y hy e => ?_⟩
  rcases (h5 y hy).2 with (z | z) | z
  · exact absurd e z
  · exact .inl z
  · exact .inr z
theorem LamS1.has {X : Cx} {scope : Scope} {a : Str} (L : LamS1 X.env.scope scope a) (ok : X.Ok) : ∀ y ∈ scope.names, y.2 = .free → ∃ c, X.env.cells.lookup y.1 = some c := fun y hy e => (L.free y hy e).elim (fun k => ok.has _ (.inl k)) fun k => ok.has _ (.inr k)
/-- the body's context, entered at s from the frames outer; its names are N -/
def lcx (X : Cx) (N : List Str) (A : Around) (outer : List Env) (s : Shared) (H : Hp) (scope : Scope) (f c : Addr) : Cx where
  prog := X.prog
  w := X.w
  K := X.K
  mg := X.mg
  base := X.base
  A := A.deeper (lamEnv X scope s.heap.objs.size f c)
  N := N
  s_0 := s
  H_0 := H
  env := lamEnv X scope s.heap.objs.size f c
  outer := outer
  stack := lamEnv X scope s.heap.objs.size f c :: outer
  ex := []
  fn := fun _ => false
  calm := true
  pn := []
  xe := fun _ _ => False
/-- the slots of the captured names -/
def capS (σ : L2.St) (is_ : List Nat) : L2.St := is_.map fun i => (σ[i]?).getD none
section
variable {X : Cx} {pins : List (Addr × Obj)} {σ : L2.St} {H HZ : Hp} {s s1 : Shared}
theorem lam1_start {A : Around} {outer : List Env} {scope : Scope} {a : Str} {f c : Addr} {h1 : Heap} {tk : Nat} {is_ : List Nat} {cs : List Str} {va : V} {ua : Value} (I : Inv X pins σ H s) (L : LamS1 X.env.scope scope a)
    (hc : ∀ (j : Nat) (y : Str), cs[j]? = some y → ∃ i, is_[j]? = some i ∧ X.N[i]? = some y ∧ scope.names.lookup y = some .free) (hl : is_.length = cs.length)
    (e0 : Env0 X.prog X.w X.K X.mg X.base A outer s1 HZ) (hd : A.handled = none) (un : Un (frs X.stack) [] H HZ s.heap s1.heap) (rv : RelV va ua)
    (hns : h1.Ns s1.heap.objs.size fun y => [(a, ua)].reverse.lookup y) (kp : ∀ r o, s1.heap.get? r = some o → h1.get? r = some o) :
    Inv (lcx X (a :: cs) A outer s1 HZ scope f c) [] (some va :: capS σ is_) HZ { s1 with heap := h1, toks := tk } := by
  have hfree := L.has I.ok
  have cm : ∀ {y d}, (cloFrom X.env.cells scope.names []).lookup y = some d → X.env.cells.lookup y = some d := fun {y d} e => by
    rcases cloFrom_mem (PySem.mem_of_lookup e) with z | ⟨z1, z2⟩
    · exact nomatch z
    · obtain ⟨d1, e1⟩ := hfree _ z1 rfl
      have e1 : X.env.cells.lookup y = some d1 := e1
      rw [z2, e1] <;> rfl
  have lk : ∀ {y}, scope.names.lookup y = some .free → ∃ d, (cloFrom X.env.cells scope.names []).lookup y = some d := fun {y} e =>
    mem_lookup (cloFrom_has (cells := X.env.cells) (acc := []) (PySem.mem_of_lookup e))
  have cellK : ∀ {d : Addr} {v : Option Value}, H d = none → s.heap.IsCell d v → h1.IsCell d v := fun {d v} n ⟨o, ho, hdt⟩ => by
    obtain ⟨sl, q⟩ := un.any ho n (by simp)
    exact ⟨_, kp _ _ q, hdt⟩
  have nx : ∀ r : Addr, r ∉ (lcx X (a :: cs) A outer s1 HZ scope f c).ex := fun r z => nomatch (show r ∈ ([] : List Addr) from z)
  have OK : (lcx X (a :: cs) A outer s1 HZ scope f c).Ok := {
    mod := e0.mod
    kind := L.kind
    glob := rfl
    blt := rfl
    above := Nat.le_refl _
    inj := fun y z d e1 e2 => I.ok.inj y z d (cm e1) (cm e2)
    has := fun y hy => by
      have hy : scope.names.lookup y = some .cell ∨ scope.names.lookup y = some .free := hy
      exact hy.elim (fun q => absurd rfl (L.cel _ (PySem.mem_of_lookup q))) lk
    cab := fun y d z _ => nomatch (show false = true from z)
    hd := fun _ => hd
    frames := Around.frames_deeper e0.frames
    stk := .inr ⟨rfl, rfl⟩
    exf := fun r z => absurd z (nx r)
    bs := e0.bs
    bsz := e0.bsz
    noex := fun r _ _ => nx r
    exfs := fun r z => absurd z (nx r)
    funs := e0.funs
    frf := e0.frf }
  refine ⟨OK, rfl, e0.bare, Un.kept kp, ⟨_, hns, fun i y v n1 n2 n3 => ?_⟩, fun y d e => ?_, e0.hok.fresh (Nat.le_refl _), fun y d e => ?_, fun p hp => absurd (show p ∈ ([] : List (Addr × Obj)) ++ [] from hp) (by simp), e0.hok.kept kp, ?_⟩
  · cases i with
    | zero =>
      have ey : y = a := (Option.some.inj (show some a = some y from n1)).symm
      have ev : v = va := (Option.some.inj (Option.some.inj (show some (some va) = some (some v) from n2))).symm
      subst ey ev
      exact ⟨ua, rv, .inl ⟨L.par, by simp [List.lookup]⟩⟩
    | succ j =>
      have n1 : cs[j]? = some y := n1
      have n2 : (capS σ is_)[j]? = some (some v) := n2
      obtain ⟨i, i1, i2, i3⟩ := hc j y n1
      have e2 : σ[i]? = some (some v) := by
        unfold capS at n2
        rw [List.getElem?_map, i1] at n2
        have n2 : (σ[i]?).getD none = some v := Option.some.inj n2
        cases q : σ[i]? with
        | none => rw [q] at n2; cases n2
        | some u => rw [q] at n2; rw [show u = some v from n2]
      obtain ⟨m, hn, hv⟩ := I.loc
      obtain ⟨w', r, q⟩ := hv i y v i2 e2 ((L.free _ (PySem.mem_of_lookup i3) rfl).elim (fun z => .inr (.inl z)) fun z => .inr (.inr z))
      obtain ⟨d, hd2⟩ := lk i3
      refine ⟨w', r, .inr ⟨.inr i3, d, hd2, ?_⟩⟩
      rcases q with ⟨k1, _⟩ | ⟨_, d3, e3, z⟩
      · have k1 : X.env.scope.names.lookup y = some .local := k1
        rcases L.free _ (PySem.mem_of_lookup i3) rfl with k2 | k2
        · rw [show X.env.scope.names.lookup y = _ from k2] at k1; cases k1
        · rw [show X.env.scope.names.lookup y = _ from k2] at k1; cases k1
      · rw [cm hd2] at e3
        cases e3
        exact cellK (I.freeC y _ (cm hd2)) z
  · obtain ⟨w', z⟩ := I.cell y d (cm e)
    exact ⟨w', cellK (I.freeC y d (cm e)) z⟩
  · obtain ⟨v, o, ho, _⟩ := I.cell y d (cm e)
    exact un.free d o ho (I.freeC y d (cm e)) (by simp)
  · show (capS σ is_).length + 1 = cs.length + 1
    unfold capS
    rw [List.length_map, hl]
/-- the context of the def that got the lambda -/
abbrev gcx (X : Cx) (Ng : List Str) (x : Str) (sg : Scope) (g : Addr) (cdg : Value) (s : Shared) (H : Hp) : Cx := (cxOf CX0 X.prog X.w X.K X.mg X.base Ng x sg g cdg X.A X.stack s H E0).nox
/-- a(e), in that def -/
def tAct (j : Nat) (f c : Addr) (q : Str) (te : TE) (tl : V → Hp → VK → Prop) : TE := fun σ H Q => σ[j]? = some (some (.ref f)) ∧ te σ H fun v H2 => H2 c = some (CodeO c q) ∧ tl v H2 Q
theorem pe_act1 {Ng : List Str} {x : Str} {sg : Scope} {g f c : Addr} {cdg pm ct : Value} {params : Arguments} {body e : Expr} {scope : Scope} {k j : Nat} {a b : Str} {tb te : TE} {p1 p2 : Pos} {is_ : List Nat} {cs : List Str}
    (I : Inv X pins σ H s) (L : LamS1 X.env.scope scope b) (hc : ∀ (j : Nat) (y : Str), cs[j]? = some y → ∃ i, is_[j]? = some i ∧ X.N[i]? = some y ∧ scope.names.lookup y = some .free) (hl : is_.length = cs.length)
    (hf : s.heap.get? f = some (lamO X params body scope pm c ct)) (hfn : H f = none) (hfr : f ∉ frs X.stack)
    (hbind : ∀ u, bindArgs (PySem.W.kla_fn "<lambda>" (lamQ X) params body scope (cloFrom X.env.cells scope.names []) pm (.ref c) ct) ⟨[u], []⟩ = pure [(b, u)])
    (hr : Room (k + 1) (X.A.deeper (envOfC x sg s.heap.objs.size g cdg)))
    (hbody : ∀ (A : Around) (outer : List Env) (s : Shared) (H : Hp), Room k (A.deeper (lamEnv X scope s.heap.objs.size f c)) → PE (lcx X (b :: cs) A outer s H scope f c) body tb)
    (he : PE (gcx X Ng x sg g cdg s H) e te) (hN : Ng[j]? = some a) (hv : Vis sg a)
    (st : starEach [e] (gcx X Ng x sg g cdg s H).env = (false, eval e (gcx X Ng x sg g cdg s H).env) :: starEach [] (gcx X Ng x sg g cdg s H).env)
    (hd : (a == ("__debug__" : Str)) = false := by decide) (hcd : (a == ("__classdict__" : Str)) = false := by decide) :
    PE (gcx X Ng x sg g cdg s H) (.Call (.Name a p1) [e] [] p2) (tAct j f c (lamQ X) te fun v H' Q => tb (some v :: capS σ is_) H' Q) := by
  refine ⟨fun pz sz σz Hz Q Iz h => ?_⟩
  obtain ⟨h1, h2⟩ := h
  refine wpAny_Call_Name_kw (thn ((pe_var (pos := p1) (i := j) hN hv hd hcd).run pz sz σz Hz (fun v H1 => v = .ref f ∧ H1 = Hz) Iz ⟨.ref f, h1, rfl, rfl⟩) fun u s1 ⟨v, H1, I1, r1, q1⟩ => ?_)
  obtain ⟨ev, eH⟩ := q1
  subst ev
  rw [eH] at I1
  obtain rfl : u = Value.ref f := r1
  have kf : ∀ {σ2 : L2.St} {H2 : Hp} {s2 : Shared}, Inv (gcx X Ng x sg g cdg s H) pz σ2 H2 s2 → s2.heap.get? f = some (lamO X params body scope pm c ct) := fun J => J.base.keep f _ hf hfn hfr (fun z => nomatch (show f ∈ ([] : List Addr) from z))
  refine PySem.W.callWith_F (first := []) ⟨_, _, _, _, kf I1⟩ (thn ((pa_cons he pa_nil st).run p2 pz s1 σz Hz (fun vs H2 => match vs with | [v] => H2 c = some (CodeO c (lamQ X)) ∧ tb (some v :: capS σ is_) H2 Q | _ => False) I1 h2) fun us s2 ⟨vs, H2, I2, r2, q2⟩ => ⟨⟨_, _, _, _, kf I2⟩, ?_⟩) st rfl
  obtain ⟨va, ua, rfl, rfl, ra, hco, ht⟩ : ∃ (va : V) (ua : Value), vs = [va] ∧ us = [ua] ∧ L2.RelV va ua ∧ H2 c = some (CodeO c (lamQ X)) ∧ tb (some va :: capS σ is_) H2 Q := by
    cases r2 with
    | nil => exact q2.elim
    | cons ra rest =>
      cases rest with
      | nil => exact ⟨_, _, rfl, rfl, ra, q2⟩
      | cons _ _ => exact q2.elim
  obtain ⟨⟨oc, vc, t, g1, g2, g3⟩, _, _⟩ := I2.hok c _ hco
  have un : Un (frs X.stack) [] H H2 s.heap s2.heap := I2.base
  have rc : codeAny (model X.prog X.w) (X.A.deeper (envOfC x sg s.heap.objs.size g cdg)) (.call (.ref f) ⟨[ua], []⟩) (L2.CR CX0 (envOfC x sg s.heap.objs.size g cdg :: X.stack) X.prog X.w H2 s2 Q E0) s2 := by
    refine PySem.W.kla_callFunE hr.depth (kf I2) rfl L.co L.gen rfl ⟨c, oc, vc, t, rfl, g1, g2, g3⟩ ?_
    rw [hbind]
    refine wpAny_pure (wpAny_newFunctionEnv L.cel (fun y hy => by rw [List.mem_singleton.mp hy]; exact L.par) (fun h1 hns hsb => ⟨I2.nolimit.fresh _ hsb, ?_⟩) L.kind)
    show codeAny _ _ (.expr body (lamEnv X scope s2.heap.objs.size f c)) _ _
    have kp : ∀ r o, s2.heap.get? r = some o → h1.get? r = some o := fun r o e => hsb.extBut r o (Nat.ne_of_lt (Heap.lt_size e)) (Heap.get?_push_of_some _ e)
    have J : L2.Inv (lcx X (b :: cs) (X.A.deeper (envOfC x sg s.heap.objs.size g cdg)) (envOfC x sg s.heap.objs.size g cdg :: X.stack) s2 H2 scope f c) [] (some va :: capS σ is_) H2 { s2 with heap := h1, toks := s2.toks + [(b, ua)].length } :=
      lam1_start I L hc hl I2.env0 hr.hd un ra hns kp
    refine PySem.W.kla_codeExpr (wpAny_mono ((hbody _ _ s2 H2 (hr.deeper _)).run [] _ _ H2 Q J ht) (fun v s' hq => ?_) fun e s' hq => hq.elim)
    obtain ⟨w', H', J', rv, q⟩ := hq
    exact ⟨w', H', J'.os, J'.bare, J'.base, J'.hok, rv, q⟩
  refine wpAny_call (codeAny_mono rc fun r s' hq => ?_)
  cases r with
  | error e => exact (show False from hq).elim
  | ok fl =>
    cases fl with
    | ret u => exact I2.after hq
    | next => exact False.elim hq
    | brk => exact False.elim hq
    | cont => exact False.elim hq
end
/-- the context of a def that gets a lambda -/
abbrev gC (P : Program) (w : World) (K : PySem.W.Frag) (mg : Str → Option Value) (base : Heap) (A : Around) (stack : List Env) (N : List Str) (x : Str) (sg : Scope) (g : Addr) (cdg : Value) (s : Shared) (H : Hp) : Cx := (cxOf CX0 P w K mg base N x sg g cdg A stack s H E0).nox
/-- the def x of two parameters, the second one (a) the lambda; TT: what it makes of the lambda's reading and its first argument -/
structure Lm (P : Program) (w : World) (K : PySem.W.Frag) (mg : Str → Option Value) (base : Heap) (k : Nat) (x x0 a : Str) (TT : Str → (V → Hp → VK → Prop) → V → Addr → Hp → VK → Prop) : Prop where
  ex : ∃ (st : Stmt) (g : Addr) (fd : FuncData) (N : List Str), Fun K x x st g fd ∧ mg x = some (.ref g) ∧ Binds K fd [x0, a] [] ∧ FnScope N [x0, a] (defScope st) ∧ N[1]? = some a ∧ Vis (defScope st) a ∧
    ∀ (A : Around) (stack : List Env) (q : Str) (f c : Addr) (cdg : Value) (s : Shared) (H : Hp) (Q : VK) (v0 : V) (tl : V → Hp → VK → Prop), Room k (A.deeper (envOfC x (defScope st) s.heap.objs.size g cdg)) →
      (∀ (e : Expr) (te : TE) (p1 p2 : Pos), PE (gC P w K mg base A stack N x (defScope st) g cdg s H) e te → starEach [e] (gC P w K mg base A stack N x (defScope st) g cdg s H).env = (false, eval e (gC P w K mg base A stack N x (defScope st) g cdg s H).env) :: starEach [] (gC P w K mg base A stack N x (defScope st) g cdg s H).env →
        PE (gC P w K mg base A stack N x (defScope st) g cdg s H) (.Call (.Name a p1) [e] [] p2) (tAct 1 f c q te tl)) →
      TT q tl v0 c H Q → ∃ t, PSs (gC P w K mg base A stack N x (defScope st) g cdg s H) (defBody st) t ∧ t { nx := fun _ H' => Q .non H', rt := Q } (L2.start N [v0, .ref f]) H
def tLam1 (P : Addr) (q : Str) (TT : (V → Hp → VK → Prop) → V → Addr → Hp → VK → Prop) (te0 : TE) (tl : L2.St → V → Hp → VK → Prop) : TE := fun σ H Q => te0 σ H fun v0 H1 =>
  ∃ ps : Array Value, H1 P = some (.tbl ps) ∧ TriplesOk ps.toList ∧ (∀ x u, codeAmong x ps.toList = some u → ∃ c, u = .ref c ∧ H1 c = some (CodeO c q)) ∧ ∀ H2 c, Made P q ps H1 H2 c → TT (tl σ) v0 c H2 Q
theorem qual_nox {CX : CXT} {P : Program} {w : World} {K : PySem.W.Frag} {mg : Str → Option Value} {base : Heap} {N : List Str} {x : Str} {sg : Scope} {g : Addr} {cdg : Value} {A : Around} {st : List Env} {s : Shared} {H : Hp} {E : XK} :
    (cxOf CX P w K mg base N x sg g cdg A st s H E).nox.env.qual = x ++ ".<locals>." := rfl
/-- x(e0, lambda b: body) -/
theorem pe_lamcall1 {X : Cx} {q : Str} {k kl : Nat} {x x0 a b : Str} {TT : Str → (V → Hp → VK → Prop) → V → Addr → Hp → VK → Prop} {m P : Addr} {params : Arguments} {body e0 : Expr} {scope : Scope} {te0 tb : TE} {is_ : List Nat} {cs : List Str} {p lpos pos : Pos}
    (C : Lm X.prog X.w X.K X.mg X.base k x x0 a TT) (hr : Room (k + 1) X.A) (hg : Gl X x) (B : TabB X.base X.mg m P) (cd : X.env.code = .ref m) (L : LamS1 X.env.scope scope b)
    (hc : ∀ (j : Nat) (y : Str), cs[j]? = some y → ∃ i, is_[j]? = some i ∧ X.N[i]? = some y ∧ scope.names.lookup y = some .free) (hl : is_.length = cs.length) (df : defaultsOf params X.env = ([], []))
    (hbind : ∀ (q : Str) (cl : List (Str × Addr)) (pm cv ct u : Value), bindArgs (PySem.W.kla_fn "<lambda>" q params body scope cl pm cv ct) ⟨[u], []⟩ = pure [(b, u)])
    (he0 : PE X e0 te0) (hkl : kl + 1 ≤ k) (hbody : ∀ (A : Around) (outer : List Env) (s : Shared) (H : Hp) (f c : Addr), Room kl (A.deeper (lamEnv X scope s.heap.objs.size f c)) → PE (lcx X (b :: cs) A outer s H scope f c) body tb)
    (hst : starEach [e0, .Lambda params body scope lpos] X.env = (false, eval e0 X.env) :: starEach [.Lambda params body scope lpos] X.env)
    (hq : X.env.qual = q) (hdb : (x == ("__debug__" : Str)) = false := by decide) (hd : (a == ("__debug__" : Str)) = false := by decide) (hcd : (a == ("__classdict__" : Str)) = false := by decide) :
    PE X (.Call (.Name x p) [e0, .Lambda params body scope lpos] [] pos) (tLam1 P (q ++ "<lambda>") (TT (q ++ "<lambda>")) te0 fun σ v H Q => tb (some v :: capS σ is_) H Q) := by
  subst hq
  obtain ⟨st, g, fd, Ng, F, hm, hb, Sg, hNg, hva, hG⟩ := C.ex
  obtain ⟨oc, od, kV, doc, pm, an, cdv, ct, osl, rfl, lk, hcg⟩ := F.ex
  refine ⟨fun pins s σ H Q I h => ?_⟩
  refine wpAny_Call_Name_kw (ld_glob I hg hm ?_ hdb)
  refine PySem.W.callWith_K (h₀ := X.base) I.ok.mod.kin F.kp ?_ hst (by rfl)
  rw [hst]
  show wpAny _ _ (spliced ((false, eval e0 X.env) :: (false, eval (.Lambda params body scope lpos) X.env) :: backTo pos (starEach [] X.env))) _ _ s
  refine Calls.spliced_cons (thn (he0.run pins s σ H _ I h) fun u0 s0 ⟨v0, H1, I0, r0, ps, hP, tr, am, hT⟩ => ?_)
  refine Calls.spliced_cons (lam1_mk I0 B cd hP tr am df (L.has I.ok) fun f c pm' ctv H2 s2 I2 md hf hfn hfr => ?_)
  refine Calls.spliced_nil ⟨I2.kIn, ?_⟩
  have rc : codeAny (model X.prog X.w) X.A (.call (.ref g) ⟨[u0, .ref f], []⟩) (L2.CR CX0 X.stack X.prog X.w H2 s2 Q E0) s2 := by
    refine run_ofS (N := Ng) (ps := [x0, a]) (us := [u0, .ref f]) (vs := [v0, .ref f]) lk hcg Sg hr I2.env0 (hb s2 [u0, .ref f] I2.kIn rfl) (.cons r0 (.cons rfl .nil)) rfl fun hr' => ?_
    obtain ⟨t', ht', hq'⟩ := hG X.A X.stack (lamQ X) f c cdv s2 H2 Q v0 (fun v H' Q' => tb (some v :: capS σ is_) H' Q') hr'
      (fun e te p1 p2 he st' => pe_act1 (X := X) (k := kl) (j := 1) I2 L hc hl hf hfn hfr (fun u => hbind _ _ _ _ _ u) (hr'.mono hkl) (fun A outer s H hr2 => hbody A outer s H f c hr2) he hNg hva st' hd hcd) (hT H2 c md)
    exact ⟨t', ht'.nox, hq'⟩
  refine wpAny_call (codeAny_mono rc fun r s3 hq => ?_)
  cases r with
  | error e => exact (show False from hq).elim
  | ok fl =>
    cases fl with
    | ret u => exact I2.after hq
    | next => exact False.elim hq
    | brk => exact False.elim hq
    | cont => exact False.elim hq
structure XT (H0 F H : Hp) (P : Addr) (q : Str) : Prop where
  z : H0 P = none
  nF : F P = none
  t : ∃ ps : Array Value, H P = some (.tbl ps) ∧ TriplesOk ps.toList ∧ ∀ x u, codeAmong x ps.toList = some u → ∃ c, u = .ref c ∧ F c = some (CodeO c q)
section
variable {F0 H0 F H F' H' H1 : Hp} {P p : Addr} {q : Str} {L : List Addr} {o : HO}
theorem XT.zero (x : XT H0 F H P q) : H0 P = none := x.z
theorem XT.ne (x : XT H0 F H P q) (h : H p = none) : P ≠ p := let ⟨_, a, _⟩ := x.t; ne_of_none a h
theorem XT.step (x : XT H0 F H P q) (w : Wf F H F' H') : XT H0 F' H' P q := by
  obtain ⟨ps, a, b, c⟩ := x.t
  refine ⟨x.z, ?_, ps, w.h _ _ a, b, fun y u e => let ⟨d, e1, e2⟩ := c y u e; ⟨d, e1, w.g _ _ e2⟩⟩
  cases h : F' P with
  | none => rfl
  | some y => have := w.n P y h x.nF; rw [a] at this; cases this
theorem XT.kept (x : XT H0 F H P q) (h : ∀ r o, H r = some o → r ≠ p → H' r = some o) (hq : P ≠ p) : XT H0 F H' P q := let ⟨ps, a, b⟩ := x.t; ⟨x.z, x.nF, ps, h _ _ a hq, b⟩
theorem XT.frzO (x : XT H0 F H P q) (h : Fz F F' p) (hq : P ≠ p) (g : Ex F F') : XT H0 F' H P q := let ⟨ps, a, b, c⟩ := x.t; ⟨x.z, h _ hq x.nF, ps, a, b, fun y u e => let ⟨d, e1, e2⟩ := c y u e; ⟨d, e1, g _ _ e2⟩⟩
theorem XT.away (x : XT H0 F H P q) (hp : P ∉ L) (s : Wf F (woL H L) F' H') : XT H0 F' H' P q := by
  obtain ⟨ps, a, b, c⟩ := x.t
  refine ⟨x.z, ?_, ps, away_h hp s a, b, fun y u e => let ⟨d, e1, e2⟩ := c y u e; ⟨d, e1, s.g _ _ e2⟩⟩
  cases h : F' P with
  | none => rfl
  | some y => have := s.n P y h x.nF; rw [woL_out hp, a] at this; cases this
theorem XT.toL (x : XT H0 F H P q) (hp : P ∈ L) : XT (woL H L) F H P q := ⟨woL_in hp, x.nF, x.t⟩
theorem XT.fromL (x : XT H1 F H P q) (z : H0 P = none) : XT H0 F H P q := ⟨z, x.nF, x.t⟩
/-- the lambda is made: its code stays -/
theorem XT.made {ps : Array Value} {H2 : Hp} {c : Addr} (x : XT H0 F H P q) (w : Wf F0 H0 F H) (hP : H P = some (.tbl ps)) (m : Made P q ps H H2 c) : ∃ F2, Wf F (woL H [P]) F2 H2 ∧ XT (woL H [P]) F2 H2 P q ∧ F2 c = some (CodeO c q) := by
  obtain ⟨ps', a, b, d⟩ := x.t
  rw [hP] at a; cases a
  obtain ⟨qs, q1, q2, q3⟩ := m.tab
  have exH : Ex (woL H [P]) H2 := fun r o e => by
    by_cases h : r ∈ [P]
    · rw [woL_in h] at e; cases e
    · rw [woL_out h] at e; exact m.keep r o e fun z => h (List.mem_singleton.mpr z)
  have exF : Ex F H2 := fun r o e => m.keep r o (w.f r o e) fun z => by rw [z, x.nF] at e; cases e
  by_cases hc : F c = some (CodeO c q)
  · refine ⟨F, ⟨exH, exF, Ex.rfl', fun r o e e0 => by rw [e] at e0; cases e0⟩, ⟨woL_in (List.mem_singleton.mpr rfl), x.nF, qs, q1, q2, fun y u e => ?_⟩, hc⟩
    rcases q3 y u e with z | z
    · exact d y u z
    · exact ⟨c, z, hc⟩
  · have nc : H c = none := m.new.resolve_right fun ⟨y, z⟩ => let ⟨c2, e1, e2⟩ := d y _ z; hc (by cases e1; exact e2)
    have ncF : F c = none := w.f.non nc
    have cP : P ≠ c := ne_of_none hP nc
    refine ⟨upd F c (CodeO c q), ⟨exH, fun r o e => ?_, Ex.new ncF, fun r o e e0 => ?_⟩, ⟨woL_in (List.mem_singleton.mpr rfl), (upd_ne cP).trans x.nF, qs, q1, q2, fun y u e => ?_⟩, upd_same⟩
    · by_cases h : r = c
      · rw [h, upd_same] at e; cases e; rw [h]; exact m.code
      · rw [upd_ne h] at e; exact exF r o e
    · by_cases h : r = c
      · rw [h]; exact woL_sub.non nc
      · rw [upd_ne h, e0] at e; cases e
    · rcases q3 y u e with z | z
      · obtain ⟨c2, e1, e2⟩ := d y u z
        exact ⟨c2, e1, (Ex.new ncF) _ _ e2⟩
      · exact ⟨c, z, upd_same⟩
/-- x(e0, lambda ..): the walk -/
theorem t_lam1 {TT : (V → Hp → VK → Prop) → V → Addr → Hp → VK → Prop} {te0 : TE} {tl : L2.St → V → Hp → VK → Prop} {σ : L2.St} {v0 : V} {Q : VK} (x : XT H0 F H P q) (w : Wf F0 H0 F H) (h0 : Val te0 σ H v0)
    (k : ∀ c F2 H2, Wf F (woL H [P]) F2 H2 → XT (woL H [P]) F2 H2 P q → F2 c = some (CodeO c q) → TT (tl σ) v0 c H2 Q) : tLam1 P q TT te0 tl σ H Q := by
  refine h0 _ ?_
  obtain ⟨ps, a, b, c⟩ := x.t
  refine ⟨ps, a, b, fun y u e => let ⟨d, e1, e2⟩ := c y u e; ⟨d, e1, w.f _ _ e2⟩, fun H2 c m => ?_⟩
  obtain ⟨F2, s, x2, hc⟩ := x.made w a m
  exact k c F2 H2 s x2 hc
theorem e_act1 {f c : Addr} {te : TE} {tl : V → Hp → VK → Prop} {σ : L2.St} {Q : VK} {v : V} {j : Nat} (hσ : σ[j]? = some (some (.ref f))) (h : Val te σ H v) (hc : F c = some (CodeO c q)) (w : Ex F H) (k : tl v H Q) : tAct j f c q te tl σ H Q := ⟨hσ, h _ ⟨w _ _ hc, k⟩⟩
end
end Wk
namespace Wk
open PySem PySem.Spec PyProof.Rows L2 LamX
/-- as okC_X, for a def that lets nothing out -/
theorem okC_0 {P : Program} {w : World} {K : PySem.W.Frag} {mg : Str → Option Value} {base : Heap} {x qual : Str} {st : Stmt} {f m : Addr} {fd : FuncData} {N ps : List Str} {k : Nat} {sp : Sp} (F : Fun K x qual st f fd) (hc : fd.code = .ref m) (S : FnScope N ps (defScope st)) (len : ∀ vs H Q E, sp vs H Q E → vs.length = ps.length)
    (hbody : ∀ (cdv : Value) (A : Around) (outer : List Env) (s : Shared) (H : Hp) (vs : List V) (Q : VK) (E : XK), cdv = .ref m → Room k (A.deeper (envOfC qual (defScope st) s.heap.objs.size f cdv)) → sp vs H Q E →
      ∃ t, PSs (cxOf CX0 P w K mg base N qual (defScope st) f cdv A outer s H E).nox (defBody st) t ∧ t { nx := fun _ H' => Q .non H', rt := Q } (L2.start N vs) H) : FnOk P w K mg base CX0 (k + 1) f fd ps sp := by
  obtain ⟨oc, od, kV, doc, pm, an, cdv, ct, osl, rfl, lk, hcd⟩ := F.ex
  refine fn_of lk hcd S len fun A outer s H vs Q E hr hsp => ?_
  obtain ⟨t, h, q⟩ := hbody cdv A outer s H vs Q E hc hr hsp
  exact ⟨t, h.nox, q⟩
/-- statements that are not come to -/
def tCut : TS := fun _ _ _ => False
theorem pss_cut {X : Cx} {sts : List Stmt} : PSs X sts tCut := ⟨fun _ _ _ _ _ _ h => h.elim⟩
/-- captured names -/
def capsB (N : List Str) (sc : Scope) (is_ : List Nat) (cs : List Str) : Bool := decide (is_.length = cs.length) && (List.range cs.length).all fun j => match is_[j]?, cs[j]? with
  | some i, some y => decide (N[i]? = some y) && decide (sc.names.lookup y = some .free)
  | _, _ => false
theorem caps_by {N : List Str} {sc : Scope} {is_ : List Nat} {cs : List Str} (h : capsB N sc is_ cs = true) : ∀ (j : Nat) (y : Str), cs[j]? = some y → ∃ i, is_[j]? = some i ∧ N[i]? = some y ∧ sc.names.lookup y = some .free := fun j y e => by
  unfold capsB at h
  simp only [Bool.and_eq_true, decide_eq_true_eq, List.all_eq_true, List.mem_range] at h
  have hj : j < cs.length := (List.getElem?_eq_some_iff.mp e).1
  have q := h.2 j hj
  rw [e] at q
  have hi : j < is_.length := by rw [h.1]; exact hj
  rw [List.getElem?_eq_getElem hi] at q ⊢
  simp only [Bool.and_eq_true, decide_eq_true_eq] at q
  exact ⟨_, rfl, q.1, q.2⟩
section
variable {F0 H0 F H : Hp} {P : Addr} {q : Str} {L : List Addr} {K : PySem.W.Frag} {a : Addr} {vs : List V}
theorem SqL.wo (h : SqL K H a vs) (hL : ∀ d ∈ L, H d = some (.tbl #[])) : SqL K (woL H L) a vs := by
  rcases h with h | h
  · refine .inl ?_
    rcases h with h | ⟨o, h⟩
    · refine .inl ?_
      rw [woL_out (fun z => ?_)]; · exact h
      rw [hL a z] at h; cases h
    · refine .inr ⟨o, ?_⟩
      rw [woL_out (fun z => ?_)]; · exact h
      rw [hL a z] at h; cases h
  · exact .inr h
theorem XT.start (hP : H P = some (.tbl #[])) (hL : P ∈ L) : XT (woL H L) (woL H L) H P q := ⟨woL_in hL, woL_in hL, #[], hP, trivial, fun _ _ e => by cases e⟩
end
end Wk
namespace Wk
open PySem L2 LamX
section
variable {α κ : Type} [KeyT κ] {e : Rep α} {F0 H0 F H F' H' G H2 F3 H1 : Hp} {P p : Addr} {q : Str} {L : List Addr} {xs : List α} {k : Nat}
theorem XT.nl (x : XT H0 F H P q) : XT H0 (Wk.nl F) H P q := by
  obtain ⟨ps, a, b, c⟩ := x.t
  exact ⟨x.z, nl_sub.non x.nF, ps, a, b, fun y u e => let ⟨d, e1, e2⟩ := c y u e; ⟨d, e1, nl_o e2 fun vs z => by unfold CodeO at z; cases z⟩⟩
theorem RG.fzNL (w : Wf F0 H0 F H) (hF : ∀ d ∈ L, F d = none) (hG : ∀ d ∈ L, G d = none) (s : Wf (Wk.nl F) (woL H L) G H2) : ∃ F3, Wf F (woL H L) F3 H2 ∧ Ex (Wk.nl G) F3 ∧ RG H0 F3 H2 G ∧ ∀ d, F d = none → G d = none → F3 d = none := by
  have inL : ∀ a u, F a = some u → a ∉ L := fun a u e z => by rw [hF a z] at e; cases e
  have fh : ∀ a u, F a = some u → H2 a = some u := fun a u e => s.h a u (by rw [woL_out (inL a u e)]; exact w.f a u e)
  have key : ∀ a o, G a = some o → F a = none → H a = none := fun a o e q => by
    have := s.n a o e (by
      cases z : Wk.nl F a with
      | none => rfl
      | some u => rw [nl_sub a u z] at q; cases q)
    by_cases h : a ∈ L
    · rw [hG a h] at e; cases e
    · rw [woL_out h] at this; exact this
  have hx : Ex (Wk.nl G) (un F (Wk.nl G)) := fun a o e => by
    unfold un
    cases q : F a with
    | none => exact e
    | some u =>
      have h1 := fh a u q
      have h2 := s.f a o (nl_sub a o e)
      rw [h1] at h2
      exact h2
  refine ⟨un F (Wk.nl G), ⟨s.h, fun a o e => ?_, un_l, fun a o e e0 => ?_⟩, hx, ⟨fun a o e => ?_, s.f⟩, fun d h1 h2 => ?_⟩
  · unfold un at e
    cases q : F a with
    | some u => rw [q] at e; cases e; exact fh a _ q
    | none => rw [q] at e; exact s.f a o (nl_sub a o e)
  · unfold un at e
    rw [e0] at e
    exact woL_sub.non (key a o (nl_sub a o e) e0)
  · by_cases n : NLst o
    · exact .inr ⟨hx a o (nl_o e n), n⟩
    · have hl : ∃ vs, o = .lst vs := Classical.byContradiction fun z => n fun vs q => z ⟨vs, q⟩
      obtain ⟨vs, rfl⟩ := hl
      have fn : F a = none := by
        cases q : F a with
        | none => rfl
        | some u =>
          exfalso
          have h1 := fh a u q
          have h2 := s.f a _ e
          rw [h1] at h2
          cases h2
          cases z : Wk.nl F a with
          | none =>
            have h4 := s.n a _ e z
            rw [woL_out (inL a _ q), w.f a _ q] at h4; cases h4
          | some u =>
            have h3 := nl_sub a u z
            rw [q] at h3
            cases h3
            rw [nl_lst q] at z
            cases z
      refine .inl ⟨w.h.non (key a _ e fn), ?_⟩
      unfold un
      rw [fn]
      exact nl_lst e
  · unfold un
    rw [h1]
    exact nl_sub.non h2
theorem XT.reg (x : XT H1 G H2 P q) (hx : Ex (Wk.nl G) F3) (hF : F3 P = none) : XT H1 F3 H2 P q := by
  obtain ⟨ps, a, b, c⟩ := x.nl.t
  exact ⟨x.z, hF, ps, a, b, fun y u e => let ⟨d, e1, e2⟩ := c y u e; ⟨d, e1, hx _ _ e2⟩⟩
theorem NewOr.away (z : NewOr H0 F G) (c : ∀ a o, G a = some o → ∃ o', H a = some o') (hp : ∀ d ∈ L, G d = none) (w : Wf F (woL H L) F' H') : NewOr H0 F' G := fun a o e => by
  rcases z a o e with ⟨h0, hn⟩ | ⟨h1, h2⟩
  · refine .inl ⟨h0, ?_⟩
    cases q : F' a with
    | none => rfl
    | some u =>
      obtain ⟨o', h⟩ := c a o e
      have := w.n a u q hn
      rw [woL_out (fun z => by rw [hp a z] at e; cases e), h] at this
      cases this
  · exact .inr ⟨w.g _ _ h1, h2⟩
theorem RG.away (g : RG H0 F H G) (hp : ∀ d ∈ L, G d = none) (w : Wf F (woL H L) F' H') : RG H0 F' H' G :=
  ⟨g.z.away (fun a o e => ⟨o, g.h a o e⟩) hp w, fun a o e => w.h a o (by rw [woL_out (fun z => by rw [hp a z] at e; cases e)]; exact g.h a o e)⟩
theorem RD.away (g : RD H0 F H G k) (hp : ∀ d ∈ L, G d = none) (w : Wf F (woL H L) F' H') : RD H0 F' H' G k := by
  have out : ∀ {a o}, G a = some o → a ∉ L := fun e z => by rw [hp _ z] at e; cases e
  refine ⟨g.z.away g.c hp w, fun a o e => ?_, fun a vs e => ?_⟩
  · obtain ⟨o', h⟩ := g.c a o e
    exact ⟨o', w.h _ _ (by rw [woL_out (out e)]; exact h)⟩
  · obtain ⟨ws, h1, h2⟩ := g.l a vs e
    exact ⟨ws, w.h _ _ (by rw [woL_out (out e)]; exact h1), h2⟩
end
end Wk
namespace Wk
theorem allM1 {α : Type} {P : α → Prop} {d : α} (h : P d) : ∀ x ∈ [d], P x := fun x hx => by rw [List.mem_singleton.mp hx]; exact h
theorem memM1 {α : Type} {d : α} : d ∈ [d] := List.mem_cons_self ..
end Wk
namespace Wk
open PySem L2
section
variable {α β γ δ : Type} {a : Rep α} {b : Rep β} {c : Rep γ} {d : Rep δ} {F : Hp} {v : V} {z : α × β × Sum γ δ} {n : γ} {y : δ}
theorem alt_ways {s : Sum γ δ} {C : Prop} (h1 : ∀ n, s = .inl n → C) (h2 : ∀ y, s = .inr y → C) : C := by
  cases h : s with
  | inl n => exact h1 n h
  | inr y => exact h2 y h
end
end Wk
namespace Wk
open PySem L2
end Wk
namespace Wk
open PySem L2
instance {α : Type} {e : Rep α} {n : Nat} [Dao e n] : Dsj pN (pL e) 0 (n + 1) := ⟨fun x y => rfl, fun x y => rfl⟩
end Wk
namespace Wk
open PySem L2
instance {α β γ α' β' γ' : Type} {e : Rep α} {f : Rep β} {g : Rep γ} {e' : Rep α'} {f' : Rep β'} {g' : Rep γ'} {n m k n' m' k' : Nat} [Dao e n] [Dao f m] [Dao g k] [Dao e' n'] [Dao f' m'] [Dao g' k'] [D : Dsj f f' m m'] :
    Dsj (pT3 e f g) (pT3 e' f' g') (max n (max m k) + 1) (max n' (max m' k') + 1) := ⟨fun x y => by
    show (PyData.eqv _ _ && (PyData.eqv _ _ && (PyData.eqv _ _ && PyData.eqvAll [] []))) = false
    rw [D.l, Bool.false_and, Bool.and_false], fun x y => by
    show (PyData.eqv _ _ && (PyData.eqv _ _ && (PyData.eqv _ _ && PyData.eqvAll [] []))) = false
    rw [D.r, Bool.false_and, Bool.and_false]⟩
end Wk
namespace Wk
open PySem L2
end Wk
namespace My
open PySem L2 Wk
def topS (i : Nat) : Stmt := PySem.Challenge.pw_sumwires_k52_states_told_apart.main.body.getD i (.Pass ⟨0, 0, 0, 0⟩)
structure Cz where
  Machine : Addr
  Steps : Addr
  BadMask : Addr
  BadTable : Addr
  WireError : Addr
  t_told_apart : Addr
structure Tz (K : PySem.W.Frag) (mg : Str → Option Value) (cc : Cz) : Prop where
  cl_Machine : Cls K cc.Machine
  na_Machine_inputs : NoAttr K cc.Machine "inputs"
  na_Machine_nexts : NoAttr K cc.Machine "nexts"
  na_Machine_outs : NoAttr K cc.Machine "outs"
  cl_Steps : Cls K cc.Steps
  na_Steps_kept : NoAttr K cc.Steps "kept"
  na_Steps_found : NoAttr K cc.Steps "found"
  na_Steps_gone : NoAttr K cc.Steps "gone"
  xc_BadMask : XC K mg "BadMask" cc.BadMask
  xc_BadTable : XC K mg "BadTable" cc.BadTable
  xc_WireError : XC K mg "WireError" cc.WireError
  gl_MOST_INPUTS : ∃ u, mg "MOST_INPUTS" = some u ∧ RelV (.int 6) u
  gl_MOST_OUTS : ∃ u, mg "MOST_OUTS" = some u ∧ RelV (.int 6) u
  gl_MOST_STORES : ∃ u, mg "MOST_STORES" = some u ∧ RelV (.int 120) u
  xm_BadMask_BadMask : PySem.W.exmOne K (.ref cc.BadMask) (.ref cc.BadMask) = some true
abbrev s_is_whole : Stmt := topS 6
def W_is_whole (thing1 : An) (R : Bool → Prop) : Prop := R (decide (((isA "int" thing1) = true) ∧ (¬ ((isA "bool" thing1) = true))))
def sp_is_whole (K : PySem.W.Frag) (cc : Cz) : Sp := fun vs H Q _ => ∃ (F : Hp) (v1 : V) (thing1 : An) (R : Bool → Prop), vs = [v1] ∧ Ex F H ∧ pA.r F v1 thing1 ∧ W_is_whole thing1 R ∧ ∀ z, R z → ∀ F' H', Wf F H F' H' → Q (.bl (z)) H'
abbrev N_is_whole : List Str := ["thing"]
theorem sc_is_whole : FnScope N_is_whole ["thing"] (defScope s_is_whole) := ⟨rfl, rfl, rfl, by decide +kernel, rfl, by decide +kernel, by decide +kernel⟩
theorem ok_is_whole {P : Program} {w0 : World} {K : PySem.W.Frag} {mg : Str → Option Value} {base : Heap} {f : Addr} {fd : FuncData} {cc : Cz} (T : Tz K mg cc) (FU : Fun K "is_whole" "is_whole" s_is_whole f fd) (hm : mg "is_whole" = some (.ref f)) (hb : Binds K fd ["thing"] []) (n_bool : mg "bool" = none) (n_int : mg "int" = none) (n_isinstance : mg "isinstance" = none) : Fn P w0 K mg base CX0 1 "is_whole" ["thing"] (sp_is_whole K cc) := by
  refine ⟨f, fd, FU.ok sc_is_whole (fun vs H Q E h => ?_) (fun cdv A outer s H0 vs Q E hr h => ?_), hm, FU.kp, hb⟩
  · obtain ⟨_, _, _, _, rfl, _⟩ := h; rfl
  · obtain ⟨F0, v1, thing1, R, rfl, wf, r1, hW, hQ⟩ := h
    have nd := sc_is_whole.nd
    refine ⟨(tRet (tAndV (tCB (rIsi K) (tCons (tVar 0) (tCons (tC (.ty "int")) tNil))) (tNotV (tCB (rIsi K) (tCons (tVar 0) (tCons (tC (.ty "bool")) tNil)))))), (pss_one (ps_ret (pe_and (pe_callB call_isi (by rfl) n_isinstance PyProof.Rows.boot_isinstance (pa_cons (pv 0) (pa_cons (pe_bltn (v := .ty "int") (by rfl) n_int PyProof.Rows.boot_int rfl) pa_nil))) (pe_one (pe_not (pe_callB call_isi (by rfl) n_isinstance PyProof.Rows.boot_isinstance (pa_cons (pv 0) (pa_cons (pe_bltn (v := .ty "bool") (by rfl) n_bool PyProof.Rows.boot_bool rfl) pa_nil)))))))), ?_⟩
    have w := Wf.id wf
    refine a_ret (v := (.bl (decide (((isA "int" thing1) = true) ∧ (¬ ((isA "bool" thing1) = true)))))) (vt_and (vb_of (v_isiA "int" (val_var rfl) r1 w.f) dec_tt) (fun _ => (vt_not (vb_of (v_isiA "bool" (val_var rfl) r1 w.f) dec_tt)))) ?_
    exact hQ _ hW _ _ w
abbrev s_is_mask : Stmt := topS 7
def W_is_mask (thing1 : An) (width1 : Nat) (R : Bool → Prop) : Prop := jn (fun kk => W_is_whole thing1 fun z1 => if z1 = true then (∃ y1 : Int, thing1 = An.i y1 ∧ (width1 < 100000000) ∧ kk (decide (((0 : Nat) : Int) ≤ y1 ∧ y1 < ((2 ^ width1 : Nat) : Int)))) else (kk false)) fun b1 => R b1
def sp_is_mask (K : PySem.W.Frag) (cc : Cz) : Sp := fun vs H Q _ => ∃ (F : Hp) (v1 : V) (thing1 : An) (width1 : Nat) (R : Bool → Prop), vs = [v1, (.int ((width1 : Nat) : Int))] ∧ Ex F H ∧ pA.r F v1 thing1 ∧ W_is_mask thing1 width1 R ∧ ∀ z, R z → ∀ F' H', Wf F H F' H' → Q (.bl (z)) H'
abbrev N_is_mask : List Str := ["thing", "width"]
theorem sc_is_mask : FnScope N_is_mask ["thing", "width"] (defScope s_is_mask) := ⟨rfl, rfl, rfl, by decide +kernel, rfl, by decide +kernel, by decide +kernel⟩
theorem ok_is_mask {P : Program} {w0 : World} {K : PySem.W.Frag} {mg : Str → Option Value} {base : Heap} {f : Addr} {fd : FuncData} {cc : Cz} (T : Tz K mg cc) (FU : Fun K "is_mask" "is_mask" s_is_mask f fd) (hm : mg "is_mask" = some (.ref f)) (hb : Binds K fd ["thing", "width"] []) (c_is_whole : Fn P w0 K mg base CX0 1 "is_whole" ["thing"] (sp_is_whole K cc)) : Fn P w0 K mg base CX0 2 "is_mask" ["thing", "width"] (sp_is_mask K cc) := by
  refine ⟨f, fd, FU.ok sc_is_mask (fun vs H Q E h => ?_) (fun cdv A outer s H0 vs Q E hr h => ?_), hm, FU.kp, hb⟩
  · obtain ⟨_, _, _, _, _, rfl, _⟩ := h; rfl
  · obtain ⟨F0, v1, thing1, width1, R, rfl, wf, r1, hW, hQ⟩ := h
    have nd := sc_is_mask.nd
    refine ⟨(tRet (tAndV (tCall (sp_is_whole K cc) [] E0 (tCons (tVar 0) tNil)) (tChain kLe kLt (tC (.int 0)) (tVar 0) (tOp kShl (tC (.int 1)) (tVar 1))))), (pss_one (ps_ret (pe_and (pe_fn c_is_whole (hr.mono (by decide)) rfl (pa_cons (pv 0) pa_nil)) (pe_one (pe_chain op_le op_lt pe_int (pv 0) (pe_op op_shlW pe_int (pv 1))))))), ?_⟩
    have w := Wf.id wf
    refine a_retE ?_
    refine e_jnV hW (fun b F' H' => b = b ∧ Wf F0 H0 F' H' ∧ Ex F0 F') ?_ ?_
    · intro N1 hN1 hW
      have gx1 : Ex F0 F0 := Ex.rfl'
      refine e_AndV ?_
      refine e_call ?_
      refine a_val (v := v1) (val_var rfl) ?_
      refine a_nil ?_
      refine ⟨F0, (v1), (thing1), _, rfl, w.f, r1, hW, ?_⟩
      intro z1 hW F1 H1 s1
      replace r1 := Rep.mono _ s1.g r1
      replace w := w.tr s1
      replace gx1 := Ex.tr gx1 s1.g
      refine bl_if ?_
      refine bb_if (fun hc1 => ?_) (fun hc1 => ?_)
      · have hW := ifP hW hc1
        obtain ⟨y1, hy1, hW⟩ := hW
        have hv1 := an_i r1 hy1
        obtain ⟨c1, hW⟩ := hW
        refine e_val (v := .bl (decide (((0 : Nat) : Int) ≤ y1 ∧ y1 < ((2 ^ width1 : Nat) : Int)))) (vb_of (v_chain (b1 := decide (((0 : Nat) : Int) ≤ y1)) (b2 := decide (y1 < ((2 ^ width1 : Nat) : Int))) (x := (.int ((0 : Nat) : Int))) (y := (.int (y1))) (z := (.int ((2 ^ width1 : Nat) : Int))) val_c (v_eq (val_var rfl) hv1) (vn_one val_c (val_var rfl) c1) (fun Q k => rv2 (c_le val_c val_c) k) (fun Q k => rv2 (c_lt val_c val_c) k)) dec_and) ?_
        exact hN1 (decide (((0 : Nat) : Int) ≤ y1 ∧ y1 < ((2 ^ width1 : Nat) : Int))) _ _ ⟨rfl, w, gx1⟩ hW
      · have hW := ifN hW hc1
        exact hN1 false _ _ ⟨rfl, w, gx1⟩ hW
    intro b1 F2 H2 hI1 hW
    obtain ⟨_, w, gx2⟩ := hI1
    have r1 := Rep.mono _ gx2 r1
    exact hQ _ hW _ _ w
abbrev s_even : Stmt := topS 8
def W_even (number1 : Nat) (R : Bool → Prop) : Prop := whileW (fun (many1, number2) T => T (decide (0 < number2))) (fun (many1, number2) nx1 bk1 => ∀ many2 : Nat, many2 = many1 ^^^ (number2 &&& 1) → ∀ number3 : Nat, number3 = number2 >>> 1 → nx1 (many2, number3)) (0, number1) fun (many1, number2) => R (decide (many1 = 0))
def sp_even (K : PySem.W.Frag) (cc : Cz) : Sp := fun vs H Q _ => ∃ (F : Hp) (number1 : Nat) (R : Bool → Prop), vs = [(.int ((number1 : Nat) : Int))] ∧ Ex F H ∧ W_even number1 R ∧ ∀ z, R z → ∀ F' H', Wf F H F' H' → Q (.bl (z)) H'
abbrev N_even : List Str := ["number", "many"]
theorem sc_even : FnScope N_even ["number"] (defScope s_even) := ⟨rfl, rfl, rfl, by decide +kernel, rfl, by decide +kernel, by decide +kernel⟩
theorem ok_even {P : Program} {w0 : World} {K : PySem.W.Frag} {mg : Str → Option Value} {base : Heap} {f : Addr} {fd : FuncData} {cc : Cz} (T : Tz K mg cc) (FU : Fun K "even" "even" s_even f fd) (hm : mg "even" = some (.ref f)) (hb : Binds K fd ["number"] []) : Fn P w0 K mg base CX0 1 "even" ["number"] (sp_even K cc) := by
  refine ⟨f, fd, FU.ok sc_even (fun vs H Q E h => ?_) (fun cdv A outer s H0 vs Q E hr h => ?_), hm, FU.kp, hb⟩
  · obtain ⟨_, _, _, rfl, _⟩ := h; rfl
  · obtain ⟨F0, number1, R, rfl, wf, hW, hQ⟩ := h
    have nd := sc_even.nd
    refine ⟨(tSeq (tAsg (tC (.int 0)) (gName 1)) (tSeq (tWhile (tTest (tOp kGt (tVar 0) (tC (.int 0)))) (tSeq (tAug 1 (tOp kAnd (tVar 0) (tC (.int 1))) kXor) (tAug 0 (tC (.int 1)) kShr))) (tRet (tOp L2.rEq (tVar 1) (tC (.int 0)))))), (pss_cons (ps_set (i := 1) nd rfl (Or.inl rfl) pe_int) (pss_cons (ps_while PassesOwn.never (pt_cmpR op_gt (pv 0) pe_int (nomark _)) (pss_cons (ps_aug (i := 1) nd rfl (Or.inl rfl) (pe_op op_and (pv 0) pe_int) iop_xor) (pss_one (ps_aug (i := 0) nd rfl (Or.inl rfl) pe_int iop_shr)))) (pss_one (ps_ret (pe_cmpR op_eq (pv 1) pe_int (nomark _)))))), ?_⟩
    have w := Wf.id wf
    refine q_sq fun N1 hN1 => ?_
    refine a_asg (v := (.int ((0 : Nat) : Int))) val_c ?_
    refine hN1 _ _ ?_
    refine q_sq fun N2 hN2 => ?_
    refine w_while (S := Nat × Nat) (fun s σ' F' H' => match s with | (many1, number2) => Wf F0 H0 F' H' ∧ Ex F0 F' ∧ σ' = [some (.int ((number2 : Nat) : Int)), some (.int ((many1 : Nat) : Int))]) hW ⟨w, Ex.rfl', rfl⟩ ?_ ?_ ?_
    · intro s1 σ' F1 H1 T1 Qc1 hI1 hW hT1
      obtain ⟨many1, number2⟩ := s1
      obtain ⟨w, gx1, rfl⟩ := hI1
      refine e_ans (b := decide (0 < number2)) (t_of (vb_dec (c_gt (val_var rfl) val_c) n_lt)) ?_
      exact hT1 _ _ _ ⟨w, gx1, rfl⟩ hW
    · intro N3 Bk1 s2 σ' F2 H2 nx1 bk1 hI2 hW hN3 hB1
      obtain ⟨many1, number2⟩ := s2
      obtain ⟨w, gx2, rfl⟩ := hI2
      refine q_sq fun N4 hN4 => ?_
      obtain ⟨many2, emany1⟩ : ∃ many2 : Nat, many2 = many1 ^^^ (number2 &&& 1) := ⟨_, rfl⟩
      replace hW := hW many2 emany1
      refine a_augV (x := (.int ((many1 : Nat) : Int))) (y := (.int ((number2 &&& 1 : Nat) : Int))) (z := (.int ((many2 : Nat) : Int))) rfl (vn_and (val_var rfl) val_c) (v_eq (vn_xor val_c val_c) (by rw [emany1])) ?_
      refine hN4 _ _ ?_
      obtain ⟨number3, enumber1⟩ : ∃ number3 : Nat, number3 = number2 >>> 1 := ⟨_, rfl⟩
      replace hW := hW number3 enumber1
      refine a_augV (x := (.int ((number2 : Nat) : Int))) (y := (.int ((1 : Nat) : Int))) (z := (.int ((number3 : Nat) : Int))) rfl val_c (v_eq (vn_shr val_c val_c) (by rw [enumber1])) ?_
      exact hN3 (many2, number3) _ _ _ ⟨w, gx2, rfl⟩ hW
    · intro s3 σ' F3 H3 hI3 hW
      obtain ⟨many1, number2⟩ := s3
      obtain ⟨w, gx3, rfl⟩ := hI3
      refine hN2 _ _ ?_
      refine a_ret (v := (.bl (decide (many1 = 0)))) (vb_dec (c_eqI (val_var rfl) val_c) n_eq) ?_
      exact hQ _ hW _ _ w
abbrev s_bits_of : Stmt := topS 9
def W_bits_of (mask1 : Nat) (R : (List Nat) → Prop) : Prop := whileW (fun (found1, mask2, place1) T => T (decide (0 < mask2))) (fun (found1, mask2, place1) nx1 bk1 => jn (fun kk => if (mask2 &&& 1) = 1 then ((found1.length < 1000000) ∧ kk (found1 ++ [place1])) else (kk found1)) fun found2 => ∀ mask3 : Nat, mask3 = mask2 >>> 1 → ∀ place2 : Nat, place2 = place1 + 1 → nx1 (found2, mask3, place2)) (([] : List Nat), mask1, 0) fun (found1, mask2, place1) => R found1
def sp_bits_of (K : PySem.W.Frag) (cc : Cz) : Sp := fun vs H Q _ => ∃ (F : Hp) (mask1 : Nat) (R : (List Nat) → Prop), vs = [(.int ((mask1 : Nat) : Int))] ∧ Ex F H ∧ W_bits_of mask1 R ∧ ∀ z, R z → ∀ p F' H', Wf F H F' H' → XL pN H F' H' p z → Q (.ref p) H'
abbrev N_bits_of : List Str := ["mask", "found", "place"]
theorem sc_bits_of : FnScope N_bits_of ["mask"] (defScope s_bits_of) := ⟨rfl, rfl, rfl, by decide +kernel, rfl, by decide +kernel, by decide +kernel⟩
theorem ok_bits_of {P : Program} {w0 : World} {K : PySem.W.Frag} {mg : Str → Option Value} {base : Heap} {f : Addr} {fd : FuncData} {cc : Cz} (T : Tz K mg cc) (FU : Fun K "bits_of" "bits_of" s_bits_of f fd) (hm : mg "bits_of" = some (.ref f)) (hb : Binds K fd ["mask"] []) : Fn P w0 K mg base CX0 1 "bits_of" ["mask"] (sp_bits_of K cc) := by
  refine ⟨f, fd, FU.ok sc_bits_of (fun vs H Q E h => ?_) (fun cdv A outer s H0 vs Q E hr h => ?_), hm, FU.kp, hb⟩
  · obtain ⟨_, _, _, rfl, _⟩ := h; rfl
  · obtain ⟨F0, mask1, R, rfl, wf, hW, hQ⟩ := h
    have nd := sc_bits_of.nd
    refine ⟨(tSeq (tAsg (tLst tNil) (gName 1)) (tSeq (tAsg (tC (.int 0)) (gName 2)) (tSeq (tWhile (tTest (tOp kGt (tVar 0) (tC (.int 0)))) (tSeq (tIfS (tTest (tOp L2.rEq (tOp kAnd (tVar 0) (tC (.int 1))) (tC (.int 1)))) (tDrop (tBM K "list" rAppend (tVar 1) (tCons (tVar 2) tNil))) tNext) (tSeq (tAug 0 (tC (.int 1)) kShr) (tAug 2 (tC (.int 1)) kAdd)))) (tRet (tVar 1))))), (pss_cons (ps_set (i := 1) nd rfl (Or.inl rfl) (pe_lst pa_nil)) (pss_cons (ps_set (i := 2) nd rfl (Or.inl rfl) pe_int) (pss_cons (ps_while PassesOwn.never (pt_cmpR op_gt (pv 0) pe_int (nomark _)) (pss_cons (ps_if (pt_cmpR op_eq (pe_op op_and (pv 0) pe_int) pe_int (nomark _)) (pss_one (ps_expr (pe_bm PySem.F.plainAttrs_list PySem.F.slot_list_append PySem.F.type_list_append mt_append (pv 1) (pa_cons (pv 2) pa_nil)))) pss_nil) (pss_cons (ps_aug (i := 0) nd rfl (Or.inl rfl) pe_int iop_shr) (pss_one (ps_aug (i := 2) nd rfl (Or.inl rfl) pe_int iop_add))))) (pss_one (ps_ret (pv 1)))))), ?_⟩
    have w := Wf.id wf
    refine q_sq fun N1 hN1 => ?_
    refine a_asgE ?_
    refine e_lst ?_
    refine a_nil ?_
    refine n_lstX (e := pN) (xs := []) (vs := []) (show All pN _ [] [] from trivial) (show 0 < 1000000 from by decide) w ?_
    intro p1 H1 hp1 s1 x1
    replace w := w.tr s1
    refine hN1 _ _ ?_
    refine q_sq fun N2 hN2 => ?_
    refine a_asg (v := (.int ((0 : Nat) : Int))) val_c ?_
    refine hN2 _ _ ?_
    refine q_sq fun N3 hN3 => ?_
    refine w_while (S := List Nat × Nat × Nat) (fun s σ' F' H' => match s with | (found1, mask2, place1) => Wf F0 H0 F' H' ∧ Ex F0 F' ∧ σ' = [some (.int ((mask2 : Nat) : Int)), some ((.ref p1)), some (.int ((place1 : Nat) : Int))] ∧ XL pN H0 F' H' p1 found1) hW ⟨w, Ex.rfl', rfl, x1⟩ ?_ ?_ ?_
    · intro s2 σ' F1 H2 T1 Qc1 hI1 hW hT1
      obtain ⟨found1, mask2, place1⟩ := s2
      obtain ⟨w, gx1, rfl, x2⟩ := hI1
      refine e_ans (b := decide (0 < mask2)) (t_of (vb_dec (c_gt (val_var rfl) val_c) n_lt)) ?_
      exact hT1 _ _ _ ⟨w, gx1, rfl, x2⟩ hW
    · intro N4 Bk1 s3 σ' F2 H3 nx1 bk1 hI2 hW hN4 hB1
      obtain ⟨found1, mask2, place1⟩ := s3
      obtain ⟨w, gx2, rfl, x2⟩ := hI2
      refine q_jn (S := List Nat) hW (fun found2 σ' F' H' => Wf F0 H0 F' H' ∧ Ex F2 F' ∧ σ' = [some (.int ((mask2 : Nat) : Int)), some ((.ref p1)), some (.int ((place1 : Nat) : Int))] ∧ XL pN H0 F' H' p1 found2) ?_ ?_
      · intro N5 hN5 hW
        have gx3 : Ex F2 F2 := Ex.rfl'
        refine a_ifE ?_
        refine e_ans (b := decide ((mask2 &&& 1) = 1)) (t_of (vb_dec (c_eqI (vn_and (val_var rfl) val_c) val_c) n_eq)) ?_
        refine b_if (fun hc1 => ?_) (fun hc1 => ?_)
        · have hW := ifP hW hc1
          refine a_dropE ?_
          refine m_list x2 (val_var rfl) ?_
          refine a_val (v := (.int ((place1 : Nat) : Int))) (val_var rfl) ?_
          refine a_nil ?_
          obtain ⟨c1, hW⟩ := hW
          refine a_app x2 w c1 rfl (fun H4 w1 x4 kp1 => ?_)
          replace w := w1
          exact hN5 (found1 ++ [place1]) _ _ _ ⟨w, gx3, rfl, x4⟩ hW
        · have hW := ifN hW hc1
          exact hN5 found1 _ _ _ ⟨w, gx3, rfl, x2⟩ hW
      · intro found2 σ' F3 H5 hI3 hW
        obtain ⟨w, gx4, rfl, x3⟩ := hI3
        have gx2 := Ex.tr gx2 gx4
        refine q_sq fun N6 hN6 => ?_
        obtain ⟨mask3, emask1⟩ : ∃ mask3 : Nat, mask3 = mask2 >>> 1 := ⟨_, rfl⟩
        replace hW := hW mask3 emask1
        refine a_augV (x := (.int ((mask2 : Nat) : Int))) (y := (.int ((1 : Nat) : Int))) (z := (.int ((mask3 : Nat) : Int))) rfl val_c (v_eq (vn_shr val_c val_c) (by rw [emask1])) ?_
        refine hN6 _ _ ?_
        obtain ⟨place2, eplace1⟩ : ∃ place2 : Nat, place2 = place1 + 1 := ⟨_, rfl⟩
        replace hW := hW place2 eplace1
        refine a_augV (x := (.int ((place1 : Nat) : Int))) (y := (.int ((1 : Nat) : Int))) (z := (.int ((place2 : Nat) : Int))) rfl val_c (v_eq (vn_add val_c val_c) (by rw [eplace1])) ?_
        exact hN4 (found2, mask3, place2) _ _ _ ⟨w, gx2, rfl, x3⟩ hW
    · intro s5 σ' F4 H6 hI4 hW
      obtain ⟨found1, mask2, place1⟩ := s5
      obtain ⟨w, gx5, rfl, x2⟩ := hI4
      refine hN3 _ _ ?_
      refine a_ret (v := (.ref p1)) (val_var rfl) ?_
      exact hQ _ hW _ _ _ w x2
abbrev s_Steps_lowered : Stmt := inClass (topS 11) 1
def W_Steps_lowered (kept1 : List (Nat × (Nat × Nat))) (row1 : Nat) (places1 : Nat) (R : (Nat × Nat) → Prop) : Prop := whileW (fun (row2, places2) T => T (decide (hasT kept1 (bits row2) = true))) (fun (row2, places2) nx1 bk1 => ∃ x3, valT kept1 (bits row2) = some x3 ∧ ∀ row3 : Nat, row3 = row2 ^^^ x3.1 → ∀ places3 : Nat, places3 = places2 ^^^ x3.2 → nx1 (row3, places3)) (row1, places1) fun (row2, places2) => R (row2, places2)
def sp_Steps_lowered (K : PySem.W.Frag) (cc : Cz) : Sp := fun vs H Q _ => ∃ (F : Hp) (ob dx d : Addr) (fs : List (Str × V)) (kept1 : List (Nat × (Nat × Nat))) (row1 : Nat) (places1 : Nat) (R : (Nat × Nat) → Prop), vs = [(.ref ob), (.int ((row1 : Nat) : Int)), (.int ((places1 : Nat) : Int))] ∧ Ex F H ∧ H ob = some (.ins cc.Steps dx fs) ∧ fs.lookup ("kept" : Str) = some (V.ref d) ∧ BD (pT2 pN pN) F H d kept1 ∧ W_Steps_lowered kept1 row1 places1 R ∧ ∀ z, R z → ∀ v F' H', Wf F H F' H' → (pT2 pN pN).r F' v z → Q v H'
abbrev N_Steps_lowered : List Str := ["self", "row", "places", "other", "more"]
theorem sc_Steps_lowered : FnScope N_Steps_lowered ["self", "row", "places"] (defScope s_Steps_lowered) := ⟨rfl, rfl, rfl, by decide +kernel, rfl, by decide +kernel, by decide +kernel⟩
theorem ok_Steps_lowered {P : Program} {w0 : World} {K : PySem.W.Frag} {mg : Str → Option Value} {base : Heap} {f : Addr} {fd : FuncData} {cc : Cz} (T : Tz K mg cc) (FU : Fun K "lowered" "Steps.lowered" s_Steps_lowered f fd) (hm : Meth K cc.Steps "lowered" f) (hb : Binds K fd ["self", "row", "places"] []) : Md P w0 K mg base CX0 1 cc.Steps "lowered" ["self", "row", "places"] (sp_Steps_lowered K cc) := by
  refine ⟨f, fd, FU.ok sc_Steps_lowered (fun vs H Q E h => ?_) (fun cdv A outer s H0 vs Q E hr h => ?_), hm, hb⟩
  · obtain ⟨_, _, _, _, _, _, _, _, _, rfl, _⟩ := h; rfl
  · obtain ⟨F0, ob, dx, d, fs, kept1, row1, places1, R, rfl, wf, hob, lk_kept, bd, hW, hQ⟩ := h
    have nd := sc_Steps_lowered.nd
    refine ⟨(tSeq (tWhile (tB (tDIn (tBits (tVar 1)) (tFld K (tVar 0) "kept"))) (tSeq (tAsg (tDGet (tFld K (tVar 0) "kept") (tBits (tVar 1))) (gTup K 2 (gCons (gName 3) (gCons (gName 4) gNil)))) (tSeq (tAug 1 (tVar 3) kXor) (tAug 2 (tVar 4) kXor)))) (tRet (tTup (tCons (tVar 1) (tCons (tVar 2) tNil))))), (pss_cons (ps_while PassesOwn.never (pt_cmp (pc_din (hu_of hr) (pe_bits (pv 1)) (pe_fld (pv 0) rfl))) (pss_cons (ps_asg (pe_dget (hu_of hr) (pe_fld (pv 0) rfl) (pe_bits (pv 1)) (fun _ _ => rfl)) (pg_tup rfl (pgs_cons (pg_name (i := 3) nd rfl (Or.inl rfl)) (pgs_cons (pg_name (i := 4) nd rfl (Or.inl rfl)) pgs_nil)) (by rfl))) (pss_cons (ps_aug (i := 1) nd rfl (Or.inl rfl) (pv 3) iop_xor) (pss_one (ps_aug (i := 2) nd rfl (Or.inl rfl) (pv 4) iop_xor))))) (pss_one (ps_ret (pe_tup (pa_cons (pv 1) (pa_cons (pv 2) pa_nil)))))), ?_⟩
    have bo : BO cc.Steps F0 H0 ob dx fs := ⟨hob⟩
    have w := Wf.id wf
    refine q_sq fun N1 hN1 => ?_
    refine w_while (S := Nat × Nat) (fun s σ' F' H' => match s with | (row2, places2) => ∃ (o1 : Option V) (o2 : Option V), Wf F0 H0 F' H' ∧ Ex F0 F' ∧ σ' = [some (.ref ob), some (.int ((row2 : Nat) : Int)), some (.int ((places2 : Nat) : Int)), o1, o2] ∧ BO cc.Steps F' H' ob dx fs ∧ BD (pT2 pN pN) F' H' d kept1) hW ⟨_, _, w, Ex.rfl', rfl, bo, bd⟩ ?_ ?_ ?_
    · intro s1 σ' F1 H1 T1 Qc1 hI1 hW hT1
      obtain ⟨row2, places2⟩ := s1
      obtain ⟨o1, o2, w, gx1, rfl, x1, x2⟩ := hI1
      refine e_ans (b := decide (hasT kept1 (bits row2) = true)) (t_ofB (vb_of (in_BD (j := bits row2) x2 (vn_bitl (val_var rfl)) (fl_B (na := T.na_Steps_kept) T.cl_Steps x1 lk_kept (val_var rfl))) dec_tt)) ?_
      exact hT1 _ _ _ ⟨_, _, w, gx1, rfl, x1, x2⟩ hW
    · intro N2 Bk1 s2 σ' F2 H2 nx1 bk1 hI2 hW hN2 hB1
      obtain ⟨row2, places2⟩ := s2
      obtain ⟨o1, o2, w, gx2, rfl, x1, x2⟩ := hI2
      refine q_sq fun N3 hN3 => ?_
      refine a_asgG ?_
      obtain ⟨x3, hx1, hW⟩ := hW
      obtain ⟨v1, r1, ix1⟩ := ix_BD x2 hx1
      refine e_val (v := v1) (ix1 (fl_B (na := T.na_Steps_kept) T.cl_Steps x1 lk_kept (val_var rfl)) (vn_bitl (val_var rfl))) ?_
      obtain ⟨p1, u1, u2, rfl, h1, rfl, rfl⟩ := r1
      refine ⟨p1, _, rfl, SqT.of (w.f _ _ h1), rfl, _, _, rfl, _, _, rfl, rfl, ?_⟩
      refine hN3 _ _ ?_
      refine q_sq fun N4 hN4 => ?_
      obtain ⟨row3, erow1⟩ : ∃ row3 : Nat, row3 = row2 ^^^ x3.1 := ⟨_, rfl⟩
      replace hW := hW row3 erow1
      refine a_augV (x := (.int ((row2 : Nat) : Int))) (y := (.int ((x3.1 : Nat) : Int))) (z := (.int ((row3 : Nat) : Int))) rfl (val_var rfl) (v_eq (vn_xor val_c val_c) (by rw [erow1])) ?_
      refine hN4 _ _ ?_
      obtain ⟨places3, eplaces1⟩ : ∃ places3 : Nat, places3 = places2 ^^^ x3.2 := ⟨_, rfl⟩
      replace hW := hW places3 eplaces1
      refine a_augV (x := (.int ((places2 : Nat) : Int))) (y := (.int ((x3.2 : Nat) : Int))) (z := (.int ((places3 : Nat) : Int))) rfl (val_var rfl) (v_eq (vn_xor val_c val_c) (by rw [eplaces1])) ?_
      exact hN2 (row3, places3) _ _ _ ⟨_, _, w, gx2, rfl, x1, x2⟩ hW
    · intro s3 σ' F3 H3 hI3 hW
      obtain ⟨row2, places2⟩ := s3
      obtain ⟨o1, o2, w, gx3, rfl, x1, x2⟩ := hI3
      refine hN1 _ _ ?_
      refine a_retE ?_
      refine e_tup ?_
      refine a_val (v := (.int ((row2 : Nat) : Int))) (val_var rfl) ?_
      refine a_val (v := (.int ((places2 : Nat) : Int))) (val_var rfl) ?_
      refine a_nil ?_
      refine n_tup2 (e := pN) (f := pN) (x := row2) (y := places2) rfl rfl w ?_
      intro p2 F4 H4 s4 r2
      replace x1 := x1.step s4
      replace x2 := x2.step s4
      replace w := w.tr s4
      replace gx3 := Ex.tr gx3 s4.g
      exact hQ _ hW _ _ _ w r2
abbrev s_Steps_crossing : Stmt := inClass (topS 11) 2
def W_Steps_crossing (self1 : List (Nat × (Nat × Nat)) × List Nat × List Nat) (bit1 : Nat) (R : Nat → Prop) : Prop := (bit1 < 100000000) ∧ ∀ mask1 : Nat, mask1 = 2 ^ bit1 → (self1.1.length < 1000000) ∧ ∀ ys1 : List Nat, ys1.Perm (self1.1.map (·.1)) → ys1.Pairwise (· ≤ ·) → forW ys1 mask1 (fun top1 mask2 nx1 bk1 => ∃ x2, valT self1.1 top1 = some x2 ∧ ∃ x3, valT self1.1 top1 = some x3 ∧ ∀ row1 : Nat, row1 = x3.1 → W_even (row1 &&& mask2) fun z1 => if z1 = true then (nx1 mask2) else ((1 ≤ top1) ∧ (top1 - 1 < 100000000) ∧ ∀ mask3 : Nat, mask3 = mask2 ^^^ (2 ^ (top1 - 1)) → nx1 mask3)) fun mask2 => R mask2
def sp_Steps_crossing (K : PySem.W.Frag) (cc : Cz) : Sp := fun vs H Q _ => ∃ (F : Hp) (v1 : V) (self1 : List (Nat × (Nat × Nat)) × List Nat × List Nat) (bit1 : Nat) (R : Nat → Prop), vs = [v1, (.int ((bit1 : Nat) : Int))] ∧ Ex F H ∧ (pO3 cc.Steps "kept" "found" "gone" (pD (κ := Nat) (pT2 pN pN)) (pL pN) (pL pN)).r F v1 self1 ∧ W_Steps_crossing self1 bit1 R ∧ ∀ z, R z → ∀ F' H', Wf F H F' H' → Q (.int ((z : Nat) : Int)) H'
abbrev N_Steps_crossing : List Str := ["self", "bit", "mask", "top", "row"]
theorem sc_Steps_crossing : FnScope N_Steps_crossing ["self", "bit"] (defScope s_Steps_crossing) := ⟨rfl, rfl, rfl, by decide +kernel, rfl, by decide +kernel, by decide +kernel⟩
theorem ok_Steps_crossing {P : Program} {w0 : World} {K : PySem.W.Frag} {mg : Str → Option Value} {base : Heap} {f : Addr} {fd : FuncData} {cc : Cz} (T : Tz K mg cc) (FU : Fun K "crossing" "Steps.crossing" s_Steps_crossing f fd) (hm : Meth K cc.Steps "crossing" f) (hb : Binds K fd ["self", "bit"] []) (c_even : Fn P w0 K mg base CX0 1 "even" ["number"] (sp_even K cc)) (n_sorted : mg "sorted" = none) : Md P w0 K mg base CX0 2 cc.Steps "crossing" ["self", "bit"] (sp_Steps_crossing K cc) := by
  refine ⟨f, fd, FU.ok sc_Steps_crossing (fun vs H Q E h => ?_) (fun cdv A outer s H0 vs Q E hr h => ?_), hm, hb⟩
  · obtain ⟨_, _, _, _, _, rfl, _⟩ := h; rfl
  · obtain ⟨F0, v1, self1, bit1, R, rfl, wf, r1, hW, hQ⟩ := h
    have nd := sc_Steps_crossing.nd
    refine ⟨(tSeq (tAsg (tOp kShl (tC (.int 1)) (tVar 1)) (gName 2)) (tSeq (tFor (iList K (tCB rSortedDX (tCons (tFld K (tVar 0) "kept") tNil))) (gName 3) (tSeq (tAsg (tOp (L2.rIxT K) (tDGet (tFld K (tVar 0) "kept") (tVar 3)) (tC (.int 0))) (gName 4)) (tIfS (tNot (tB (tCall (sp_even K cc) [] E0 (tCons (tOp kAnd (tVar 4) (tVar 2)) tNil)))) (tAug 2 (tOp kShl (tC (.int 1)) (tOp kSub (tVar 3) (tC (.int 1)))) kXor) tNext))) (tRet (tVar 2)))), (pss_cons (ps_set (i := 2) nd rfl (Or.inl rfl) (pe_op op_shlW pe_int (pv 1))) (pss_cons (ps_for PassesOwn.never rfl (pi_list (pe_callB (call_sortedDX rfl) (by rfl) n_sorted PyProof.Rows.boot_sorted (pa_cons (pe_fld (pv 0) rfl) pa_nil))) (pg_name (i := 3) nd rfl (Or.inl rfl)) (pss_cons (ps_set (i := 4) nd rfl (Or.inl rfl) (pe_ix ix_tup (pe_dget (hu_of hr) (pe_fld (pv 0) rfl) (pv 3) (fun _ _ => rfl)) pe_int (fun _ _ => rfl))) (pss_one (ps_if (pt_not (pt_val (pe_fn c_even (hr.mono (by decide)) rfl (pa_cons (pe_op op_and (pv 4) (pv 2)) pa_nil)))) (pss_one (ps_aug (i := 2) nd rfl (Or.inl rfl) (pe_op op_shlW pe_int (pe_op op_sub (pv 3) pe_int)) iop_xor)) pss_nil)))) (pss_one (ps_ret (pv 2))))), ?_⟩
    have w := Wf.id wf
    refine q_sq fun N1 hN1 => ?_
    obtain ⟨c1, hW⟩ := hW
    obtain ⟨mask1, emask1⟩ : ∃ mask1 : Nat, mask1 = 2 ^ bit1 := ⟨_, rfl⟩
    replace hW := hW mask1 emask1
    refine a_asg (v := (.int ((mask1 : Nat) : Int))) (v_eq (vn_one val_c (val_var rfl) c1) (by rw [emask1])) ?_
    refine hN1 _ _ ?_
    refine q_sq fun N2 hN2 => ?_
    refine f_LE ?_
    refine e_cb ?_
    obtain ⟨v2, r2, fl1⟩ := fl_31 (K := K) T.cl_Steps T.na_Steps_kept r1 w.f
    refine a_val (v := v2) (fl1 (val_var rfl)) ?_
    refine a_nil ?_
    obtain ⟨c2, hW⟩ := hW
    refine n_sortDX r2 w c2 ?_
    intro ys1 p1 H1 h1 h2 hp1 s1 x1
    replace hW := hW ys1 h1 h2
    replace r1 := Rep.mono _ s1.g r1
    replace r2 := Rep.mono _ s1.g r2
    replace w := w.tr s1
    obtain ⟨F1, w1, g1, r3, fz1⟩ := x1.frzE w
    replace r1 := Rep.mono _ g1 r1
    replace r2 := Rep.mono _ g1 r2
    replace w := w1
    refine w_forL (S := Nat) (fun mask2 σ' F' H' => ∃ (o1 : Option V) (o2 : Option V), Wf F0 H0 F' H' ∧ Ex F1 F' ∧ σ' = [some v1, some (.int ((bit1 : Nat) : Int)), some (.int ((mask2 : Nat) : Int)), o1, o2]) r3 hW ⟨_, _, w, Ex.rfl', rfl⟩ (fun s σ' F' H' hI => by obtain ⟨_, _, w', gx', _⟩ := hI; exact ⟨gx', w'.f⟩) w.f ?_ ?_
    · intro N3 Bk1 top1 u1 mask2 σ' F2 H2 nx1 bk1 hI1 hx1 ru1 hW hN3 hB1
      obtain ⟨o1, o2, w, gx1, rfl⟩ := hI1
      have r1 := Rep.mono _ gx1 r1
      have r2 := Rep.mono _ gx1 r2
      have r3 := Rep.mono _ gx1 r3
      obtain rfl : u1 = (.int ((top1 : Nat) : Int)) := ru1
      refine g_name ?_
      refine q_sq fun N4 hN4 => ?_
      obtain ⟨v3, r4, fl2⟩ := fl_31 (K := K) T.cl_Steps T.na_Steps_kept r1 w.f
      obtain ⟨x2, hx2, hW⟩ := hW
      obtain ⟨v4, r5, ix1⟩ := ix_D r4 w.f hx2
      obtain ⟨v5, r6, fl3⟩ := fl_31 (K := K) T.cl_Steps T.na_Steps_kept r1 w.f
      obtain ⟨x3, hx3, hW⟩ := hW
      obtain ⟨v6, r7, ix2⟩ := ix_D r6 w.f hx3
      obtain ⟨_, rfl, ix3⟩ := ix_2a (K := K) r7 w.f
      obtain ⟨row1, erow1⟩ : ∃ row1 : Nat, row1 = x3.1 := ⟨_, rfl⟩
      replace hW := hW row1 erow1
      refine a_asg (v := (.int ((row1 : Nat) : Int))) (v_eq (ix3 (ix2 (fl3 (val_var rfl)) (val_var rfl)) val_c) (by rw [erow1])) ?_
      refine hN4 _ _ ?_
      refine a_ifE ?_
      refine e_tNot ?_
      refine e_tB ?_
      refine e_call ?_
      refine a_val (v := (.int ((row1 &&& mask2 : Nat) : Int))) (vn_and (val_var rfl) (val_var rfl)) ?_
      refine a_nil ?_
      refine ⟨F2, (row1 &&& mask2), _, rfl, w.f, hW, ?_⟩
      intro z1 hW F3 H3 s3
      replace r1 := Rep.mono _ s3.g r1
      replace w := w.tr s3
      replace gx1 := Ex.tr gx1 s3.g
      refine bl_v ?_
      refine bb_ifn (fun hc1 => ?_) (fun hc1 => ?_)
      · have hW := ifP hW hc1
        exact hN3 mask2 _ _ _ ⟨_, _, w, gx1, rfl⟩ hW
      · have hW := ifN hW hc1
        obtain ⟨c3, hW⟩ := hW
        obtain ⟨c4, hW⟩ := hW
        obtain ⟨mask3, emask2⟩ : ∃ mask3 : Nat, mask3 = mask2 ^^^ (2 ^ (top1 - 1)) := ⟨_, rfl⟩
        replace hW := hW mask3 emask2
        refine a_augV (x := (.int ((mask2 : Nat) : Int))) (y := (.int ((2 ^ (top1 - 1) : Nat) : Int))) (z := (.int ((mask3 : Nat) : Int))) rfl (vn_one val_c (vn_sub (val_var rfl) val_c c3) c4) (v_eq (vn_xor val_c val_c) (by rw [emask2])) ?_
        exact hN3 mask3 _ _ _ ⟨_, _, w, gx1, rfl⟩ hW
    · intro mask2 σ' F4 H4 hI2 hW
      obtain ⟨o1, o2, w, gx2, rfl⟩ := hI2
      have r1 := Rep.mono _ gx2 r1
      have r2 := Rep.mono _ gx2 r2
      have r3 := Rep.mono _ gx2 r3
      refine hN2 _ _ ?_
      refine a_ret (v := (.int ((mask2 : Nat) : Int))) (val_var rfl) ?_
      exact hQ _ hW _ _ w
abbrev s_Steps___init__ : Stmt := inClass (topS 11) 0
def W_Steps___init__ (rows1 : List Nat) (R : (List (Nat × (Nat × Nat)) × List Nat × List Nat) → Prop) : Prop := forW (enumT rows1) (([] : List Nat), ([] : List (Nat × (Nat × Nat))), ([] : List Nat)) (fun it1 (self_gone1, self_kept1, self_found1) nx1 bk1 => (it1.1 < 100000000) ∧ W_Steps_lowered self_kept1 it1.2 (2 ^ it1.1) fun z1 => if z1.1 = 0 then ((self_gone1.length < 1000000) ∧ nx1 (self_gone1 ++ [z1.2], self_kept1, self_found1)) else ((self_kept1.length < 1000000) ∧ (self_found1.length < 1000000) ∧ nx1 (self_gone1, putT self_kept1 (bits z1.1) (z1.1, z1.2), self_found1 ++ [it1.1]))) fun (self_gone1, self_kept1, self_found1) => R (self_kept1, self_found1, self_gone1)
def sp_Steps___init__ (K : PySem.W.Frag) (cc : Cz) : Sp := fun vs H Q _ => ∃ (F : Hp) (ob dx : Addr) (v1 : V) (rows1 : List Nat) (R : (List (Nat × (Nat × Nat)) × List Nat × List Nat) → Prop), vs = [(.ref ob), v1] ∧ H ob = some (.ins cc.Steps dx []) ∧ F ob = none ∧ Ex F H ∧ (pL pN).r F v1 rows1 ∧ W_Steps___init__ rows1 R ∧ ∀ z, R z → ∀ F' H', Wf F (wo H ob) F' H' → (pO3 cc.Steps "kept" "found" "gone" (pD (κ := Nat) (pT2 pN pN)) (pL pN) (pL pN)).r F' (.ref ob) z → Q .non H'
abbrev N_Steps___init__ : List Str := ["self", "rows", "place", "row", "left", "places"]
theorem sc_Steps___init__ : FnScope N_Steps___init__ ["self", "rows"] (defScope s_Steps___init__) := ⟨rfl, rfl, rfl, by decide +kernel, rfl, by decide +kernel, by decide +kernel⟩
theorem ok_Steps___init__ {P : Program} {w0 : World} {K : PySem.W.Frag} {mg : Str → Option Value} {base : Heap} {f : Addr} {fd : FuncData} {cc : Cz} (T : Tz K mg cc) (FU : Fun K "__init__" "Steps.__init__" s_Steps___init__ f fd) (hm : Mk K cc.Steps f) (hg : mg "Steps" = some (.ref cc.Steps)) (hb : Binds K fd ["self", "rows"] []) (c_Steps_lowered : Md P w0 K mg base CX0 1 cc.Steps "lowered" ["self", "row", "places"] (sp_Steps_lowered K cc)) (n_enumerate : mg "enumerate" = none) : Nw P w0 K mg base CX0 2 cc.Steps "Steps" ["self", "rows"] (sp_Steps___init__ K cc) := by
  refine ⟨f, fd, FU.ok sc_Steps___init__ (fun vs H Q E h => ?_) (fun cdv A outer s H0 vs Q E hr h => ?_), hm, hg, hb⟩
  · obtain ⟨_, _, _, _, _, _, rfl, _⟩ := h; rfl
  · obtain ⟨F0, ob, dx, v1, rows1, R, rfl, hob, nob, wf, r1, hW, hQ⟩ := h
    have nd := sc_Steps___init__.nd
    refine ⟨(tSeq (sFld K (tVar 0) tDNewK "kept") (tSeq (sFld K (tVar 0) (tLst tNil) "found") (tSeq (sFld K (tVar 0) (tLst tNil) "gone") (tFor (iEnum K (tCons (tVar 1) tNil)) (gTup K 2 (gCons (gName 2) (gCons (gName 3) gNil))) (tSeq (tAsg (tMeth cc.Steps "lowered" (sp_Steps_lowered K cc) [] E0 (tVar 0) (tCons (tVar 3) (tCons (tOp kShl (tC (.int 1)) (tVar 2)) tNil))) (gTup K 2 (gCons (gName 4) (gCons (gName 5) gNil)))) (tIfS (tTest (tOp L2.rEq (tVar 4) (tC (.int 0)))) (tDrop (tBM K "list" rAppend (tFld K (tVar 0) "gone") (tCons (tVar 5) tNil))) (tSeq (sDPut (tFld K (tVar 0) "kept") (tBits (tVar 4)) (tTup (tCons (tVar 4) (tCons (tVar 5) tNil)))) (tDrop (tBM K "list" rAppend (tFld K (tVar 0) "found") (tCons (tVar 2) tNil)))))))))), (pss_cons (ps_fld (pv 0) pe_dnewK rfl) (pss_cons (ps_fld (pv 0) (pe_lst pa_nil) rfl) (pss_cons (ps_fld (pv 0) (pe_lst pa_nil) rfl) (pss_one (ps_for PassesOwn.never rfl (pi_enum (by rfl) n_enumerate (pa_cons (pv 1) pa_nil)) (pg_tup rfl (pgs_cons (pg_name (i := 2) nd rfl (Or.inl rfl)) (pgs_cons (pg_name (i := 3) nd rfl (Or.inl rfl)) pgs_nil)) (by rfl)) (pss_cons (ps_asg (pe_md c_Steps_lowered T.cl_Steps (hr.mono (by decide)) (pv 0) (pa_cons (pv 3) (pa_cons (pe_op op_shlW pe_int (pv 2)) pa_nil))) (pg_tup rfl (pgs_cons (pg_name (i := 4) nd rfl (Or.inl rfl)) (pgs_cons (pg_name (i := 5) nd rfl (Or.inl rfl)) pgs_nil)) (by rfl))) (pss_one (ps_if (pt_cmpR op_eq (pv 4) pe_int (nomark _)) (pss_one (ps_expr (pe_bm PySem.F.plainAttrs_list PySem.F.slot_list_append PySem.F.type_list_append mt_append (pe_fld (pv 0) rfl) (pa_cons (pv 5) pa_nil)))) (pss_cons (ps_dput (hu_of hr) (pe_fld (pv 0) rfl) (pe_bits (pv 4)) (pe_tup (pa_cons (pv 4) (pa_cons (pv 5) pa_nil))) rfl) (pss_one (ps_expr (pe_bm PySem.F.plainAttrs_list PySem.F.slot_list_append PySem.F.type_list_append mt_append (pe_fld (pv 0) rfl) (pa_cons (pv 2) pa_nil))))))))))))), ?_⟩
    have xs := Xc.start nob hob
    have w := Wf.start wf nob
    generalize hH0 : wo H0 ob = Hb at xs w hQ
    refine q_sq fun N1 hN1 => ?_
    refine e_fld ?_
    refine n_dict (κ := Nat) (e := (pT2 pN pN)) w ?_
    intro p1 H1 hp1 s1 x1
    have ne1 := xs.ne hp1
    replace r1 := Rep.mono _ s1.g r1
    replace xs := xs.step s1
    replace w := w.tr s1
    refine a_fld T.cl_Steps T.na_Steps_kept xs w (show 0 < 1000 from by decide) (val_var rfl) (fun H2 w1 x2 kp1 => ?_)
    replace x1 := x1.kept kp1 (Ne.symm ne1)
    replace w := w1
    replace x2 : Xc Hb F0 H2 ob (.ins cc.Steps dx [("kept", (.ref p1))]) := Xc.cast x2 rfl
    refine hN1 _ _ ?_
    refine q_sq fun N2 hN2 => ?_
    refine e_fld ?_
    refine e_lst ?_
    refine a_nil ?_
    refine n_lstX (e := pN) (xs := []) (vs := []) (show All pN _ [] [] from trivial) (show 0 < 1000000 from by decide) w ?_
    intro p2 H3 hp2 s2 x3
    have ne2 := x2.ne hp2
    have ne3 := x1.ne hp2
    replace r1 := Rep.mono _ s2.g r1
    replace x2 := x2.step s2
    replace x1 := x1.step s2
    replace w := w.tr s2
    refine a_fld T.cl_Steps T.na_Steps_found x2 w (show 1 < 1000 from by decide) (val_var rfl) (fun H4 w2 x4 kp2 => ?_)
    replace x1 := x1.kept kp2 (Ne.symm ne1)
    replace x3 := x3.kept kp2 (Ne.symm ne2)
    replace w := w2
    replace x4 : Xc Hb F0 H4 ob (.ins cc.Steps dx [("kept", (.ref p1)), ("found", (.ref p2))]) := Xc.cast x4 ((put_ne (by decide +kernel)).trans (congrArg _ rfl))
    refine hN2 _ _ ?_
    refine q_sq fun N3 hN3 => ?_
    refine e_fld ?_
    refine e_lst ?_
    refine a_nil ?_
    refine n_lstX (e := pN) (xs := []) (vs := []) (show All pN _ [] [] from trivial) (show 0 < 1000000 from by decide) w ?_
    intro p3 H5 hp3 s3 x5
    have ne4 := x4.ne hp3
    have ne5 := x1.ne hp3
    have ne6 := x3.ne hp3
    replace r1 := Rep.mono _ s3.g r1
    replace x4 := x4.step s3
    replace x1 := x1.step s3
    replace x3 := x3.step s3
    replace w := w.tr s3
    refine a_fld T.cl_Steps T.na_Steps_gone x4 w (show 2 < 1000 from by decide) (val_var rfl) (fun H6 w3 x6 kp3 => ?_)
    replace x1 := x1.kept kp3 (Ne.symm ne1)
    replace x3 := x3.kept kp3 (Ne.symm ne2)
    replace x5 := x5.kept kp3 (Ne.symm ne4)
    replace w := w3
    replace x6 : Xc Hb F0 H6 ob (.ins cc.Steps dx [("kept", (.ref p1)), ("found", (.ref p2)), ("gone", (.ref p3))]) := Xc.cast x6 ((put_ne (by decide +kernel)).trans (congrArg _ ((put_ne (by decide +kernel)).trans (congrArg _ rfl))))
    refine hN3 _ _ ?_
    refine f_J ?_
    refine a_val (v := v1) (val_var rfl) ?_
    refine a_nil ?_
    refine src_enum r1 w.f (fun a1 T1 => ?_)
    refine w_forG (S := List Nat × (List (Nat × (Nat × Nat))) × List Nat) T1 (fun s σ' F' H' => match s with | (self_gone1, self_kept1, self_found1) => ∃ (o1 : Option V) (o2 : Option V) (o3 : Option V) (o4 : Option V), Wf F0 Hb F' H' ∧ Ex F0 F' ∧ σ' = [some (.ref ob), some v1, o1, o2, o3, o4] ∧ XL pN Hb F' H' p3 self_gone1 ∧ XD (pT2 pN pN) Hb F' H' p1 self_kept1 ∧ XL pN Hb F' H' p2 self_found1 ∧ Xc Hb F' H' ob (.ins cc.Steps dx [("kept", (.ref p1)), ("found", (.ref p2)), ("gone", (.ref p3))])) hW ⟨_, _, _, _, w, Ex.rfl', rfl, x5, x1, x3, x6⟩ (fun s σ' F' H' hI => by obtain ⟨self_gone1, self_kept1, self_found1⟩ := s; obtain ⟨_, _, _, _, w', gx', _⟩ := hI; exact ⟨gx', w'.f⟩) w.f ?_ ?_
    · intro N4 Bk1 it1 u1 s4 σ' F1 H7 F2 H8 nx1 bk1 hI1 hx1 s5 ru1 hW hN4 hB1
      obtain ⟨self_gone1, self_kept1, self_found1⟩ := s4
      obtain ⟨o1, o2, o3, o4, w, gx1, rfl, x7, x8, x9, x10⟩ := hI1
      have r1 := Rep.mono _ gx1 r1
      replace r1 := Rep.mono _ s5.g r1
      replace x10 := x10.step s5
      replace x8 := x8.step s5
      replace x9 := x9.step s5
      replace x7 := x7.step s5
      replace w := w.tr s5
      replace gx1 := Ex.tr gx1 s5.g
      obtain ⟨p4, u2, u3, rfl, h1, rfl, rfl⟩ := ru1
      refine ⟨p4, _, rfl, SqT.of (w.f _ _ h1), rfl, _, _, rfl, _, _, rfl, rfl, ?_⟩
      refine q_sq fun N5 hN5 => ?_
      refine a_asgG ?_
      refine e_md ?_
      refine e_val (v := (.ref ob)) (val_var rfl) ?_
      refine ⟨_, _, _, rfl, x10.h, ((lk_ne (by decide +kernel)).trans ((lk_ne (by decide +kernel)).trans ((lk_ne (by decide +kernel)).trans rfl))), ?_⟩
      refine a_val (v := (.int ((it1.2 : Nat) : Int))) (val_var rfl) ?_
      obtain ⟨c1, hW⟩ := hW
      refine a_val (v := (.int ((2 ^ it1.1 : Nat) : Int))) (vn_one val_c (val_var rfl) c1) ?_
      refine a_nil ?_
      refine ⟨F2, ob, dx, p1, _, (self_kept1), (it1.2), (2 ^ it1.1), _, rfl, w.f, x10.h, lk_eq, x8.bw, hW, ?_⟩
      intro z1 hW v2 F3 H9 s6 r2
      replace r1 := Rep.mono _ s6.g r1
      replace x10 := x10.step s6
      replace x8 := x8.step s6
      replace x9 := x9.step s6
      replace x7 := x7.step s6
      replace w := w.tr s6
      replace gx1 := Ex.tr gx1 s6.g
      obtain ⟨p5, u4, u5, rfl, h2, rfl, rfl⟩ := r2
      refine ⟨p5, _, rfl, SqT.of (w.f _ _ h2), rfl, _, _, rfl, _, _, rfl, rfl, ?_⟩
      refine hN5 _ _ ?_
      refine a_ifE ?_
      refine e_ans (b := decide (z1.1 = 0)) (t_of (vb_dec (c_eqI (val_var rfl) val_c) n_eq)) ?_
      refine b_if (fun hc1 => ?_) (fun hc1 => ?_)
      · have hW := ifP hW hc1
        refine a_dropE ?_
        refine m_list x7 (fl_X T.cl_Steps T.na_Steps_gone x10 ((lk_ne (by decide +kernel)).trans ((lk_ne (by decide +kernel)).trans lk_eq)) (val_var rfl)) ?_
        refine a_val (v := (.int ((z1.2 : Nat) : Int))) (val_var rfl) ?_
        refine a_nil ?_
        obtain ⟨c2, hW⟩ := hW
        refine a_app x7 w c2 rfl (fun H10 w4 x11 kp4 => ?_)
        replace x10 := x10.kept kp4 ne4
        replace x8 := x8.kept kp4 ne5
        replace x9 := x9.kept kp4 ne6
        replace w := w4
        exact hN4 (self_gone1 ++ [z1.2], self_kept1, self_found1) _ _ _ ⟨_, _, _, _, w, gx1, rfl, x11, x8, x9, x10⟩ hW
      · have hW := ifN hW hc1
        refine q_sq fun N6 hN6 => ?_
        refine e_dput ?_
        refine e_tup ?_
        refine a_val (v := (.int ((z1.1 : Nat) : Int))) (val_var rfl) ?_
        refine a_val (v := (.int ((z1.2 : Nat) : Int))) (val_var rfl) ?_
        refine a_nil ?_
        refine n_tup2 (e := pN) (f := pN) (x := z1.1) (y := z1.2) rfl rfl w ?_
        intro p6 F4 H11 s7 r3
        replace r1 := Rep.mono _ s7.g r1
        replace x10 := x10.step s7
        replace x8 := x8.step s7
        replace x9 := x9.step s7
        replace x7 := x7.step s7
        replace w := w.tr s7
        replace gx1 := Ex.tr gx1 s7.g
        obtain ⟨c3, hW⟩ := hW
        refine d_put (j := bits z1.1) x8 w c3 r3 (fl_X T.cl_Steps T.na_Steps_kept x10 lk_eq (val_var rfl)) (vn_bitl (val_var rfl)) (fun H12 w5 x12 kp5 => ?_)
        replace x10 := x10.kept kp5 ne1
        replace x9 := x9.kept kp5 (Ne.symm ne3)
        replace x7 := x7.kept kp5 (Ne.symm ne5)
        replace w := w5
        refine hN6 _ _ ?_
        refine a_dropE ?_
        refine m_list x9 (fl_X T.cl_Steps T.na_Steps_found x10 ((lk_ne (by decide +kernel)).trans lk_eq) (val_var rfl)) ?_
        refine a_val (v := (.int ((it1.1 : Nat) : Int))) (val_var rfl) ?_
        refine a_nil ?_
        obtain ⟨c4, hW⟩ := hW
        refine a_app x9 w c4 rfl (fun H13 w6 x13 kp6 => ?_)
        replace x10 := x10.kept kp6 ne2
        replace x12 := x12.kept kp6 ne3
        replace x7 := x7.kept kp6 (Ne.symm ne6)
        replace w := w6
        exact hN4 (self_gone1, putT self_kept1 (bits z1.1) (z1.1, z1.2), self_found1 ++ [it1.1]) _ _ _ ⟨_, _, _, _, w, gx1, rfl, x7, x12, x13, x10⟩ hW
    · intro s8 σ' F5 H14 hI2 hW
      obtain ⟨self_gone1, self_kept1, self_found1⟩ := s8
      obtain ⟨o1, o2, o3, o4, w, gx2, rfl, x7, x8, x9, x10⟩ := hI2
      have r1 := Rep.mono _ gx2 r1
      obtain ⟨F6, w7, g1, r4, fz1⟩ := x8.frzE w
      replace r1 := Rep.mono _ g1 r1
      replace x10 := x10.frzO fz1 ne1 g1
      replace x9 := x9.frzO fz1 (Ne.symm ne3) g1
      replace x7 := x7.frzO fz1 (Ne.symm ne5) g1
      replace w := w7
      replace gx2 := Ex.tr gx2 g1
      obtain ⟨F7, w8, g2, r5, fz2⟩ := x9.frzE w
      replace r1 := Rep.mono _ g2 r1
      replace x10 := x10.frzO fz2 ne2 g2
      replace r4 := Rep.mono _ g2 r4
      replace x7 := x7.frzO fz2 (Ne.symm ne6) g2
      replace w := w8
      replace gx2 := Ex.tr gx2 g2
      obtain ⟨F8, w9, g3, r6, fz3⟩ := x7.frzE w
      replace r1 := Rep.mono _ g3 r1
      replace x10 := x10.frzO fz3 ne4 g3
      replace r4 := Rep.mono _ g3 r4
      replace r5 := Rep.mono _ g3 r5
      replace w := w9
      replace gx2 := Ex.tr gx2 g3
      obtain ⟨F9, w10, g4, h3⟩ := x10.frzE w
      exact hQ _ hW _ _ w10 ⟨ob, dx, _, rfl, h3, _, _, _, rfl, (Rep.mono _ g4 r4), (Rep.mono _ g4 r5), (Rep.mono _ g4 r6)⟩
abbrev s_sum_for : Stmt := topS 12
def W_sum_for (rows1 : List Nat) (wish1 : Nat) (R : (Str × (Sum (List Nat) (Nat))) → Prop) : Prop := W_Steps___init__ rows1 fun z1 => W_Steps_lowered z1.1 wish1 0 fun z2 => if z2.1 = 0 then (W_bits_of z2.2 fun z3 => R ((PySem.Str.ofString "sum"), (Sum.inl z3))) else ((1 ≤ bits z2.1) ∧ W_Steps_crossing z1 ((bits z2.1) - 1) fun z4 => R ((PySem.Str.ofString "no"), (Sum.inr z4)))
def sp_sum_for (K : PySem.W.Frag) (cc : Cz) : Sp := fun vs H Q _ => ∃ (F : Hp) (v1 : V) (rows1 : List Nat) (wish1 : Nat) (R : (Str × (Sum (List Nat) (Nat))) → Prop), vs = [v1, (.int ((wish1 : Nat) : Int))] ∧ Ex F H ∧ (pL pN).r F v1 rows1 ∧ W_sum_for rows1 wish1 R ∧ ∀ z, R z → ∀ v F' H', Wf F H F' H' → Fre H (pT2 pS (pAlt (pL pN) pN)) F' v z → Q v H'
abbrev N_sum_for : List Str := ["rows", "wish", "steps", "left", "places"]
theorem sc_sum_for : FnScope N_sum_for ["rows", "wish"] (defScope s_sum_for) := ⟨rfl, rfl, rfl, by decide +kernel, rfl, by decide +kernel, by decide +kernel⟩
theorem ok_sum_for {P : Program} {w0 : World} {K : PySem.W.Frag} {mg : Str → Option Value} {base : Heap} {f : Addr} {fd : FuncData} {cc : Cz} (T : Tz K mg cc) (FU : Fun K "sum_for" "sum_for" s_sum_for f fd) (hm : mg "sum_for" = some (.ref f)) (hb : Binds K fd ["rows", "wish"] []) (c_Steps___init__ : Nw P w0 K mg base CX0 2 cc.Steps "Steps" ["self", "rows"] (sp_Steps___init__ K cc)) (c_Steps_lowered : Md P w0 K mg base CX0 1 cc.Steps "lowered" ["self", "row", "places"] (sp_Steps_lowered K cc)) (c_bits_of : Fn P w0 K mg base CX0 1 "bits_of" ["mask"] (sp_bits_of K cc)) (c_Steps_crossing : Md P w0 K mg base CX0 2 cc.Steps "crossing" ["self", "bit"] (sp_Steps_crossing K cc)) : Fn P w0 K mg base CX0 4 "sum_for" ["rows", "wish"] (sp_sum_for K cc) := by
  refine ⟨f, fd, FU.ok sc_sum_for (fun vs H Q E h => ?_) (fun cdv A outer s H0 vs Q E hr h => ?_), hm, FU.kp, hb⟩
  · obtain ⟨_, _, _, _, _, rfl, _⟩ := h; rfl
  · obtain ⟨F0, v1, rows1, wish1, R, rfl, wf, r1, hW, hQ⟩ := h
    have nd := sc_sum_for.nd
    refine ⟨(tSeq (tAsg (tMake cc.Steps (sp_Steps___init__ K cc) [] E0 (tCons (tVar 0) tNil)) (gName 2)) (tSeq (tAsg (tMeth cc.Steps "lowered" (sp_Steps_lowered K cc) [] E0 (tVar 2) (tCons (tVar 1) (tCons (tC (.int 0)) tNil))) (gTup K 2 (gCons (gName 3) (gCons (gName 4) gNil)))) (tSeq (tIfS (tTest (tOp L2.rEq (tVar 3) (tC (.int 0)))) (tRet (tTup (tCons (tC (.str (PySem.Str.ofString "sum"))) (tCons (tCall (sp_bits_of K cc) [] E0 (tCons (tVar 4) tNil)) tNil)))) tNext) (tRet (tTup (tCons (tC (.str (PySem.Str.ofString "no"))) (tCons (tMeth cc.Steps "crossing" (sp_Steps_crossing K cc) [] E0 (tVar 2) (tCons (tOp kSub (tBits (tVar 3)) (tC (.int 1))) tNil)) tNil))))))), (pss_cons (ps_set (i := 2) nd rfl (Or.inl rfl) (pe_nw c_Steps___init__ (hr.mono (by decide)) rfl (pa_cons (pv 0) pa_nil))) (pss_cons (ps_asg (pe_md c_Steps_lowered T.cl_Steps (hr.mono (by decide)) (pv 2) (pa_cons (pv 1) (pa_cons pe_int pa_nil))) (pg_tup rfl (pgs_cons (pg_name (i := 3) nd rfl (Or.inl rfl)) (pgs_cons (pg_name (i := 4) nd rfl (Or.inl rfl)) pgs_nil)) (by rfl))) (pss_cons (ps_if (pt_cmpR op_eq (pv 3) pe_int (nomark _)) (pss_one (ps_ret (pe_tup (pa_cons pe_str (pa_cons (pe_fn c_bits_of (hr.mono (by decide)) rfl (pa_cons (pv 4) pa_nil)) pa_nil))))) pss_nil) (pss_one (ps_ret (pe_tup (pa_cons pe_str (pa_cons (pe_md c_Steps_crossing T.cl_Steps (hr.mono (by decide)) (pv 2) (pa_cons (pe_op op_sub (pe_bits (pv 3)) pe_int) pa_nil)) pa_nil)))))))), ?_⟩
    have w := Wf.id wf
    refine q_sq fun N1 hN1 => ?_
    refine a_asgE ?_
    refine e_nw ?_
    refine a_val (v := v1) (val_var rfl) ?_
    refine a_nil ?_
    intro ob1 dx1 nx1 nd1 ne1
    refine ⟨F0, ob1, dx1, (v1), (rows1), _, rfl, upd_same, (w.f.non nx1), (Ex.made w.f nx1 nd1), r1, hW, ?_⟩
    intro z1 hW F1 H1 s1 r2
    refine ⟨rfl, ?_⟩
    replace s1 := Wf.made nx1 nd1 s1
    replace r1 := Rep.mono _ s1.g r1
    replace w := w.tr s1
    refine hN1 _ _ ?_
    refine q_sq fun N2 hN2 => ?_
    refine a_asgG ?_
    refine e_md ?_
    refine e_val (v := (.ref ob1)) (val_var rfl) ?_
    obtain ⟨p1, dx2, fs1, d1, ev1, ho1, lk1, bd1, lm1⟩ := st_bw (m := "lowered") r2 w.f
    refine ⟨_, _, _, ev1, ho1, lm1, ?_⟩
    refine a_val (v := (.int ((wish1 : Nat) : Int))) (val_var rfl) ?_
    refine a_val (v := (.int ((0 : Nat) : Int))) val_c ?_
    refine a_nil ?_
    refine ⟨F1, p1, dx2, d1, fs1, z1.1, (wish1), (0), _, (by rw [ev1]), w.f, ho1, lk1, bd1, hW, ?_⟩
    intro z2 hW v2 F2 H2 s2 r3
    replace r1 := Rep.mono _ s2.g r1
    replace r2 := Rep.mono _ s2.g r2
    replace w := w.tr s2
    obtain ⟨p2, u1, u2, rfl, h1, rfl, rfl⟩ := r3
    refine ⟨p2, _, rfl, SqT.of (w.f _ _ h1), rfl, _, _, rfl, _, _, rfl, rfl, ?_⟩
    refine hN2 _ _ ?_
    refine q_sq fun N3 hN3 => ?_
    refine a_ifE ?_
    refine e_ans (b := decide (z2.1 = 0)) (t_of (vb_dec (c_eqI (val_var rfl) val_c) n_eq)) ?_
    refine b_if (fun hc1 => ?_) (fun hc1 => ?_)
    · have hW := ifP hW hc1
      refine a_retE ?_
      refine e_tup ?_
      refine a_val (v := (.str ((PySem.Str.ofString "sum")))) val_c ?_
      refine a_cons ?_
      refine e_call ?_
      refine a_val (v := (.int ((z2.2 : Nat) : Int))) (val_var rfl) ?_
      refine a_nil ?_
      refine ⟨F2, (z2.2), _, rfl, w.f, hW, ?_⟩
      intro z3 hW p3 F3 H3 s3 x1
      replace x1 := x1.base w
      replace r1 := Rep.mono _ s3.g r1
      replace r2 := Rep.mono _ s3.g r2
      replace w := w.tr s3
      refine a_nil ?_
      obtain ⟨F4, w1, g1, r4, fz1⟩ := XL.frzN x1 w
      replace r1 := Rep.mono _ g1 r1
      replace r2 := Rep.mono _ g1 r2
      replace w := w1
      refine n_fre2 (e := pS) (f := (pAlt (pL pN) pN)) (x := (PySem.Str.ofString "sum")) (y := (Sum.inl z3)) w (show Fre H0 pS _ _ (PySem.Str.ofString "sum") from rfl) (show Fre H0 (pAlt (pL pN) pN) _ _ (Sum.inl z3) from r4) ?_
      intro p4 F5 H4 s4 r5
      replace r1 := Rep.mono _ s4.g r1
      replace r2 := Rep.mono _ s4.g r2
      replace w := w.tr s4
      exact hQ _ hW _ _ _ w r5
    · have hW := ifN hW hc1
      refine hN3 _ _ ?_
      refine a_retE ?_
      refine e_tup ?_
      refine a_val (v := (.str ((PySem.Str.ofString "no")))) val_c ?_
      refine a_cons ?_
      refine e_md ?_
      refine e_val (v := (.ref ob1)) (val_var rfl) ?_
      obtain ⟨p5, dx3, fs2, ev2, ho2, lm2⟩ := me_3 (m := "crossing") r2 w.f
      refine ⟨_, _, _, ev2, ho2, lm2, ?_⟩
      obtain ⟨c1, hW⟩ := hW
      refine a_val (v := (.int (((bits z2.1) - 1 : Nat) : Int))) (vn_sub (vn_bitl (val_var rfl)) val_c c1) ?_
      refine a_nil ?_
      refine ⟨F2, ((.ref ob1)), (z1), ((bits z2.1) - 1), _, rfl, w.f, r2, hW, ?_⟩
      intro z4 hW F6 H5 s5
      replace r1 := Rep.mono _ s5.g r1
      replace r2 := Rep.mono _ s5.g r2
      replace w := w.tr s5
      refine a_nil ?_
      refine n_fre2 (e := pS) (f := (pAlt (pL pN) pN)) (x := (PySem.Str.ofString "no")) (y := (Sum.inr z4)) w (show Fre H0 pS _ _ (PySem.Str.ofString "no") from rfl) (show Fre H0 (pAlt (pL pN) pN) _ _ (Sum.inr z4) from rfl) ?_
      intro p6 F7 H6 s6 r6
      replace r1 := Rep.mono _ s6.g r1
      replace r2 := Rep.mono _ s6.g r2
      replace w := w.tr s6
      exact hQ _ hW _ _ _ w r6
abbrev s_is_pairs : Stmt := topS 22
def W_is_pairs (thing1 : List (Nat × Nat)) (most1 : Nat) (stores1 : Nat) (inputs1 : Nat) (R : Bool → Prop) : Prop := if most1 < thing1.length then (R false) else (forW thing1 () (fun pair1 _ nx1 bk1 => if 2 ≠ 2 then (R false) else (jn (fun kk => W_is_mask (An.i ((pair1.1 : Nat) : Int)) stores1 fun z1 => if z1 = true then (W_is_mask (An.i ((pair1.2 : Nat) : Int)) inputs1 fun z2 => kk (!z2)) else (kk true)) fun b1 => if b1 = true then (R false) else (nx1 ()))) fun _ => R true)
def sp_is_pairs (K : PySem.W.Frag) (cc : Cz) : Sp := fun vs H Q _ => ∃ (F : Hp) (v1 : V) (thing1 : List (Nat × Nat)) (most1 : Nat) (stores1 : Nat) (inputs1 : Nat) (R : Bool → Prop), vs = [v1, (.int ((most1 : Nat) : Int)), (.int ((stores1 : Nat) : Int)), (.int ((inputs1 : Nat) : Int))] ∧ Ex F H ∧ (pL (pT2 pN pN)).r F v1 thing1 ∧ W_is_pairs thing1 most1 stores1 inputs1 R ∧ ∀ z, R z → ∀ F' H', Wf F H F' H' → Q (.bl (z)) H'
abbrev N_is_pairs : List Str := ["thing", "most", "stores", "inputs", "pair"]
theorem sc_is_pairs : FnScope N_is_pairs ["thing", "most", "stores", "inputs"] (defScope s_is_pairs) := ⟨rfl, rfl, rfl, by decide +kernel, rfl, by decide +kernel, by decide +kernel⟩
theorem ok_is_pairs {P : Program} {w0 : World} {K : PySem.W.Frag} {mg : Str → Option Value} {base : Heap} {f : Addr} {fd : FuncData} {cc : Cz} (T : Tz K mg cc) (FU : Fun K "is_pairs" "is_pairs" s_is_pairs f fd) (hm : mg "is_pairs" = some (.ref f)) (hb : Binds K fd ["thing", "most", "stores", "inputs"] []) (c_is_mask : Fn P w0 K mg base CX0 2 "is_mask" ["thing", "width"] (sp_is_mask K cc)) (n_isinstance : mg "isinstance" = none) (n_len : mg "len" = none) (n_list : mg "list" = none) (n_tuple : mg "tuple" = none) : Fn P w0 K mg base CX0 3 "is_pairs" ["thing", "most", "stores", "inputs"] (sp_is_pairs K cc) := by
  refine ⟨f, fd, FU.ok sc_is_pairs (fun vs H Q E h => ?_) (fun cdv A outer s H0 vs Q E hr h => ?_), hm, FU.kp, hb⟩
  · obtain ⟨_, _, _, _, _, _, _, rfl, _⟩ := h; rfl
  · obtain ⟨F0, v1, thing1, most1, stores1, inputs1, R, rfl, wf, r1, hW, hQ⟩ := h
    have nd := sc_is_pairs.nd
    refine ⟨(tSeq (tIfS (tOr (tNot (tB (tCB (rIsi K) (tCons (tVar 0) (tCons (tC (.ty "list")) tNil))))) (tTest (tOp kGt (tCB (Wk.rLen K) (tCons (tVar 0) tNil)) (tVar 1)))) (tRet (tC (.bl false))) tNext) (tSeq (tFor (iList K (tVar 0)) (gName 4) (tSeq (tIfS (tOr (tNot (tB (tCB (rIsi K) (tCons (tVar 4) (tCons (tC (.ty "tuple")) tNil))))) (tTest (tOp L2.rNe (tCB (Wk.rLen K) (tCons (tVar 4) tNil)) (tC (.int 2))))) (tRet (tC (.bl false))) tNext) (tIfS (tOr (tNot (tB (tCall (sp_is_mask K cc) [] E0 (tCons (tOp (L2.rIxT K) (tVar 4) (tC (.int 0))) (tCons (tVar 2) tNil))))) (tNot (tB (tCall (sp_is_mask K cc) [] E0 (tCons (tOp (L2.rIxT K) (tVar 4) (tC (.int 1))) (tCons (tVar 3) tNil)))))) (tRet (tC (.bl false))) tNext))) (tRet (tC (.bl true))))), (pss_cons (ps_if (PW.pt (pw_or (pt_not (pt_val (pe_callB call_isi (by rfl) n_isinstance PyProof.Rows.boot_isinstance (pa_cons (pv 0) (pa_cons (pe_bltn (v := .ty "list") (by rfl) n_list PyProof.Rows.boot_list rfl) pa_nil))))) (pw_or1 (pt_cmpR op_gt (pe_callB call_len_seq (by rfl) n_len PySem.boot_len (pa_cons (pv 0) pa_nil)) (pv 1) (nomark _))))) (pss_one (ps_ret pe_bl)) pss_nil) (pss_cons (ps_for PassesOwn.never rfl (pi_list (pv 0)) (pg_name (i := 4) nd rfl (Or.inl rfl)) (pss_cons (ps_if (PW.pt (pw_or (pt_not (pt_val (pe_callB call_isi (by rfl) n_isinstance PyProof.Rows.boot_isinstance (pa_cons (pv 4) (pa_cons (pe_bltn (v := .ty "tuple") (by rfl) n_tuple PyProof.Rows.boot_tuple rfl) pa_nil))))) (pw_or1 (pt_cmpR op_ne (pe_callB call_len_seq (by rfl) n_len PySem.boot_len (pa_cons (pv 4) pa_nil)) pe_int (nomark _))))) (pss_one (ps_ret pe_bl)) pss_nil) (pss_one (ps_if (PW.pt (pw_or (pt_not (pt_val (pe_fn c_is_mask (hr.mono (by decide)) rfl (pa_cons (pe_ix ix_tup (pv 4) pe_int (fun _ _ => rfl)) (pa_cons (pv 2) pa_nil))))) (pw_or1 (pt_not (pt_val (pe_fn c_is_mask (hr.mono (by decide)) rfl (pa_cons (pe_ix ix_tup (pv 4) pe_int (fun _ _ => rfl)) (pa_cons (pv 3) pa_nil)))))))) (pss_one (ps_ret pe_bl)) pss_nil)))) (pss_one (ps_ret pe_bl)))), ?_⟩
    have w := Wf.id wf
    refine q_sq fun N1 hN1 => ?_
    refine a_ifE ?_
    refine e_ans (b := decide (most1 < thing1.length)) (t_iff (p := (¬ (True)) ∨ (most1 < thing1.length)) (q := most1 < thing1.length) (t_or (t_not (t_ofB (vb_of (v_isi (b := true) (val_var rfl) (ty_L r1 w.f) (by decide +kernel)) dec_T))) (fun _ => (t_of (vb_dec (c_gt (len_L r1 w.f (val_var rfl)) (val_var rfl)) n_lt)))) (by simp)) ?_
    refine b_if (fun hc1 => ?_) (fun hc1 => ?_)
    · have hW := ifP hW hc1
      refine a_ret (v := (.bl (false))) val_c ?_
      exact hQ _ hW _ _ w
    · have hW := ifN hW hc1
      refine hN1 _ _ ?_
      refine q_sq fun N2 hN2 => ?_
      refine f_LE ?_
      refine e_val (v := v1) (val_var rfl) ?_
      refine w_forL (S := Unit) (fun _ σ' F' H' => ∃ (o1 : Option V), Wf F0 H0 F' H' ∧ Ex F0 F' ∧ σ' = [some v1, some (.int ((most1 : Nat) : Int)), some (.int ((stores1 : Nat) : Int)), some (.int ((inputs1 : Nat) : Int)), o1]) r1 hW ⟨_, w, Ex.rfl', rfl⟩ (fun s σ' F' H' hI => by obtain ⟨_, w', gx', _⟩ := hI; exact ⟨gx', w'.f⟩) w.f ?_ ?_
      · intro N3 Bk1 pair1 u1 s1 σ' F1 H1 nx1 bk1 hI1 hx1 ru1 hW hN3 hB1
        obtain ⟨o1, w, gx1, rfl⟩ := hI1
        have r1 := Rep.mono _ gx1 r1
        refine g_name ?_
        refine q_sq fun N4 hN4 => ?_
        refine a_ifE ?_
        refine e_ans (b := decide (2 ≠ 2)) (t_iff (p := (¬ (True)) ∨ (2 ≠ 2)) (q := 2 ≠ 2) (t_or (t_not (t_ofB (vb_of (v_isi (b := true) (val_var rfl) (ty_T2 ru1 w.f) (by decide +kernel)) dec_T))) (fun _ => (t_of (vb_dec (c_neI (len_T2 ru1 w.f (val_var rfl)) val_c) n_ne)))) (by simp)) ?_
        refine b_if (fun hc2 => ?_) (fun hc2 => ?_)
        · have hW := ifP hW hc2
          refine a_ret (v := (.bl (false))) val_c ?_
          exact hQ _ hW _ _ w
        · have hW := ifN hW hc2
          refine hN4 _ _ ?_
          refine a_ifE ?_
          refine e_jnT hW (fun b F' H' => b = b ∧ Wf F0 H0 F' H' ∧ Ex F1 F') ?_ ?_
          · intro N5 hN5 hW
            have gx2 : Ex F1 F1 := Ex.rfl'
            refine e_tOr ?_
            refine e_tNot ?_
            refine e_tB ?_
            refine e_call ?_
            obtain ⟨_, rfl, ix1⟩ := ix_2a (K := K) ru1 w.f
            refine a_val (v := (.int ((pair1.1 : Nat) : Int))) (ix1 (val_var rfl) val_c) ?_
            refine a_val (v := (.int ((stores1 : Nat) : Int))) (val_var rfl) ?_
            refine a_nil ?_
            refine ⟨F1, ((.int ((pair1.1 : Nat) : Int))), ((An.i ((pair1.1 : Nat) : Int))), (stores1), _, rfl, w.f, (show pA.r _ (.int ((pair1.1 : Nat) : Int)) (An.i ((pair1.1 : Nat) : Int)) from rfl), hW, ?_⟩
            intro z1 hW F2 H2 s2
            replace r1 := Rep.mono _ s2.g r1
            replace ru1 := Rep.mono _ s2.g ru1
            replace w := w.tr s2
            replace gx2 := Ex.tr gx2 s2.g
            replace gx1 := Ex.tr gx1 s2.g
            refine bl_v ?_
            refine bb_ifn (fun hc3 => ?_) (fun hc3 => ?_)
            · have hW := ifP hW hc3
              refine e_tNot ?_
              refine e_tB ?_
              refine e_call ?_
              obtain ⟨_, rfl, ix2⟩ := ix_2b (K := K) ru1 w.f
              refine a_val (v := (.int ((pair1.2 : Nat) : Int))) (ix2 (val_var rfl) val_c) ?_
              refine a_val (v := (.int ((inputs1 : Nat) : Int))) (val_var rfl) ?_
              refine a_nil ?_
              refine ⟨F2, ((.int ((pair1.2 : Nat) : Int))), ((An.i ((pair1.2 : Nat) : Int))), (inputs1), _, rfl, w.f, (show pA.r _ (.int ((pair1.2 : Nat) : Int)) (An.i ((pair1.2 : Nat) : Int)) from rfl), hW, ?_⟩
              intro z2 hW F3 H3 s3
              replace r1 := Rep.mono _ s3.g r1
              replace ru1 := Rep.mono _ s3.g ru1
              replace w := w.tr s3
              replace gx2 := Ex.tr gx2 s3.g
              replace gx1 := Ex.tr gx1 s3.g
              refine bl_v ?_
              exact hN5 (!z2) _ _ ⟨rfl, w, gx2⟩ hW
            · have hW := ifN hW hc3
              exact hN5 true _ _ ⟨rfl, w, gx2⟩ hW
          intro b1 F4 H4 hI2 hW
          obtain ⟨_, w, gx3⟩ := hI2
          have r1 := Rep.mono _ gx3 r1
          have ru1 := Rep.mono _ gx3 ru1
          have gx1 := Ex.tr gx1 gx3
          refine bb_if (fun hc4 => ?_) (fun hc4 => ?_)
          · have hW := ifP hW hc4
            refine a_ret (v := (.bl (false))) val_c ?_
            exact hQ _ hW _ _ w
          · have hW := ifN hW hc4
            exact hN3 () _ _ _ ⟨_, w, gx1, rfl⟩ hW
      · intro s4 σ' F5 H5 hI3 hW
        obtain ⟨o1, w, gx4, rfl⟩ := hI3
        have r1 := Rep.mono _ gx4 r1
        refine hN2 _ _ ?_
        refine a_ret (v := (.bl (true))) val_c ?_
        exact hQ _ hW _ _ w
abbrev s_bit_of : Stmt := topS 23
def W_bit_of (pair1 : Nat × Nat) (state1 : Nat) (row1 : Nat) (R : Nat → Prop) : Prop := W_even (pair1.1 &&& state1) fun z1 => W_even (pair1.2 &&& row1) fun z2 => R (Bool.toNat (decide (z1 ≠ z2)))
def sp_bit_of (K : PySem.W.Frag) (cc : Cz) : Sp := fun vs H Q _ => ∃ (F : Hp) (v1 : V) (pair1 : Nat × Nat) (state1 : Nat) (row1 : Nat) (R : Nat → Prop), vs = [v1, (.int ((state1 : Nat) : Int)), (.int ((row1 : Nat) : Int))] ∧ Ex F H ∧ (pT2 pN pN).r F v1 pair1 ∧ W_bit_of pair1 state1 row1 R ∧ ∀ z, R z → ∀ F' H', Wf F H F' H' → Q (.int ((z : Nat) : Int)) H'
abbrev N_bit_of : List Str := ["pair", "state", "row"]
theorem sc_bit_of : FnScope N_bit_of ["pair", "state", "row"] (defScope s_bit_of) := ⟨rfl, rfl, rfl, by decide +kernel, rfl, by decide +kernel, by decide +kernel⟩
theorem ok_bit_of {P : Program} {w0 : World} {K : PySem.W.Frag} {mg : Str → Option Value} {base : Heap} {f : Addr} {fd : FuncData} {cc : Cz} (T : Tz K mg cc) (FU : Fun K "bit_of" "bit_of" s_bit_of f fd) (hm : mg "bit_of" = some (.ref f)) (hb : Binds K fd ["pair", "state", "row"] []) (c_even : Fn P w0 K mg base CX0 1 "even" ["number"] (sp_even K cc)) (n_int : mg "int" = none) : Fn P w0 K mg base CX0 2 "bit_of" ["pair", "state", "row"] (sp_bit_of K cc) := by
  refine ⟨f, fd, FU.ok sc_bit_of (fun vs H Q E h => ?_) (fun cdv A outer s H0 vs Q E hr h => ?_), hm, FU.kp, hb⟩
  · obtain ⟨_, _, _, _, _, _, rfl, _⟩ := h; rfl
  · obtain ⟨F0, v1, pair1, state1, row1, R, rfl, wf, r1, hW, hQ⟩ := h
    have nd := sc_bit_of.nd
    refine ⟨(tRet (tCB rInt1 (tCons (tOp L2.rNe (tCall (sp_even K cc) [] E0 (tCons (tOp kAnd (tOp (L2.rIxT K) (tVar 0) (tC (.int 0))) (tVar 1)) tNil)) (tCall (sp_even K cc) [] E0 (tCons (tOp kAnd (tOp (L2.rIxT K) (tVar 0) (tC (.int 1))) (tVar 2)) tNil))) tNil))), (pss_one (ps_ret (pe_callTy call_int1 (by rfl) n_int PyProof.Rows.boot_int (pa_cons (pe_cmpR op_ne (pe_fn c_even (hr.mono (by decide)) rfl (pa_cons (pe_op op_and (pe_ix ix_tup (pv 0) pe_int (fun _ _ => rfl)) (pv 1)) pa_nil)) (pe_fn c_even (hr.mono (by decide)) rfl (pa_cons (pe_op op_and (pe_ix ix_tup (pv 0) pe_int (fun _ _ => rfl)) (pv 2)) pa_nil)) (nomark _)) pa_nil)))), ?_⟩
    have w := Wf.id wf
    refine a_retE ?_
    refine e_cb ?_
    refine a_cons ?_
    refine e_op ?_
    refine e_call ?_
    obtain ⟨_, rfl, ix1⟩ := ix_2a (K := K) r1 w.f
    refine a_val (v := (.int ((pair1.1 &&& state1 : Nat) : Int))) (vn_and (ix1 (val_var rfl) val_c) (val_var rfl)) ?_
    refine a_nil ?_
    refine ⟨F0, (pair1.1 &&& state1), _, rfl, w.f, hW, ?_⟩
    intro z1 hW F1 H1 s1
    replace r1 := Rep.mono _ s1.g r1
    replace w := w.tr s1
    refine e_call ?_
    obtain ⟨_, rfl, ix2⟩ := ix_2b (K := K) r1 w.f
    refine a_val (v := (.int ((pair1.2 &&& row1 : Nat) : Int))) (vn_and (ix2 (val_var rfl) val_c) (val_var rfl)) ?_
    refine a_nil ?_
    refine ⟨F1, (pair1.2 &&& row1), _, rfl, w.f, hW, ?_⟩
    intro z2 hW F2 H2 s2
    replace r1 := Rep.mono _ s2.g r1
    replace w := w.tr s2
    refine rv2 (z := .bl (decide (z1 ≠ z2))) (c_neB val_c val_c) ?_
    refine a_nil ?_
    refine rcb1 (z := (.int ((Bool.toNat (decide (z1 ≠ z2)) : Nat) : Int))) (v_intB val_c) ?_
    exact hQ _ hW _ _ w
abbrev s_bits_by : Stmt := topS 24
def W_bits_by (pairs1 : List (Nat × Nat)) (state1 : Nat) (row1 : Nat) (R : Nat → Prop) : Prop := forW (enumT pairs1) 0 (fun it1 found1 nx1 bk1 => W_bit_of it1.2 state1 row1 fun z1 => (NShl z1 it1.1) ∧ ∀ found2 : Nat, found2 = found1 + (z1 <<< it1.1) → nx1 found2) fun found1 => R found1
def sp_bits_by (K : PySem.W.Frag) (cc : Cz) : Sp := fun vs H Q _ => ∃ (F : Hp) (v1 : V) (pairs1 : List (Nat × Nat)) (state1 : Nat) (row1 : Nat) (R : Nat → Prop), vs = [v1, (.int ((state1 : Nat) : Int)), (.int ((row1 : Nat) : Int))] ∧ Ex F H ∧ (pTL (pT2 pN pN)).r F v1 pairs1 ∧ W_bits_by pairs1 state1 row1 R ∧ ∀ z, R z → ∀ F' H', Wf F H F' H' → Q (.int ((z : Nat) : Int)) H'
abbrev N_bits_by : List Str := ["pairs", "state", "row", "found", "place", "pair"]
theorem sc_bits_by : FnScope N_bits_by ["pairs", "state", "row"] (defScope s_bits_by) := ⟨rfl, rfl, rfl, by decide +kernel, rfl, by decide +kernel, by decide +kernel⟩
theorem ok_bits_by {P : Program} {w0 : World} {K : PySem.W.Frag} {mg : Str → Option Value} {base : Heap} {f : Addr} {fd : FuncData} {cc : Cz} (T : Tz K mg cc) (FU : Fun K "bits_by" "bits_by" s_bits_by f fd) (hm : mg "bits_by" = some (.ref f)) (hb : Binds K fd ["pairs", "state", "row"] []) (c_bit_of : Fn P w0 K mg base CX0 2 "bit_of" ["pair", "state", "row"] (sp_bit_of K cc)) (n_enumerate : mg "enumerate" = none) : Fn P w0 K mg base CX0 3 "bits_by" ["pairs", "state", "row"] (sp_bits_by K cc) := by
  refine ⟨f, fd, FU.ok sc_bits_by (fun vs H Q E h => ?_) (fun cdv A outer s H0 vs Q E hr h => ?_), hm, FU.kp, hb⟩
  · obtain ⟨_, _, _, _, _, _, rfl, _⟩ := h; rfl
  · obtain ⟨F0, v1, pairs1, state1, row1, R, rfl, wf, r1, hW, hQ⟩ := h
    have nd := sc_bits_by.nd
    refine ⟨(tSeq (tAsg (tC (.int 0)) (gName 3)) (tSeq (tFor (iEnumT K (tCons (tVar 0) tNil)) (gTup K 2 (gCons (gName 4) (gCons (gName 5) gNil))) (tAug 3 (tOp kShl (tCall (sp_bit_of K cc) [] E0 (tCons (tVar 5) (tCons (tVar 1) (tCons (tVar 2) tNil)))) (tVar 4)) kAdd)) (tRet (tVar 3)))), (pss_cons (ps_set (i := 3) nd rfl (Or.inl rfl) pe_int) (pss_cons (ps_for PassesOwn.never rfl (pi_enumT (by rfl) n_enumerate (pa_cons (pv 0) pa_nil)) (pg_tup rfl (pgs_cons (pg_name (i := 4) nd rfl (Or.inl rfl)) (pgs_cons (pg_name (i := 5) nd rfl (Or.inl rfl)) pgs_nil)) (by rfl)) (pss_one (ps_aug (i := 3) nd rfl (Or.inl rfl) (pe_op op_shlW (pe_fn c_bit_of (hr.mono (by decide)) rfl (pa_cons (pv 5) (pa_cons (pv 1) (pa_cons (pv 2) pa_nil)))) (pv 4)) iop_add))) (pss_one (ps_ret (pv 3))))), ?_⟩
    have w := Wf.id wf
    refine q_sq fun N1 hN1 => ?_
    refine a_asg (v := (.int ((0 : Nat) : Int))) val_c ?_
    refine hN1 _ _ ?_
    refine q_sq fun N2 hN2 => ?_
    refine f_J ?_
    refine a_val (v := v1) (val_var rfl) ?_
    refine a_nil ?_
    refine src_enumT r1 w.f (fun a1 T1 => ?_)
    refine w_forG (S := Nat) T1 (fun found1 σ' F' H' => ∃ (o1 : Option V) (o2 : Option V), Wf F0 H0 F' H' ∧ Ex F0 F' ∧ σ' = [some v1, some (.int ((state1 : Nat) : Int)), some (.int ((row1 : Nat) : Int)), some (.int ((found1 : Nat) : Int)), o1, o2]) hW ⟨_, _, w, Ex.rfl', rfl⟩ (fun s σ' F' H' hI => by obtain ⟨_, _, w', gx', _⟩ := hI; exact ⟨gx', w'.f⟩) w.f ?_ ?_
    · intro N3 Bk1 it1 u1 found1 σ' F1 H1 F2 H2 nx1 bk1 hI1 hx1 s2 ru1 hW hN3 hB1
      obtain ⟨o1, o2, w, gx1, rfl⟩ := hI1
      have r1 := Rep.mono _ gx1 r1
      replace r1 := Rep.mono _ s2.g r1
      replace w := w.tr s2
      replace gx1 := Ex.tr gx1 s2.g
      obtain ⟨p1, u2, u3, rfl, h1, rfl, r2⟩ := ru1
      refine ⟨p1, _, rfl, SqT.of (w.f _ _ h1), rfl, _, _, rfl, _, _, rfl, rfl, ?_⟩
      refine a_augE (x := (.int ((found1 : Nat) : Int))) rfl ?_
      refine e_op ?_
      refine e_call ?_
      refine a_val (v := u3) (val_var rfl) ?_
      refine a_val (v := (.int ((state1 : Nat) : Int))) (val_var rfl) ?_
      refine a_val (v := (.int ((row1 : Nat) : Int))) (val_var rfl) ?_
      refine a_nil ?_
      refine ⟨F2, (u3), (it1.2), (state1), (row1), _, rfl, w.f, r2, hW, ?_⟩
      intro z1 hW F3 H3 s3
      replace r1 := Rep.mono _ s3.g r1
      replace r2 := Rep.mono _ s3.g r2
      replace w := w.tr s3
      replace gx1 := Ex.tr gx1 s3.g
      refine e_val (v := (.int ((it1.1 : Nat) : Int))) (val_var rfl) ?_
      obtain ⟨c1, hW⟩ := hW
      refine rv2 (z := (.int ((z1 <<< it1.1 : Nat) : Int))) (vn_shl val_c val_c c1) ?_
      obtain ⟨found2, efound1⟩ : ∃ found2 : Nat, found2 = found1 + (z1 <<< it1.1) := ⟨_, rfl⟩
      replace hW := hW found2 efound1
      refine rv2 (z := (.int ((found2 : Nat) : Int))) (v_eq (vn_add val_c val_c) (by rw [efound1])) ?_
      exact hN3 found2 _ _ _ ⟨_, _, w, gx1, rfl⟩ hW
    · intro found1 σ' F4 H4 hI2 hW
      obtain ⟨o1, o2, w, gx2, rfl⟩ := hI2
      have r1 := Rep.mono _ gx2 r1
      refine hN2 _ _ ?_
      refine a_ret (v := (.int ((found1 : Nat) : Int))) (val_var rfl) ?_
      exact hQ _ hW _ _ w
abbrev s_Machine___init__ : Stmt := inClass (topS 25) 0
def W_Machine___init__ (inputs1 : Nat) (nexts1 : List (Nat × Nat)) (outs1 : List (Nat × Nat)) (R : (Nat × List (Nat × Nat) × List (Nat × Nat)) → Prop) : Prop := jn (fun kk => W_is_whole (An.i ((inputs1 : Nat) : Int)) fun z1 => if z1 = true then (kk (decide (¬ (0 ≤ inputs1 ∧ inputs1 ≤ 6)))) else (kk true)) fun b1 => if b1 = true then (False) else (jn (fun kk => W_is_pairs nexts1 120 nexts1.length inputs1 fun z2 => if z2 = true then (W_is_pairs outs1 6 nexts1.length inputs1 fun z3 => kk (!z3)) else (kk true)) fun b2 => if b2 = true then (False) else (R (inputs1, nexts1, outs1)))
def sp_Machine___init__ (K : PySem.W.Frag) (cc : Cz) : Sp := fun vs H Q _ => ∃ (F : Hp) (ob dx : Addr) (inputs1 : Nat) (v1 : V) (nexts1 : List (Nat × Nat)) (v2 : V) (outs1 : List (Nat × Nat)) (R : (Nat × List (Nat × Nat) × List (Nat × Nat)) → Prop), vs = [(.ref ob), (.int ((inputs1 : Nat) : Int)), v1, v2] ∧ H ob = some (.ins cc.Machine dx []) ∧ F ob = none ∧ Ex F H ∧ (pL (pT2 pN pN)).r F v1 nexts1 ∧ (pL (pT2 pN pN)).r F v2 outs1 ∧ W_Machine___init__ inputs1 nexts1 outs1 R ∧ ∀ z, R z → ∀ F' H', Wf F (wo H ob) F' H' → (pO3 cc.Machine "inputs" "nexts" "outs" pN (pTL (pT2 pN pN)) (pTL (pT2 pN pN))).r F' (.ref ob) z → Q .non H'
abbrev N_Machine___init__ : List Str := ["self", "inputs", "nexts", "outs"]
theorem sc_Machine___init__ : FnScope N_Machine___init__ ["self", "inputs", "nexts", "outs"] (defScope s_Machine___init__) := ⟨rfl, rfl, rfl, by decide +kernel, rfl, by decide +kernel, by decide +kernel⟩
theorem ok_Machine___init__ {P : Program} {w0 : World} {K : PySem.W.Frag} {mg : Str → Option Value} {base : Heap} {f : Addr} {fd : FuncData} {cc : Cz} (T : Tz K mg cc) (FU : Fun K "__init__" "Machine.__init__" s_Machine___init__ f fd) (hm : Mk K cc.Machine f) (hg : mg "Machine" = some (.ref cc.Machine)) (hb : Binds K fd ["self", "inputs", "nexts", "outs"] []) (c_is_whole : Fn P w0 K mg base CX0 1 "is_whole" ["thing"] (sp_is_whole K cc)) (c_is_pairs : Fn P w0 K mg base CX0 3 "is_pairs" ["thing", "most", "stores", "inputs"] (sp_is_pairs K cc)) (n_isinstance : mg "isinstance" = none) (n_len : mg "len" = none) (n_list : mg "list" = none) (n_tuple : mg "tuple" = none) : Nw P w0 K mg base CX0 4 cc.Machine "Machine" ["self", "inputs", "nexts", "outs"] (sp_Machine___init__ K cc) := by
  refine ⟨f, fd, FU.ok sc_Machine___init__ (fun vs H Q E h => ?_) (fun cdv A outer s H0 vs Q E hr h => ?_), hm, hg, hb⟩
  · obtain ⟨_, _, _, _, _, _, _, _, _, rfl, _⟩ := h; rfl
  · obtain ⟨F0, ob, dx, inputs1, v1, nexts1, v2, outs1, R, rfl, hob, nob, wf, r1, r2, hW, hQ⟩ := h
    have nd := sc_Machine___init__.nd
    refine ⟨(tSeq (tIfS (tOr (tNot (tB (tCall (sp_is_whole K cc) [] E0 (tCons (tVar 1) tNil)))) (tOr (tNot (tTest (tChain kLe kLe (tC (.int 0)) (tVar 1) (tC (.int 6))))) (tNot (tB (tCB (rIsi K) (tCons (tVar 2) (tCons (tC (.ty "list")) tNil))))))) tNever tNext) (tSeq (tIfS (tOr (tNot (tB (tCall (sp_is_pairs K cc) [] E0 (tCons (tVar 2) (tCons (tC (.int 120)) (tCons (tCB (Wk.rLen K) (tCons (tVar 2) tNil)) (tCons (tVar 1) tNil))))))) (tNot (tB (tCall (sp_is_pairs K cc) [] E0 (tCons (tVar 3) (tCons (tC (.int 6)) (tCons (tCB (Wk.rLen K) (tCons (tVar 2) tNil)) (tCons (tVar 1) tNil)))))))) tNever tNext) (tSeq (sFld K (tVar 0) (tVar 1) "inputs") (tSeq (sFld K (tVar 0) (tCB (rTupOf K) (tCons (tVar 2) tNil)) "nexts") (sFld K (tVar 0) (tCB (rTupOf K) (tCons (tVar 3) tNil)) "outs"))))), (pss_cons (ps_if (PW.pt (pw_or (pt_not (pt_val (pe_fn c_is_whole (hr.mono (by decide)) rfl (pa_cons (pv 1) pa_nil)))) (pw_or (pt_not (pt_chain op_le op_le pe_int (pv 1) (pe_globE T.gl_MOST_INPUTS rfl))) (pw_or1 (pt_not (pt_val (pe_callB call_isi (by rfl) n_isinstance PyProof.Rows.boot_isinstance (pa_cons (pv 2) (pa_cons (pe_bltn (v := .ty "list") (by rfl) n_list PyProof.Rows.boot_list rfl) pa_nil))))))))) (pss_one ps_never) pss_nil) (pss_cons (ps_if (PW.pt (pw_or (pt_not (pt_val (pe_fn c_is_pairs (hr.mono (by decide)) rfl (pa_cons (pv 2) (pa_cons (pe_globE T.gl_MOST_STORES rfl) (pa_cons (pe_callB call_len_seq (by rfl) n_len PySem.boot_len (pa_cons (pv 2) pa_nil)) (pa_cons (pv 1) pa_nil))))))) (pw_or1 (pt_not (pt_val (pe_fn c_is_pairs (hr.mono (by decide)) rfl (pa_cons (pv 3) (pa_cons (pe_globE T.gl_MOST_OUTS rfl) (pa_cons (pe_callB call_len_seq (by rfl) n_len PySem.boot_len (pa_cons (pv 2) pa_nil)) (pa_cons (pv 1) pa_nil)))))))))) (pss_one ps_never) pss_nil) (pss_cons (ps_fld (pv 0) (pv 1) rfl) (pss_cons (ps_fld (pv 0) (pe_callTy call_tuple_of (by rfl) n_tuple PyProof.Rows.boot_tuple (pa_cons (pv 2) pa_nil)) rfl) (pss_one (ps_fld (pv 0) (pe_callTy call_tuple_of (by rfl) n_tuple PyProof.Rows.boot_tuple (pa_cons (pv 3) pa_nil)) rfl)))))), ?_⟩
    have xs := Xc.start nob hob
    have w := Wf.start wf nob
    generalize hH0 : wo H0 ob = Hb at xs w hQ
    refine q_sq fun N1 hN1 => ?_
    refine a_ifE ?_
    refine e_jnT hW (fun b F' H' => b = b ∧ Wf F0 Hb F' H' ∧ Ex F0 F' ∧ Xc Hb F' H' ob (.ins cc.Machine dx [])) ?_ ?_
    · intro N2 hN2 hW
      have gx1 : Ex F0 F0 := Ex.rfl'
      refine e_tOr ?_
      refine e_tNot ?_
      refine e_tB ?_
      refine e_call ?_
      refine a_val (v := (.int ((inputs1 : Nat) : Int))) (val_var rfl) ?_
      refine a_nil ?_
      refine ⟨F0, ((.int ((inputs1 : Nat) : Int))), ((An.i ((inputs1 : Nat) : Int))), _, rfl, w.f, (show pA.r _ (.int ((inputs1 : Nat) : Int)) (An.i ((inputs1 : Nat) : Int)) from rfl), hW, ?_⟩
      intro z1 hW F1 H1 s1
      replace r1 := Rep.mono _ s1.g r1
      replace r2 := Rep.mono _ s1.g r2
      replace xs := xs.step s1
      replace w := w.tr s1
      replace gx1 := Ex.tr gx1 s1.g
      refine bl_v ?_
      refine bb_ifn (fun hc1 => ?_) (fun hc1 => ?_)
      · have hW := ifP hW hc1
        refine e_ans (b := decide (¬ (0 ≤ inputs1 ∧ inputs1 ≤ 6))) (t_iff (p := (¬ (0 ≤ inputs1 ∧ inputs1 ≤ 6)) ∨ (¬ (True))) (q := ¬ (0 ≤ inputs1 ∧ inputs1 ≤ 6)) (t_or (t_not (t_of (vb_of (v_chain (b1 := decide (0 ≤ inputs1)) (b2 := decide (inputs1 ≤ 6)) (x := (.int ((0 : Nat) : Int))) (y := (.int ((inputs1 : Nat) : Int))) (z := (.int ((6 : Nat) : Int))) val_c (val_var rfl) val_c (fun Q k => rv2 (vb_dec (c_le val_c val_c) n_le) k) (fun Q k => rv2 (vb_dec (c_le val_c val_c) n_le) k)) dec_and))) (fun _ => (t_not (t_ofB (vb_of (v_isi (b := true) (val_var rfl) (ty_L r1 w.f) (by decide +kernel)) dec_T))))) (by simp)) ?_
        exact hN2 (decide (¬ (0 ≤ inputs1 ∧ inputs1 ≤ 6))) _ _ ⟨rfl, w, gx1, xs⟩ hW
      · have hW := ifN hW hc1
        exact hN2 true _ _ ⟨rfl, w, gx1, xs⟩ hW
    intro b1 F2 H2 hI1 hW
    obtain ⟨_, w, gx2, x1⟩ := hI1
    have r1 := Rep.mono _ gx2 r1
    have r2 := Rep.mono _ gx2 r2
    refine bb_if (fun hc2 => ?_) (fun hc2 => ?_)
    · have hW := ifP hW hc2
      exact hW
    · have hW := ifN hW hc2
      refine hN1 _ _ ?_
      refine q_sq fun N3 hN3 => ?_
      refine a_ifE ?_
      refine e_jnT hW (fun b F' H' => b = b ∧ Wf F0 Hb F' H' ∧ Ex F2 F' ∧ Xc Hb F' H' ob (.ins cc.Machine dx [])) ?_ ?_
      · intro N4 hN4 hW
        have gx3 : Ex F2 F2 := Ex.rfl'
        refine e_tOr ?_
        refine e_tNot ?_
        refine e_tB ?_
        refine e_call ?_
        refine a_val (v := v1) (val_var rfl) ?_
        refine a_val (v := (.int ((120 : Nat) : Int))) val_c ?_
        refine a_val (v := (.int ((nexts1.length : Nat) : Int))) (len_L r1 w.f (val_var rfl)) ?_
        refine a_val (v := (.int ((inputs1 : Nat) : Int))) (val_var rfl) ?_
        refine a_nil ?_
        refine ⟨F2, (v1), (nexts1), (120), (nexts1.length), (inputs1), _, rfl, w.f, r1, hW, ?_⟩
        intro z2 hW F3 H3 s2
        replace r1 := Rep.mono _ s2.g r1
        replace r2 := Rep.mono _ s2.g r2
        replace x1 := x1.step s2
        replace w := w.tr s2
        replace gx3 := Ex.tr gx3 s2.g
        refine bl_v ?_
        refine bb_ifn (fun hc3 => ?_) (fun hc3 => ?_)
        · have hW := ifP hW hc3
          refine e_tNot ?_
          refine e_tB ?_
          refine e_call ?_
          refine a_val (v := v2) (val_var rfl) ?_
          refine a_val (v := (.int ((6 : Nat) : Int))) val_c ?_
          refine a_val (v := (.int ((nexts1.length : Nat) : Int))) (len_L r1 w.f (val_var rfl)) ?_
          refine a_val (v := (.int ((inputs1 : Nat) : Int))) (val_var rfl) ?_
          refine a_nil ?_
          refine ⟨F3, (v2), (outs1), (6), (nexts1.length), (inputs1), _, rfl, w.f, r2, hW, ?_⟩
          intro z3 hW F4 H4 s3
          replace r1 := Rep.mono _ s3.g r1
          replace r2 := Rep.mono _ s3.g r2
          replace x1 := x1.step s3
          replace w := w.tr s3
          replace gx3 := Ex.tr gx3 s3.g
          refine bl_v ?_
          exact hN4 (!z3) _ _ ⟨rfl, w, gx3, x1⟩ hW
        · have hW := ifN hW hc3
          exact hN4 true _ _ ⟨rfl, w, gx3, x1⟩ hW
      intro b2 F5 H5 hI2 hW
      obtain ⟨_, w, gx4, x2⟩ := hI2
      have r1 := Rep.mono _ gx4 r1
      have r2 := Rep.mono _ gx4 r2
      refine bb_if (fun hc4 => ?_) (fun hc4 => ?_)
      · have hW := ifP hW hc4
        exact hW
      · have hW := ifN hW hc4
        refine hN3 _ _ ?_
        refine q_sq fun N5 hN5 => ?_
        refine e_fld ?_
        refine e_val (v := (.int ((inputs1 : Nat) : Int))) (val_var rfl) ?_
        refine a_fld T.cl_Machine T.na_Machine_inputs x2 w (show 0 < 1000 from by decide) (val_var rfl) (fun H6 w1 x3 kp1 => ?_)
        replace w := w1
        replace x3 : Xc Hb F5 H6 ob (.ins cc.Machine dx [("inputs", (.int ((inputs1 : Nat) : Int)))]) := Xc.cast x3 rfl
        refine hN5 _ _ ?_
        refine q_sq fun N6 hN6 => ?_
        refine e_fld ?_
        refine e_cb ?_
        refine a_val (v := v1) (val_var rfl) ?_
        refine a_nil ?_
        refine n_tupOf r1 w ?_
        intro p1 F6 H7 s4 r3
        replace r1 := Rep.mono _ s4.g r1
        replace r2 := Rep.mono _ s4.g r2
        replace x3 := x3.step s4
        replace w := w.tr s4
        refine a_fld T.cl_Machine T.na_Machine_nexts x3 w (show 1 < 1000 from by decide) (val_var rfl) (fun H8 w2 x4 kp2 => ?_)
        replace w := w2
        replace x4 : Xc Hb F6 H8 ob (.ins cc.Machine dx [("inputs", (.int ((inputs1 : Nat) : Int))), ("nexts", (.ref p1))]) := Xc.cast x4 ((put_ne (by decide +kernel)).trans (congrArg _ rfl))
        refine hN6 _ _ ?_
        refine e_fld ?_
        refine e_cb ?_
        refine a_val (v := v2) (val_var rfl) ?_
        refine a_nil ?_
        refine n_tupOf r2 w ?_
        intro p2 F7 H9 s5 r4
        replace r1 := Rep.mono _ s5.g r1
        replace r2 := Rep.mono _ s5.g r2
        replace x4 := x4.step s5
        replace r3 := Rep.mono _ s5.g r3
        replace w := w.tr s5
        refine a_fld T.cl_Machine T.na_Machine_outs x4 w (show 2 < 1000 from by decide) (val_var rfl) (fun H10 w3 x5 kp3 => ?_)
        replace w := w3
        replace x5 : Xc Hb F7 H10 ob (.ins cc.Machine dx [("inputs", (.int ((inputs1 : Nat) : Int))), ("nexts", (.ref p1)), ("outs", (.ref p2))]) := Xc.cast x5 ((put_ne (by decide +kernel)).trans (congrArg _ ((put_ne (by decide +kernel)).trans (congrArg _ rfl))))
        obtain ⟨F8, w4, g1, h1⟩ := x5.frzE w
        exact hQ _ hW _ _ w4 ⟨ob, dx, _, rfl, h1, _, _, _, rfl, rfl, (Rep.mono _ g1 r3), (Rep.mono _ g1 r4)⟩
abbrev s_Machine_stores : Stmt := inClass (topS 25) 1
def W_Machine_stores (self1 : Nat × List (Nat × Nat) × List (Nat × Nat)) (R : Nat → Prop) : Prop := R self1.2.1.length
def sp_Machine_stores (K : PySem.W.Frag) (cc : Cz) : Sp := fun vs H Q _ => ∃ (F : Hp) (v1 : V) (self1 : Nat × List (Nat × Nat) × List (Nat × Nat)) (R : Nat → Prop), vs = [v1] ∧ Ex F H ∧ (pO3 cc.Machine "inputs" "nexts" "outs" pN (pTL (pT2 pN pN)) (pTL (pT2 pN pN))).r F v1 self1 ∧ W_Machine_stores self1 R ∧ ∀ z, R z → ∀ F' H', Wf F H F' H' → Q (.int ((z : Nat) : Int)) H'
abbrev N_Machine_stores : List Str := ["self"]
theorem sc_Machine_stores : FnScope N_Machine_stores ["self"] (defScope s_Machine_stores) := ⟨rfl, rfl, rfl, by decide +kernel, rfl, by decide +kernel, by decide +kernel⟩
theorem ok_Machine_stores {P : Program} {w0 : World} {K : PySem.W.Frag} {mg : Str → Option Value} {base : Heap} {f : Addr} {fd : FuncData} {cc : Cz} (T : Tz K mg cc) (FU : Fun K "stores" "Machine.stores" s_Machine_stores f fd) (hm : Meth K cc.Machine "stores" f) (hb : Binds K fd ["self"] []) (n_len : mg "len" = none) : Md P w0 K mg base CX0 1 cc.Machine "stores" ["self"] (sp_Machine_stores K cc) := by
  refine ⟨f, fd, FU.ok sc_Machine_stores (fun vs H Q E h => ?_) (fun cdv A outer s H0 vs Q E hr h => ?_), hm, hb⟩
  · obtain ⟨_, _, _, _, rfl, _⟩ := h; rfl
  · obtain ⟨F0, v1, self1, R, rfl, wf, r1, hW, hQ⟩ := h
    have nd := sc_Machine_stores.nd
    refine ⟨(tRet (tCB (Wk.rLen K) (tCons (tFld K (tVar 0) "nexts") tNil))), (pss_one (ps_ret (pe_callB call_len_seq (by rfl) n_len PySem.boot_len (pa_cons (pe_fld (pv 0) rfl) pa_nil)))), ?_⟩
    have w := Wf.id wf
    obtain ⟨v2, r2, fl1⟩ := fl_32 (K := K) T.cl_Machine T.na_Machine_nexts r1 w.f
    refine a_ret (v := (.int ((self1.2.1.length : Nat) : Int))) (len_TL r2 w.f (fl1 (val_var rfl))) ?_
    exact hQ _ hW _ _ w
abbrev s_Machine_told : Stmt := inClass (topS 25) 3
def W_Machine_told (self1 : Nat × List (Nat × Nat) × List (Nat × Nat)) (R : (Nat × List (Nat × Nat) × List (Nat × Nat)) → Prop) : Prop := R (self1.1, self1.2.1, self1.2.2)
def sp_Machine_told (K : PySem.W.Frag) (cc : Cz) : Sp := fun vs H Q _ => ∃ (F : Hp) (v1 : V) (self1 : Nat × List (Nat × Nat) × List (Nat × Nat)) (R : (Nat × List (Nat × Nat) × List (Nat × Nat)) → Prop), vs = [v1] ∧ Ex F H ∧ (pO3 cc.Machine "inputs" "nexts" "outs" pN (pTL (pT2 pN pN)) (pTL (pT2 pN pN))).r F v1 self1 ∧ W_Machine_told self1 R ∧ ∀ z, R z → ∀ v F' H', Wf F H F' H' → (pT3 pN (pL (pT2 pN pN)) (pL (pT2 pN pN))).r F' v z → Q v H'
abbrev N_Machine_told : List Str := ["self"]
theorem sc_Machine_told : FnScope N_Machine_told ["self"] (defScope s_Machine_told) := ⟨rfl, rfl, rfl, by decide +kernel, rfl, by decide +kernel, by decide +kernel⟩
theorem ok_Machine_told {P : Program} {w0 : World} {K : PySem.W.Frag} {mg : Str → Option Value} {base : Heap} {f : Addr} {fd : FuncData} {cc : Cz} (T : Tz K mg cc) (FU : Fun K "told" "Machine.told" s_Machine_told f fd) (hm : Meth K cc.Machine "told" f) (hb : Binds K fd ["self"] []) (n_list : mg "list" = none) : Md P w0 K mg base CX0 1 cc.Machine "told" ["self"] (sp_Machine_told K cc) := by
  refine ⟨f, fd, FU.ok sc_Machine_told (fun vs H Q E h => ?_) (fun cdv A outer s H0 vs Q E hr h => ?_), hm, hb⟩
  · obtain ⟨_, _, _, _, rfl, _⟩ := h; rfl
  · obtain ⟨F0, v1, self1, R, rfl, wf, r1, hW, hQ⟩ := h
    have nd := sc_Machine_told.nd
    refine ⟨(tRet (tTup (tCons (tFld K (tVar 0) "inputs") (tCons (tCB (rListOf K) (tCons (tFld K (tVar 0) "nexts") tNil)) (tCons (tCB (rListOf K) (tCons (tFld K (tVar 0) "outs") tNil)) tNil))))), (pss_one (ps_ret (pe_tup (pa_cons (pe_fld (pv 0) rfl) (pa_cons (pe_callTy call_list_of (by rfl) n_list PyProof.Rows.boot_list (pa_cons (pe_fld (pv 0) rfl) pa_nil)) (pa_cons (pe_callTy call_list_of (by rfl) n_list PyProof.Rows.boot_list (pa_cons (pe_fld (pv 0) rfl) pa_nil)) pa_nil)))))), ?_⟩
    have w := Wf.id wf
    refine a_retE ?_
    refine e_tup ?_
    obtain ⟨_, rfl, fl1⟩ := fl_31 (K := K) T.cl_Machine T.na_Machine_inputs r1 w.f
    refine a_val (v := (.int ((self1.1 : Nat) : Int))) (fl1 (val_var rfl)) ?_
    refine a_cons ?_
    refine e_cb ?_
    obtain ⟨v3, r3, fl2⟩ := fl_32 (K := K) T.cl_Machine T.na_Machine_nexts r1 w.f
    refine a_val (v := v3) (fl2 (val_var rfl)) ?_
    refine a_nil ?_
    refine n_listXT r3 w ?_
    intro p1 H1 hp1 s1 x1
    replace r1 := Rep.mono _ s1.g r1
    replace r3 := Rep.mono _ s1.g r3
    replace w := w.tr s1
    refine a_cons ?_
    refine e_cb ?_
    obtain ⟨v4, r4, fl3⟩ := fl_33 (K := K) T.cl_Machine T.na_Machine_outs r1 w.f
    refine a_val (v := v4) (fl3 (val_var rfl)) ?_
    refine a_nil ?_
    refine n_listXT r4 w ?_
    intro p2 H2 hp2 s2 x2
    have ne1 := x1.ne hp2
    replace r1 := Rep.mono _ s2.g r1
    replace r3 := Rep.mono _ s2.g r3
    replace x1 := x1.step s2
    replace r4 := Rep.mono _ s2.g r4
    replace w := w.tr s2
    refine a_nil ?_
    obtain ⟨F1, w1, g1, r5, fz1⟩ := x1.frzE w
    replace r1 := Rep.mono _ g1 r1
    replace r3 := Rep.mono _ g1 r3
    replace r4 := Rep.mono _ g1 r4
    replace x2 := x2.frzO fz1 (Ne.symm ne1) g1
    replace w := w1
    obtain ⟨F2, w2, g2, r6, fz2⟩ := x2.frzE w
    replace r1 := Rep.mono _ g2 r1
    replace r3 := Rep.mono _ g2 r3
    replace r5 := Rep.mono _ g2 r5
    replace r4 := Rep.mono _ g2 r4
    replace w := w2
    refine n_tup3 (e := pN) (f := (pL (pT2 pN pN))) (g := (pL (pT2 pN pN))) (x := self1.1) (y := self1.2.1) (z := self1.2.2) rfl r5 r6 w ?_
    intro p3 F3 H3 s3 r7
    replace r1 := Rep.mono _ s3.g r1
    replace r3 := Rep.mono _ s3.g r3
    replace r5 := Rep.mono _ s3.g r5
    replace r4 := Rep.mono _ s3.g r4
    replace r6 := Rep.mono _ s3.g r6
    replace w := w.tr s3
    exact hQ _ hW _ _ _ w r7
abbrev s_Machine_need : Stmt := inClass (topS 25) 4
def W_Machine_need (self1 : Nat × List (Nat × Nat) × List (Nat × Nat)) (thing1 : An) (width1 : Nat) (E_BadMask : Prop) (R : Unit → Prop) : Prop := W_is_mask thing1 width1 fun z1 => if z1 = true then (R ()) else (E_BadMask)
def sp_Machine_need (K : PySem.W.Frag) (cc : Cz) : Sp := fun vs H Q E => ∃ (F : Hp) (v1 : V) (self1 : Nat × List (Nat × Nat) × List (Nat × Nat)) (v2 : V) (thing1 : An) (width1 : Nat) (E_BadMask : Prop) (R : Unit → Prop), vs = [v1, v2, (.int ((width1 : Nat) : Int))] ∧ Ex F H ∧ (pO3 cc.Machine "inputs" "nexts" "outs" pN (pTL (pT2 pN pN)) (pTL (pT2 pN pN))).r F v1 self1 ∧ pA.r F v2 thing1 ∧ W_Machine_need self1 thing1 width1 E_BadMask R ∧ (E_BadMask → ∀ F' H', Wf F H F' H' → E (.ref cc.BadMask) none H') ∧ ∀ z, R z → ∀ F' H', Wf F H F' H' → Q .non H'
abbrev N_Machine_need : List Str := ["self", "thing", "width"]
theorem sc_Machine_need : FnScope N_Machine_need ["self", "thing", "width"] (defScope s_Machine_need) := ⟨rfl, rfl, rfl, by decide +kernel, rfl, by decide +kernel, by decide +kernel⟩
theorem ok_Machine_need {P : Program} {w0 : World} {K : PySem.W.Frag} {mg : Str → Option Value} {base : Heap} {f : Addr} {fd : FuncData} {cc : Cz} (T : Tz K mg cc) (FU : Fun K "need" "Machine.need" s_Machine_need f fd) (hm : Meth K cc.Machine "need" f) (hb : Binds K fd ["self", "thing", "width"] []) (c_is_mask : Fn P w0 K mg base CX0 2 "is_mask" ["thing", "width"] (sp_is_mask K cc)) : Md P w0 K mg base (L2.CX P w0) 3 cc.Machine "need" ["self", "thing", "width"] (sp_Machine_need K cc) := by
  refine ⟨f, fd, FU.okX sc_Machine_need (fun vs H Q E h => ?_) (fun cdv A outer s H0 vs Q E hr h => ?_), hm, hb⟩
  · obtain ⟨_, _, _, _, _, _, _, _, rfl, _⟩ := h; rfl
  · obtain ⟨F0, v1, self1, v2, thing1, width1, E_BadMask, R, rfl, wf, r1, r2, hW, hE_BadMask, hQ⟩ := h
    have nd := sc_Machine_need.nd
    refine ⟨(tIfS (tNot (tB (tCall (sp_is_mask K cc) [] E0 (tCons (tVar 1) (tCons (tVar 2) tNil))))) (tRaise (fun cls d _ H => E cls d H) cc.BadMask) tNext), (pss_one (ps_if (pt_not (pt_val (pe_fn c_is_mask (hr.mono (by decide)) rfl (pa_cons (pv 1) (pa_cons (pv 2) pa_nil))))) (pss_one (ps_raise (W := (fun cls d _ H => E cls d H)) rfl (takes_of rfl rfl rfl rfl) (pmk_own PySem.F.excBase_ValueError T.xc_BadMask.x T.xc_BadMask.g T.xc_BadMask.k (raises_own T.xc_BadMask.b T.xc_BadMask.t) (by exact rfl)))) pss_nil)), ?_⟩
    have w := Wf.id wf
    refine a_ifE ?_
    refine e_tNot ?_
    refine e_tB ?_
    refine e_call ?_
    refine a_val (v := v2) (val_var rfl) ?_
    refine a_val (v := (.int ((width1 : Nat) : Int))) (val_var rfl) ?_
    refine a_nil ?_
    refine ⟨F0, (v2), (thing1), (width1), _, rfl, w.f, r2, hW, ?_⟩
    intro z1 hW F1 H1 s1
    replace r1 := Rep.mono _ s1.g r1
    replace r2 := Rep.mono _ s1.g r2
    replace w := w.tr s1
    refine bl_v ?_
    refine bb_ifn (fun hc1 => ?_) (fun hc1 => ?_)
    · have hW := ifP hW hc1
      exact hQ _ hW _ _ w
    · have hW := ifN hW hc1
      refine a_raise ?_
      exact hE_BadMask hW _ _ w
abbrev s_Machine_step : Stmt := inClass (topS 25) 5
def W_Machine_step (self1 : Nat × List (Nat × Nat) × List (Nat × Nat)) (state1 : An) (row1 : An) (E_BadMask : Prop) (R : (Nat × Nat) → Prop) : Prop := W_Machine_stores self1 fun z1 => W_Machine_need self1 state1 z1 (E_BadMask) fun z2 => W_Machine_need self1 row1 self1.1 (E_BadMask) fun z3 => ∃ y1 : Nat, state1 = An.i ((y1 : Nat) : Int) ∧ ∃ y2 : Nat, row1 = An.i ((y2 : Nat) : Int) ∧ W_bits_by self1.2.2 y1 y2 fun z4 => ∃ y3 : Nat, state1 = An.i ((y3 : Nat) : Int) ∧ ∃ y4 : Nat, row1 = An.i ((y4 : Nat) : Int) ∧ W_bits_by self1.2.1 y3 y4 fun z5 => R (z4, z5)
def sp_Machine_step (K : PySem.W.Frag) (cc : Cz) : Sp := fun vs H Q E => ∃ (F : Hp) (v1 : V) (self1 : Nat × List (Nat × Nat) × List (Nat × Nat)) (v2 : V) (state1 : An) (v3 : V) (row1 : An) (E_BadMask : Prop) (R : (Nat × Nat) → Prop), vs = [v1, v2, v3] ∧ Ex F H ∧ (pO3 cc.Machine "inputs" "nexts" "outs" pN (pTL (pT2 pN pN)) (pTL (pT2 pN pN))).r F v1 self1 ∧ pA.r F v2 state1 ∧ pA.r F v3 row1 ∧ W_Machine_step self1 state1 row1 E_BadMask R ∧ (E_BadMask → ∀ F' H', Wf F H F' H' → E (.ref cc.BadMask) none H') ∧ ∀ z, R z → ∀ v F' H', Wf F H F' H' → (pT2 pN pN).r F' v z → Q v H'
abbrev N_Machine_step : List Str := ["self", "state", "row"]
theorem sc_Machine_step : FnScope N_Machine_step ["self", "state", "row"] (defScope s_Machine_step) := ⟨rfl, rfl, rfl, by decide +kernel, rfl, by decide +kernel, by decide +kernel⟩
theorem ok_Machine_step {P : Program} {w0 : World} {K : PySem.W.Frag} {mg : Str → Option Value} {base : Heap} {f : Addr} {fd : FuncData} {cc : Cz} (T : Tz K mg cc) (FU : Fun K "step" "Machine.step" s_Machine_step f fd) (hm : Meth K cc.Machine "step" f) (hb : Binds K fd ["self", "state", "row"] []) (c_Machine_stores : Md P w0 K mg base CX0 1 cc.Machine "stores" ["self"] (sp_Machine_stores K cc)) (c_Machine_need : Md P w0 K mg base (L2.CX P w0) 3 cc.Machine "need" ["self", "thing", "width"] (sp_Machine_need K cc)) (c_bits_by : Fn P w0 K mg base CX0 3 "bits_by" ["pairs", "state", "row"] (sp_bits_by K cc)) : Md P w0 K mg base (L2.CX P w0) 4 cc.Machine "step" ["self", "state", "row"] (sp_Machine_step K cc) := by
  refine ⟨f, fd, FU.okX sc_Machine_step (fun vs H Q E h => ?_) (fun cdv A outer s H0 vs Q E hr h => ?_), hm, hb⟩
  · obtain ⟨_, _, _, _, _, _, _, _, _, rfl, _⟩ := h; rfl
  · obtain ⟨F0, v1, self1, v2, state1, v3, row1, E_BadMask, R, rfl, wf, r1, r2, r3, hW, hE_BadMask, hQ⟩ := h
    have nd := sc_Machine_step.nd
    refine ⟨(tSeq (tDrop (tMdS cc.Machine "need" (sp_Machine_need K cc) (WE (fun cls d _ H => E cls d H)) (tVar 0) (tCons (tVar 1) (tCons (tMeth cc.Machine "stores" (sp_Machine_stores K cc) [] E0 (tVar 0) tNil) tNil)))) (tSeq (tDrop (tMdS cc.Machine "need" (sp_Machine_need K cc) (WE (fun cls d _ H => E cls d H)) (tVar 0) (tCons (tVar 2) (tCons (tFld K (tVar 0) "inputs") tNil)))) (tRet (tTup (tCons (tCall (sp_bits_by K cc) [] E0 (tCons (tFld K (tVar 0) "outs") (tCons (tVar 1) (tCons (tVar 2) tNil)))) (tCons (tCall (sp_bits_by K cc) [] E0 (tCons (tFld K (tVar 0) "nexts") (tCons (tVar 1) (tCons (tVar 2) tNil)))) tNil)))))), (pss_cons (ps_expr (pe_mdS (W := (fun cls d _ H => E cls d H)) c_Machine_need (takes_of rfl rfl rfl rfl) T.cl_Machine (hr.mono (by decide)) (pv 0) (pa_cons (pv 1) (pa_cons (pe_md0 c_Machine_stores T.cl_Machine (hr.mono (by decide)) (pv 0)) pa_nil)))) (pss_cons (ps_expr (pe_mdS (W := (fun cls d _ H => E cls d H)) c_Machine_need (takes_of rfl rfl rfl rfl) T.cl_Machine (hr.mono (by decide)) (pv 0) (pa_cons (pv 2) (pa_cons (pe_fld (pv 0) rfl) pa_nil)))) (pss_one (ps_ret (pe_tup (pa_cons (pe_fn c_bits_by (hr.mono (by decide)) rfl (pa_cons (pe_fld (pv 0) rfl) (pa_cons (pv 1) (pa_cons (pv 2) pa_nil)))) (pa_cons (pe_fn c_bits_by (hr.mono (by decide)) rfl (pa_cons (pe_fld (pv 0) rfl) (pa_cons (pv 1) (pa_cons (pv 2) pa_nil)))) pa_nil))))))), ?_⟩
    have w := Wf.id wf
    refine q_sq fun N1 hN1 => ?_
    refine a_dropE ?_
    refine e_mdS ?_
    refine e_val (v := v1) (val_var rfl) ?_
    obtain ⟨p1, dx1, fs1, ev1, ho1, lm1⟩ := me_3 (m := "need") r1 w.f
    refine ⟨_, _, _, ev1, ho1, lm1, ?_⟩
    refine a_val (v := v2) (val_var rfl) ?_
    refine a_cons ?_
    refine e_md ?_
    refine e_val (v := v1) (val_var rfl) ?_
    obtain ⟨p2, dx2, fs2, ev2, ho2, lm2⟩ := me_3 (m := "stores") r1 w.f
    refine ⟨_, _, _, ev2, ho2, lm2, ?_⟩
    refine a_nil ?_
    refine ⟨F0, (v1), (self1), _, rfl, w.f, r1, hW, ?_⟩
    intro z1 hW F1 H1 s1
    replace r1 := Rep.mono _ s1.g r1
    replace r2 := Rep.mono _ s1.g r2
    replace r3 := Rep.mono _ s1.g r3
    replace w := w.tr s1
    refine a_nil ?_
    refine ⟨F1, (v1), (self1), (v2), (state1), (z1), _, _, rfl, w.f, r1, r2, hW, ?_, ?_⟩
    · intro hW F2 H2 s2
      replace r1 := Rep.mono _ s2.g r1
      replace r2 := Rep.mono _ s2.g r2
      replace r3 := Rep.mono _ s2.g r3
      replace w := w.tr s2
      exact hE_BadMask hW _ _ w
    intro z2 hW F3 H3 s3
    replace r1 := Rep.mono _ s3.g r1
    replace r2 := Rep.mono _ s3.g r2
    replace r3 := Rep.mono _ s3.g r3
    replace w := w.tr s3
    refine hN1 _ _ ?_
    refine q_sq fun N2 hN2 => ?_
    refine a_dropE ?_
    refine e_mdS ?_
    refine e_val (v := v1) (val_var rfl) ?_
    obtain ⟨p3, dx3, fs3, ev3, ho3, lm3⟩ := me_3 (m := "need") r1 w.f
    refine ⟨_, _, _, ev3, ho3, lm3, ?_⟩
    refine a_val (v := v3) (val_var rfl) ?_
    obtain ⟨_, rfl, fl1⟩ := fl_31 (K := K) T.cl_Machine T.na_Machine_inputs r1 w.f
    refine a_val (v := (.int ((self1.1 : Nat) : Int))) (fl1 (val_var rfl)) ?_
    refine a_nil ?_
    refine ⟨F3, (v1), (self1), (v3), (row1), (self1.1), _, _, rfl, w.f, r1, r3, hW, ?_, ?_⟩
    · intro hW F4 H4 s4
      replace r1 := Rep.mono _ s4.g r1
      replace r2 := Rep.mono _ s4.g r2
      replace r3 := Rep.mono _ s4.g r3
      replace w := w.tr s4
      exact hE_BadMask hW _ _ w
    intro z3 hW F5 H5 s5
    replace r1 := Rep.mono _ s5.g r1
    replace r2 := Rep.mono _ s5.g r2
    replace r3 := Rep.mono _ s5.g r3
    replace w := w.tr s5
    refine hN2 _ _ ?_
    refine a_retE ?_
    refine e_tup ?_
    refine a_cons ?_
    refine e_call ?_
    obtain ⟨v5, r5, fl2⟩ := fl_33 (K := K) T.cl_Machine T.na_Machine_outs r1 w.f
    refine a_val (v := v5) (fl2 (val_var rfl)) ?_
    obtain ⟨y1, hy1, hW⟩ := hW
    have hv1 := an_i r2 hy1
    refine a_val (v := (.int ((y1 : Nat) : Int))) (v_eq (val_var rfl) hv1) ?_
    obtain ⟨y2, hy2, hW⟩ := hW
    have hv2 := an_i r3 hy2
    refine a_val (v := (.int ((y2 : Nat) : Int))) (v_eq (val_var rfl) hv2) ?_
    refine a_nil ?_
    refine ⟨F5, (v5), (self1.2.2), (y1), (y2), _, rfl, w.f, r5, hW, ?_⟩
    intro z4 hW F6 H6 s6
    replace r1 := Rep.mono _ s6.g r1
    replace r2 := Rep.mono _ s6.g r2
    replace r3 := Rep.mono _ s6.g r3
    replace r5 := Rep.mono _ s6.g r5
    replace w := w.tr s6
    refine a_cons ?_
    refine e_call ?_
    obtain ⟨v6, r6, fl3⟩ := fl_32 (K := K) T.cl_Machine T.na_Machine_nexts r1 w.f
    refine a_val (v := v6) (fl3 (val_var rfl)) ?_
    obtain ⟨y3, hy3, hW⟩ := hW
    have hv3 := an_i r2 hy3
    refine a_val (v := (.int ((y3 : Nat) : Int))) (v_eq (val_var rfl) hv3) ?_
    obtain ⟨y4, hy4, hW⟩ := hW
    have hv4 := an_i r3 hy4
    refine a_val (v := (.int ((y4 : Nat) : Int))) (v_eq (val_var rfl) hv4) ?_
    refine a_nil ?_
    refine ⟨F6, (v6), (self1.2.1), (y3), (y4), _, rfl, w.f, r6, hW, ?_⟩
    intro z5 hW F7 H7 s7
    replace r1 := Rep.mono _ s7.g r1
    replace r2 := Rep.mono _ s7.g r2
    replace r3 := Rep.mono _ s7.g r3
    replace r5 := Rep.mono _ s7.g r5
    replace r6 := Rep.mono _ s7.g r6
    replace w := w.tr s7
    refine a_nil ?_
    refine n_tup2 (e := pN) (f := pN) (x := z4) (y := z5) rfl rfl w ?_
    intro p4 F8 H8 s8 r7
    replace r1 := Rep.mono _ s8.g r1
    replace r2 := Rep.mono _ s8.g r2
    replace r3 := Rep.mono _ s8.g r3
    replace r5 := Rep.mono _ s8.g r5
    replace r6 := Rep.mono _ s8.g r6
    replace w := w.tr s8
    exact hQ _ hW _ _ _ w r7
abbrev s_Machine_walk : Stmt := inClass (topS 25) 6
def W_Machine_walk (self1 : Nat × List (Nat × Nat) × List (Nat × Nat)) (rows1 : List An) (state1 : An) (E_BadMask : Prop) (R : (List Nat × Nat) → Prop) : Prop := W_Machine_stores self1 fun z1 => W_Machine_need self1 state1 z1 (E_BadMask) fun z2 => forW rows1 () (fun row1 _ nx1 bk1 => W_Machine_need self1 row1 self1.1 (E_BadMask) fun z3 => nx1 ()) fun _ => ∃ y1 : Nat, state1 = An.i ((y1 : Nat) : Int) ∧ forW rows1 (y1, ([] : List Nat)) (fun row2 (state2, answers1) nx2 bk2 => W_Machine_step self1 (An.i ((state2 : Nat) : Int)) row2 (E_BadMask) fun z4 => (answers1.length < 1000000) ∧ nx2 (z4.2, answers1 ++ [z4.1])) fun (state2, answers1) => R (answers1, state2)
def sp_Machine_walk (K : PySem.W.Frag) (cc : Cz) : Sp := fun vs H Q E => ∃ (F : Hp) (v1 : V) (self1 : Nat × List (Nat × Nat) × List (Nat × Nat)) (v2 : V) (rows1 : List An) (v3 : V) (state1 : An) (E_BadMask : Prop) (R : (List Nat × Nat) → Prop), vs = [v1, v2, v3] ∧ Ex F H ∧ (pO3 cc.Machine "inputs" "nexts" "outs" pN (pTL (pT2 pN pN)) (pTL (pT2 pN pN))).r F v1 self1 ∧ (pL pA).r F v2 rows1 ∧ pA.r F v3 state1 ∧ W_Machine_walk self1 rows1 state1 E_BadMask R ∧ (E_BadMask → ∀ F' H', Wf F H F' H' → E (.ref cc.BadMask) none H') ∧ ∀ z, R z → ∀ (l0 : Addr) v F' H', Wf F H F' H' → (pT2 pV pN).r F' v (V.ref l0, z.2) → XL pN H F' H' l0 z.1 → Q v H'
abbrev N_Machine_walk : List Str := ["self", "rows", "state", "row", "answers", "answer"]
theorem sc_Machine_walk : FnScope N_Machine_walk ["self", "rows", "state"] (defScope s_Machine_walk) := ⟨rfl, rfl, rfl, by decide +kernel, rfl, by decide +kernel, by decide +kernel⟩
theorem ok_Machine_walk {P : Program} {w0 : World} {K : PySem.W.Frag} {mg : Str → Option Value} {base : Heap} {f : Addr} {fd : FuncData} {cc : Cz} (T : Tz K mg cc) (FU : Fun K "walk" "Machine.walk" s_Machine_walk f fd) (hm : Meth K cc.Machine "walk" f) (hb : Binds K fd ["self", "rows", "state"] []) (c_Machine_stores : Md P w0 K mg base CX0 1 cc.Machine "stores" ["self"] (sp_Machine_stores K cc)) (c_Machine_need : Md P w0 K mg base (L2.CX P w0) 3 cc.Machine "need" ["self", "thing", "width"] (sp_Machine_need K cc)) (c_Machine_step : Md P w0 K mg base (L2.CX P w0) 4 cc.Machine "step" ["self", "state", "row"] (sp_Machine_step K cc)) : Md P w0 K mg base (L2.CX P w0) 5 cc.Machine "walk" ["self", "rows", "state"] (sp_Machine_walk K cc) := by
  refine ⟨f, fd, FU.okX sc_Machine_walk (fun vs H Q E h => ?_) (fun cdv A outer s H0 vs Q E hr h => ?_), hm, hb⟩
  · obtain ⟨_, _, _, _, _, _, _, _, _, rfl, _⟩ := h; rfl
  · obtain ⟨F0, v1, self1, v2, rows1, v3, state1, E_BadMask, R, rfl, wf, r1, r2, r3, hW, hE_BadMask, hQ⟩ := h
    have nd := sc_Machine_walk.nd
    refine ⟨(tSeq (tDrop (tMdS cc.Machine "need" (sp_Machine_need K cc) (WE (fun cls d _ H => E cls d H)) (tVar 0) (tCons (tVar 2) (tCons (tMeth cc.Machine "stores" (sp_Machine_stores K cc) [] E0 (tVar 0) tNil) tNil)))) (tSeq (tFor (iList K (tVar 1)) (gName 3) (tDrop (tMdS cc.Machine "need" (sp_Machine_need K cc) (WE (fun cls d _ H => E cls d H)) (tVar 0) (tCons (tVar 3) (tCons (tFld K (tVar 0) "inputs") tNil))))) (tSeq (tAsg (tLst tNil) (gName 4)) (tSeq (tFor (iList K (tVar 1)) (gName 3) (tSeq (tAsg (tMdS cc.Machine "step" (sp_Machine_step K cc) (WE (fun cls d _ H => E cls d H)) (tVar 0) (tCons (tVar 2) (tCons (tVar 3) tNil))) (gTup K 2 (gCons (gName 5) (gCons (gName 2) gNil)))) (tDrop (tBM K "list" rAppend (tVar 4) (tCons (tVar 5) tNil))))) (tRet (tTup (tCons (tVar 4) (tCons (tVar 2) tNil)))))))), (pss_cons (ps_expr (pe_mdS (W := (fun cls d _ H => E cls d H)) c_Machine_need (takes_of rfl rfl rfl rfl) T.cl_Machine (hr.mono (by decide)) (pv 0) (pa_cons (pv 2) (pa_cons (pe_md0 c_Machine_stores T.cl_Machine (hr.mono (by decide)) (pv 0)) pa_nil)))) (pss_cons (ps_for (passes_of rfl) rfl (pi_list (pv 1)) (pg_name (i := 3) nd rfl (Or.inl rfl)) (pss_one (ps_expr (pe_mdS (W := (fun cls d _ H => E cls d H)) c_Machine_need (takes_of rfl rfl rfl rfl) T.cl_Machine (hr.mono (by decide)) (pv 0) (pa_cons (pv 3) (pa_cons (pe_fld (pv 0) rfl) pa_nil)))))) (pss_cons (ps_set (i := 4) nd rfl (Or.inl rfl) (pe_lst pa_nil)) (pss_cons (ps_for (passes_of rfl) rfl (pi_list (pv 1)) (pg_name (i := 3) nd rfl (Or.inl rfl)) (pss_cons (ps_asg (pe_mdS (W := (fun cls d _ H => E cls d H)) c_Machine_step (takes_of rfl rfl rfl rfl) T.cl_Machine (hr.mono (by decide)) (pv 0) (pa_cons (pv 2) (pa_cons (pv 3) pa_nil))) (pg_tup rfl (pgs_cons (pg_name (i := 5) nd rfl (Or.inl rfl)) (pgs_cons (pg_name (i := 2) nd rfl (Or.inl rfl)) pgs_nil)) (by rfl))) (pss_one (ps_expr (pe_bm PySem.F.plainAttrs_list PySem.F.slot_list_append PySem.F.type_list_append mt_append (pv 4) (pa_cons (pv 5) pa_nil)))))) (pss_one (ps_ret (pe_tup (pa_cons (pv 4) (pa_cons (pv 2) pa_nil))))))))), ?_⟩
    have w := Wf.id wf
    refine q_sq fun N1 hN1 => ?_
    refine a_dropE ?_
    refine e_mdS ?_
    refine e_val (v := v1) (val_var rfl) ?_
    obtain ⟨p1, dx1, fs1, ev1, ho1, lm1⟩ := me_3 (m := "need") r1 w.f
    refine ⟨_, _, _, ev1, ho1, lm1, ?_⟩
    refine a_val (v := v3) (val_var rfl) ?_
    refine a_cons ?_
    refine e_md ?_
    refine e_val (v := v1) (val_var rfl) ?_
    obtain ⟨p2, dx2, fs2, ev2, ho2, lm2⟩ := me_3 (m := "stores") r1 w.f
    refine ⟨_, _, _, ev2, ho2, lm2, ?_⟩
    refine a_nil ?_
    refine ⟨F0, (v1), (self1), _, rfl, w.f, r1, hW, ?_⟩
    intro z1 hW F1 H1 s1
    replace r1 := Rep.mono _ s1.g r1
    replace r2 := Rep.mono _ s1.g r2
    replace r3 := Rep.mono _ s1.g r3
    replace w := w.tr s1
    refine a_nil ?_
    refine ⟨F1, (v1), (self1), (v3), (state1), (z1), _, _, rfl, w.f, r1, r3, hW, ?_, ?_⟩
    · intro hW F2 H2 s2
      replace r1 := Rep.mono _ s2.g r1
      replace r2 := Rep.mono _ s2.g r2
      replace r3 := Rep.mono _ s2.g r3
      replace w := w.tr s2
      exact hE_BadMask hW _ _ w
    intro z2 hW F3 H3 s3
    replace r1 := Rep.mono _ s3.g r1
    replace r2 := Rep.mono _ s3.g r2
    replace r3 := Rep.mono _ s3.g r3
    replace w := w.tr s3
    refine hN1 _ _ ?_
    refine q_sq fun N2 hN2 => ?_
    refine f_LE ?_
    refine e_val (v := v2) (val_var rfl) ?_
    refine w_forL (S := Unit) (fun _ σ' F' H' => ∃ (o1 : Option V), Wf F0 H0 F' H' ∧ Ex F3 F' ∧ σ' = [some v1, some v2, some v3, o1, none, none]) r2 hW ⟨_, w, Ex.rfl', rfl⟩ (fun s σ' F' H' hI => by obtain ⟨_, w', gx', _⟩ := hI; exact ⟨gx', w'.f⟩) w.f ?_ ?_
    · intro N3 Bk1 row1 u1 s4 σ' F4 H4 nx1 bk1 hI1 hx1 ru1 hW hN3 hB1
      obtain ⟨o1, w, gx1, rfl⟩ := hI1
      have r1 := Rep.mono _ gx1 r1
      have r2 := Rep.mono _ gx1 r2
      have r3 := Rep.mono _ gx1 r3
      refine g_name ?_
      refine a_dropE ?_
      refine e_mdS ?_
      refine e_val (v := v1) (val_var rfl) ?_
      obtain ⟨p3, dx3, fs3, ev3, ho3, lm3⟩ := me_3 (m := "need") r1 w.f
      refine ⟨_, _, _, ev3, ho3, lm3, ?_⟩
      refine a_val (v := u1) (val_var rfl) ?_
      obtain ⟨_, rfl, fl1⟩ := fl_31 (K := K) T.cl_Machine T.na_Machine_inputs r1 w.f
      refine a_val (v := (.int ((self1.1 : Nat) : Int))) (fl1 (val_var rfl)) ?_
      refine a_nil ?_
      refine ⟨F4, (v1), (self1), (u1), (row1), (self1.1), _, _, rfl, w.f, r1, ru1, hW, ?_, ?_⟩
      · intro hW F5 H5 s5
        replace r1 := Rep.mono _ s5.g r1
        replace r2 := Rep.mono _ s5.g r2
        replace r3 := Rep.mono _ s5.g r3
        replace ru1 := Rep.mono _ s5.g ru1
        replace w := w.tr s5
        replace gx1 := Ex.tr gx1 s5.g
        exact hE_BadMask hW _ _ w
      intro z3 hW F6 H6 s6
      replace r1 := Rep.mono _ s6.g r1
      replace r2 := Rep.mono _ s6.g r2
      replace r3 := Rep.mono _ s6.g r3
      replace ru1 := Rep.mono _ s6.g ru1
      replace w := w.tr s6
      replace gx1 := Ex.tr gx1 s6.g
      exact hN3 () _ _ _ ⟨_, w, gx1, rfl⟩ hW
    · intro s7 σ' F7 H7 hI2 hW
      obtain ⟨o1, w, gx2, rfl⟩ := hI2
      have r1 := Rep.mono _ gx2 r1
      have r2 := Rep.mono _ gx2 r2
      have r3 := Rep.mono _ gx2 r3
      refine hN2 _ _ ?_
      refine q_sq fun N4 hN4 => ?_
      refine a_asgE ?_
      refine e_lst ?_
      refine a_nil ?_
      refine n_lstX (e := pN) (xs := []) (vs := []) (show All pN _ [] [] from trivial) (show 0 < 1000000 from by decide) w ?_
      intro p4 H8 hp1 s8 x1
      replace r1 := Rep.mono _ s8.g r1
      replace r2 := Rep.mono _ s8.g r2
      replace r3 := Rep.mono _ s8.g r3
      replace w := w.tr s8
      replace gx2 := Ex.tr gx2 s8.g
      refine hN4 _ _ ?_
      refine q_sq fun N5 hN5 => ?_
      obtain ⟨y1, hy1, hW⟩ := hW
      obtain rfl : v3 = .int ((y1 : Nat) : Int) := an_i r3 hy1
      refine f_LE ?_
      refine e_val (v := v2) (val_var rfl) ?_
      refine w_forL (S := Nat × List Nat) (fun s σ' F' H' => match s with | (state2, answers1) => ∃ (o2 : Option V) (o3 : Option V), Wf F0 H0 F' H' ∧ Ex F7 F' ∧ σ' = [some v1, some v2, some (.int ((state2 : Nat) : Int)), o2, some ((.ref p4)), o3] ∧ XL pN H0 F' H' p4 answers1) r2 hW ⟨_, _, w, Ex.rfl', rfl, x1⟩ (fun s σ' F' H' hI => by obtain ⟨state2, answers1⟩ := s; obtain ⟨_, _, w', gx', _⟩ := hI; exact ⟨gx', w'.f⟩) w.f ?_ ?_
      · intro N6 Bk2 row2 u2 s9 σ' F8 H9 nx2 bk2 hI3 hx2 ru2 hW hN6 hB2
        obtain ⟨state2, answers1⟩ := s9
        obtain ⟨o2, o3, w, gx3, rfl, x2⟩ := hI3
        have r1 := Rep.mono _ gx3 r1
        have r2 := Rep.mono _ gx3 r2
        have gx2 := Ex.tr gx2 gx3
        refine g_name ?_
        refine q_sq fun N7 hN7 => ?_
        refine a_asgG ?_
        refine e_mdS ?_
        refine e_val (v := v1) (val_var rfl) ?_
        obtain ⟨p5, dx4, fs4, ev4, ho4, lm4⟩ := me_3 (m := "step") r1 w.f
        refine ⟨_, _, _, ev4, ho4, lm4, ?_⟩
        refine a_val (v := (.int ((state2 : Nat) : Int))) (val_var rfl) ?_
        refine a_val (v := u2) (val_var rfl) ?_
        refine a_nil ?_
        refine ⟨F8, (v1), (self1), ((.int ((state2 : Nat) : Int))), ((An.i ((state2 : Nat) : Int))), (u2), (row2), _, _, rfl, w.f, r1, (show pA.r _ (.int ((state2 : Nat) : Int)) (An.i ((state2 : Nat) : Int)) from rfl), ru2, hW, ?_, ?_⟩
        · intro hW F9 H10 s10
          replace r1 := Rep.mono _ s10.g r1
          replace r2 := Rep.mono _ s10.g r2
          replace x2 := x2.step s10
          replace ru2 := Rep.mono _ s10.g ru2
          replace w := w.tr s10
          replace gx3 := Ex.tr gx3 s10.g
          replace gx2 := Ex.tr gx2 s10.g
          exact hE_BadMask hW _ _ w
        intro z4 hW v5 F10 H11 s11 r5
        replace r1 := Rep.mono _ s11.g r1
        replace r2 := Rep.mono _ s11.g r2
        replace x2 := x2.step s11
        replace ru2 := Rep.mono _ s11.g ru2
        replace w := w.tr s11
        replace gx3 := Ex.tr gx3 s11.g
        replace gx2 := Ex.tr gx2 s11.g
        obtain ⟨p6, u3, u4, rfl, h1, rfl, rfl⟩ := r5
        refine ⟨p6, _, rfl, SqT.of (w.f _ _ h1), rfl, _, _, rfl, _, _, rfl, rfl, ?_⟩
        refine hN7 _ _ ?_
        refine a_dropE ?_
        refine m_list x2 (val_var rfl) ?_
        refine a_val (v := (.int ((z4.1 : Nat) : Int))) (val_var rfl) ?_
        refine a_nil ?_
        obtain ⟨c1, hW⟩ := hW
        refine a_app x2 w c1 rfl (fun H12 w1 x3 kp1 => ?_)
        replace w := w1
        exact hN6 (z4.2, answers1 ++ [z4.1]) _ _ _ ⟨_, _, w, gx3, rfl, x3⟩ hW
      · intro s12 σ' F11 H13 hI4 hW
        obtain ⟨state2, answers1⟩ := s12
        obtain ⟨o2, o3, w, gx4, rfl, x2⟩ := hI4
        have r1 := Rep.mono _ gx4 r1
        have r2 := Rep.mono _ gx4 r2
        have gx2 := Ex.tr gx2 gx4
        refine hN5 _ _ ?_
        refine a_retE ?_
        refine e_tup ?_
        refine a_val (v := (.ref p4)) (val_var rfl) ?_
        refine a_val (v := (.int ((state2 : Nat) : Int))) (val_var rfl) ?_
        refine a_nil ?_
        refine n_tup2 (e := pV) (f := pN) (x := V.ref p4) (y := state2) rfl rfl w ?_
        intro p7 F12 H14 s13 r6
        replace r1 := Rep.mono _ s13.g r1
        replace r2 := Rep.mono _ s13.g r2
        replace x2 := x2.step s13
        replace w := w.tr s13
        replace gx4 := Ex.tr gx4 s13.g
        replace gx2 := Ex.tr gx2 s13.g
        exact hQ (answers1, state2) hW _ _ _ _ w r6 x2
abbrev s_Machine_after : Stmt := inClass (topS 25) 8
def W_Machine_after (self1 : Nat × List (Nat × Nat) × List (Nat × Nat)) (rows1 : List An) (state1 : An) (E_BadMask : Prop) (R : Nat → Prop) : Prop := W_Machine_walk self1 rows1 state1 (E_BadMask) fun z1 => R z1.2
def sp_Machine_after (K : PySem.W.Frag) (cc : Cz) : Sp := fun vs H Q E => ∃ (F : Hp) (v1 : V) (self1 : Nat × List (Nat × Nat) × List (Nat × Nat)) (v2 : V) (rows1 : List An) (v3 : V) (state1 : An) (E_BadMask : Prop) (R : Nat → Prop), vs = [v1, v2, v3] ∧ Ex F H ∧ (pO3 cc.Machine "inputs" "nexts" "outs" pN (pTL (pT2 pN pN)) (pTL (pT2 pN pN))).r F v1 self1 ∧ (pL pA).r F v2 rows1 ∧ pA.r F v3 state1 ∧ W_Machine_after self1 rows1 state1 E_BadMask R ∧ (E_BadMask → ∀ F' H', Wf F H F' H' → E (.ref cc.BadMask) none H') ∧ ∀ z, R z → ∀ F' H', Wf F H F' H' → Q (.int ((z : Nat) : Int)) H'
abbrev N_Machine_after : List Str := ["self", "rows", "state"]
theorem sc_Machine_after : FnScope N_Machine_after ["self", "rows", "state"] (defScope s_Machine_after) := ⟨rfl, rfl, rfl, by decide +kernel, rfl, by decide +kernel, by decide +kernel⟩
theorem ok_Machine_after {P : Program} {w0 : World} {K : PySem.W.Frag} {mg : Str → Option Value} {base : Heap} {f : Addr} {fd : FuncData} {cc : Cz} (T : Tz K mg cc) (FU : FunD K "after" "Machine.after" (defArgs s_Machine_after) (defBody s_Machine_after) (defScope s_Machine_after) [.int 0] [] f fd) (hm : Meth K cc.Machine "after" f) (hb : Binds K fd ["self", "rows", "state"] []) (hb2 : ∃ ds, Vals [.int 0] ds ∧ Binds K fd ["self", "rows", "state"] ds) (c_Machine_walk : Md P w0 K mg base (L2.CX P w0) 5 cc.Machine "walk" ["self", "rows", "state"] (sp_Machine_walk K cc)) : MdD P w0 K mg base (L2.CX P w0) 6 cc.Machine "after" ["self", "rows", "state"] (sp_Machine_after K cc) [.int 0] := by
  refine ⟨f, fd, FU.ok sc_Machine_after (fun vs H Q E h => ?_) (fun cdv A outer s H0 vs Q E hr h => ?_), hm, hb, hb2⟩
  · obtain ⟨_, _, _, _, _, _, _, _, _, rfl, _⟩ := h; rfl
  · obtain ⟨F0, v1, self1, v2, rows1, v3, state1, E_BadMask, R, rfl, wf, r1, r2, r3, hW, hE_BadMask, hQ⟩ := h
    have nd := sc_Machine_after.nd
    refine ⟨(tRet (tOp (L2.rIxT K) (tMdS cc.Machine "walk" (sp_Machine_walk K cc) (WE (fun cls d _ H => E cls d H)) (tVar 0) (tCons (tVar 1) (tCons (tVar 2) tNil))) (tC (.int 1)))), (pss_one (ps_ret (pe_ix ix_tup (pe_mdS (W := (fun cls d _ H => E cls d H)) c_Machine_walk (takes_of rfl rfl rfl rfl) T.cl_Machine (hr.mono (by decide)) (pv 0) (pa_cons (pv 1) (pa_cons (pv 2) pa_nil))) pe_int (fun _ _ => rfl)))), ?_⟩
    have w := Wf.id wf
    refine a_retE ?_
    refine e_op ?_
    refine e_mdS ?_
    refine e_val (v := v1) (val_var rfl) ?_
    obtain ⟨p1, dx1, fs1, ev1, ho1, lm1⟩ := me_3 (m := "walk") r1 w.f
    refine ⟨_, _, _, ev1, ho1, lm1, ?_⟩
    refine a_val (v := v2) (val_var rfl) ?_
    refine a_val (v := v3) (val_var rfl) ?_
    refine a_nil ?_
    refine ⟨F0, (v1), (self1), (v2), (rows1), (v3), (state1), _, _, rfl, w.f, r1, r2, r3, hW, ?_, ?_⟩
    · intro hW F1 H1 s1
      replace r1 := Rep.mono _ s1.g r1
      replace r2 := Rep.mono _ s1.g r2
      replace r3 := Rep.mono _ s1.g r3
      replace w := w.tr s1
      exact hE_BadMask hW _ _ w
    intro z1 hW l1 v4 F2 H2 s2 r4 x1
    replace x1 := x1.base w
    replace r1 := Rep.mono _ s2.g r1
    replace r2 := Rep.mono _ s2.g r2
    replace r3 := Rep.mono _ s2.g r3
    replace w := w.tr s2
    refine e_val (v := (.int ((1 : Nat) : Int))) val_c ?_
    obtain ⟨_, rfl, ix1⟩ := ix_2b (K := K) r4 w.f
    refine rv2 (z := (.int ((z1.2 : Nat) : Int))) (ix1 val_c val_c) ?_
    exact hQ _ hW _ _ w
abbrev s_need_state : Stmt := topS 14
def W_need_state (machine1 : Nat × List (Nat × Nat) × List (Nat × Nat)) (state1 : An) (E_BadMask : Prop) (R : Unit → Prop) : Prop := W_Machine_stores machine1 fun z1 => W_is_mask state1 z1 fun z2 => if z2 = true then (R ()) else (E_BadMask)
def sp_need_state (K : PySem.W.Frag) (cc : Cz) : Sp := fun vs H Q E => ∃ (F : Hp) (v1 : V) (machine1 : Nat × List (Nat × Nat) × List (Nat × Nat)) (v2 : V) (state1 : An) (E_BadMask : Prop) (R : Unit → Prop), vs = [v1, v2] ∧ Ex F H ∧ (pO3 cc.Machine "inputs" "nexts" "outs" pN (pTL (pT2 pN pN)) (pTL (pT2 pN pN))).r F v1 machine1 ∧ pA.r F v2 state1 ∧ W_need_state machine1 state1 E_BadMask R ∧ (E_BadMask → ∀ F' H', Wf F H F' H' → E (.ref cc.BadMask) none H') ∧ ∀ z, R z → ∀ F' H', Wf F H F' H' → Q .non H'
abbrev N_need_state : List Str := ["machine", "state"]
theorem sc_need_state : FnScope N_need_state ["machine", "state"] (defScope s_need_state) := ⟨rfl, rfl, rfl, by decide +kernel, rfl, by decide +kernel, by decide +kernel⟩
theorem ok_need_state {P : Program} {w0 : World} {K : PySem.W.Frag} {mg : Str → Option Value} {base : Heap} {f : Addr} {fd : FuncData} {cc : Cz} (T : Tz K mg cc) (FU : Fun K "need_state" "need_state" s_need_state f fd) (hm : mg "need_state" = some (.ref f)) (hb : Binds K fd ["machine", "state"] []) (c_Machine_stores : Md P w0 K mg base CX0 1 cc.Machine "stores" ["self"] (sp_Machine_stores K cc)) (c_is_mask : Fn P w0 K mg base CX0 2 "is_mask" ["thing", "width"] (sp_is_mask K cc)) : Fn P w0 K mg base (L2.CX P w0) 3 "need_state" ["machine", "state"] (sp_need_state K cc) := by
  refine ⟨f, fd, FU.okX sc_need_state (fun vs H Q E h => ?_) (fun cdv A outer s H0 vs Q E hr h => ?_), hm, FU.kp, hb⟩
  · obtain ⟨_, _, _, _, _, _, _, rfl, _⟩ := h; rfl
  · obtain ⟨F0, v1, machine1, v2, state1, E_BadMask, R, rfl, wf, r1, r2, hW, hE_BadMask, hQ⟩ := h
    have nd := sc_need_state.nd
    refine ⟨(tIfS (tNot (tB (tCall (sp_is_mask K cc) [] E0 (tCons (tVar 1) (tCons (tMeth cc.Machine "stores" (sp_Machine_stores K cc) [] E0 (tVar 0) tNil) tNil))))) (tRaise (fun cls d _ H => E cls d H) cc.BadMask) tNext), (pss_one (ps_if (pt_not (pt_val (pe_fn c_is_mask (hr.mono (by decide)) rfl (pa_cons (pv 1) (pa_cons (pe_md0 c_Machine_stores T.cl_Machine (hr.mono (by decide)) (pv 0)) pa_nil))))) (pss_one (ps_raise (W := (fun cls d _ H => E cls d H)) rfl (takes_of rfl rfl rfl rfl) (pmk_own PySem.F.excBase_ValueError T.xc_BadMask.x T.xc_BadMask.g T.xc_BadMask.k (raises_own T.xc_BadMask.b T.xc_BadMask.t) (by exact rfl)))) pss_nil)), ?_⟩
    have w := Wf.id wf
    refine a_ifE ?_
    refine e_tNot ?_
    refine e_tB ?_
    refine e_call ?_
    refine a_val (v := v2) (val_var rfl) ?_
    refine a_cons ?_
    refine e_md ?_
    refine e_val (v := v1) (val_var rfl) ?_
    obtain ⟨p1, dx1, fs1, ev1, ho1, lm1⟩ := me_3 (m := "stores") r1 w.f
    refine ⟨_, _, _, ev1, ho1, lm1, ?_⟩
    refine a_nil ?_
    refine ⟨F0, (v1), (machine1), _, rfl, w.f, r1, hW, ?_⟩
    intro z1 hW F1 H1 s1
    replace r1 := Rep.mono _ s1.g r1
    replace r2 := Rep.mono _ s1.g r2
    replace w := w.tr s1
    refine a_nil ?_
    refine ⟨F1, (v2), (state1), (z1), _, rfl, w.f, r2, hW, ?_⟩
    intro z2 hW F2 H2 s2
    replace r1 := Rep.mono _ s2.g r1
    replace r2 := Rep.mono _ s2.g r2
    replace w := w.tr s2
    refine bl_v ?_
    refine bb_ifn (fun hc1 => ?_) (fun hc1 => ?_)
    · have hW := ifP hW hc1
      exact hQ _ hW _ _ w
    · have hW := ifN hW hc1
      refine a_raise ?_
      exact hE_BadMask hW _ _ w
abbrev s_closed : Stmt := topS 15
def W_closed (first1 : Nat) (wl : Nat → (Nat → Prop) → Prop) (R : (List Nat × List (List Nat)) → Prop) : Prop := whileW (fun (masks1, sums1) T => T (decide (sums1.length < masks1.length))) (fun (masks1, sums1) nx1 bk1 => ∃ x5, masks1.getLast? = some x5 ∧ wl x5 fun z1 => W_sum_for masks1 z1 fun z2 => jn (fun kk => if z2.1 = (PySem.Str.ofString "no") then ((masks1.length < 1000000) ∧ kk ([masks1.length], masks1 ++ [z1])) else (∃ y1, z2.2 = Sum.inl y1 ∧ kk (y1, masks1))) fun (found2, masks2) => (sums1.length < 1000000) ∧ nx1 (masks2, sums1 ++ [found2])) ([first1], ([] : List (List Nat))) fun (masks1, sums1) => R (masks1, sums1)
def TT_closed (K : PySem.W.Frag) (cc : Cz) (q : Str) (tl : V → Hp → VK → Prop) (v0 : V) (c : Addr) (H : Hp) (Q : VK) : Prop := ∃ (F : Hp) (first1 : Nat) (wl : Nat → (Nat → Prop) → Prop) (R : (List Nat × List (List Nat)) → Prop), v0 = (.int ((first1 : Nat) : Int)) ∧ Ex F H ∧ F c = some (LamX.CodeO c q) ∧ (∀ F' H' x k Q', Ex F F' → Ex F' H' → wl x k → (∀ z, k z → ∀ F2 H2, Wf F' H' F2 H2 → Q' (.int ((z : Nat) : Int)) H2) → tl (.int ((x : Nat) : Int)) H' Q') ∧ W_closed first1 wl R ∧ (∀ z, R z → ∀ v F' H', Wf F H F' H' → (pT2 (pL pN) (pL (pL pN))).r F' v z → Q v H')
abbrev N_closed : List Str := ["first", "following", "masks", "sums", "later", "word", "found"]
theorem sc_closed : FnScope N_closed ["first", "following"] (defScope s_closed) := ⟨rfl, rfl, rfl, by decide +kernel, rfl, by decide +kernel, by decide +kernel⟩
theorem ok_closed {P : Program} {w0 : World} {K : PySem.W.Frag} {mg : Str → Option Value} {base : Heap} {f : Addr} {fd : FuncData} {cc : Cz} (T : Tz K mg cc) (FU : Fun K "closed" "closed" s_closed f fd) (hm : mg "closed" = some (.ref f)) (hb : Binds K fd ["first", "following"] []) (c_sum_for : Fn P w0 K mg base CX0 4 "sum_for" ["rows", "wish"] (sp_sum_for K cc)) (n_len : mg "len" = none) : Lm P w0 K mg base 7 "closed" "first" "following" (TT_closed K cc) := by
  refine ⟨_, f, fd, N_closed, FU, hm, hb, sc_closed, rfl, .inl rfl, fun A stack q f c cdv s H0 Q v0 tl hr hact h => ?_⟩
  obtain ⟨F0, first1, wl, R, rfl, wf, hc, hlam, hW, hQ⟩ := h
  have nd := sc_closed.nd
  refine ⟨(tSeq (tAsg (tLst (tCons (tVar 0) tNil)) (gName 2)) (tSeq (tAsg (tLst tNil) (gName 3)) (tSeq (tWhile (tTest (tOp kLt (tCB (Wk.rLen K) (tCons (tVar 3) tNil)) (tCB (Wk.rLen K) (tCons (tVar 2) tNil)))) (tSeq (tAsg (tAct 1 f c q (tOp (L2.rIxL K) (tVar 2) (tUn kNeg (tC (.int 1)))) tl) (gName 4)) (tSeq (tAsg (tCall (sp_sum_for K cc) [] E0 (tCons (tVar 2) (tCons (tVar 4) tNil))) (gTup K 2 (gCons (gName 5) (gCons (gName 6) gNil)))) (tSeq (tIfS (tTest (tOp L2.rEq (tVar 5) (tC (.str (PySem.Str.ofString "no"))))) (tSeq (tAsg (tLst (tCons (tCB (Wk.rLen K) (tCons (tVar 2) tNil)) tNil)) (gName 6)) (tDrop (tBM K "list" rAppend (tVar 2) (tCons (tVar 4) tNil)))) tNext) (tDrop (tBM K "list" rAppend (tVar 3) (tCons (tVar 6) tNil))))))) (tRet (tTup (tCons (tVar 2) (tCons (tVar 3) tNil))))))), (pss_cons (ps_set (i := 2) nd rfl (Or.inl rfl) (pe_lst (pa_cons (pv 0) pa_nil))) (pss_cons (ps_set (i := 3) nd rfl (Or.inl rfl) (pe_lst pa_nil)) (pss_cons (ps_while PassesOwn.never (pt_cmpR op_lt (pe_callB call_len_seq (by rfl) n_len PySem.boot_len (pa_cons (pv 3) pa_nil)) (pe_callB call_len_seq (by rfl) n_len PySem.boot_len (pa_cons (pv 2) pa_nil)) (nomark _)) (pss_cons (ps_set (i := 4) nd rfl (Or.inl rfl) (hact _ _ _ _ (pe_ix ix_list (pv 2) (pe_un un_neg pe_int) (fun _ _ => rfl)) rfl)) (pss_cons (ps_asg (pe_fn c_sum_for (hr.mono (by decide)) rfl (pa_cons (pv 2) (pa_cons (pv 4) pa_nil))) (pg_tup rfl (pgs_cons (pg_name (i := 5) nd rfl (Or.inl rfl)) (pgs_cons (pg_name (i := 6) nd rfl (Or.inl rfl)) pgs_nil)) (by rfl))) (pss_cons (ps_if (pt_cmpR op_eq (pv 5) pe_str (nomark _)) (pss_cons (ps_set (i := 6) nd rfl (Or.inl rfl) (pe_lst (pa_cons (pe_callB call_len_seq (by rfl) n_len PySem.boot_len (pa_cons (pv 2) pa_nil)) pa_nil))) (pss_one (ps_expr (pe_bm PySem.F.plainAttrs_list PySem.F.slot_list_append PySem.F.type_list_append mt_append (pv 2) (pa_cons (pv 4) pa_nil))))) pss_nil) (pss_one (ps_expr (pe_bm PySem.F.plainAttrs_list PySem.F.slot_list_append PySem.F.type_list_append mt_append (pv 3) (pa_cons (pv 6) pa_nil)))))))) (pss_one (ps_ret (pe_tup (pa_cons (pv 2) (pa_cons (pv 3) pa_nil)))))))), ?_⟩
  · have w := Wf.id wf
    refine q_sq fun N1 hN1 => ?_
    refine a_asgE ?_
    refine e_lst ?_
    refine a_val (v := (.int ((first1 : Nat) : Int))) (val_var rfl) ?_
    refine a_nil ?_
    refine n_lstX (e := pN) (xs := [first1]) (vs := [(.int ((first1 : Nat) : Int))]) (show All pN _ [(.int ((first1 : Nat) : Int))] [first1] from ⟨rfl, trivial⟩) (show 1 < 1000000 from by decide) w ?_
    intro p1 H1 hp1 s1 x1
    replace w := w.tr s1
    refine hN1 _ _ ?_
    refine q_sq fun N2 hN2 => ?_
    refine a_asgE ?_
    refine e_lst ?_
    refine a_nil ?_
    refine n_lstX (e := (pL pN)) (xs := []) (vs := []) (show All (pL pN) _ [] [] from trivial) (show 0 < 1000000 from by decide) w ?_
    intro p2 H2 hp2 s2 x2
    have ne1 := x1.ne hp2
    replace x1 := x1.step s2
    replace w := w.tr s2
    refine hN2 _ _ ?_
    refine q_sq fun N3 hN3 => ?_
    refine w_while (S := List Nat × List (List Nat)) (fun s σ' F' H' => match s with | (masks1, sums1) => ∃ (o1 : Option V) (o2 : Option V) (o3 : Option V), Wf F0 H0 F' H' ∧ Ex F0 F' ∧ σ' = [some (.int ((first1 : Nat) : Int)), some (.ref f), some ((.ref p1)), some ((.ref p2)), o1, o2, o3] ∧ XL pN H0 F' H' p1 masks1 ∧ XL (pL pN) H0 F' H' p2 sums1) hW ⟨_, _, _, w, Ex.rfl', rfl, x1, x2⟩ ?_ ?_ ?_
    · intro s3 σ' F1 H3 T1 Qc1 hI1 hW hT1
      obtain ⟨masks1, sums1⟩ := s3
      obtain ⟨o1, o2, o3, w, gx1, rfl, x3, x4⟩ := hI1
      refine e_ans (b := decide (sums1.length < masks1.length)) (t_of (vb_dec (c_lt (len_X x4 (val_var rfl)) (len_X x3 (val_var rfl))) n_lt)) ?_
      exact hT1 _ _ _ ⟨_, _, _, w, gx1, rfl, x3, x4⟩ hW
    · intro N4 Bk1 s4 σ' F2 H4 nx1 bk1 hI2 hW hN4 hB1
      obtain ⟨masks1, sums1⟩ := s4
      obtain ⟨o1, o2, o3, w, gx2, rfl, x3, x4⟩ := hI2
      refine q_sq fun N5 hN5 => ?_
      refine a_asgE ?_
      obtain ⟨x5, hx5_1, hW⟩ := hW
      obtain ⟨_, rfl, ix1⟩ := ix_Xm (K := K) x3 hx5_1
      refine e_act1 (F := F2) rfl (ix1 (val_var rfl) (v_neg val_c)) (w.g _ _ hc) w.f ?_
      refine hlam _ _ _ _ _ w.g w.f hW ?_
      intro z1 hW F3 H5 s5
      replace x3 := x3.step s5
      replace x4 := x4.step s5
      replace w := w.tr s5
      replace gx2 := Ex.tr gx2 s5.g
      refine hN5 _ _ ?_
      refine q_sq fun N6 hN6 => ?_
      refine a_asgG ?_
      refine e_call ?_
      refine a_val (v := (.ref p1)) (val_var rfl) ?_
      refine a_val (v := (.int ((z1 : Nat) : Int))) (val_var rfl) ?_
      refine a_nil ?_
      obtain ⟨Fl1, lf1, lg1, lr1⟩ := x3.lend w
      refine ⟨Fl1, ((.ref p1)), (masks1), (z1), _, rfl, lf1, lr1, hW, ?_⟩
      intro z2 hW v1 F4 H6 s6 fr1
      obtain ⟨F5, s7, r1⟩ := Fre.back w.f lg1 s6 fr1
      replace x3 := x3.step s7
      replace x4 := x4.step s7
      replace w := w.tr s7
      replace gx2 := Ex.tr gx2 s7.g
      obtain ⟨p3, u1, u2, rfl, h1, rfl, r2⟩ := r1
      refine ⟨p3, _, rfl, SqT.of (w.f _ _ h1), rfl, _, _, rfl, _, _, rfl, rfl, ?_⟩
      refine hN6 _ _ ?_
      refine q_jn (S := List Nat × List Nat) hW (fun s σ' F' H' => match s with | (found2, masks2) => ∃ (v2 : V), Wf F0 H0 F' H' ∧ Ex F5 F' ∧ σ' = [some (.int ((first1 : Nat) : Int)), some (.ref f), some ((.ref p1)), some (.ref p2), some (.int ((z1 : Nat) : Int)), some (.str (z2.1)), some v2] ∧ XL pN H0 F' H' p1 masks2 ∧ (pL pN).r F' v2 found2 ∧ XL (pL pN) H0 F' H' p2 sums1) ?_ ?_
      · intro N7 hN7 hW
        have gx3 : Ex F5 F5 := Ex.rfl'
        refine a_ifE ?_
        refine e_ans (b := decide (z2.1 = (PySem.Str.ofString "no"))) (t_of (c_eqS (val_var rfl) val_c)) ?_
        refine b_if (fun hc1 => ?_) (fun hc1 => ?_)
        · have hW := ifP hW hc1
          refine q_sq fun N8 hN8 => ?_
          refine a_asgE ?_
          refine e_lst ?_
          refine a_val (v := (.int ((masks1.length : Nat) : Int))) (len_X x3 (val_var rfl)) ?_
          refine a_nil ?_
          refine n_lstX (e := pN) (xs := [masks1.length]) (vs := [(.int ((masks1.length : Nat) : Int))]) (show All pN _ [(.int ((masks1.length : Nat) : Int))] [masks1.length] from ⟨rfl, trivial⟩) (show 1 < 1000000 from by decide) w ?_
          intro p4 H7 hp3 s8 x8
          have ne2 := x3.ne hp3
          have ne3 := x4.ne hp3
          replace x3 := x3.step s8
          replace x4 := x4.step s8
          replace r2 := Rep.mono _ s8.g r2
          replace w := w.tr s8
          replace gx3 := Ex.tr gx3 s8.g
          replace gx2 := Ex.tr gx2 s8.g
          obtain ⟨F6, w1, g1, r4, fz1⟩ := x8.frzE w
          replace x3 := x3.frzO fz1 ne2 g1
          replace x4 := x4.frzO fz1 ne3 g1
          replace r2 := Rep.mono _ g1 r2
          replace w := w1
          replace gx3 := Ex.tr gx3 g1
          replace gx2 := Ex.tr gx2 g1
          refine hN8 _ _ ?_
          refine a_dropE ?_
          refine m_list x3 (val_var rfl) ?_
          refine a_val (v := (.int ((z1 : Nat) : Int))) (val_var rfl) ?_
          refine a_nil ?_
          obtain ⟨c1, hW⟩ := hW
          refine a_app x3 w c1 rfl (fun H8 w2 x9 kp1 => ?_)
          replace x4 := x4.kept kp1 (Ne.symm ne1)
          replace w := w2
          exact hN7 ([masks1.length], masks1 ++ [z1]) _ _ _ ⟨_, w, gx3, rfl, x9, r4, x4⟩ hW
        · have hW := ifN hW hc1
          obtain ⟨y1, hy1, hW⟩ := hW
          have r5 := alt_l r2 hy1
          exact hN7 (y1, masks1) _ _ _ ⟨_, w, gx3, rfl, x3, r5, x4⟩ hW
      · intro s9 σ' F7 H9 hI3 hW
        obtain ⟨found2, masks2⟩ := s9
        obtain ⟨v2, w, gx4, rfl, x6, r3, x7⟩ := hI3
        have gx2 := Ex.tr gx2 gx4
        refine a_dropE ?_
        refine m_list x7 (val_var rfl) ?_
        refine a_val (v := v2) (val_var rfl) ?_
        refine a_nil ?_
        obtain ⟨c2, hW⟩ := hW
        refine a_app x7 w c2 r3 (fun H10 w3 x10 kp2 => ?_)
        replace x6 := x6.kept kp2 ne1
        replace w := w3
        exact hN4 (masks2, sums1 ++ [found2]) _ _ _ ⟨_, _, _, w, gx2, rfl, x6, x10⟩ hW
    · intro s10 σ' F8 H11 hI4 hW
      obtain ⟨masks1, sums1⟩ := s10
      obtain ⟨o1, o2, o3, w, gx5, rfl, x3, x4⟩ := hI4
      refine hN3 _ _ ?_
      refine a_retE ?_
      refine e_tup ?_
      refine a_val (v := (.ref p1)) (val_var rfl) ?_
      refine a_val (v := (.ref p2)) (val_var rfl) ?_
      refine a_nil ?_
      obtain ⟨F9, w4, g2, r6, fz2⟩ := x3.frzE w
      replace x4 := x4.frzO fz2 (Ne.symm ne1) g2
      replace w := w4
      replace gx5 := Ex.tr gx5 g2
      obtain ⟨F10, w5, g3, r7, fz3⟩ := x4.frzE w
      replace r6 := Rep.mono _ g3 r6
      replace w := w5
      replace gx5 := Ex.tr gx5 g3
      refine n_tup2 (e := (pL pN)) (f := (pL (pL pN))) (x := masks1) (y := sums1) r6 r7 w ?_
      intro p5 F11 H12 s11 r8
      replace r6 := Rep.mono _ s11.g r6
      replace r7 := Rep.mono _ s11.g r7
      replace w := w.tr s11
      replace gx5 := Ex.tr gx5 s11.g
      exact hQ _ hW _ _ _ w r8
abbrev s_first_bit : Stmt := topS 16
def W_first_bit (answer1 : Nat) (R : Nat → Prop) : Prop := W_bits_of answer1 fun z1 => ∃ x2, z1[0]? = some x2 ∧ R x2
def sp_first_bit (K : PySem.W.Frag) (cc : Cz) : Sp := fun vs H Q _ => ∃ (F : Hp) (answer1 : Nat) (R : Nat → Prop), vs = [(.int ((answer1 : Nat) : Int))] ∧ Ex F H ∧ W_first_bit answer1 R ∧ ∀ z, R z → ∀ F' H', Wf F H F' H' → Q (.int ((z : Nat) : Int)) H'
abbrev N_first_bit : List Str := ["answer"]
theorem sc_first_bit : FnScope N_first_bit ["answer"] (defScope s_first_bit) := ⟨rfl, rfl, rfl, by decide +kernel, rfl, by decide +kernel, by decide +kernel⟩
theorem ok_first_bit {P : Program} {w0 : World} {K : PySem.W.Frag} {mg : Str → Option Value} {base : Heap} {f : Addr} {fd : FuncData} {cc : Cz} (T : Tz K mg cc) (FU : Fun K "first_bit" "first_bit" s_first_bit f fd) (hm : mg "first_bit" = some (.ref f)) (hb : Binds K fd ["answer"] []) (c_bits_of : Fn P w0 K mg base CX0 1 "bits_of" ["mask"] (sp_bits_of K cc)) : Fn P w0 K mg base CX0 2 "first_bit" ["answer"] (sp_first_bit K cc) := by
  refine ⟨f, fd, FU.ok sc_first_bit (fun vs H Q E h => ?_) (fun cdv A outer s H0 vs Q E hr h => ?_), hm, FU.kp, hb⟩
  · obtain ⟨_, _, _, rfl, _⟩ := h; rfl
  · obtain ⟨F0, answer1, R, rfl, wf, hW, hQ⟩ := h
    have nd := sc_first_bit.nd
    refine ⟨(tRet (tOp (L2.rIxL K) (tCall (sp_bits_of K cc) [] E0 (tCons (tVar 0) tNil)) (tC (.int 0)))), (pss_one (ps_ret (pe_ix ix_list (pe_fn c_bits_of (hr.mono (by decide)) rfl (pa_cons (pv 0) pa_nil)) pe_int (fun _ _ => rfl)))), ?_⟩
    have w := Wf.id wf
    refine a_retE ?_
    refine e_op ?_
    refine e_call ?_
    refine a_val (v := (.int ((answer1 : Nat) : Int))) (val_var rfl) ?_
    refine a_nil ?_
    refine ⟨F0, (answer1), _, rfl, w.f, hW, ?_⟩
    intro z1 hW p1 F1 H1 s1 x1
    replace x1 := x1.base w
    replace w := w.tr s1
    refine e_val (v := (.int ((0 : Nat) : Int))) val_c ?_
    obtain ⟨x2, hx2_1, hW⟩ := hW
    obtain ⟨_, rfl, ix1⟩ := ix_X (K := K) x1 hx2_1
    refine rv2 (z := (.int ((x2 : Nat) : Int))) (ix1 val_c val_c) ?_
    exact hQ _ hW _ _ w
abbrev s_told_apart : Stmt := topS 17
def W_told_apart (machine1 : Nat × List (Nat × Nat) × List (Nat × Nat)) (one1 : Nat) (other1 : Nat) (R : (Sum (Str × Nat × Nat) (Str × List Nat × List (List Nat))) → Prop) : Prop := W_need_state machine1 (An.i ((one1 : Nat) : Int)) False fun z1 => W_need_state machine1 (An.i ((other1 : Nat) : Int)) False fun z2 => ∀ state1 : Nat, state1 = one1 ^^^ other1 → W_Machine_stores machine1 fun z3 => (z3 < 1000000) ∧ forW (List.range z3) state1 (fun turn1 state2 nx1 bk1 => W_Machine_step machine1 (An.i ((state2 : Nat) : Int)) (An.i ((0 : Nat) : Int)) False fun z4 => if z4.1 ≠ 0 then (W_first_bit z4.1 fun z5 => R (Sum.inl ((PySem.Str.ofString "apart"), turn1, z5))) else (nx1 z4.2)) fun state2 => if one1 = other1 then (R (Sum.inr ((PySem.Str.ofString "alike"), ([] : List Nat), ([] : List (List Nat))))) else (W_closed (one1 ^^^ other1) (fun mask1 k1 => W_Machine_after machine1 [(An.i ((0 : Nat) : Int))] (An.i ((mask1 : Nat) : Int)) False fun z7 => k1 z7) fun z8 => R (Sum.inr ((PySem.Str.ofString "alike"), z8.1, z8.2)))
def sp_told_apart (K : PySem.W.Frag) (cc : Cz) : Sp := fun vs H Q _ => ∃ (F : Hp) (v1 : V) (machine1 : Nat × List (Nat × Nat) × List (Nat × Nat)) (one1 : Nat) (other1 : Nat) (R : (Sum (Str × Nat × Nat) (Str × List Nat × List (List Nat))) → Prop), vs = [v1, (.int ((one1 : Nat) : Int)), (.int ((other1 : Nat) : Int))] ∧ Ex F H ∧ (pO3 cc.Machine "inputs" "nexts" "outs" pN (pTL (pT2 pN pN)) (pTL (pT2 pN pN))).r F v1 machine1 ∧ XT (woL H [cc.t_told_apart]) F H cc.t_told_apart (("told_apart" : Str) ++ (".<locals>." : Str) ++ ("<lambda>" : Str)) ∧ W_told_apart machine1 one1 other1 R ∧ ∀ z, R z → ∀ v F' H', Wf F (woL H [cc.t_told_apart]) F' H' → (pAlt (pT3 pS pN pN) (pT3 pS (pL pN) (pL (pL pN)))).r F' v z → XT (woL H [cc.t_told_apart]) F' H' cc.t_told_apart (("told_apart" : Str) ++ (".<locals>." : Str) ++ ("<lambda>" : Str)) → Q v H'
abbrev N_told_apart : List Str := ["machine", "one", "other", "state", "turn", "answer", "states", "sums"]
theorem sc_told_apart : FnScope N_told_apart ["machine", "one", "other"] (defScope s_told_apart) := ⟨rfl, rfl, rfl, by decide +kernel, rfl, by decide +kernel, by decide +kernel⟩
theorem ok_told_apart {P : Program} {w0 : World} {K : PySem.W.Frag} {mg : Str → Option Value} {base : Heap} {f : Addr} {fd : FuncData} {cc : Cz} (T : Tz K mg cc) (FU : Fun K "told_apart" "told_apart" s_told_apart f fd) (hm : mg "told_apart" = some (.ref f)) (hb : Binds K fd ["machine", "one", "other"] []) (c_need_state : Fn P w0 K mg base (L2.CX P w0) 3 "need_state" ["machine", "state"] (sp_need_state K cc)) (c_Machine_stores : Md P w0 K mg base CX0 1 cc.Machine "stores" ["self"] (sp_Machine_stores K cc)) (c_Machine_step : Md P w0 K mg base (L2.CX P w0) 4 cc.Machine "step" ["self", "state", "row"] (sp_Machine_step K cc)) (c_first_bit : Fn P w0 K mg base CX0 2 "first_bit" ["answer"] (sp_first_bit K cc)) (c_closed : Lm P w0 K mg base 7 "closed" "first" "following" (TT_closed K cc)) (c_Machine_after : MdD P w0 K mg base (L2.CX P w0) 6 cc.Machine "after" ["self", "rows", "state"] (sp_Machine_after K cc) [.int 0]) (n_range : mg "range" = none) {m : Addr} (hcode : fd.code = .ref m) (tB : LamX.TabB base mg m cc.t_told_apart) : Fn P w0 K mg base CX0 9 "told_apart" ["machine", "one", "other"] (sp_told_apart K cc) := by
  refine ⟨f, fd, okC_0 FU hcode sc_told_apart (fun vs H Q E h => ?_) (fun cdv A outer s H0 vs Q E hcd hr h => ?_), hm, FU.kp, hb⟩
  · obtain ⟨_, _, _, _, _, _, rfl, _⟩ := h; rfl
  · obtain ⟨F0, v1, machine1, one1, other1, R, rfl, wf, r1, xt_told_apart, hW, hQ⟩ := h
    have nd := sc_told_apart.nd
    refine ⟨(tSeq (tDrop (tCall (sp_need_state K cc) [] E0 (tCons (tVar 0) (tCons (tVar 1) tNil)))) (tSeq (tDrop (tCall (sp_need_state K cc) [] E0 (tCons (tVar 0) (tCons (tVar 2) tNil)))) (tSeq (tAsg (tOp kXor (tVar 1) (tVar 2)) (gName 3)) (tSeq (tFor (iRng1 (tCons (tMeth cc.Machine "stores" (sp_Machine_stores K cc) [] E0 (tVar 0) tNil) tNil)) (gName 4) (tSeq (tAsg (tMeth cc.Machine "step" (sp_Machine_step K cc) [] E0 (tVar 0) (tCons (tVar 3) (tCons (tC (.int 0)) tNil))) (gTup K 2 (gCons (gName 5) (gCons (gName 3) gNil)))) (tIfS (tTest (tOp L2.rNe (tVar 5) (tC (.int 0)))) (tRet (tTup (tCons (tC (.str (PySem.Str.ofString "apart"))) (tCons (tVar 4) (tCons (tCall (sp_first_bit K cc) [] E0 (tCons (tVar 5) tNil)) tNil))))) tNext))) (tSeq (tIfS (tTest (tOp L2.rEq (tVar 1) (tVar 2))) (tRet (tTup (tCons (tC (.str (PySem.Str.ofString "alike"))) (tCons (tLst tNil) (tCons (tLst tNil) tNil))))) tNext) (tSeq (tAsg (tLam1 cc.t_told_apart (("told_apart" : Str) ++ (".<locals>." : Str) ++ ("<lambda>" : Str)) (TT_closed K cc (("told_apart" : Str) ++ (".<locals>." : Str) ++ ("<lambda>" : Str))) (tOp kXor (tVar 1) (tVar 2)) (fun σ v H Q => (tMeth cc.Machine "after" (sp_Machine_after K cc) [] E0 (tVar 1) (tCons (tLst (tCons (tC (.int 0)) tNil)) (tCons (tVar 0) tNil))) (some v :: capS σ [0]) H Q)) (gTup K 2 (gCons (gName 6) (gCons (gName 7) gNil)))) (tRet (tTup (tCons (tC (.str (PySem.Str.ofString "alike"))) (tCons (tVar 6) (tCons (tVar 7) tNil))))))))))), (pss_cons (ps_expr (pe_fnL c_need_state (hr.mono (by decide)) rfl (pa_cons (pv 0) (pa_cons (pv 1) pa_nil)))) (pss_cons (ps_expr (pe_fnL c_need_state (hr.mono (by decide)) rfl (pa_cons (pv 0) (pa_cons (pv 2) pa_nil)))) (pss_cons (ps_set (i := 3) nd rfl (Or.inl rfl) (pe_op op_xor (pv 1) (pv 2))) (pss_cons (ps_for PassesOwn.never rfl (pi_range1 rfl n_range (pa_cons (pe_md0 c_Machine_stores T.cl_Machine (hr.mono (by decide)) (pv 0)) pa_nil)) (pg_name (i := 4) nd rfl (Or.inl rfl)) (pss_cons (ps_asg (pe_mdL c_Machine_step T.cl_Machine (hr.mono (by decide)) (pv 0) (pa_cons (pv 3) (pa_cons pe_int pa_nil))) (pg_tup rfl (pgs_cons (pg_name (i := 5) nd rfl (Or.inl rfl)) (pgs_cons (pg_name (i := 3) nd rfl (Or.inl rfl)) pgs_nil)) (by rfl))) (pss_one (ps_if (pt_cmpR op_ne (pv 5) pe_int (nomark _)) (pss_one (ps_ret (pe_tup (pa_cons pe_str (pa_cons (pv 4) (pa_cons (pe_fn c_first_bit (hr.mono (by decide)) rfl (pa_cons (pv 5) pa_nil)) pa_nil)))))) pss_nil)))) (pss_cons (ps_if (pt_cmpR op_eq (pv 1) (pv 2) (nomark _)) (pss_one (ps_ret (pe_tup (pa_cons pe_str (pa_cons (pe_lst pa_nil) (pa_cons (pe_lst pa_nil) pa_nil)))))) pss_nil) (pss_cons (ps_asg (pe_lamcall1 (P := cc.t_told_apart) (q := (("told_apart" : Str) ++ (".<locals>." : Str))) (te0 := (tOp kXor (tVar 1) (tVar 2))) (tb := (tMeth cc.Machine "after" (sp_Machine_after K cc) [] E0 (tVar 1) (tCons (tLst (tCons (tC (.int 0)) tNil)) (tCons (tVar 0) tNil)))) (TT := TT_closed K cc) (kl := 6) (is_ := [0]) (cs := ["machine"]) c_closed (hr.mono (by decide)) rfl tB hcd (lamS1_by (by kernel_rfl)) (caps_by (by kernel_rfl)) rfl rfl (fun _ _ _ _ _ _ => rfl) (pe_op op_xor (pv 1) (pv 2)) (by decide) (fun _ _ _ _ _ _ hr => (pe_mdL c_Machine_after.full T.cl_Machine (hr.mono (by decide)) (pv 1) (pa_cons (pe_lst (pa_cons pe_int pa_nil)) (pa_cons (pv 0) pa_nil)))) rfl qual_nox) (pg_tup rfl (pgs_cons (pg_name (i := 6) nd rfl (Or.inl rfl)) (pgs_cons (pg_name (i := 7) nd rfl (Or.inl rfl)) pgs_nil)) (by rfl))) (pss_one (ps_ret (pe_tup (pa_cons pe_str (pa_cons (pv 6) (pa_cons (pv 7) pa_nil)))))))))))), ?_⟩
    have w := Wf.startL (L := [cc.t_told_apart]) wf (allL1 xt_told_apart.nF)
    generalize hH0 : woL H0 [cc.t_told_apart] = Hb at w hQ xt_told_apart
    refine q_sq fun N1 hN1 => ?_
    refine a_dropE ?_
    refine e_call ?_
    refine a_val (v := v1) (val_var rfl) ?_
    refine a_val (v := (.int ((one1 : Nat) : Int))) (val_var rfl) ?_
    refine a_nil ?_
    refine ⟨F0, (v1), (machine1), ((.int ((one1 : Nat) : Int))), ((An.i ((one1 : Nat) : Int))), _, _, rfl, w.f, r1, (show pA.r _ (.int ((one1 : Nat) : Int)) (An.i ((one1 : Nat) : Int)) from rfl), hW, ?_, ?_⟩
    · intro hW; exact hW.elim
    intro z1 hW F1 H1 s1
    replace r1 := Rep.mono _ s1.g r1
    replace xt_told_apart := xt_told_apart.step s1
    replace w := w.tr s1
    refine hN1 _ _ ?_
    refine q_sq fun N2 hN2 => ?_
    refine a_dropE ?_
    refine e_call ?_
    refine a_val (v := v1) (val_var rfl) ?_
    refine a_val (v := (.int ((other1 : Nat) : Int))) (val_var rfl) ?_
    refine a_nil ?_
    refine ⟨F1, (v1), (machine1), ((.int ((other1 : Nat) : Int))), ((An.i ((other1 : Nat) : Int))), _, _, rfl, w.f, r1, (show pA.r _ (.int ((other1 : Nat) : Int)) (An.i ((other1 : Nat) : Int)) from rfl), hW, ?_, ?_⟩
    · intro hW; exact hW.elim
    intro z2 hW F2 H2 s2
    replace r1 := Rep.mono _ s2.g r1
    replace xt_told_apart := xt_told_apart.step s2
    replace w := w.tr s2
    refine hN2 _ _ ?_
    refine q_sq fun N3 hN3 => ?_
    obtain ⟨state1, estate1⟩ : ∃ state1 : Nat, state1 = one1 ^^^ other1 := ⟨_, rfl⟩
    replace hW := hW state1 estate1
    refine a_asg (v := (.int ((state1 : Nat) : Int))) (v_eq (vn_xor (val_var rfl) (val_var rfl)) (by rw [estate1])) ?_
    refine hN3 _ _ ?_
    refine q_sq fun N4 hN4 => ?_
    refine f_RE ?_
    refine e_md ?_
    refine e_val (v := v1) (val_var rfl) ?_
    obtain ⟨p1, dx1, fs1, ev1, ho1, lm1⟩ := me_3 (m := "stores") r1 w.f
    refine ⟨_, _, _, ev1, ho1, lm1, ?_⟩
    refine a_nil ?_
    refine ⟨F2, (v1), (machine1), _, rfl, w.f, r1, hW, ?_⟩
    intro z3 hW F3 H3 s3
    replace r1 := Rep.mono _ s3.g r1
    replace xt_told_apart := xt_told_apart.step s3
    replace w := w.tr s3
    obtain ⟨c1, hW⟩ := hW
    refine w_forR (S := Nat) (fun state2 σ' F' H' => ∃ (o1 : Option V) (o2 : Option V), Wf F0 Hb F' H' ∧ Ex F3 F' ∧ σ' = [some v1, some (.int ((one1 : Nat) : Int)), some (.int ((other1 : Nat) : Int)), some (.int ((state2 : Nat) : Int)), o1, o2, none, none] ∧ XT Hb F' H' cc.t_told_apart (("told_apart" : Str) ++ (".<locals>." : Str) ++ ("<lambda>" : Str))) c1 hW ⟨_, _, w, Ex.rfl', rfl, xt_told_apart⟩ ?_ ?_
    · intro N5 Bk1 turn1 state2 σ' F4 H4 nx1 bk1 hI1 hx1 hW hN5 hB1
      obtain ⟨o1, o2, w, gx1, rfl, x1⟩ := hI1
      have r1 := Rep.mono _ gx1 r1
      refine g_name ?_
      refine q_sq fun N6 hN6 => ?_
      refine a_asgG ?_
      refine e_md ?_
      refine e_val (v := v1) (val_var rfl) ?_
      obtain ⟨p2, dx2, fs2, ev2, ho2, lm2⟩ := me_3 (m := "step") r1 w.f
      refine ⟨_, _, _, ev2, ho2, lm2, ?_⟩
      refine a_val (v := (.int ((state2 : Nat) : Int))) (val_var rfl) ?_
      refine a_val (v := (.int ((0 : Nat) : Int))) val_c ?_
      refine a_nil ?_
      refine ⟨F4, (v1), (machine1), ((.int ((state2 : Nat) : Int))), ((An.i ((state2 : Nat) : Int))), ((.int ((0 : Nat) : Int))), ((An.i ((0 : Nat) : Int))), _, _, rfl, w.f, r1, (show pA.r _ (.int ((state2 : Nat) : Int)) (An.i ((state2 : Nat) : Int)) from rfl), (show pA.r _ (.int ((0 : Nat) : Int)) (An.i ((0 : Nat) : Int)) from rfl), hW, ?_, ?_⟩
      · intro hW; exact hW.elim
      intro z4 hW v2 F5 H5 s5 r2
      replace r1 := Rep.mono _ s5.g r1
      replace x1 := x1.step s5
      replace w := w.tr s5
      replace gx1 := Ex.tr gx1 s5.g
      obtain ⟨p3, u2, u3, rfl, h1, rfl, rfl⟩ := r2
      refine ⟨p3, _, rfl, SqT.of (w.f _ _ h1), rfl, _, _, rfl, _, _, rfl, rfl, ?_⟩
      refine hN6 _ _ ?_
      refine a_ifE ?_
      refine e_ans (b := decide (z4.1 ≠ 0)) (t_of (vb_dec (c_neI (val_var rfl) val_c) n_ne)) ?_
      refine b_if (fun hc1 => ?_) (fun hc1 => ?_)
      · have hW := ifP hW hc1
        refine a_retE ?_
        refine e_tup ?_
        refine a_val (v := (.str ((PySem.Str.ofString "apart")))) val_c ?_
        refine a_val (v := (.int ((turn1 : Nat) : Int))) (val_var rfl) ?_
        refine a_cons ?_
        refine e_call ?_
        refine a_val (v := (.int ((z4.1 : Nat) : Int))) (val_var rfl) ?_
        refine a_nil ?_
        refine ⟨F5, (z4.1), _, rfl, w.f, hW, ?_⟩
        intro z5 hW F6 H6 s6
        replace r1 := Rep.mono _ s6.g r1
        replace x1 := x1.step s6
        replace w := w.tr s6
        replace gx1 := Ex.tr gx1 s6.g
        refine a_nil ?_
        refine n_tup3 (e := pS) (f := pN) (g := pN) (x := (PySem.Str.ofString "apart")) (y := turn1) (z := z5) rfl rfl rfl w ?_
        intro p4 F7 H7 s7 r3
        replace r1 := Rep.mono _ s7.g r1
        replace x1 := x1.step s7
        replace w := w.tr s7
        replace gx1 := Ex.tr gx1 s7.g
        exact hQ (Sum.inl ((PySem.Str.ofString "apart"), turn1, z5)) hW _ _ _ w r3 x1
      · have hW := ifN hW hc1
        exact hN5 z4.2 _ _ _ ⟨_, _, w, gx1, rfl, x1⟩ hW
    · intro state2 σ' F8 H8 hI2 hW
      obtain ⟨o1, o2, w, gx2, rfl, x1⟩ := hI2
      have r1 := Rep.mono _ gx2 r1
      refine hN4 _ _ ?_
      refine q_sq fun N7 hN7 => ?_
      refine a_ifE ?_
      refine e_ans (b := decide (one1 = other1)) (t_of (vb_dec (c_eqI (val_var rfl) (val_var rfl)) n_eq)) ?_
      refine b_if (fun hc2 => ?_) (fun hc2 => ?_)
      · have hW := ifP hW hc2
        refine a_retE ?_
        refine e_tup ?_
        refine a_val (v := (.str ((PySem.Str.ofString "alike")))) val_c ?_
        refine a_cons ?_
        refine e_lst ?_
        refine a_nil ?_
        refine n_lstX (e := pN) (xs := []) (vs := []) (show All pN _ [] [] from trivial) (show 0 < 1000000 from by decide) w ?_
        intro p5 H9 hp1 s9 x2
        have ne1 := x1.ne hp1
        replace r1 := Rep.mono _ s9.g r1
        replace x1 := x1.step s9
        replace w := w.tr s9
        replace gx2 := Ex.tr gx2 s9.g
        refine a_cons ?_
        refine e_lst ?_
        refine a_nil ?_
        refine n_lstX (e := (pL pN)) (xs := []) (vs := []) (show All (pL pN) _ [] [] from trivial) (show 0 < 1000000 from by decide) w ?_
        intro p6 H10 hp2 s10 x3
        have ne2 := x1.ne hp2
        have ne3 := x2.ne hp2
        replace r1 := Rep.mono _ s10.g r1
        replace x1 := x1.step s10
        replace x2 := x2.step s10
        replace w := w.tr s10
        replace gx2 := Ex.tr gx2 s10.g
        refine a_nil ?_
        obtain ⟨F9, w1, g1, r4, fz1⟩ := x2.frzE w
        replace r1 := Rep.mono _ g1 r1
        replace x1 := x1.frzO fz1 ne1 g1
        replace x3 := x3.frzO fz1 (Ne.symm ne3) g1
        replace w := w1
        replace gx2 := Ex.tr gx2 g1
        obtain ⟨F10, w2, g2, r5, fz2⟩ := x3.frzE w
        replace r1 := Rep.mono _ g2 r1
        replace x1 := x1.frzO fz2 ne2 g2
        replace r4 := Rep.mono _ g2 r4
        replace w := w2
        replace gx2 := Ex.tr gx2 g2
        refine n_tup3 (e := pS) (f := (pL pN)) (g := (pL (pL pN))) (x := (PySem.Str.ofString "alike")) (y := ([] : List Nat)) (z := ([] : List (List Nat))) rfl r4 r5 w ?_
        intro p7 F11 H11 s11 r6
        replace r1 := Rep.mono _ s11.g r1
        replace x1 := x1.step s11
        replace r4 := Rep.mono _ s11.g r4
        replace r5 := Rep.mono _ s11.g r5
        replace w := w.tr s11
        replace gx2 := Ex.tr gx2 s11.g
        exact hQ (Sum.inr ((PySem.Str.ofString "alike"), ([] : List Nat), ([] : List (List Nat)))) hW _ _ _ w r6 x1
      · have hW := ifN hW hc2
        refine hN7 _ _ ?_
        refine q_sq fun N8 hN8 => ?_
        refine a_asgG ?_
        refine t_lam1 x1 w (vn_xor (val_var rfl) (val_var rfl)) (fun c2 F12 H12 s12 x4 hc3 => ?_)
        have z6 := x1.zero
        replace w := w.mcall (L := [cc.t_told_apart]) (allL1 z6) s12 (allL1 x4.nF)
        replace r1 := Rep.mono _ s12.g r1
        replace gx2 := Ex.tr gx2 s12.g
        replace x4 := XT.fromL x4 z6
        refine ⟨F12, (one1 ^^^ other1), _, _, rfl, w.f, hc3, ?_, hW, ?_⟩
        · intro F13 H13 mask1 k1 Q1 g3 f1 hW hk1
          have r1 := Rep.mono _ g3 r1
          have w := Wf.id f1
          refine e_md ?_
          refine e_val (v := v1) (val_var rfl) ?_
          obtain ⟨p8, dx3, fs3, ev3, ho3, lm3⟩ := me_3 (m := "after") r1 w.f
          refine ⟨_, _, _, ev3, ho3, lm3, ?_⟩
          refine a_cons ?_
          refine e_lst ?_
          refine a_val (v := (.int ((0 : Nat) : Int))) val_c ?_
          refine a_nil ?_
          refine n_lstX (e := pA) (xs := [(An.i ((0 : Nat) : Int))]) (vs := [(.int ((0 : Nat) : Int))]) (show All pA _ [(.int ((0 : Nat) : Int))] [(An.i ((0 : Nat) : Int))] from ⟨(show pA.r _ (.int ((0 : Nat) : Int)) (An.i ((0 : Nat) : Int)) from rfl), trivial⟩) (show 1 < 1000000 from by decide) w ?_
          intro p9 H14 hp3 s13 x5
          replace r1 := Rep.mono _ s13.g r1
          replace w := w.tr s13
          refine a_val (v := (.int ((mask1 : Nat) : Int))) (val_var rfl) ?_
          refine a_nil ?_
          obtain ⟨F14, w3, g4, r7, fz3⟩ := x5.frzE w
          replace r1 := Rep.mono _ g4 r1
          replace w := w3
          refine ⟨F14, (v1), (machine1), ((.ref p9)), ([(An.i ((0 : Nat) : Int))]), ((.int ((mask1 : Nat) : Int))), ((An.i ((mask1 : Nat) : Int))), _, _, rfl, w.f, r1, r7, (show pA.r _ (.int ((mask1 : Nat) : Int)) (An.i ((mask1 : Nat) : Int)) from rfl), hW, ?_, ?_⟩
          · intro hW; exact hW.elim
          intro z7 hW F15 H15 s14
          replace r1 := Rep.mono _ s14.g r1
          replace r7 := Rep.mono _ s14.g r7
          replace w := w.tr s14
          exact hk1 _ hW _ _ w
        intro z8 hW v3 F16 H16 s15 r8
        replace r1 := Rep.mono _ s15.g r1
        replace x4 := x4.step s15
        replace w := w.tr s15
        replace gx2 := Ex.tr gx2 s15.g
        obtain ⟨p10, u4, u5, rfl, h2, r9, r10⟩ := r8
        refine ⟨p10, _, rfl, SqT.of (w.f _ _ h2), rfl, _, _, rfl, _, _, rfl, rfl, ?_⟩
        refine hN8 _ _ ?_
        refine a_retE ?_
        refine e_tup ?_
        refine a_val (v := (.str ((PySem.Str.ofString "alike")))) val_c ?_
        refine a_val (v := u4) (val_var rfl) ?_
        refine a_val (v := u5) (val_var rfl) ?_
        refine a_nil ?_
        refine n_tup3 (e := pS) (f := (pL pN)) (g := (pL (pL pN))) (x := (PySem.Str.ofString "alike")) (y := z8.1) (z := z8.2) rfl r9 r10 w ?_
        intro p11 F17 H17 s16 r11
        replace r1 := Rep.mono _ s16.g r1
        replace x4 := x4.step s16
        replace r9 := Rep.mono _ s16.g r9
        replace r10 := Rep.mono _ s16.g r10
        replace w := w.tr s16
        replace gx2 := Ex.tr gx2 s16.g
        exact hQ (Sum.inr ((PySem.Str.ofString "alike"), z8.1, z8.2)) hW _ _ _ w r11 x4
abbrev s_told_apart_bad : Stmt := topS 17
def W_told_apart_bad (machine1 : Nat × List (Nat × Nat) × List (Nat × Nat)) (one1 : An) (other1 : An) (E_BadMask : Prop) (R : (Sum (Str × Nat × Nat) (Str × List Nat × List (List Nat))) → Prop) : Prop := W_need_state machine1 one1 (E_BadMask) fun z1 => W_need_state machine1 other1 (E_BadMask) fun z2 => False
def sp_told_apart_bad (K : PySem.W.Frag) (cc : Cz) : Sp := fun vs H Q E => ∃ (F : Hp) (v1 : V) (machine1 : Nat × List (Nat × Nat) × List (Nat × Nat)) (v2 : V) (one1 : An) (v3 : V) (other1 : An) (E_BadMask : Prop) (R : (Sum (Str × Nat × Nat) (Str × List Nat × List (List Nat))) → Prop), vs = [v1, v2, v3] ∧ Ex F H ∧ (pO3 cc.Machine "inputs" "nexts" "outs" pN (pTL (pT2 pN pN)) (pTL (pT2 pN pN))).r F v1 machine1 ∧ pA.r F v2 one1 ∧ pA.r F v3 other1 ∧ W_told_apart_bad machine1 one1 other1 E_BadMask R ∧ (E_BadMask → ∀ F' H', Wf F H F' H' → E (.ref cc.BadMask) none H') ∧ ∀ z, R z → ∀ v F' H', Wf F H F' H' → (pAlt (pT3 pS pN pN) (pT3 pS (pL pN) (pL (pL pN)))).r F' v z → Q v H'
abbrev N_told_apart_bad : List Str := ["machine", "one", "other", "state", "turn", "answer", "states", "sums"]
theorem sc_told_apart_bad : FnScope N_told_apart_bad ["machine", "one", "other"] (defScope s_told_apart_bad) := ⟨rfl, rfl, rfl, by decide +kernel, rfl, by decide +kernel, by decide +kernel⟩
theorem ok_told_apart_bad {P : Program} {w0 : World} {K : PySem.W.Frag} {mg : Str → Option Value} {base : Heap} {f : Addr} {fd : FuncData} {cc : Cz} (T : Tz K mg cc) (FU : Fun K "told_apart" "told_apart" s_told_apart_bad f fd) (hm : mg "told_apart" = some (.ref f)) (hb : Binds K fd ["machine", "one", "other"] []) (c_need_state : Fn P w0 K mg base (L2.CX P w0) 3 "need_state" ["machine", "state"] (sp_need_state K cc)) : Fn P w0 K mg base (L2.CX P w0) 4 "told_apart" ["machine", "one", "other"] (sp_told_apart_bad K cc) := by
  refine ⟨f, fd, FU.okX sc_told_apart_bad (fun vs H Q E h => ?_) (fun cdv A outer s H0 vs Q E hr h => ?_), hm, FU.kp, hb⟩
  · obtain ⟨_, _, _, _, _, _, _, _, _, rfl, _⟩ := h; rfl
  · obtain ⟨F0, v1, machine1, v2, one1, v3, other1, E_BadMask, R, rfl, wf, r1, r2, r3, hW, hE_BadMask, hQ⟩ := h
    have nd := sc_told_apart_bad.nd
    refine ⟨(tSeq (tDrop (tCallS (sp_need_state K cc) (WE (fun cls d _ H => E cls d H)) (tCons (tVar 0) (tCons (tVar 1) tNil)))) (tSeq (tDrop (tCallS (sp_need_state K cc) (WE (fun cls d _ H => E cls d H)) (tCons (tVar 0) (tCons (tVar 2) tNil)))) tCut)), (pss_cons (ps_expr (pe_fnS (W := (fun cls d _ H => E cls d H)) c_need_state (takes_of rfl rfl rfl rfl) (hr.mono (by decide)) rfl (pa_cons (pv 0) (pa_cons (pv 1) pa_nil)))) (pss_cons (ps_expr (pe_fnS (W := (fun cls d _ H => E cls d H)) c_need_state (takes_of rfl rfl rfl rfl) (hr.mono (by decide)) rfl (pa_cons (pv 0) (pa_cons (pv 2) pa_nil)))) pss_cut)), ?_⟩
    have w := Wf.id wf
    refine q_sq fun N1 hN1 => ?_
    refine a_dropE ?_
    refine e_callS ?_
    refine a_val (v := v1) (val_var rfl) ?_
    refine a_val (v := v2) (val_var rfl) ?_
    refine a_nil ?_
    refine ⟨F0, (v1), (machine1), (v2), (one1), _, _, rfl, w.f, r1, r2, hW, ?_, ?_⟩
    · intro hW F1 H1 s1
      replace r1 := Rep.mono _ s1.g r1
      replace r2 := Rep.mono _ s1.g r2
      replace r3 := Rep.mono _ s1.g r3
      replace w := w.tr s1
      exact hE_BadMask hW _ _ w
    intro z1 hW F2 H2 s2
    replace r1 := Rep.mono _ s2.g r1
    replace r2 := Rep.mono _ s2.g r2
    replace r3 := Rep.mono _ s2.g r3
    replace w := w.tr s2
    refine hN1 _ _ ?_
    refine q_sq fun N2 hN2 => ?_
    refine a_dropE ?_
    refine e_callS ?_
    refine a_val (v := v1) (val_var rfl) ?_
    refine a_val (v := v3) (val_var rfl) ?_
    refine a_nil ?_
    refine ⟨F2, (v1), (machine1), (v3), (other1), _, _, rfl, w.f, r1, r3, hW, ?_, ?_⟩
    · intro hW F3 H3 s3
      replace r1 := Rep.mono _ s3.g r1
      replace r2 := Rep.mono _ s3.g r2
      replace r3 := Rep.mono _ s3.g r3
      replace w := w.tr s3
      exact hE_BadMask hW _ _ w
    intro z2 hW F4 H4 s4
    replace r1 := Rep.mono _ s4.g r1
    replace r2 := Rep.mono _ s4.g r2
    replace r3 := Rep.mono _ s4.g r3
    replace w := w.tr s4
    refine hN2 _ _ ?_
    exact hW
abbrev s_cell : Stmt := topS 27
def W_cell (script1 : List Int) (k1 : Nat) (R : Int → Prop) : Prop := if k1 < script1.length then (∃ x1, script1[k1]? = some x1 ∧ R x1) else (R (((41 * k1) + 3 : Nat) : Int))
def sp_cell (K : PySem.W.Frag) (cc : Cz) : Sp := fun vs H Q _ => ∃ (F : Hp) (v1 : V) (script1 : List Int) (k1 : Nat) (R : Int → Prop), vs = [v1, (.int ((k1 : Nat) : Int))] ∧ Ex F H ∧ (pScr K).r F v1 script1 ∧ W_cell script1 k1 R ∧ ∀ z, R z → ∀ F' H', Wf F H F' H' → Q (.int (z)) H'
abbrev N_cell : List Str := ["_law_script", "_law_k"]
theorem sc_cell : FnScope N_cell ["_law_script", "_law_k"] (defScope s_cell) := ⟨rfl, rfl, rfl, by decide +kernel, rfl, by decide +kernel, by decide +kernel⟩
theorem ok_cell {P : Program} {w0 : World} {K : PySem.W.Frag} {mg : Str → Option Value} {base : Heap} {f : Addr} {fd : FuncData} {cc : Cz} (T : Tz K mg cc) (FU : Fun K "_law_cell" "_law_cell" s_cell f fd) (hm : mg "_law_cell" = some (.ref f)) (hb : Binds K fd ["_law_script", "_law_k"] []) (n_len : mg "len" = none) : Fn P w0 K mg base CX0 1 "_law_cell" ["_law_script", "_law_k"] (sp_cell K cc) := by
  refine ⟨f, fd, FU.ok sc_cell (fun vs H Q E h => ?_) (fun cdv A outer s H0 vs Q E hr h => ?_), hm, FU.kp, hb⟩
  · obtain ⟨_, _, _, _, _, rfl, _⟩ := h; rfl
  · obtain ⟨F0, v1, script1, k1, R, rfl, wf, r1, hW, hQ⟩ := h
    have nd := sc_cell.nd
    refine ⟨(tSeq (tIfS (tTest (tOp kLt (tVar 1) (tCB (Wk.rLen K) (tCons (tVar 0) tNil)))) (tRet (tOp (L2.rIxL K) (tVar 0) (tVar 1))) tNext) (tRet (tOp kAdd (tOp kMul (tC (.int 41)) (tVar 1)) (tC (.int 3))))), (pss_cons (ps_if (pt_cmpR op_lt (pv 1) (pe_callB call_len_seq (by rfl) n_len PySem.boot_len (pa_cons (pv 0) pa_nil)) (nomark _)) (pss_one (ps_ret (pe_ix ix_list (pv 0) (pv 1) (fun _ _ => rfl)))) pss_nil) (pss_one (ps_ret (pe_op op_add (pe_op op_mul pe_int (pv 1)) pe_int)))), ?_⟩
    have w := Wf.id wf
    refine q_sq fun N1 hN1 => ?_
    refine a_ifE ?_
    refine e_ans (b := decide (k1 < script1.length)) (t_of (vb_dec (c_lt (val_var rfl) (len_S r1 w.f (val_var rfl))) n_lt)) ?_
    refine b_if (fun hc1 => ?_) (fun hc1 => ?_)
    · have hW := ifP hW hc1
      obtain ⟨x1, hx1_1, hW⟩ := hW
      have ix1 := ix_S (K := K) w.f r1 hx1_1
      refine a_ret (v := (.int (x1))) (ix1 (val_var rfl) (val_var rfl)) ?_
      exact hQ _ hW _ _ w
    · have hW := ifN hW hc1
      refine hN1 _ _ ?_
      refine a_ret (v := (.int ((((41 * k1) + 3 : Nat) : Int)))) (vn_add (vn_mul val_c (val_var rfl) (.inl (by decide))) val_c) ?_
      exact hQ _ hW _ _ w
abbrev s_mix : Stmt := topS 28
def W_mix (cell_here1 : Int) (k1 : Nat) (R : Nat → Prop) : Prop := ∀ number1 : Nat, number1 = ((((modN cell_here1 2147483647) * 48271) + (7919 * k1)) + 11) % 2147483647 → (NMul number1 number1) ∧ ∀ number2 : Nat, number2 = (number1 * number1) % 2147483629 → (NMul number2 ((number2 + (48271 * k1)) + 7)) ∧ R ((number2 * ((number2 + (48271 * k1)) + 7)) % 2147483587)
def sp_mix (K : PySem.W.Frag) (cc : Cz) : Sp := fun vs H Q _ => ∃ (F : Hp) (cell_here1 : Int) (k1 : Nat) (R : Nat → Prop), vs = [(.int (cell_here1)), (.int ((k1 : Nat) : Int))] ∧ Ex F H ∧ W_mix cell_here1 k1 R ∧ ∀ z, R z → ∀ F' H', Wf F H F' H' → Q (.int ((z : Nat) : Int)) H'
abbrev N_mix : List Str := ["_law_cell_here", "_law_k", "_law_number"]
theorem sc_mix : FnScope N_mix ["_law_cell_here", "_law_k"] (defScope s_mix) := ⟨rfl, rfl, rfl, by decide +kernel, rfl, by decide +kernel, by decide +kernel⟩
theorem ok_mix {P : Program} {w0 : World} {K : PySem.W.Frag} {mg : Str → Option Value} {base : Heap} {f : Addr} {fd : FuncData} {cc : Cz} (T : Tz K mg cc) (FU : Fun K "_law_mix" "_law_mix" s_mix f fd) (hm : mg "_law_mix" = some (.ref f)) (hb : Binds K fd ["_law_cell_here", "_law_k"] []) : Fn P w0 K mg base CX0 1 "_law_mix" ["_law_cell_here", "_law_k"] (sp_mix K cc) := by
  refine ⟨f, fd, FU.ok sc_mix (fun vs H Q E h => ?_) (fun cdv A outer s H0 vs Q E hr h => ?_), hm, FU.kp, hb⟩
  · obtain ⟨_, _, _, _, rfl, _⟩ := h; rfl
  · obtain ⟨F0, cell_here1, k1, R, rfl, wf, hW, hQ⟩ := h
    have nd := sc_mix.nd
    refine ⟨(tSeq (tAsg (tOp kMod (tOp kAdd (tOp kAdd (tOp kMul (tOp kMod (tVar 0) (tC (.int 2147483647))) (tC (.int 48271))) (tOp kMul (tC (.int 7919)) (tVar 1))) (tC (.int 11))) (tC (.int 2147483647))) (gName 2)) (tSeq (tAsg (tOp kMod (tOp kMul (tVar 2) (tVar 2)) (tC (.int 2147483629))) (gName 2)) (tRet (tOp kMod (tOp kMul (tVar 2) (tOp kAdd (tOp kAdd (tVar 2) (tOp kMul (tC (.int 48271)) (tVar 1))) (tC (.int 7)))) (tC (.int 2147483587)))))), (pss_cons (ps_set (i := 2) nd rfl (Or.inl rfl) (pe_op op_mod (pe_op op_add (pe_op op_add (pe_op op_mul (pe_op op_mod (pv 0) pe_int) pe_int) (pe_op op_mul pe_int (pv 1))) pe_int) pe_int)) (pss_cons (ps_set (i := 2) nd rfl (Or.inl rfl) (pe_op op_mod (pe_op op_mul (pv 2) (pv 2)) pe_int)) (pss_one (ps_ret (pe_op op_mod (pe_op op_mul (pv 2) (pe_op op_add (pe_op op_add (pv 2) (pe_op op_mul pe_int (pv 1))) pe_int)) pe_int))))), ?_⟩
    have w := Wf.id wf
    refine q_sq fun N1 hN1 => ?_
    obtain ⟨number1, enumber1⟩ : ∃ number1 : Nat, number1 = ((((modN cell_here1 2147483647) * 48271) + (7919 * k1)) + 11) % 2147483647 := ⟨_, rfl⟩
    replace hW := hW number1 enumber1
    refine a_asg (v := (.int ((number1 : Nat) : Int))) (v_eq (vn_mod (vn_add (vn_add (vn_mul (vm_mod (val_var rfl) val_c (by decide)) val_c (.inr (by decide))) (vn_mul val_c (val_var rfl) (.inl (by decide)))) val_c) val_c (by decide)) (by rw [enumber1])) ?_
    refine hN1 _ _ ?_
    refine q_sq fun N2 hN2 => ?_
    obtain ⟨c1, hW⟩ := hW
    obtain ⟨number2, enumber2⟩ : ∃ number2 : Nat, number2 = (number1 * number1) % 2147483629 := ⟨_, rfl⟩
    replace hW := hW number2 enumber2
    refine a_asg (v := (.int ((number2 : Nat) : Int))) (v_eq (vn_mod (vn_mul (val_var rfl) (val_var rfl) c1) val_c (by decide)) (by rw [enumber2])) ?_
    refine hN2 _ _ ?_
    obtain ⟨c2, hW⟩ := hW
    refine a_ret (v := (.int (((number2 * ((number2 + (48271 * k1)) + 7)) % 2147483587 : Nat) : Int))) (vn_mod (vn_mul (val_var rfl) (vn_add (vn_add (val_var rfl) (vn_mul val_c (val_var rfl) (.inl (by decide)))) val_c) c2) val_c (by decide)) ?_
    exact hQ _ hW _ _ w
abbrev s_masks : Stmt := topS 29
def W_masks (cell_here1 : Int) (start1 : Nat) (many1 : Nat) (width1 : Nat) (digits1 : Bool) (R : (List Nat) → Prop) : Prop := (NMul many1 width1) ∧ ((many1 * width1) + 1 < 100000000) ∧ ∀ left1 : Nat, left1 = (modN cell_here1 (2 ^ ((many1 * width1) + 1))) / 2 → (many1 < 1000000) ∧ forW (List.range many1) (([] : List Nat), left1) (fun k1 (found1, left2) nx1 bk1 => if digits1 = true then ((width1 < 100000000) ∧ (found1.length < 1000000) ∧ (width1 < 100000000) ∧ (NDiv (2 ^ width1)) ∧ ∀ left3 : Nat, left3 = left2 / (2 ^ width1) → nx1 (found1 ++ [left2 % (2 ^ width1)], left3)) else (W_mix cell_here1 (start1 + k1) fun z1 => (width1 < 100000000) ∧ (found1.length < 1000000) ∧ nx1 (found1 ++ [z1 % (2 ^ width1)], left2))) fun (found1, left2) => R found1
def sp_masks (K : PySem.W.Frag) (cc : Cz) : Sp := fun vs H Q _ => ∃ (F : Hp) (cell_here1 : Int) (start1 : Nat) (many1 : Nat) (width1 : Nat) (digits1 : Bool) (R : (List Nat) → Prop), vs = [(.int (cell_here1)), (.int ((start1 : Nat) : Int)), (.int ((many1 : Nat) : Int)), (.int ((width1 : Nat) : Int)), (.bl (digits1))] ∧ Ex F H ∧ W_masks cell_here1 start1 many1 width1 digits1 R ∧ ∀ z, R z → ∀ p F' H', Wf F H F' H' → XL pN H F' H' p z → Q (.ref p) H'
abbrev N_masks : List Str := ["_law_cell_here", "_law_start", "_law_many", "_law_width", "_law_digits", "_law_found", "_law_left", "_law_k"]
theorem sc_masks : FnScope N_masks ["_law_cell_here", "_law_start", "_law_many", "_law_width", "_law_digits"] (defScope s_masks) := ⟨rfl, rfl, rfl, by decide +kernel, rfl, by decide +kernel, by decide +kernel⟩
theorem ok_masks {P : Program} {w0 : World} {K : PySem.W.Frag} {mg : Str → Option Value} {base : Heap} {f : Addr} {fd : FuncData} {cc : Cz} (T : Tz K mg cc) (FU : Fun K "_law_masks" "_law_masks" s_masks f fd) (hm : mg "_law_masks" = some (.ref f)) (hb : Binds K fd ["_law_cell_here", "_law_start", "_law_many", "_law_width", "_law_digits"] []) (c_mix : Fn P w0 K mg base CX0 1 "_law_mix" ["_law_cell_here", "_law_k"] (sp_mix K cc)) (n_range : mg "range" = none) : Fn P w0 K mg base CX0 2 "_law_masks" ["_law_cell_here", "_law_start", "_law_many", "_law_width", "_law_digits"] (sp_masks K cc) := by
  refine ⟨f, fd, FU.ok sc_masks (fun vs H Q E h => ?_) (fun cdv A outer s H0 vs Q E hr h => ?_), hm, FU.kp, hb⟩
  · obtain ⟨_, _, _, _, _, _, _, rfl, _⟩ := h; rfl
  · obtain ⟨F0, cell_here1, start1, many1, width1, digits1, R, rfl, wf, hW, hQ⟩ := h
    have nd := sc_masks.nd
    refine ⟨(tSeq (tAsg (tLst tNil) (gName 5)) (tSeq (tAsg (tOp kDiv (tOp kMod (tVar 0) (tOp kShl (tC (.int 1)) (tOp kAdd (tOp kMul (tVar 2) (tVar 3)) (tC (.int 1))))) (tC (.int 2))) (gName 6)) (tSeq (tFor (iRng1 (tCons (tVar 2) tNil)) (gName 7) (tIfS (tB (tVar 4)) (tSeq (tDrop (tBM K "list" rAppend (tVar 5) (tCons (tOp kMod (tVar 6) (tOp kShl (tC (.int 1)) (tVar 3))) tNil))) (tAsg (tOp kDiv (tVar 6) (tOp kShl (tC (.int 1)) (tVar 3))) (gName 6))) (tDrop (tBM K "list" rAppend (tVar 5) (tCons (tOp kMod (tCall (sp_mix K cc) [] E0 (tCons (tVar 0) (tCons (tOp kAdd (tVar 1) (tVar 7)) tNil))) (tOp kShl (tC (.int 1)) (tVar 3))) tNil))))) (tRet (tVar 5))))), (pss_cons (ps_set (i := 5) nd rfl (Or.inl rfl) (pe_lst pa_nil)) (pss_cons (ps_set (i := 6) nd rfl (Or.inl rfl) (pe_op op_fdivW (pe_op op_mod (pv 0) (pe_op op_shlW pe_int (pe_op op_add (pe_op op_mul (pv 2) (pv 3)) pe_int))) pe_int)) (pss_cons (ps_for PassesOwn.never rfl (pi_range1 rfl n_range (pa_cons (pv 2) pa_nil)) (pg_name (i := 7) nd rfl (Or.inl rfl)) (pss_one (ps_if (pt_val (pv 4)) (pss_cons (ps_expr (pe_bm PySem.F.plainAttrs_list PySem.F.slot_list_append PySem.F.type_list_append mt_append (pv 5) (pa_cons (pe_op op_mod (pv 6) (pe_op op_shlW pe_int (pv 3))) pa_nil))) (pss_one (ps_set (i := 6) nd rfl (Or.inl rfl) (pe_op op_fdivW (pv 6) (pe_op op_shlW pe_int (pv 3)))))) (pss_one (ps_expr (pe_bm PySem.F.plainAttrs_list PySem.F.slot_list_append PySem.F.type_list_append mt_append (pv 5) (pa_cons (pe_op op_mod (pe_fn c_mix (hr.mono (by decide)) rfl (pa_cons (pv 0) (pa_cons (pe_op op_add (pv 1) (pv 7)) pa_nil))) (pe_op op_shlW pe_int (pv 3))) pa_nil))))))) (pss_one (ps_ret (pv 5)))))), ?_⟩
    have w := Wf.id wf
    refine q_sq fun N1 hN1 => ?_
    refine a_asgE ?_
    refine e_lst ?_
    refine a_nil ?_
    refine n_lstX (e := pN) (xs := []) (vs := []) (show All pN _ [] [] from trivial) (show 0 < 1000000 from by decide) w ?_
    intro p1 H1 hp1 s1 x1
    replace w := w.tr s1
    refine hN1 _ _ ?_
    refine q_sq fun N2 hN2 => ?_
    obtain ⟨c1, hW⟩ := hW
    obtain ⟨c2, hW⟩ := hW
    obtain ⟨left1, eleft1⟩ : ∃ left1 : Nat, left1 = (modN cell_here1 (2 ^ ((many1 * width1) + 1))) / 2 := ⟨_, rfl⟩
    replace hW := hW left1 eleft1
    refine a_asg (v := (.int ((left1 : Nat) : Int))) (v_eq (vn_div (vm_mod (val_var rfl) (vn_one val_c (vn_add (vn_mul (val_var rfl) (val_var rfl) c1) val_c) c2) (Nat.two_pow_pos _)) val_c ⟨by decide, by decide +kernel⟩) (by rw [eleft1])) ?_
    refine hN2 _ _ ?_
    refine q_sq fun N3 hN3 => ?_
    refine f_RE ?_
    refine e_val (v := (.int ((many1 : Nat) : Int))) (val_var rfl) ?_
    obtain ⟨c3, hW⟩ := hW
    refine w_forR (S := List Nat × Nat) (fun s σ' F' H' => match s with | (found1, left2) => ∃ (o1 : Option V), Wf F0 H0 F' H' ∧ Ex F0 F' ∧ σ' = [some (.int (cell_here1)), some (.int ((start1 : Nat) : Int)), some (.int ((many1 : Nat) : Int)), some (.int ((width1 : Nat) : Int)), some (.bl (digits1)), some ((.ref p1)), some (.int ((left2 : Nat) : Int)), o1] ∧ XL pN H0 F' H' p1 found1) c3 hW ⟨_, w, Ex.rfl', rfl, x1⟩ ?_ ?_
    · intro N4 Bk1 k1 s2 σ' F1 H2 nx1 bk1 hI1 hx1 hW hN4 hB1
      obtain ⟨found1, left2⟩ := s2
      obtain ⟨o1, w, gx1, rfl, x2⟩ := hI1
      refine g_name ?_
      refine a_ifE ?_
      refine e_ans (b := decide (digits1 = true)) (t_ofB (vb_of (val_var rfl) dec_tt)) ?_
      refine b_if (fun hc1 => ?_) (fun hc1 => ?_)
      · have hW := ifP hW hc1
        refine q_sq fun N5 hN5 => ?_
        refine a_dropE ?_
        refine m_list x2 (val_var rfl) ?_
        obtain ⟨c4, hW⟩ := hW
        refine a_val (v := (.int ((left2 % (2 ^ width1) : Nat) : Int))) (vn_mod (val_var rfl) (vn_one val_c (val_var rfl) c4) (Nat.two_pow_pos _)) ?_
        refine a_nil ?_
        obtain ⟨c5, hW⟩ := hW
        refine a_app x2 w c5 rfl (fun H3 w1 x3 kp1 => ?_)
        replace w := w1
        refine hN5 _ _ ?_
        obtain ⟨c6, hW⟩ := hW
        obtain ⟨c7, hW⟩ := hW
        obtain ⟨left3, eleft2⟩ : ∃ left3 : Nat, left3 = left2 / (2 ^ width1) := ⟨_, rfl⟩
        replace hW := hW left3 eleft2
        refine a_asg (v := (.int ((left3 : Nat) : Int))) (v_eq (vn_div (val_var rfl) (vn_one val_c (val_var rfl) c6) c7) (by rw [eleft2])) ?_
        exact hN4 (found1 ++ [left2 % (2 ^ width1)], left3) _ _ _ ⟨_, w, gx1, rfl, x3⟩ hW
      · have hW := ifN hW hc1
        refine a_dropE ?_
        refine m_list x2 (val_var rfl) ?_
        refine a_cons ?_
        refine e_op ?_
        refine e_call ?_
        refine a_val (v := (.int (cell_here1))) (val_var rfl) ?_
        refine a_val (v := (.int ((start1 + k1 : Nat) : Int))) (vn_add (val_var rfl) (val_var rfl)) ?_
        refine a_nil ?_
        refine ⟨F1, (cell_here1), (start1 + k1), _, rfl, w.f, hW, ?_⟩
        intro z1 hW F2 H4 s3
        replace x2 := x2.step s3
        replace w := w.tr s3
        replace gx1 := Ex.tr gx1 s3.g
        obtain ⟨c8, hW⟩ := hW
        refine e_val (v := (.int ((2 ^ width1 : Nat) : Int))) (vn_one val_c (val_var rfl) c8) ?_
        refine rv2 (z := (.int ((z1 % (2 ^ width1) : Nat) : Int))) (vn_mod val_c val_c (Nat.two_pow_pos _)) ?_
        refine a_nil ?_
        obtain ⟨c9, hW⟩ := hW
        refine a_app x2 w c9 rfl (fun H5 w2 x4 kp2 => ?_)
        replace w := w2
        exact hN4 (found1 ++ [z1 % (2 ^ width1)], left2) _ _ _ ⟨_, w, gx1, rfl, x4⟩ hW
    · intro s4 σ' F3 H6 hI2 hW
      obtain ⟨found1, left2⟩ := s4
      obtain ⟨o1, w, gx2, rfl, x2⟩ := hI2
      refine hN3 _ _ ?_
      refine a_ret (v := (.ref p1)) (val_var rfl) ?_
      exact hQ _ hW _ _ _ w x2
abbrev s_thinned : Stmt := topS 30
def W_thinned (masks_here1 : List Nat) (cell_here1 : Int) (start1 : Nat) (way1 : Nat) (R : (List Nat) → Prop) : Prop := forW (enumT masks_here1) ([] : List Nat) (fun it1 found1 nx1 bk1 => jn (fun kk => if way1 = 1 then (W_mix cell_here1 (start1 + it1.1) fun z1 => ∀ mask3 : Nat, mask3 = it1.2 &&& z1 → kk mask3) else (kk it1.2)) fun mask2 => jn (fun kk => if (way1 = 2) ∧ (0 < it1.1) then ((1 ≤ it1.1) ∧ (it1.1 - 1 < 100000000) ∧ ∀ mask5 : Nat, mask5 = 2 ^ (it1.1 - 1) → kk mask5) else (kk mask2)) fun mask4 => jn (fun kk => if way1 = 3 then (∃ x7, [43690, 21845][it1.1 % 2]? = some x7 ∧ ∀ mask7 : Nat, mask7 = mask4 &&& x7 → kk mask7) else (kk mask4)) fun mask6 => (found1.length < 1000000) ∧ nx1 (found1 ++ [mask6])) fun found1 => R found1
def sp_thinned (K : PySem.W.Frag) (cc : Cz) : Sp := fun vs H Q _ => ∃ (F : Hp) (v1 : V) (masks_here1 : List Nat) (cell_here1 : Int) (start1 : Nat) (way1 : Nat) (R : (List Nat) → Prop), vs = [v1, (.int (cell_here1)), (.int ((start1 : Nat) : Int)), (.int ((way1 : Nat) : Int))] ∧ Ex F H ∧ (pL pN).r F v1 masks_here1 ∧ W_thinned masks_here1 cell_here1 start1 way1 R ∧ ∀ z, R z → ∀ p F' H', Wf F H F' H' → XL pN H F' H' p z → Q (.ref p) H'
abbrev N_thinned : List Str := ["_law_masks_here", "_law_cell_here", "_law_start", "_law_way", "_law_found", "_law_k", "_law_mask"]
theorem sc_thinned : FnScope N_thinned ["_law_masks_here", "_law_cell_here", "_law_start", "_law_way"] (defScope s_thinned) := ⟨rfl, rfl, rfl, by decide +kernel, rfl, by decide +kernel, by decide +kernel⟩
theorem ok_thinned {P : Program} {w0 : World} {K : PySem.W.Frag} {mg : Str → Option Value} {base : Heap} {f : Addr} {fd : FuncData} {cc : Cz} (T : Tz K mg cc) (FU : Fun K "_law_thinned" "_law_thinned" s_thinned f fd) (hm : mg "_law_thinned" = some (.ref f)) (hb : Binds K fd ["_law_masks_here", "_law_cell_here", "_law_start", "_law_way"] []) (c_mix : Fn P w0 K mg base CX0 1 "_law_mix" ["_law_cell_here", "_law_k"] (sp_mix K cc)) (n_enumerate : mg "enumerate" = none) : Fn P w0 K mg base CX0 2 "_law_thinned" ["_law_masks_here", "_law_cell_here", "_law_start", "_law_way"] (sp_thinned K cc) := by
  refine ⟨f, fd, FU.ok sc_thinned (fun vs H Q E h => ?_) (fun cdv A outer s H0 vs Q E hr h => ?_), hm, FU.kp, hb⟩
  · obtain ⟨_, _, _, _, _, _, _, rfl, _⟩ := h; rfl
  · obtain ⟨F0, v1, masks_here1, cell_here1, start1, way1, R, rfl, wf, r1, hW, hQ⟩ := h
    have nd := sc_thinned.nd
    refine ⟨(tSeq (tAsg (tLst tNil) (gName 4)) (tSeq (tFor (iEnum K (tCons (tVar 0) tNil)) (gTup K 2 (gCons (gName 5) (gCons (gName 6) gNil))) (tSeq (tIfS (tTest (tOp L2.rEq (tVar 3) (tC (.int 1)))) (tAsg (tOp kAnd (tVar 6) (tCall (sp_mix K cc) [] E0 (tCons (tVar 1) (tCons (tOp kAdd (tVar 2) (tVar 5)) tNil)))) (gName 6)) tNext) (tSeq (tIfS (tAnd (tTest (tOp L2.rEq (tVar 3) (tC (.int 2)))) (tTest (tOp kGt (tVar 5) (tC (.int 0))))) (tAsg (tOp kShl (tC (.int 1)) (tOp kSub (tVar 5) (tC (.int 1)))) (gName 6)) tNext) (tSeq (tIfS (tTest (tOp L2.rEq (tVar 3) (tC (.int 3)))) (tAsg (tOp kAnd (tVar 6) (tOp (L2.rIxL K) (tLst (tCons (tC (.int 43690)) (tCons (tC (.int 21845)) tNil))) (tOp kMod (tVar 5) (tC (.int 2))))) (gName 6)) tNext) (tDrop (tBM K "list" rAppend (tVar 4) (tCons (tVar 6) tNil))))))) (tRet (tVar 4)))), (pss_cons (ps_set (i := 4) nd rfl (Or.inl rfl) (pe_lst pa_nil)) (pss_cons (ps_for PassesOwn.never rfl (pi_enum (by rfl) n_enumerate (pa_cons (pv 0) pa_nil)) (pg_tup rfl (pgs_cons (pg_name (i := 5) nd rfl (Or.inl rfl)) (pgs_cons (pg_name (i := 6) nd rfl (Or.inl rfl)) pgs_nil)) (by rfl)) (pss_cons (ps_if (pt_cmpR op_eq (pv 3) pe_int (nomark _)) (pss_one (ps_set (i := 6) nd rfl (Or.inl rfl) (pe_op op_and (pv 6) (pe_fn c_mix (hr.mono (by decide)) rfl (pa_cons (pv 1) (pa_cons (pe_op op_add (pv 2) (pv 5)) pa_nil)))))) pss_nil) (pss_cons (ps_if (PW.pt (pw_and (pt_cmpR op_eq (pv 3) pe_int (nomark _)) (pw_and1 (pt_cmpR op_gt (pv 5) pe_int (nomark _))))) (pss_one (ps_set (i := 6) nd rfl (Or.inl rfl) (pe_op op_shlW pe_int (pe_op op_sub (pv 5) pe_int)))) pss_nil) (pss_cons (ps_if (pt_cmpR op_eq (pv 3) pe_int (nomark _)) (pss_one (ps_set (i := 6) nd rfl (Or.inl rfl) (pe_op op_and (pv 6) (pe_ix ix_list (pe_lst (pa_cons pe_int (pa_cons pe_int pa_nil))) (pe_op op_mod (pv 5) pe_int) (fun _ _ => rfl))))) pss_nil) (pss_one (ps_expr (pe_bm PySem.F.plainAttrs_list PySem.F.slot_list_append PySem.F.type_list_append mt_append (pv 4) (pa_cons (pv 6) pa_nil)))))))) (pss_one (ps_ret (pv 4))))), ?_⟩
    have w := Wf.id wf
    refine q_sq fun N1 hN1 => ?_
    refine a_asgE ?_
    refine e_lst ?_
    refine a_nil ?_
    refine n_lstX (e := pN) (xs := []) (vs := []) (show All pN _ [] [] from trivial) (show 0 < 1000000 from by decide) w ?_
    intro p1 H1 hp1 s1 x1
    replace r1 := Rep.mono _ s1.g r1
    replace w := w.tr s1
    refine hN1 _ _ ?_
    refine q_sq fun N2 hN2 => ?_
    refine f_J ?_
    refine a_val (v := v1) (val_var rfl) ?_
    refine a_nil ?_
    refine src_enum r1 w.f (fun a1 T1 => ?_)
    refine w_forG (S := List Nat) T1 (fun found1 σ' F' H' => ∃ (o1 : Option V) (o2 : Option V), Wf F0 H0 F' H' ∧ Ex F0 F' ∧ σ' = [some v1, some (.int (cell_here1)), some (.int ((start1 : Nat) : Int)), some (.int ((way1 : Nat) : Int)), some ((.ref p1)), o1, o2] ∧ XL pN H0 F' H' p1 found1) hW ⟨_, _, w, Ex.rfl', rfl, x1⟩ (fun s σ' F' H' hI => by obtain ⟨_, _, w', gx', _⟩ := hI; exact ⟨gx', w'.f⟩) w.f ?_ ?_
    · intro N3 Bk1 it1 u1 found1 σ' F1 H2 F2 H3 nx1 bk1 hI1 hx1 s3 ru1 hW hN3 hB1
      obtain ⟨o1, o2, w, gx1, rfl, x2⟩ := hI1
      have r1 := Rep.mono _ gx1 r1
      replace r1 := Rep.mono _ s3.g r1
      replace x2 := x2.step s3
      replace w := w.tr s3
      replace gx1 := Ex.tr gx1 s3.g
      obtain ⟨p2, u2, u3, rfl, h1, rfl, rfl⟩ := ru1
      refine ⟨p2, _, rfl, SqT.of (w.f _ _ h1), rfl, _, _, rfl, _, _, rfl, rfl, ?_⟩
      refine q_jn (S := Nat) hW (fun mask2 σ' F' H' => Wf F0 H0 F' H' ∧ Ex F2 F' ∧ σ' = [some v1, some (.int (cell_here1)), some (.int ((start1 : Nat) : Int)), some (.int ((way1 : Nat) : Int)), some (.ref p1), some (.int ((it1.1 : Nat) : Int)), some (.int ((mask2 : Nat) : Int))] ∧ XL pN H0 F' H' p1 found1) ?_ ?_
      · intro N4 hN4 hW
        have gx2 : Ex F2 F2 := Ex.rfl'
        refine a_ifE ?_
        refine e_ans (b := decide (way1 = 1)) (t_of (vb_dec (c_eqI (val_var rfl) val_c) n_eq)) ?_
        refine b_if (fun hc1 => ?_) (fun hc1 => ?_)
        · have hW := ifP hW hc1
          refine a_asgE ?_
          refine e_op ?_
          refine e_val (v := (.int ((it1.2 : Nat) : Int))) (val_var rfl) ?_
          refine e_call ?_
          refine a_val (v := (.int (cell_here1))) (val_var rfl) ?_
          refine a_val (v := (.int ((start1 + it1.1 : Nat) : Int))) (vn_add (val_var rfl) (val_var rfl)) ?_
          refine a_nil ?_
          refine ⟨F2, (cell_here1), (start1 + it1.1), _, rfl, w.f, hW, ?_⟩
          intro z1 hW F3 H4 s4
          replace r1 := Rep.mono _ s4.g r1
          replace x2 := x2.step s4
          replace w := w.tr s4
          replace gx2 := Ex.tr gx2 s4.g
          replace gx1 := Ex.tr gx1 s4.g
          refine rv2 (z := (.int ((it1.2 &&& z1 : Nat) : Int))) (vn_and val_c val_c) ?_
          obtain ⟨mask3, emask1⟩ : ∃ mask3 : Nat, mask3 = it1.2 &&& z1 := ⟨_, rfl⟩
          replace hW := hW mask3 emask1
          refine nx_set (v := (.int ((mask3 : Nat) : Int))) (by rw [emask1]) ?_
          exact hN4 mask3 _ _ _ ⟨w, gx2, rfl, x2⟩ hW
        · have hW := ifN hW hc1
          exact hN4 it1.2 _ _ _ ⟨w, gx2, rfl, x2⟩ hW
      · intro mask2 σ' F4 H5 hI2 hW
        obtain ⟨w, gx3, rfl, x3⟩ := hI2
        have r1 := Rep.mono _ gx3 r1
        have gx1 := Ex.tr gx1 gx3
        refine q_jn (S := Nat) hW (fun mask4 σ' F' H' => Wf F0 H0 F' H' ∧ Ex F4 F' ∧ σ' = [some v1, some (.int (cell_here1)), some (.int ((start1 : Nat) : Int)), some (.int ((way1 : Nat) : Int)), some (.ref p1), some (.int ((it1.1 : Nat) : Int)), some (.int ((mask4 : Nat) : Int))] ∧ XL pN H0 F' H' p1 found1) ?_ ?_
        · intro N5 hN5 hW
          have gx4 : Ex F4 F4 := Ex.rfl'
          refine a_ifE ?_
          refine e_ans (b := decide ((way1 = 2) ∧ (0 < it1.1))) (t_and (t_of (vb_dec (c_eqI (val_var rfl) val_c) n_eq)) (fun _ => (t_of (vb_dec (c_gt (val_var rfl) val_c) n_lt)))) ?_
          refine b_if (fun hc2 => ?_) (fun hc2 => ?_)
          · have hW := ifP hW hc2
            obtain ⟨c1, hW⟩ := hW
            obtain ⟨c2, hW⟩ := hW
            obtain ⟨mask5, emask2⟩ : ∃ mask5 : Nat, mask5 = 2 ^ (it1.1 - 1) := ⟨_, rfl⟩
            replace hW := hW mask5 emask2
            refine a_asg (v := (.int ((mask5 : Nat) : Int))) (v_eq (vn_one val_c (vn_sub (val_var rfl) val_c c1) c2) (by rw [emask2])) ?_
            exact hN5 mask5 _ _ _ ⟨w, gx4, rfl, x3⟩ hW
          · have hW := ifN hW hc2
            exact hN5 mask2 _ _ _ ⟨w, gx4, rfl, x3⟩ hW
        · intro mask4 σ' F5 H6 hI3 hW
          obtain ⟨w, gx5, rfl, x4⟩ := hI3
          have r1 := Rep.mono _ gx5 r1
          have gx3 := Ex.tr gx3 gx5
          have gx1 := Ex.tr gx1 gx5
          refine q_jn (S := Nat) hW (fun mask6 σ' F' H' => Wf F0 H0 F' H' ∧ Ex F5 F' ∧ σ' = [some v1, some (.int (cell_here1)), some (.int ((start1 : Nat) : Int)), some (.int ((way1 : Nat) : Int)), some (.ref p1), some (.int ((it1.1 : Nat) : Int)), some (.int ((mask6 : Nat) : Int))] ∧ XL pN H0 F' H' p1 found1) ?_ ?_
          · intro N6 hN6 hW
            have gx6 : Ex F5 F5 := Ex.rfl'
            refine a_ifE ?_
            refine e_ans (b := decide (way1 = 3)) (t_of (vb_dec (c_eqI (val_var rfl) val_c) n_eq)) ?_
            refine b_if (fun hc3 => ?_) (fun hc3 => ?_)
            · have hW := ifP hW hc3
              refine a_asgE ?_
              refine e_op ?_
              refine e_val (v := (.int ((mask4 : Nat) : Int))) (val_var rfl) ?_
              refine e_op ?_
              refine e_lst ?_
              refine a_val (v := (.int ((43690 : Nat) : Int))) val_c ?_
              refine a_val (v := (.int ((21845 : Nat) : Int))) val_c ?_
              refine a_nil ?_
              refine n_lstX (e := pN) (xs := [43690, 21845]) (vs := [(.int ((43690 : Nat) : Int)), (.int ((21845 : Nat) : Int))]) (show All pN _ [(.int ((43690 : Nat) : Int)), (.int ((21845 : Nat) : Int))] [43690, 21845] from ⟨rfl, ⟨rfl, trivial⟩⟩) (show 2 < 1000000 from by decide) w ?_
              intro p3 H7 hp2 s7 x6
              have ne1 := x4.ne hp2
              replace r1 := Rep.mono _ s7.g r1
              replace x4 := x4.step s7
              replace w := w.tr s7
              replace gx6 := Ex.tr gx6 s7.g
              replace gx5 := Ex.tr gx5 s7.g
              replace gx3 := Ex.tr gx3 s7.g
              replace gx1 := Ex.tr gx1 s7.g
              refine e_val (v := (.int ((it1.1 % 2 : Nat) : Int))) (vn_mod (val_var rfl) val_c (by decide)) ?_
              obtain ⟨x7, hx7_1, hW⟩ := hW
              obtain ⟨_, rfl, ix1⟩ := ix_X (K := K) x6 hx7_1
              refine rv2 (z := (.int ((x7 : Nat) : Int))) (ix1 val_c val_c) ?_
              refine rv2 (z := (.int ((mask4 &&& x7 : Nat) : Int))) (vn_and val_c val_c) ?_
              obtain ⟨mask7, emask3⟩ : ∃ mask7 : Nat, mask7 = mask4 &&& x7 := ⟨_, rfl⟩
              replace hW := hW mask7 emask3
              refine nx_set (v := (.int ((mask7 : Nat) : Int))) (by rw [emask3]) ?_
              exact hN6 mask7 _ _ _ ⟨w, gx6, rfl, x4⟩ hW
            · have hW := ifN hW hc3
              exact hN6 mask4 _ _ _ ⟨w, gx6, rfl, x4⟩ hW
          · intro mask6 σ' F6 H8 hI4 hW
            obtain ⟨w, gx7, rfl, x5⟩ := hI4
            have r1 := Rep.mono _ gx7 r1
            have gx5 := Ex.tr gx5 gx7
            have gx3 := Ex.tr gx3 gx7
            have gx1 := Ex.tr gx1 gx7
            refine a_dropE ?_
            refine m_list x5 (val_var rfl) ?_
            refine a_val (v := (.int ((mask6 : Nat) : Int))) (val_var rfl) ?_
            refine a_nil ?_
            obtain ⟨c3, hW⟩ := hW
            refine a_app x5 w c3 rfl (fun H9 w1 x8 kp1 => ?_)
            replace w := w1
            exact hN3 (found1 ++ [mask6]) _ _ _ ⟨_, _, w, gx1, rfl, x8⟩ hW
    · intro found1 σ' F7 H10 hI5 hW
      obtain ⟨o1, o2, w, gx8, rfl, x2⟩ := hI5
      have r1 := Rep.mono _ gx8 r1
      refine hN2 _ _ ?_
      refine a_ret (v := (.ref p1)) (val_var rfl) ?_
      exact hQ _ hW _ _ _ w x2
abbrev s_machine : Stmt := topS 31
def W_machine (script1 : List Int) (start1 : Nat) (most1 : Nat) (R : (Nat × List (Nat × Nat) × List (Nat × Nat)) → Prop) : Prop := W_cell script1 start1 fun z1 => (0 < most1 + 1) ∧ ∀ stores1 : Nat, stores1 = modN (z1 / ((2 : Nat) : Int)) (most1 + 1) → ∀ stores2 : Nat, stores2 = (if (modN (z1 / ((64 : Nat) : Int)) 8) = 5 then modN (z1 / ((512 : Nat) : Int)) 17 else stores1) → W_mix z1 1 fun z2 => ∀ inputs1 : Nat, inputs1 = z2 % 4 → W_mix z1 2 fun z3 => ∀ outputs1 : Nat, outputs1 = z3 % 4 → jn (fun kk => if (modN (z1 / ((64 : Nat) : Int)) 8) = 6 then (W_mix z1 1 fun z4 => ∀ inputs3 : Nat, inputs3 = z4 % 7 → W_mix z1 2 fun z5 => ∀ outputs3 : Nat, outputs3 = z5 % 7 → kk (inputs3, outputs3)) else (kk (inputs1, outputs1))) fun (inputs2, outputs2) => ∀ digits1 : Bool, digits1 = decide ((modN z1 2) = 0) → W_mix z1 3 fun z6 => ∀ way1 : Nat, way1 = z6 % 5 → W_cell script1 (start1 + 1) fun z7 => W_masks z7 100 stores2 stores2 digits1 fun z8 => W_cell script1 (start1 + 2) fun z9 => W_masks z9 140 stores2 inputs2 digits1 fun z10 => jn (fun kk => if ¬ (digits1 = true) then (W_cell script1 (start1 + 1) fun z11 => W_thinned z8 z11 180 way1 fun z12 => if 0 < way1 then (((enumT z10).length < 1000000) ∧ compW (enumT z10) (fun it1 kk => W_cell script1 (start1 + 2) fun z13 => W_mix z13 (220 + it1.1) fun z14 => kk (some (it1.2 &&& z14))) fun ys1 => kk (z12, ys1)) else (kk (z12, z10))) else (kk (z8, z10))) fun (one1, other1) => W_cell script1 (start1 + 3) fun z15 => W_masks z15 260 outputs2 stores2 digits1 fun z16 => W_cell script1 (start1 + 4) fun z17 => W_masks z17 280 outputs2 inputs2 digits1 fun z18 => jn (fun kk => if (¬ (digits1 = true)) ∧ (1 < way1) then (((enumT z16).length < 1000000) ∧ compW (enumT z16) (fun it2 kk => W_cell script1 (start1 + 3) fun z19 => W_mix z19 (300 + it2.1) fun z20 => kk (some (it2.2 &&& z20))) fun ys2 => kk ys2) else (kk z16)) fun shown1 => jn (fun kk => if (¬ (digits1 = true)) ∧ (2 < way1) then ((z18.length < 1000000) ∧ compW z18 (fun mask3 kk => kk (some 0)) fun ys3 => kk ys3) else (kk z18)) fun straight1 => R (inputs2, one1.zip other1, shown1.zip straight1)
def sp_machine (K : PySem.W.Frag) (cc : Cz) : Sp := fun vs H Q _ => ∃ (F : Hp) (v1 : V) (script1 : List Int) (start1 : Nat) (most1 : Nat) (R : (Nat × List (Nat × Nat) × List (Nat × Nat)) → Prop), vs = [v1, (.int ((start1 : Nat) : Int)), (.int ((most1 : Nat) : Int))] ∧ Ex F H ∧ (pScr K).r F v1 script1 ∧ W_machine script1 start1 most1 R ∧ ∀ z, R z → ∀ v F' H', Wf F H F' H' → (pT3 pN (pL (pT2 pN pN)) (pL (pT2 pN pN))).r F' v z → Q v H'
abbrev N_machine : List Str := ["_law_script", "_law_start", "_law_most", "_law_cell_here", "_law_stores", "_law_inputs", "_law_outputs", "_law_digits", "_law_way", "_law_one", "_law_other", "_law_k", "_law_mask", "_law_shown", "_law_straight"]
theorem sc_machine : FnScope N_machine ["_law_script", "_law_start", "_law_most"] (defScope s_machine) := ⟨rfl, rfl, rfl, by decide +kernel, rfl, by decide +kernel, by decide +kernel⟩
theorem ok_machine {P : Program} {w0 : World} {K : PySem.W.Frag} {mg : Str → Option Value} {base : Heap} {f : Addr} {fd : FuncData} {cc : Cz} (T : Tz K mg cc) (FU : Fun K "_law_machine" "_law_machine" s_machine f fd) (hm : mg "_law_machine" = some (.ref f)) (hb : Binds K fd ["_law_script", "_law_start", "_law_most"] []) (c_cell : Fn P w0 K mg base CX0 1 "_law_cell" ["_law_script", "_law_k"] (sp_cell K cc)) (c_mix : Fn P w0 K mg base CX0 1 "_law_mix" ["_law_cell_here", "_law_k"] (sp_mix K cc)) (c_masks : Fn P w0 K mg base CX0 2 "_law_masks" ["_law_cell_here", "_law_start", "_law_many", "_law_width", "_law_digits"] (sp_masks K cc)) (c_thinned : Fn P w0 K mg base CX0 2 "_law_thinned" ["_law_masks_here", "_law_cell_here", "_law_start", "_law_way"] (sp_thinned K cc)) (n_enumerate : mg "enumerate" = none) (n_list : mg "list" = none) (n_zip : mg "zip" = none) : Fn P w0 K mg base CX0 3 "_law_machine" ["_law_script", "_law_start", "_law_most"] (sp_machine K cc) := by
  refine ⟨f, fd, FU.ok sc_machine (fun vs H Q E h => ?_) (fun cdv A outer s H0 vs Q E hr h => ?_), hm, FU.kp, hb⟩
  · obtain ⟨_, _, _, _, _, _, rfl, _⟩ := h; rfl
  · obtain ⟨F0, v1, script1, start1, most1, R, rfl, wf, r1, hW, hQ⟩ := h
    have nd := sc_machine.nd
    refine ⟨(tSeq (tAsg (tCall (sp_cell K cc) [] E0 (tCons (tVar 0) (tCons (tVar 1) tNil))) (gName 3)) (tSeq (tAsg (tOp kMod (tOp kDiv (tVar 3) (tC (.int 2))) (tOp kAdd (tVar 2) (tC (.int 1)))) (gName 4)) (tSeq (tIfS (tTest (tOp L2.rEq (tOp kMod (tOp kDiv (tVar 3) (tC (.int 64))) (tC (.int 8))) (tC (.int 5)))) (tAsg (tOp kMod (tOp kDiv (tVar 3) (tC (.int 512))) (tC (.int 17))) (gName 4)) tNext) (tSeq (tAsg (tOp kMod (tCall (sp_mix K cc) [] E0 (tCons (tVar 3) (tCons (tC (.int 1)) tNil))) (tC (.int 4))) (gName 5)) (tSeq (tAsg (tOp kMod (tCall (sp_mix K cc) [] E0 (tCons (tVar 3) (tCons (tC (.int 2)) tNil))) (tC (.int 4))) (gName 6)) (tSeq (tIfS (tTest (tOp L2.rEq (tOp kMod (tOp kDiv (tVar 3) (tC (.int 64))) (tC (.int 8))) (tC (.int 6)))) (tSeq (tAsg (tOp kMod (tCall (sp_mix K cc) [] E0 (tCons (tVar 3) (tCons (tC (.int 1)) tNil))) (tC (.int 7))) (gName 5)) (tAsg (tOp kMod (tCall (sp_mix K cc) [] E0 (tCons (tVar 3) (tCons (tC (.int 2)) tNil))) (tC (.int 7))) (gName 6))) tNext) (tSeq (tAsg (tOp L2.rEq (tOp kMod (tVar 3) (tC (.int 2))) (tC (.int 0))) (gName 7)) (tSeq (tAsg (tOp kMod (tCall (sp_mix K cc) [] E0 (tCons (tVar 3) (tCons (tC (.int 3)) tNil))) (tC (.int 5))) (gName 8)) (tSeq (tAsg (tCall (sp_masks K cc) [] E0 (tCons (tCall (sp_cell K cc) [] E0 (tCons (tVar 0) (tCons (tOp kAdd (tVar 1) (tC (.int 1))) tNil))) (tCons (tC (.int 100)) (tCons (tVar 4) (tCons (tVar 4) (tCons (tVar 7) tNil)))))) (gName 9)) (tSeq (tAsg (tCall (sp_masks K cc) [] E0 (tCons (tCall (sp_cell K cc) [] E0 (tCons (tVar 0) (tCons (tOp kAdd (tVar 1) (tC (.int 2))) tNil))) (tCons (tC (.int 140)) (tCons (tVar 4) (tCons (tVar 5) (tCons (tVar 7) tNil)))))) (gName 10)) (tSeq (tIfS (tNot (tB (tVar 7))) (tSeq (tAsg (tCall (sp_thinned K cc) [] E0 (tCons (tVar 9) (tCons (tCall (sp_cell K cc) [] E0 (tCons (tVar 0) (tCons (tOp kAdd (tVar 1) (tC (.int 1))) tNil))) (tCons (tC (.int 180)) (tCons (tVar 8) tNil))))) (gName 9)) (tIfS (tTest (tOp kGt (tVar 8) (tC (.int 0)))) (tAsg (tLc (iEnum K (tCons (tVar 10) tNil)) (gTup K 2 (gCons (gName 11) (gCons (gName 12) gNil))) tYes (tOp kAnd (tVar 12) (tCall (sp_mix K cc) [] E0 (tCons (tCall (sp_cell K cc) [] E0 (tCons (tVar 0) (tCons (tOp kAdd (tVar 1) (tC (.int 2))) tNil))) (tCons (tOp kAdd (tC (.int 220)) (tVar 11)) tNil)))) [11, 12]) (gName 10)) tNext)) tNext) (tSeq (tAsg (tCall (sp_masks K cc) [] E0 (tCons (tCall (sp_cell K cc) [] E0 (tCons (tVar 0) (tCons (tOp kAdd (tVar 1) (tC (.int 3))) tNil))) (tCons (tC (.int 260)) (tCons (tVar 6) (tCons (tVar 4) (tCons (tVar 7) tNil)))))) (gName 13)) (tSeq (tAsg (tCall (sp_masks K cc) [] E0 (tCons (tCall (sp_cell K cc) [] E0 (tCons (tVar 0) (tCons (tOp kAdd (tVar 1) (tC (.int 4))) tNil))) (tCons (tC (.int 280)) (tCons (tVar 6) (tCons (tVar 5) (tCons (tVar 7) tNil)))))) (gName 14)) (tSeq (tIfS (tAnd (tNot (tB (tVar 7))) (tTest (tOp kGt (tVar 8) (tC (.int 1))))) (tAsg (tLc (iEnum K (tCons (tVar 13) tNil)) (gTup K 2 (gCons (gName 11) (gCons (gName 12) gNil))) tYes (tOp kAnd (tVar 12) (tCall (sp_mix K cc) [] E0 (tCons (tCall (sp_cell K cc) [] E0 (tCons (tVar 0) (tCons (tOp kAdd (tVar 1) (tC (.int 3))) tNil))) (tCons (tOp kAdd (tC (.int 300)) (tVar 11)) tNil)))) [11, 12]) (gName 13)) tNext) (tSeq (tIfS (tAnd (tNot (tB (tVar 7))) (tTest (tOp kGt (tVar 8) (tC (.int 2))))) (tAsg (tLc (iList K (tVar 14)) (gName 12) tYes (tC (.int 0)) [12]) (gName 14)) tNext) (tRet (tTup (tCons (tVar 5) (tCons (tLstZip K (tCons (tVar 9) (tCons (tVar 10) tNil))) (tCons (tLstZip K (tCons (tVar 13) (tCons (tVar 14) tNil))) tNil)))))))))))))))))))), (pss_cons (ps_set (i := 3) nd rfl (Or.inl rfl) (pe_fn c_cell (hr.mono (by decide)) rfl (pa_cons (pv 0) (pa_cons (pv 1) pa_nil)))) (pss_cons (ps_set (i := 4) nd rfl (Or.inl rfl) (pe_op op_mod (pe_op op_fdivW (pv 3) pe_int) (pe_op op_add (pv 2) pe_int))) (pss_cons (ps_if (pt_cmpR op_eq (pe_op op_mod (pe_op op_fdivW (pv 3) pe_int) pe_int) pe_int (nomark _)) (pss_one (ps_set (i := 4) nd rfl (Or.inl rfl) (pe_op op_mod (pe_op op_fdivW (pv 3) pe_int) pe_int))) pss_nil) (pss_cons (ps_set (i := 5) nd rfl (Or.inl rfl) (pe_op op_mod (pe_fn c_mix (hr.mono (by decide)) rfl (pa_cons (pv 3) (pa_cons pe_int pa_nil))) pe_int)) (pss_cons (ps_set (i := 6) nd rfl (Or.inl rfl) (pe_op op_mod (pe_fn c_mix (hr.mono (by decide)) rfl (pa_cons (pv 3) (pa_cons pe_int pa_nil))) pe_int)) (pss_cons (ps_if (pt_cmpR op_eq (pe_op op_mod (pe_op op_fdivW (pv 3) pe_int) pe_int) pe_int (nomark _)) (pss_cons (ps_set (i := 5) nd rfl (Or.inl rfl) (pe_op op_mod (pe_fn c_mix (hr.mono (by decide)) rfl (pa_cons (pv 3) (pa_cons pe_int pa_nil))) pe_int)) (pss_one (ps_set (i := 6) nd rfl (Or.inl rfl) (pe_op op_mod (pe_fn c_mix (hr.mono (by decide)) rfl (pa_cons (pv 3) (pa_cons pe_int pa_nil))) pe_int)))) pss_nil) (pss_cons (ps_set (i := 7) nd rfl (Or.inl rfl) (pe_cmpR op_eq (pe_op op_mod (pv 3) pe_int) pe_int (nomark _))) (pss_cons (ps_set (i := 8) nd rfl (Or.inl rfl) (pe_op op_mod (pe_fn c_mix (hr.mono (by decide)) rfl (pa_cons (pv 3) (pa_cons pe_int pa_nil))) pe_int)) (pss_cons (ps_set (i := 9) nd rfl (Or.inl rfl) (pe_fn c_masks (hr.mono (by decide)) rfl (pa_cons (pe_fn c_cell (hr.mono (by decide)) rfl (pa_cons (pv 0) (pa_cons (pe_op op_add (pv 1) pe_int) pa_nil))) (pa_cons pe_int (pa_cons (pv 4) (pa_cons (pv 4) (pa_cons (pv 7) pa_nil))))))) (pss_cons (ps_set (i := 10) nd rfl (Or.inl rfl) (pe_fn c_masks (hr.mono (by decide)) rfl (pa_cons (pe_fn c_cell (hr.mono (by decide)) rfl (pa_cons (pv 0) (pa_cons (pe_op op_add (pv 1) pe_int) pa_nil))) (pa_cons pe_int (pa_cons (pv 4) (pa_cons (pv 5) (pa_cons (pv 7) pa_nil))))))) (pss_cons (ps_if (pt_not (pt_val (pv 7))) (pss_cons (ps_set (i := 9) nd rfl (Or.inl rfl) (pe_fn c_thinned (hr.mono (by decide)) rfl (pa_cons (pv 9) (pa_cons (pe_fn c_cell (hr.mono (by decide)) rfl (pa_cons (pv 0) (pa_cons (pe_op op_add (pv 1) pe_int) pa_nil))) (pa_cons pe_int (pa_cons (pv 8) pa_nil)))))) (pss_one (ps_if (pt_cmpR op_gt (pv 8) pe_int (nomark _)) (pss_one (ps_setLc (i := 10) (own := [("_law_k", 11), ("_law_mask", 12)]) (wi := (iEnum K (tCons (tVar 10) tNil))) (g := (gTup K 2 (gCons (gName 11) (gCons (gName 12) gNil)))) (tt := tYes) (te := (tOp kAnd (tVar 12) (tCall (sp_mix K cc) [] E0 (tCons (tCall (sp_cell K cc) [] E0 (tCons (tVar 0) (tCons (tOp kAdd (tVar 1) (tC (.int 2))) tNil))) (tCons (tOp kAdd (tC (.int 220)) (tVar 11)) tNil))))) rfl nd rfl rfl (sw_true rfl rfl rfl (by decide +kernel)) (pi_enum (by rfl) n_enumerate (pa_cons (pv 10) pa_nil)) (blkOk_by (N := N_machine) (sc := defScope s_machine) (by decide +kernel)) (fun _ _ _ _ _ => (pg_tup rfl (pgs_cons (pg_name (i := 11) nd rfl (Or.inl rfl)) (pgs_cons (pg_name (i := 12) nd rfl (Or.inl rfl)) pgs_nil)) (by rfl))) (fun _ _ _ _ _ => pts_nil) (fun _ _ _ _ _ => (pe_op op_and (pv 12) (pe_fn c_mix (hr.mono (by decide)) rfl (pa_cons (pe_fn c_cell (hr.mono (by decide)) rfl (pa_cons (pv 0) (pa_cons (pe_op op_add (pv 1) pe_int) pa_nil))) (pa_cons (pe_op op_add pe_int (pv 11)) pa_nil))))))) pss_nil))) pss_nil) (pss_cons (ps_set (i := 13) nd rfl (Or.inl rfl) (pe_fn c_masks (hr.mono (by decide)) rfl (pa_cons (pe_fn c_cell (hr.mono (by decide)) rfl (pa_cons (pv 0) (pa_cons (pe_op op_add (pv 1) pe_int) pa_nil))) (pa_cons pe_int (pa_cons (pv 6) (pa_cons (pv 4) (pa_cons (pv 7) pa_nil))))))) (pss_cons (ps_set (i := 14) nd rfl (Or.inl rfl) (pe_fn c_masks (hr.mono (by decide)) rfl (pa_cons (pe_fn c_cell (hr.mono (by decide)) rfl (pa_cons (pv 0) (pa_cons (pe_op op_add (pv 1) pe_int) pa_nil))) (pa_cons pe_int (pa_cons (pv 6) (pa_cons (pv 5) (pa_cons (pv 7) pa_nil))))))) (pss_cons (ps_if (PW.pt (pw_and (pt_not (pt_val (pv 7))) (pw_and1 (pt_cmpR op_gt (pv 8) pe_int (nomark _))))) (pss_one (ps_setLc (i := 13) (own := [("_law_k", 11), ("_law_mask", 12)]) (wi := (iEnum K (tCons (tVar 13) tNil))) (g := (gTup K 2 (gCons (gName 11) (gCons (gName 12) gNil)))) (tt := tYes) (te := (tOp kAnd (tVar 12) (tCall (sp_mix K cc) [] E0 (tCons (tCall (sp_cell K cc) [] E0 (tCons (tVar 0) (tCons (tOp kAdd (tVar 1) (tC (.int 3))) tNil))) (tCons (tOp kAdd (tC (.int 300)) (tVar 11)) tNil))))) rfl nd rfl rfl (sw_true rfl rfl rfl (by decide +kernel)) (pi_enum (by rfl) n_enumerate (pa_cons (pv 13) pa_nil)) (blkOk_by (N := N_machine) (sc := defScope s_machine) (by decide +kernel)) (fun _ _ _ _ _ => (pg_tup rfl (pgs_cons (pg_name (i := 11) nd rfl (Or.inl rfl)) (pgs_cons (pg_name (i := 12) nd rfl (Or.inl rfl)) pgs_nil)) (by rfl))) (fun _ _ _ _ _ => pts_nil) (fun _ _ _ _ _ => (pe_op op_and (pv 12) (pe_fn c_mix (hr.mono (by decide)) rfl (pa_cons (pe_fn c_cell (hr.mono (by decide)) rfl (pa_cons (pv 0) (pa_cons (pe_op op_add (pv 1) pe_int) pa_nil))) (pa_cons (pe_op op_add pe_int (pv 11)) pa_nil))))))) pss_nil) (pss_cons (ps_if (PW.pt (pw_and (pt_not (pt_val (pv 7))) (pw_and1 (pt_cmpR op_gt (pv 8) pe_int (nomark _))))) (pss_one (ps_setLc (i := 14) (own := [("_law_mask", 12)]) (wi := (iList K (tVar 14))) (g := (gName 12)) (tt := tYes) (te := (tC (.int 0))) rfl nd rfl rfl (sw_true rfl rfl rfl (by decide +kernel)) (pi_list (pv 14)) (blkOk_by (N := N_machine) (sc := defScope s_machine) (by decide +kernel)) (fun _ _ _ _ _ => (pg_name (i := 12) nd rfl (Or.inl rfl))) (fun _ _ _ _ _ => pts_nil) (fun _ _ _ _ _ => pe_int))) pss_nil) (pss_one (ps_ret (pe_tup (pa_cons (pv 5) (pa_cons (pe_lstZip rfl (by rfl) n_list (by rfl) n_zip (pa_cons (pv 9) (pa_cons (pv 10) pa_nil))) (pa_cons (pe_lstZip rfl (by rfl) n_list (by rfl) n_zip (pa_cons (pv 13) (pa_cons (pv 14) pa_nil))) pa_nil))))))))))))))))))))), ?_⟩
    have w := Wf.id wf
    refine q_sq fun N1 hN1 => ?_
    refine a_asgE ?_
    refine e_call ?_
    refine a_val (v := v1) (val_var rfl) ?_
    refine a_val (v := (.int ((start1 : Nat) : Int))) (val_var rfl) ?_
    refine a_nil ?_
    refine ⟨F0, (v1), (script1), (start1), _, rfl, w.f, r1, hW, ?_⟩
    intro z1 hW F1 H1 s1
    replace r1 := Rep.mono _ s1.g r1
    replace w := w.tr s1
    refine hN1 _ _ ?_
    refine q_sq fun N2 hN2 => ?_
    obtain ⟨c1, hW⟩ := hW
    obtain ⟨stores1, estores1⟩ : ∃ stores1 : Nat, stores1 = modN (z1 / ((2 : Nat) : Int)) (most1 + 1) := ⟨_, rfl⟩
    replace hW := hW stores1 estores1
    refine a_asg (v := (.int ((stores1 : Nat) : Int))) (v_eq (vm_mod (vi_div (val_var rfl) val_c ⟨by decide, by decide +kernel⟩) (vn_add (val_var rfl) val_c) c1) (by rw [estores1])) ?_
    refine hN2 _ _ ?_
    refine q_sq fun N3 hN3 => ?_
    obtain ⟨stores2, estores2⟩ : ∃ stores2 : Nat, stores2 = (if (modN (z1 / ((64 : Nat) : Int)) 8) = 5 then modN (z1 / ((512 : Nat) : Int)) 17 else stores1) := ⟨_, rfl⟩
    replace hW := hW stores2 estores2
    refine a_ifAsg (pr := (modN (z1 / ((64 : Nat) : Int)) 8) = 5) (v := (.int ((stores2 : Nat) : Int))) (t_of (vb_dec (c_eqI (vm_mod (vi_div (val_var rfl) val_c ⟨by decide, by decide +kernel⟩) val_c (by decide)) val_c) n_eq)) (fun hq => v_eq (vm_mod (vi_div (val_var rfl) val_c ⟨by decide, by decide +kernel⟩) val_c (by decide)) (by rw [estores2, if_pos hq])) (fun hq => by rw [estores2, if_neg hq]; rfl) ?_
    refine hN3 _ _ ?_
    refine q_sq fun N4 hN4 => ?_
    refine a_asgE ?_
    refine e_op ?_
    refine e_call ?_
    refine a_val (v := (.int (z1))) (val_var rfl) ?_
    refine a_val (v := (.int ((1 : Nat) : Int))) val_c ?_
    refine a_nil ?_
    refine ⟨F1, (z1), (1), _, rfl, w.f, hW, ?_⟩
    intro z2 hW F2 H2 s2
    replace r1 := Rep.mono _ s2.g r1
    replace w := w.tr s2
    refine e_val (v := (.int ((4 : Nat) : Int))) val_c ?_
    refine rv2 (z := (.int ((z2 % 4 : Nat) : Int))) (vn_mod val_c val_c (by decide)) ?_
    obtain ⟨inputs1, einputs1⟩ : ∃ inputs1 : Nat, inputs1 = z2 % 4 := ⟨_, rfl⟩
    replace hW := hW inputs1 einputs1
    refine nx_set (v := (.int ((inputs1 : Nat) : Int))) (by rw [einputs1]) ?_
    refine hN4 _ _ ?_
    refine q_sq fun N5 hN5 => ?_
    refine a_asgE ?_
    refine e_op ?_
    refine e_call ?_
    refine a_val (v := (.int (z1))) (val_var rfl) ?_
    refine a_val (v := (.int ((2 : Nat) : Int))) val_c ?_
    refine a_nil ?_
    refine ⟨F2, (z1), (2), _, rfl, w.f, hW, ?_⟩
    intro z3 hW F3 H3 s3
    replace r1 := Rep.mono _ s3.g r1
    replace w := w.tr s3
    refine e_val (v := (.int ((4 : Nat) : Int))) val_c ?_
    refine rv2 (z := (.int ((z3 % 4 : Nat) : Int))) (vn_mod val_c val_c (by decide)) ?_
    obtain ⟨outputs1, eoutputs1⟩ : ∃ outputs1 : Nat, outputs1 = z3 % 4 := ⟨_, rfl⟩
    replace hW := hW outputs1 eoutputs1
    refine nx_set (v := (.int ((outputs1 : Nat) : Int))) (by rw [eoutputs1]) ?_
    refine hN5 _ _ ?_
    refine q_jn (S := Nat × Nat) hW (fun s σ' F' H' => match s with | (inputs2, outputs2) => Wf F0 H0 F' H' ∧ Ex F3 F' ∧ σ' = [some v1, some (.int ((start1 : Nat) : Int)), some (.int ((most1 : Nat) : Int)), some (.int (z1)), some (.int ((stores2 : Nat) : Int)), some (.int ((inputs2 : Nat) : Int)), some (.int ((outputs2 : Nat) : Int)), none, none, none, none, none, none, none, none]) ?_ ?_
    · intro N6 hN6 hW
      have gx1 : Ex F3 F3 := Ex.rfl'
      refine a_ifE ?_
      refine e_ans (b := decide ((modN (z1 / ((64 : Nat) : Int)) 8) = 6)) (t_of (vb_dec (c_eqI (vm_mod (vi_div (val_var rfl) val_c ⟨by decide, by decide +kernel⟩) val_c (by decide)) val_c) n_eq)) ?_
      refine b_if (fun hc1 => ?_) (fun hc1 => ?_)
      · have hW := ifP hW hc1
        refine q_sq fun N7 hN7 => ?_
        refine a_asgE ?_
        refine e_op ?_
        refine e_call ?_
        refine a_val (v := (.int (z1))) (val_var rfl) ?_
        refine a_val (v := (.int ((1 : Nat) : Int))) val_c ?_
        refine a_nil ?_
        refine ⟨F3, (z1), (1), _, rfl, w.f, hW, ?_⟩
        intro z4 hW F4 H4 s4
        replace r1 := Rep.mono _ s4.g r1
        replace w := w.tr s4
        replace gx1 := Ex.tr gx1 s4.g
        refine e_val (v := (.int ((7 : Nat) : Int))) val_c ?_
        refine rv2 (z := (.int ((z4 % 7 : Nat) : Int))) (vn_mod val_c val_c (by decide)) ?_
        obtain ⟨inputs3, einputs2⟩ : ∃ inputs3 : Nat, inputs3 = z4 % 7 := ⟨_, rfl⟩
        replace hW := hW inputs3 einputs2
        refine nx_set (v := (.int ((inputs3 : Nat) : Int))) (by rw [einputs2]) ?_
        refine hN7 _ _ ?_
        refine a_asgE ?_
        refine e_op ?_
        refine e_call ?_
        refine a_val (v := (.int (z1))) (val_var rfl) ?_
        refine a_val (v := (.int ((2 : Nat) : Int))) val_c ?_
        refine a_nil ?_
        refine ⟨F4, (z1), (2), _, rfl, w.f, hW, ?_⟩
        intro z5 hW F5 H5 s5
        replace r1 := Rep.mono _ s5.g r1
        replace w := w.tr s5
        replace gx1 := Ex.tr gx1 s5.g
        refine e_val (v := (.int ((7 : Nat) : Int))) val_c ?_
        refine rv2 (z := (.int ((z5 % 7 : Nat) : Int))) (vn_mod val_c val_c (by decide)) ?_
        obtain ⟨outputs3, eoutputs2⟩ : ∃ outputs3 : Nat, outputs3 = z5 % 7 := ⟨_, rfl⟩
        replace hW := hW outputs3 eoutputs2
        refine nx_set (v := (.int ((outputs3 : Nat) : Int))) (by rw [eoutputs2]) ?_
        exact hN6 (inputs3, outputs3) _ _ _ ⟨w, gx1, rfl⟩ hW
      · have hW := ifN hW hc1
        exact hN6 (inputs1, outputs1) _ _ _ ⟨w, gx1, rfl⟩ hW
    · intro s6 σ' F6 H6 hI1 hW
      obtain ⟨inputs2, outputs2⟩ := s6
      obtain ⟨w, gx2, rfl⟩ := hI1
      have r1 := Rep.mono _ gx2 r1
      refine q_sq fun N8 hN8 => ?_
      obtain ⟨digits1, edigits1⟩ : ∃ digits1 : Bool, digits1 = decide ((modN z1 2) = 0) := ⟨_, rfl⟩
      replace hW := hW digits1 edigits1
      refine a_asg (v := (.bl (digits1))) (v_eq (vb_dec (c_eqI (vm_mod (val_var rfl) val_c (by decide)) val_c) n_eq) (by rw [edigits1])) ?_
      refine hN8 _ _ ?_
      refine q_sq fun N9 hN9 => ?_
      refine a_asgE ?_
      refine e_op ?_
      refine e_call ?_
      refine a_val (v := (.int (z1))) (val_var rfl) ?_
      refine a_val (v := (.int ((3 : Nat) : Int))) val_c ?_
      refine a_nil ?_
      refine ⟨F6, (z1), (3), _, rfl, w.f, hW, ?_⟩
      intro z6 hW F7 H7 s7
      replace r1 := Rep.mono _ s7.g r1
      replace w := w.tr s7
      replace gx2 := Ex.tr gx2 s7.g
      refine e_val (v := (.int ((5 : Nat) : Int))) val_c ?_
      refine rv2 (z := (.int ((z6 % 5 : Nat) : Int))) (vn_mod val_c val_c (by decide)) ?_
      obtain ⟨way1, eway1⟩ : ∃ way1 : Nat, way1 = z6 % 5 := ⟨_, rfl⟩
      replace hW := hW way1 eway1
      refine nx_set (v := (.int ((way1 : Nat) : Int))) (by rw [eway1]) ?_
      refine hN9 _ _ ?_
      refine q_sq fun N10 hN10 => ?_
      refine a_asgE ?_
      refine e_call ?_
      refine a_cons ?_
      refine e_call ?_
      refine a_val (v := v1) (val_var rfl) ?_
      refine a_val (v := (.int ((start1 + 1 : Nat) : Int))) (vn_add (val_var rfl) val_c) ?_
      refine a_nil ?_
      refine ⟨F7, (v1), (script1), (start1 + 1), _, rfl, w.f, r1, hW, ?_⟩
      intro z7 hW F8 H8 s8
      replace r1 := Rep.mono _ s8.g r1
      replace w := w.tr s8
      replace gx2 := Ex.tr gx2 s8.g
      refine a_val (v := (.int ((100 : Nat) : Int))) val_c ?_
      refine a_val (v := (.int ((stores2 : Nat) : Int))) (val_var rfl) ?_
      refine a_val (v := (.int ((stores2 : Nat) : Int))) (val_var rfl) ?_
      refine a_val (v := (.bl (digits1))) (val_var rfl) ?_
      refine a_nil ?_
      refine ⟨F8, (z7), (100), (stores2), (stores2), (digits1), _, rfl, w.f, hW, ?_⟩
      intro z8 hW p1 F9 H9 s9 x1
      replace x1 := x1.base w
      replace r1 := Rep.mono _ s9.g r1
      replace w := w.tr s9
      replace gx2 := Ex.tr gx2 s9.g
      obtain ⟨F10, w1, g1, r2, fz1⟩ := x1.frzE w
      replace r1 := Rep.mono _ g1 r1
      replace w := w1
      replace gx2 := Ex.tr gx2 g1
      refine hN10 _ _ ?_
      refine q_sq fun N11 hN11 => ?_
      refine a_asgE ?_
      refine e_call ?_
      refine a_cons ?_
      refine e_call ?_
      refine a_val (v := v1) (val_var rfl) ?_
      refine a_val (v := (.int ((start1 + 2 : Nat) : Int))) (vn_add (val_var rfl) val_c) ?_
      refine a_nil ?_
      refine ⟨F10, (v1), (script1), (start1 + 2), _, rfl, w.f, r1, hW, ?_⟩
      intro z9 hW F11 H10 s10
      replace r1 := Rep.mono _ s10.g r1
      replace r2 := Rep.mono _ s10.g r2
      replace w := w.tr s10
      replace gx2 := Ex.tr gx2 s10.g
      refine a_val (v := (.int ((140 : Nat) : Int))) val_c ?_
      refine a_val (v := (.int ((stores2 : Nat) : Int))) (val_var rfl) ?_
      refine a_val (v := (.int ((inputs2 : Nat) : Int))) (val_var rfl) ?_
      refine a_val (v := (.bl (digits1))) (val_var rfl) ?_
      refine a_nil ?_
      refine ⟨F11, (z9), (140), (stores2), (inputs2), (digits1), _, rfl, w.f, hW, ?_⟩
      intro z10 hW p2 F12 H11 s11 x2
      replace x2 := x2.base w
      replace r1 := Rep.mono _ s11.g r1
      replace r2 := Rep.mono _ s11.g r2
      replace w := w.tr s11
      replace gx2 := Ex.tr gx2 s11.g
      obtain ⟨F13, w2, g2, r3, fz2⟩ := x2.frzE w
      replace r1 := Rep.mono _ g2 r1
      replace r2 := Rep.mono _ g2 r2
      replace w := w2
      replace gx2 := Ex.tr gx2 g2
      refine hN11 _ _ ?_
      refine q_jn (S := List Nat × List Nat) hW (fun s σ' F' H' => match s with | (one1, other1) => ∃ (v2 : V) (v3 : V), Wf F0 H0 F' H' ∧ Ex F13 F' ∧ σ' = [some v1, some (.int ((start1 : Nat) : Int)), some (.int ((most1 : Nat) : Int)), some (.int (z1)), some (.int ((stores2 : Nat) : Int)), some (.int ((inputs2 : Nat) : Int)), some (.int ((outputs2 : Nat) : Int)), some (.bl (digits1)), some (.int ((way1 : Nat) : Int)), some v2, some v3, none, none, none, none] ∧ (pL pN).r F' v2 one1 ∧ (pL pN).r F' v3 other1) ?_ ?_
      · intro N12 hN12 hW
        have gx3 : Ex F13 F13 := Ex.rfl'
        refine a_ifE ?_
        refine e_ans (b := decide (¬ (digits1 = true))) (t_not (t_ofB (vb_of (val_var rfl) dec_tt))) ?_
        refine b_if (fun hc2 => ?_) (fun hc2 => ?_)
        · have hW := ifP hW hc2
          refine q_sq fun N13 hN13 => ?_
          refine a_asgE ?_
          refine e_call ?_
          refine a_val (v := (.ref p1)) (val_var rfl) ?_
          refine a_cons ?_
          refine e_call ?_
          refine a_val (v := v1) (val_var rfl) ?_
          refine a_val (v := (.int ((start1 + 1 : Nat) : Int))) (vn_add (val_var rfl) val_c) ?_
          refine a_nil ?_
          refine ⟨F13, (v1), (script1), (start1 + 1), _, rfl, w.f, r1, hW, ?_⟩
          intro z11 hW F14 H12 s12
          replace r1 := Rep.mono _ s12.g r1
          replace r2 := Rep.mono _ s12.g r2
          replace r3 := Rep.mono _ s12.g r3
          replace w := w.tr s12
          replace gx3 := Ex.tr gx3 s12.g
          replace gx2 := Ex.tr gx2 s12.g
          refine a_val (v := (.int ((180 : Nat) : Int))) val_c ?_
          refine a_val (v := (.int ((way1 : Nat) : Int))) (val_var rfl) ?_
          refine a_nil ?_
          refine ⟨F14, ((.ref p1)), (z8), (z11), (180), (way1), _, rfl, w.f, r2, hW, ?_⟩
          intro z12 hW p3 F15 H13 s13 x3
          replace x3 := x3.base w
          replace r1 := Rep.mono _ s13.g r1
          replace r2 := Rep.mono _ s13.g r2
          replace r3 := Rep.mono _ s13.g r3
          replace w := w.tr s13
          replace gx3 := Ex.tr gx3 s13.g
          replace gx2 := Ex.tr gx2 s13.g
          obtain ⟨F16, w3, g3, r6, fz3⟩ := x3.frzE w
          replace r1 := Rep.mono _ g3 r1
          replace r2 := Rep.mono _ g3 r2
          replace r3 := Rep.mono _ g3 r3
          replace w := w3
          replace gx3 := Ex.tr gx3 g3
          replace gx2 := Ex.tr gx2 g3
          refine hN13 _ _ ?_
          refine a_ifE ?_
          refine e_ans (b := decide (0 < way1)) (t_of (vb_dec (c_gt (val_var rfl) val_c) n_lt)) ?_
          refine b_if (fun hc3 => ?_) (fun hc3 => ?_)
          · have hW := ifP hW hc3
            refine a_asgE ?_
            refine c_J ?_
            refine a_val (v := (.ref p2)) (val_var rfl) ?_
            refine a_nil ?_
            refine src_enum r3 w.f (fun a1 T1 => ?_)
            obtain ⟨c2, hW⟩ := hW
            refine w_compG (e := pN) T1 w c2 hW ?_ ?_
            · intro Qy Qn it1 u1 F17 H14 R1 q1 hx1 ru1 hW hy1 hn1
              have r1 := Rep.mono _ q1.g r1
              have r6 := Rep.mono _ q1.g r6
              have r3 := Rep.mono _ q1.g r3
              have w := Wf.id q1.f
              obtain ⟨p4, u2, u3, rfl, h1, rfl, rfl⟩ := ru1
              refine ⟨p4, _, rfl, SqT.of (w.f _ _ h1), rfl, _, _, rfl, _, _, rfl, rfl, ?_⟩
              refine ⟨rfl, ?_⟩
              refine c_yes ?_
              refine e_op ?_
              refine e_val (v := (.int ((it1.2 : Nat) : Int))) (val_var rfl) ?_
              refine e_call ?_
              refine a_cons ?_
              refine e_call ?_
              refine a_val (v := v1) (val_var rfl) ?_
              refine a_val (v := (.int ((start1 + 2 : Nat) : Int))) (vn_add (val_var rfl) val_c) ?_
              refine a_nil ?_
              refine ⟨F17, (v1), (script1), (start1 + 2), _, rfl, w.f, r1, hW, ?_⟩
              intro z13 hW F18 H15 s14
              replace r1 := Rep.mono _ s14.g r1
              replace r6 := Rep.mono _ s14.g r6
              replace r3 := Rep.mono _ s14.g r3
              replace w := w.tr s14
              refine a_val (v := (.int ((220 + it1.1 : Nat) : Int))) (vn_add val_c (val_var rfl)) ?_
              refine a_nil ?_
              refine ⟨F18, (z13), (220 + it1.1), _, rfl, w.f, hW, ?_⟩
              intro z14 hW F19 H16 s15
              replace r1 := Rep.mono _ s15.g r1
              replace r6 := Rep.mono _ s15.g r6
              replace r3 := Rep.mono _ s15.g r3
              replace w := w.tr s15
              refine rv2 (z := (.int ((it1.2 &&& z14 : Nat) : Int))) (vn_and val_c val_c) ?_
              exact hy1 _ _ _ _ w rfl hW
            intro p5 ys1 F20 H17 hp1 s16 x4 hW
            replace r1 := Rep.mono _ s16.g r1
            replace r6 := Rep.mono _ s16.g r6
            replace r3 := Rep.mono _ s16.g r3
            replace w := w.tr s16
            replace gx3 := Ex.tr gx3 s16.g
            replace gx2 := Ex.tr gx2 s16.g
            obtain ⟨F21, w4, g4, r7, fz4⟩ := x4.frzE w
            replace r1 := Rep.mono _ g4 r1
            replace r6 := Rep.mono _ g4 r6
            replace r3 := Rep.mono _ g4 r3
            replace w := w4
            replace gx3 := Ex.tr gx3 g4
            replace gx2 := Ex.tr gx2 g4
            exact hN12 (z12, ys1) _ _ _ ⟨_, _, w, gx3, rfl, r6, r7⟩ hW
          · have hW := ifN hW hc3
            exact hN12 (z12, z10) _ _ _ ⟨_, _, w, gx3, rfl, r6, r3⟩ hW
        · have hW := ifN hW hc2
          exact hN12 (z8, z10) _ _ _ ⟨_, _, w, gx3, rfl, r2, r3⟩ hW
      · intro s17 σ' F22 H18 hI2 hW
        obtain ⟨one1, other1⟩ := s17
        obtain ⟨v2, v3, w, gx4, rfl, r4, r5⟩ := hI2
        have r1 := Rep.mono _ gx4 r1
        have gx2 := Ex.tr gx2 gx4
        refine q_sq fun N14 hN14 => ?_
        refine a_asgE ?_
        refine e_call ?_
        refine a_cons ?_
        refine e_call ?_
        refine a_val (v := v1) (val_var rfl) ?_
        refine a_val (v := (.int ((start1 + 3 : Nat) : Int))) (vn_add (val_var rfl) val_c) ?_
        refine a_nil ?_
        refine ⟨F22, (v1), (script1), (start1 + 3), _, rfl, w.f, r1, hW, ?_⟩
        intro z15 hW F23 H19 s18
        replace r1 := Rep.mono _ s18.g r1
        replace r4 := Rep.mono _ s18.g r4
        replace r5 := Rep.mono _ s18.g r5
        replace w := w.tr s18
        replace gx4 := Ex.tr gx4 s18.g
        replace gx2 := Ex.tr gx2 s18.g
        refine a_val (v := (.int ((260 : Nat) : Int))) val_c ?_
        refine a_val (v := (.int ((outputs2 : Nat) : Int))) (val_var rfl) ?_
        refine a_val (v := (.int ((stores2 : Nat) : Int))) (val_var rfl) ?_
        refine a_val (v := (.bl (digits1))) (val_var rfl) ?_
        refine a_nil ?_
        refine ⟨F23, (z15), (260), (outputs2), (stores2), (digits1), _, rfl, w.f, hW, ?_⟩
        intro z16 hW p6 F24 H20 s19 x5
        replace x5 := x5.base w
        replace r1 := Rep.mono _ s19.g r1
        replace r4 := Rep.mono _ s19.g r4
        replace r5 := Rep.mono _ s19.g r5
        replace w := w.tr s19
        replace gx4 := Ex.tr gx4 s19.g
        replace gx2 := Ex.tr gx2 s19.g
        obtain ⟨F25, w5, g5, r8, fz5⟩ := x5.frzE w
        replace r1 := Rep.mono _ g5 r1
        replace r4 := Rep.mono _ g5 r4
        replace r5 := Rep.mono _ g5 r5
        replace w := w5
        replace gx4 := Ex.tr gx4 g5
        replace gx2 := Ex.tr gx2 g5
        refine hN14 _ _ ?_
        refine q_sq fun N15 hN15 => ?_
        refine a_asgE ?_
        refine e_call ?_
        refine a_cons ?_
        refine e_call ?_
        refine a_val (v := v1) (val_var rfl) ?_
        refine a_val (v := (.int ((start1 + 4 : Nat) : Int))) (vn_add (val_var rfl) val_c) ?_
        refine a_nil ?_
        refine ⟨F25, (v1), (script1), (start1 + 4), _, rfl, w.f, r1, hW, ?_⟩
        intro z17 hW F26 H21 s20
        replace r1 := Rep.mono _ s20.g r1
        replace r4 := Rep.mono _ s20.g r4
        replace r5 := Rep.mono _ s20.g r5
        replace r8 := Rep.mono _ s20.g r8
        replace w := w.tr s20
        replace gx4 := Ex.tr gx4 s20.g
        replace gx2 := Ex.tr gx2 s20.g
        refine a_val (v := (.int ((280 : Nat) : Int))) val_c ?_
        refine a_val (v := (.int ((outputs2 : Nat) : Int))) (val_var rfl) ?_
        refine a_val (v := (.int ((inputs2 : Nat) : Int))) (val_var rfl) ?_
        refine a_val (v := (.bl (digits1))) (val_var rfl) ?_
        refine a_nil ?_
        refine ⟨F26, (z17), (280), (outputs2), (inputs2), (digits1), _, rfl, w.f, hW, ?_⟩
        intro z18 hW p7 F27 H22 s21 x6
        replace x6 := x6.base w
        replace r1 := Rep.mono _ s21.g r1
        replace r4 := Rep.mono _ s21.g r4
        replace r5 := Rep.mono _ s21.g r5
        replace r8 := Rep.mono _ s21.g r8
        replace w := w.tr s21
        replace gx4 := Ex.tr gx4 s21.g
        replace gx2 := Ex.tr gx2 s21.g
        obtain ⟨F28, w6, g6, r9, fz6⟩ := x6.frzE w
        replace r1 := Rep.mono _ g6 r1
        replace r4 := Rep.mono _ g6 r4
        replace r5 := Rep.mono _ g6 r5
        replace r8 := Rep.mono _ g6 r8
        replace w := w6
        replace gx4 := Ex.tr gx4 g6
        replace gx2 := Ex.tr gx2 g6
        refine hN15 _ _ ?_
        refine q_jn (S := List Nat) hW (fun shown1 σ' F' H' => ∃ (v4 : V), Wf F0 H0 F' H' ∧ Ex F28 F' ∧ σ' = [some v1, some (.int ((start1 : Nat) : Int)), some (.int ((most1 : Nat) : Int)), some (.int (z1)), some (.int ((stores2 : Nat) : Int)), some (.int ((inputs2 : Nat) : Int)), some (.int ((outputs2 : Nat) : Int)), some (.bl (digits1)), some (.int ((way1 : Nat) : Int)), some v2, some v3, none, none, some v4, some (.ref p7)] ∧ (pL pN).r F' v4 shown1) ?_ ?_
        · intro N16 hN16 hW
          have gx5 : Ex F28 F28 := Ex.rfl'
          refine a_ifE ?_
          refine e_ans (b := decide ((¬ (digits1 = true)) ∧ (1 < way1))) (t_and (t_not (t_ofB (vb_of (val_var rfl) dec_tt))) (fun _ => (t_of (vb_dec (c_gt (val_var rfl) val_c) n_lt)))) ?_
          refine b_if (fun hc4 => ?_) (fun hc4 => ?_)
          · have hW := ifP hW hc4
            refine a_asgE ?_
            refine c_J ?_
            refine a_val (v := (.ref p6)) (val_var rfl) ?_
            refine a_nil ?_
            refine src_enum r8 w.f (fun a2 T2 => ?_)
            obtain ⟨c3, hW⟩ := hW
            refine w_compG (e := pN) T2 w c3 hW ?_ ?_
            · intro Qy Qn it2 u4 F29 H23 R2 q2 hx2 ru2 hW hy2 hn2
              have r1 := Rep.mono _ q2.g r1
              have r4 := Rep.mono _ q2.g r4
              have r5 := Rep.mono _ q2.g r5
              have r8 := Rep.mono _ q2.g r8
              have r9 := Rep.mono _ q2.g r9
              have w := Wf.id q2.f
              obtain ⟨p8, u5, u6, rfl, h2, rfl, rfl⟩ := ru2
              refine ⟨p8, _, rfl, SqT.of (w.f _ _ h2), rfl, _, _, rfl, _, _, rfl, rfl, ?_⟩
              refine ⟨rfl, ?_⟩
              refine c_yes ?_
              refine e_op ?_
              refine e_val (v := (.int ((it2.2 : Nat) : Int))) (val_var rfl) ?_
              refine e_call ?_
              refine a_cons ?_
              refine e_call ?_
              refine a_val (v := v1) (val_var rfl) ?_
              refine a_val (v := (.int ((start1 + 3 : Nat) : Int))) (vn_add (val_var rfl) val_c) ?_
              refine a_nil ?_
              refine ⟨F29, (v1), (script1), (start1 + 3), _, rfl, w.f, r1, hW, ?_⟩
              intro z19 hW F30 H24 s22
              replace r1 := Rep.mono _ s22.g r1
              replace r4 := Rep.mono _ s22.g r4
              replace r5 := Rep.mono _ s22.g r5
              replace r8 := Rep.mono _ s22.g r8
              replace r9 := Rep.mono _ s22.g r9
              replace w := w.tr s22
              refine a_val (v := (.int ((300 + it2.1 : Nat) : Int))) (vn_add val_c (val_var rfl)) ?_
              refine a_nil ?_
              refine ⟨F30, (z19), (300 + it2.1), _, rfl, w.f, hW, ?_⟩
              intro z20 hW F31 H25 s23
              replace r1 := Rep.mono _ s23.g r1
              replace r4 := Rep.mono _ s23.g r4
              replace r5 := Rep.mono _ s23.g r5
              replace r8 := Rep.mono _ s23.g r8
              replace r9 := Rep.mono _ s23.g r9
              replace w := w.tr s23
              refine rv2 (z := (.int ((it2.2 &&& z20 : Nat) : Int))) (vn_and val_c val_c) ?_
              exact hy2 _ _ _ _ w rfl hW
            intro p9 ys2 F32 H26 hp2 s24 x7 hW
            replace r1 := Rep.mono _ s24.g r1
            replace r4 := Rep.mono _ s24.g r4
            replace r5 := Rep.mono _ s24.g r5
            replace r8 := Rep.mono _ s24.g r8
            replace r9 := Rep.mono _ s24.g r9
            replace w := w.tr s24
            replace gx5 := Ex.tr gx5 s24.g
            replace gx4 := Ex.tr gx4 s24.g
            replace gx2 := Ex.tr gx2 s24.g
            obtain ⟨F33, w7, g7, r11, fz7⟩ := x7.frzE w
            replace r1 := Rep.mono _ g7 r1
            replace r4 := Rep.mono _ g7 r4
            replace r5 := Rep.mono _ g7 r5
            replace r8 := Rep.mono _ g7 r8
            replace r9 := Rep.mono _ g7 r9
            replace w := w7
            replace gx5 := Ex.tr gx5 g7
            replace gx4 := Ex.tr gx4 g7
            replace gx2 := Ex.tr gx2 g7
            exact hN16 ys2 _ _ _ ⟨_, w, gx5, rfl, r11⟩ hW
          · have hW := ifN hW hc4
            exact hN16 z16 _ _ _ ⟨_, w, gx5, rfl, r8⟩ hW
        · intro shown1 σ' F34 H27 hI3 hW
          obtain ⟨v4, w, gx6, rfl, r10⟩ := hI3
          have r1 := Rep.mono _ gx6 r1
          have r4 := Rep.mono _ gx6 r4
          have r5 := Rep.mono _ gx6 r5
          have r9 := Rep.mono _ gx6 r9
          have gx4 := Ex.tr gx4 gx6
          have gx2 := Ex.tr gx2 gx6
          refine q_jn (S := List Nat) hW (fun straight1 σ' F' H' => ∃ (v5 : V), Wf F0 H0 F' H' ∧ Ex F34 F' ∧ σ' = [some v1, some (.int ((start1 : Nat) : Int)), some (.int ((most1 : Nat) : Int)), some (.int (z1)), some (.int ((stores2 : Nat) : Int)), some (.int ((inputs2 : Nat) : Int)), some (.int ((outputs2 : Nat) : Int)), some (.bl (digits1)), some (.int ((way1 : Nat) : Int)), some v2, some v3, none, none, some v4, some v5] ∧ (pL pN).r F' v5 straight1) ?_ ?_
          · intro N17 hN17 hW
            have gx7 : Ex F34 F34 := Ex.rfl'
            refine a_ifE ?_
            refine e_ans (b := decide ((¬ (digits1 = true)) ∧ (2 < way1))) (t_and (t_not (t_ofB (vb_of (val_var rfl) dec_tt))) (fun _ => (t_of (vb_dec (c_gt (val_var rfl) val_c) n_lt)))) ?_
            refine b_if (fun hc5 => ?_) (fun hc5 => ?_)
            · have hW := ifP hW hc5
              refine a_asgE ?_
              refine c_LE ?_
              refine e_val (v := (.ref p7)) (val_var rfl) ?_
              obtain ⟨c4, hW⟩ := hW
              refine w_compL (e := pN) r9 w c4 hW ?_ ?_
              · intro Qy Qn mask3 u7 F35 H28 R3 q3 hx3 ru3 hW hy3 hn3
                have r1 := Rep.mono _ q3.g r1
                have r4 := Rep.mono _ q3.g r4
                have r5 := Rep.mono _ q3.g r5
                have r10 := Rep.mono _ q3.g r10
                have r9 := Rep.mono _ q3.g r9
                have w := Wf.id q3.f
                obtain rfl : u7 = (.int ((mask3 : Nat) : Int)) := ru3
                refine ⟨rfl, ?_⟩
                refine c_yes ?_
                refine e_val (v := (.int ((0 : Nat) : Int))) val_c ?_
                exact hy3 _ _ _ _ w rfl hW
              intro p10 ys3 F36 H29 hp3 s26 x8 hW
              replace r1 := Rep.mono _ s26.g r1
              replace r4 := Rep.mono _ s26.g r4
              replace r5 := Rep.mono _ s26.g r5
              replace r10 := Rep.mono _ s26.g r10
              replace r9 := Rep.mono _ s26.g r9
              replace w := w.tr s26
              replace gx7 := Ex.tr gx7 s26.g
              replace gx6 := Ex.tr gx6 s26.g
              replace gx4 := Ex.tr gx4 s26.g
              replace gx2 := Ex.tr gx2 s26.g
              obtain ⟨F37, w8, g8, r13, fz8⟩ := x8.frzE w
              replace r1 := Rep.mono _ g8 r1
              replace r4 := Rep.mono _ g8 r4
              replace r5 := Rep.mono _ g8 r5
              replace r10 := Rep.mono _ g8 r10
              replace r9 := Rep.mono _ g8 r9
              replace w := w8
              replace gx7 := Ex.tr gx7 g8
              replace gx6 := Ex.tr gx6 g8
              replace gx4 := Ex.tr gx4 g8
              replace gx2 := Ex.tr gx2 g8
              exact hN17 ys3 _ _ _ ⟨_, w, gx7, rfl, r13⟩ hW
            · have hW := ifN hW hc5
              exact hN17 z18 _ _ _ ⟨_, w, gx7, rfl, r9⟩ hW
          · intro straight1 σ' F38 H30 hI4 hW
            obtain ⟨v5, w, gx8, rfl, r12⟩ := hI4
            have r1 := Rep.mono _ gx8 r1
            have r4 := Rep.mono _ gx8 r4
            have r5 := Rep.mono _ gx8 r5
            have r10 := Rep.mono _ gx8 r10
            have gx6 := Ex.tr gx6 gx8
            have gx4 := Ex.tr gx4 gx8
            have gx2 := Ex.tr gx2 gx8
            refine a_retE ?_
            refine e_tup ?_
            refine a_val (v := (.int ((inputs2 : Nat) : Int))) (val_var rfl) ?_
            refine a_cons ?_
            refine e_lzip ?_
            refine a_val (v := v2) (val_var rfl) ?_
            refine a_val (v := v3) (val_var rfl) ?_
            refine a_nil ?_
            refine n_lzip r4 r5 w ?_
            intro p11 F39 H31 hp4 s28 x9
            replace r1 := Rep.mono _ s28.g r1
            replace r4 := Rep.mono _ s28.g r4
            replace r5 := Rep.mono _ s28.g r5
            replace r10 := Rep.mono _ s28.g r10
            replace r12 := Rep.mono _ s28.g r12
            replace w := w.tr s28
            replace gx8 := Ex.tr gx8 s28.g
            replace gx6 := Ex.tr gx6 s28.g
            replace gx4 := Ex.tr gx4 s28.g
            replace gx2 := Ex.tr gx2 s28.g
            refine a_cons ?_
            refine e_lzip ?_
            refine a_val (v := v4) (val_var rfl) ?_
            refine a_val (v := v5) (val_var rfl) ?_
            refine a_nil ?_
            refine n_lzip r10 r12 w ?_
            intro p12 F40 H32 hp5 s29 x10
            have ne1 := x9.ne hp5
            replace r1 := Rep.mono _ s29.g r1
            replace r4 := Rep.mono _ s29.g r4
            replace r5 := Rep.mono _ s29.g r5
            replace r10 := Rep.mono _ s29.g r10
            replace r12 := Rep.mono _ s29.g r12
            replace x9 := x9.step s29
            replace w := w.tr s29
            replace gx8 := Ex.tr gx8 s29.g
            replace gx6 := Ex.tr gx6 s29.g
            replace gx4 := Ex.tr gx4 s29.g
            replace gx2 := Ex.tr gx2 s29.g
            refine a_nil ?_
            obtain ⟨F41, w9, g9, r14, fz9⟩ := x9.frzE w
            replace r1 := Rep.mono _ g9 r1
            replace r4 := Rep.mono _ g9 r4
            replace r5 := Rep.mono _ g9 r5
            replace r10 := Rep.mono _ g9 r10
            replace r12 := Rep.mono _ g9 r12
            replace x10 := x10.frzO fz9 (Ne.symm ne1) g9
            replace w := w9
            replace gx8 := Ex.tr gx8 g9
            replace gx6 := Ex.tr gx6 g9
            replace gx4 := Ex.tr gx4 g9
            replace gx2 := Ex.tr gx2 g9
            obtain ⟨F42, w10, g10, r15, fz10⟩ := x10.frzE w
            replace r1 := Rep.mono _ g10 r1
            replace r4 := Rep.mono _ g10 r4
            replace r5 := Rep.mono _ g10 r5
            replace r10 := Rep.mono _ g10 r10
            replace r12 := Rep.mono _ g10 r12
            replace r14 := Rep.mono _ g10 r14
            replace w := w10
            replace gx8 := Ex.tr gx8 g10
            replace gx6 := Ex.tr gx6 g10
            replace gx4 := Ex.tr gx4 g10
            replace gx2 := Ex.tr gx2 g10
            refine n_tup3 (e := pN) (f := (pL (pT2 pN pN))) (g := (pL (pT2 pN pN))) (x := inputs2) (y := one1.zip other1) (z := shown1.zip straight1) rfl r14 r15 w ?_
            intro p13 F43 H33 s30 r16
            replace r1 := Rep.mono _ s30.g r1
            replace r4 := Rep.mono _ s30.g r4
            replace r5 := Rep.mono _ s30.g r5
            replace r10 := Rep.mono _ s30.g r10
            replace r12 := Rep.mono _ s30.g r12
            replace r14 := Rep.mono _ s30.g r14
            replace r15 := Rep.mono _ s30.g r15
            replace w := w.tr s30
            replace gx8 := Ex.tr gx8 s30.g
            replace gx6 := Ex.tr gx6 s30.g
            replace gx4 := Ex.tr gx4 s30.g
            replace gx2 := Ex.tr gx2 s30.g
            exact hQ _ hW _ _ _ w r16
abbrev s_rows : Stmt := topS 32
def W_rows (cell_here1 : Int) (many1 : Nat) (width1 : Nat) (R : (List Nat) → Prop) : Prop := W_masks cell_here1 500 many1 width1 (decide ((modN cell_here1 2) = 0)) fun z1 => R z1
def sp_rows (K : PySem.W.Frag) (cc : Cz) : Sp := fun vs H Q _ => ∃ (F : Hp) (cell_here1 : Int) (many1 : Nat) (width1 : Nat) (R : (List Nat) → Prop), vs = [(.int (cell_here1)), (.int ((many1 : Nat) : Int)), (.int ((width1 : Nat) : Int))] ∧ Ex F H ∧ W_rows cell_here1 many1 width1 R ∧ ∀ z, R z → ∀ p F' H', Wf F H F' H' → XL pN H F' H' p z → Q (.ref p) H'
abbrev N_rows : List Str := ["_law_cell_here", "_law_many", "_law_width"]
theorem sc_rows : FnScope N_rows ["_law_cell_here", "_law_many", "_law_width"] (defScope s_rows) := ⟨rfl, rfl, rfl, by decide +kernel, rfl, by decide +kernel, by decide +kernel⟩
theorem ok_rows {P : Program} {w0 : World} {K : PySem.W.Frag} {mg : Str → Option Value} {base : Heap} {f : Addr} {fd : FuncData} {cc : Cz} (T : Tz K mg cc) (FU : Fun K "_law_rows" "_law_rows" s_rows f fd) (hm : mg "_law_rows" = some (.ref f)) (hb : Binds K fd ["_law_cell_here", "_law_many", "_law_width"] []) (c_masks : Fn P w0 K mg base CX0 2 "_law_masks" ["_law_cell_here", "_law_start", "_law_many", "_law_width", "_law_digits"] (sp_masks K cc)) : Fn P w0 K mg base CX0 3 "_law_rows" ["_law_cell_here", "_law_many", "_law_width"] (sp_rows K cc) := by
  refine ⟨f, fd, FU.ok sc_rows (fun vs H Q E h => ?_) (fun cdv A outer s H0 vs Q E hr h => ?_), hm, FU.kp, hb⟩
  · obtain ⟨_, _, _, _, _, rfl, _⟩ := h; rfl
  · obtain ⟨F0, cell_here1, many1, width1, R, rfl, wf, hW, hQ⟩ := h
    have nd := sc_rows.nd
    refine ⟨(tRet (tCall (sp_masks K cc) [] E0 (tCons (tVar 0) (tCons (tC (.int 500)) (tCons (tVar 1) (tCons (tVar 2) (tCons (tOp L2.rEq (tOp kMod (tVar 0) (tC (.int 2))) (tC (.int 0))) tNil))))))), (pss_one (ps_ret (pe_fn c_masks (hr.mono (by decide)) rfl (pa_cons (pv 0) (pa_cons pe_int (pa_cons (pv 1) (pa_cons (pv 2) (pa_cons (pe_cmpR op_eq (pe_op op_mod (pv 0) pe_int) pe_int (nomark _)) pa_nil)))))))), ?_⟩
    have w := Wf.id wf
    refine a_retE ?_
    refine e_call ?_
    refine a_val (v := (.int (cell_here1))) (val_var rfl) ?_
    refine a_val (v := (.int ((500 : Nat) : Int))) val_c ?_
    refine a_val (v := (.int ((many1 : Nat) : Int))) (val_var rfl) ?_
    refine a_val (v := (.int ((width1 : Nat) : Int))) (val_var rfl) ?_
    refine a_val (v := (.bl (decide ((modN cell_here1 2) = 0)))) (vb_dec (c_eqI (vm_mod (val_var rfl) val_c (by decide)) val_c) n_eq) ?_
    refine a_nil ?_
    refine ⟨F0, (cell_here1), (500), (many1), (width1), (decide ((modN cell_here1 2) = 0)), _, rfl, w.f, hW, ?_⟩
    intro z1 hW p1 F1 H1 s1 x1
    replace x1 := x1.base w
    replace w := w.tr s1
    exact hQ _ hW _ _ _ w x1
abbrev s_odd : Stmt := topS 33
def W_odd (number1 : Nat) (R : Nat → Prop) : Prop := whileW (fun (many1, number2) T => T (decide (0 < number2))) (fun (many1, number2) nx1 bk1 => ∀ many2 : Nat, many2 = many1 + (number2 % 2) → ∀ number3 : Nat, number3 = number2 / 2 → nx1 (many2, number3)) (0, number1) fun (many1, number2) => R (many1 % 2)
def sp_odd (K : PySem.W.Frag) (cc : Cz) : Sp := fun vs H Q _ => ∃ (F : Hp) (number1 : Nat) (R : Nat → Prop), vs = [(.int ((number1 : Nat) : Int))] ∧ Ex F H ∧ W_odd number1 R ∧ ∀ z, R z → ∀ F' H', Wf F H F' H' → Q (.int ((z : Nat) : Int)) H'
abbrev N_odd : List Str := ["_law_number", "_law_many"]
theorem sc_odd : FnScope N_odd ["_law_number"] (defScope s_odd) := ⟨rfl, rfl, rfl, by decide +kernel, rfl, by decide +kernel, by decide +kernel⟩
theorem ok_odd {P : Program} {w0 : World} {K : PySem.W.Frag} {mg : Str → Option Value} {base : Heap} {f : Addr} {fd : FuncData} {cc : Cz} (T : Tz K mg cc) (FU : Fun K "_law_odd" "_law_odd" s_odd f fd) (hm : mg "_law_odd" = some (.ref f)) (hb : Binds K fd ["_law_number"] []) : Fn P w0 K mg base CX0 1 "_law_odd" ["_law_number"] (sp_odd K cc) := by
  refine ⟨f, fd, FU.ok sc_odd (fun vs H Q E h => ?_) (fun cdv A outer s H0 vs Q E hr h => ?_), hm, FU.kp, hb⟩
  · obtain ⟨_, _, _, rfl, _⟩ := h; rfl
  · obtain ⟨F0, number1, R, rfl, wf, hW, hQ⟩ := h
    have nd := sc_odd.nd
    refine ⟨(tSeq (tAsg (tC (.int 0)) (gName 1)) (tSeq (tWhile (tTest (tOp kGt (tVar 0) (tC (.int 0)))) (tSeq (tAsg (tOp kAdd (tVar 1) (tOp kMod (tVar 0) (tC (.int 2)))) (gName 1)) (tAsg (tOp kDiv (tVar 0) (tC (.int 2))) (gName 0)))) (tRet (tOp kMod (tVar 1) (tC (.int 2)))))), (pss_cons (ps_set (i := 1) nd rfl (Or.inl rfl) pe_int) (pss_cons (ps_while PassesOwn.never (pt_cmpR op_gt (pv 0) pe_int (nomark _)) (pss_cons (ps_set (i := 1) nd rfl (Or.inl rfl) (pe_op op_add (pv 1) (pe_op op_mod (pv 0) pe_int))) (pss_one (ps_set (i := 0) nd rfl (Or.inl rfl) (pe_op op_fdivW (pv 0) pe_int))))) (pss_one (ps_ret (pe_op op_mod (pv 1) pe_int))))), ?_⟩
    have w := Wf.id wf
    refine q_sq fun N1 hN1 => ?_
    refine a_asg (v := (.int ((0 : Nat) : Int))) val_c ?_
    refine hN1 _ _ ?_
    refine q_sq fun N2 hN2 => ?_
    refine w_while (S := Nat × Nat) (fun s σ' F' H' => match s with | (many1, number2) => Wf F0 H0 F' H' ∧ Ex F0 F' ∧ σ' = [some (.int ((number2 : Nat) : Int)), some (.int ((many1 : Nat) : Int))]) hW ⟨w, Ex.rfl', rfl⟩ ?_ ?_ ?_
    · intro s1 σ' F1 H1 T1 Qc1 hI1 hW hT1
      obtain ⟨many1, number2⟩ := s1
      obtain ⟨w, gx1, rfl⟩ := hI1
      refine e_ans (b := decide (0 < number2)) (t_of (vb_dec (c_gt (val_var rfl) val_c) n_lt)) ?_
      exact hT1 _ _ _ ⟨w, gx1, rfl⟩ hW
    · intro N3 Bk1 s2 σ' F2 H2 nx1 bk1 hI2 hW hN3 hB1
      obtain ⟨many1, number2⟩ := s2
      obtain ⟨w, gx2, rfl⟩ := hI2
      refine q_sq fun N4 hN4 => ?_
      obtain ⟨many2, emany1⟩ : ∃ many2 : Nat, many2 = many1 + (number2 % 2) := ⟨_, rfl⟩
      replace hW := hW many2 emany1
      refine a_asg (v := (.int ((many2 : Nat) : Int))) (v_eq (vn_add (val_var rfl) (vn_mod (val_var rfl) val_c (by decide))) (by rw [emany1])) ?_
      refine hN4 _ _ ?_
      obtain ⟨number3, enumber1⟩ : ∃ number3 : Nat, number3 = number2 / 2 := ⟨_, rfl⟩
      replace hW := hW number3 enumber1
      refine a_asg (v := (.int ((number3 : Nat) : Int))) (v_eq (vn_div (val_var rfl) val_c ⟨by decide, by decide +kernel⟩) (by rw [enumber1])) ?_
      exact hN3 (many2, number3) _ _ _ ⟨w, gx2, rfl⟩ hW
    · intro s3 σ' F3 H3 hI3 hW
      obtain ⟨many1, number2⟩ := s3
      obtain ⟨w, gx3, rfl⟩ := hI3
      refine hN2 _ _ ?_
      refine a_ret (v := (.int ((many1 % 2 : Nat) : Int))) (vn_mod (val_var rfl) val_c (by decide)) ?_
      exact hQ _ hW _ _ w
abbrev s_bits : Stmt := topS 34
def W_bits (pairs1 : List (Nat × Nat)) (state1 : Nat) (row1 : Nat) (R : Nat → Prop) : Prop := forW (enumT pairs1) 0 (fun it1 found1 nx1 bk1 => W_odd (it1.2.1 &&& state1) fun z1 => W_odd (it1.2.2 &&& row1) fun z2 => (it1.1 < 100000000) ∧ (NMul ((z1 + z2) % 2) (2 ^ it1.1)) ∧ ∀ found2 : Nat, found2 = found1 + (((z1 + z2) % 2) * (2 ^ it1.1)) → nx1 found2) fun found1 => R found1
def sp_bits (K : PySem.W.Frag) (cc : Cz) : Sp := fun vs H Q _ => ∃ (F : Hp) (v1 : V) (pairs1 : List (Nat × Nat)) (state1 : Nat) (row1 : Nat) (R : Nat → Prop), vs = [v1, (.int ((state1 : Nat) : Int)), (.int ((row1 : Nat) : Int))] ∧ Ex F H ∧ (pL (pT2 pN pN)).r F v1 pairs1 ∧ W_bits pairs1 state1 row1 R ∧ ∀ z, R z → ∀ F' H', Wf F H F' H' → Q (.int ((z : Nat) : Int)) H'
abbrev N_bits : List Str := ["_law_pairs", "_law_state", "_law_row", "_law_found", "_law_k", "_law_pair"]
theorem sc_bits : FnScope N_bits ["_law_pairs", "_law_state", "_law_row"] (defScope s_bits) := ⟨rfl, rfl, rfl, by decide +kernel, rfl, by decide +kernel, by decide +kernel⟩
theorem ok_bits {P : Program} {w0 : World} {K : PySem.W.Frag} {mg : Str → Option Value} {base : Heap} {f : Addr} {fd : FuncData} {cc : Cz} (T : Tz K mg cc) (FU : Fun K "_law_bits" "_law_bits" s_bits f fd) (hm : mg "_law_bits" = some (.ref f)) (hb : Binds K fd ["_law_pairs", "_law_state", "_law_row"] []) (c_odd : Fn P w0 K mg base CX0 1 "_law_odd" ["_law_number"] (sp_odd K cc)) (n_enumerate : mg "enumerate" = none) : Fn P w0 K mg base CX0 2 "_law_bits" ["_law_pairs", "_law_state", "_law_row"] (sp_bits K cc) := by
  refine ⟨f, fd, FU.ok sc_bits (fun vs H Q E h => ?_) (fun cdv A outer s H0 vs Q E hr h => ?_), hm, FU.kp, hb⟩
  · obtain ⟨_, _, _, _, _, _, rfl, _⟩ := h; rfl
  · obtain ⟨F0, v1, pairs1, state1, row1, R, rfl, wf, r1, hW, hQ⟩ := h
    have nd := sc_bits.nd
    refine ⟨(tSeq (tAsg (tC (.int 0)) (gName 3)) (tSeq (tFor (iEnum K (tCons (tVar 0) tNil)) (gTup K 2 (gCons (gName 4) (gCons (gName 5) gNil))) (tAsg (tOp kAdd (tVar 3) (tOp kMul (tOp kMod (tOp kAdd (tCall (sp_odd K cc) [] E0 (tCons (tOp kAnd (tOp (L2.rIxT K) (tVar 5) (tC (.int 0))) (tVar 1)) tNil)) (tCall (sp_odd K cc) [] E0 (tCons (tOp kAnd (tOp (L2.rIxT K) (tVar 5) (tC (.int 1))) (tVar 2)) tNil))) (tC (.int 2))) (tOp kShl (tC (.int 1)) (tVar 4)))) (gName 3))) (tRet (tVar 3)))), (pss_cons (ps_set (i := 3) nd rfl (Or.inl rfl) pe_int) (pss_cons (ps_for PassesOwn.never rfl (pi_enum (by rfl) n_enumerate (pa_cons (pv 0) pa_nil)) (pg_tup rfl (pgs_cons (pg_name (i := 4) nd rfl (Or.inl rfl)) (pgs_cons (pg_name (i := 5) nd rfl (Or.inl rfl)) pgs_nil)) (by rfl)) (pss_one (ps_set (i := 3) nd rfl (Or.inl rfl) (pe_op op_add (pv 3) (pe_op op_mul (pe_op op_mod (pe_op op_add (pe_fn c_odd (hr.mono (by decide)) rfl (pa_cons (pe_op op_and (pe_ix ix_tup (pv 5) pe_int (fun _ _ => rfl)) (pv 1)) pa_nil)) (pe_fn c_odd (hr.mono (by decide)) rfl (pa_cons (pe_op op_and (pe_ix ix_tup (pv 5) pe_int (fun _ _ => rfl)) (pv 2)) pa_nil))) pe_int) (pe_op op_shlW pe_int (pv 4))))))) (pss_one (ps_ret (pv 3))))), ?_⟩
    have w := Wf.id wf
    refine q_sq fun N1 hN1 => ?_
    refine a_asg (v := (.int ((0 : Nat) : Int))) val_c ?_
    refine hN1 _ _ ?_
    refine q_sq fun N2 hN2 => ?_
    refine f_J ?_
    refine a_val (v := v1) (val_var rfl) ?_
    refine a_nil ?_
    refine src_enum r1 w.f (fun a1 T1 => ?_)
    refine w_forG (S := Nat) T1 (fun found1 σ' F' H' => ∃ (o1 : Option V) (o2 : Option V), Wf F0 H0 F' H' ∧ Ex F0 F' ∧ σ' = [some v1, some (.int ((state1 : Nat) : Int)), some (.int ((row1 : Nat) : Int)), some (.int ((found1 : Nat) : Int)), o1, o2]) hW ⟨_, _, w, Ex.rfl', rfl⟩ (fun s σ' F' H' hI => by obtain ⟨_, _, w', gx', _⟩ := hI; exact ⟨gx', w'.f⟩) w.f ?_ ?_
    · intro N3 Bk1 it1 u1 found1 σ' F1 H1 F2 H2 nx1 bk1 hI1 hx1 s2 ru1 hW hN3 hB1
      obtain ⟨o1, o2, w, gx1, rfl⟩ := hI1
      have r1 := Rep.mono _ gx1 r1
      replace r1 := Rep.mono _ s2.g r1
      replace w := w.tr s2
      replace gx1 := Ex.tr gx1 s2.g
      obtain ⟨p1, u2, u3, rfl, h1, rfl, r2⟩ := ru1
      refine ⟨p1, _, rfl, SqT.of (w.f _ _ h1), rfl, _, _, rfl, _, _, rfl, rfl, ?_⟩
      refine a_asgE ?_
      refine e_op ?_
      refine e_val (v := (.int ((found1 : Nat) : Int))) (val_var rfl) ?_
      refine e_op ?_
      refine e_op ?_
      refine e_op ?_
      refine e_call ?_
      obtain ⟨_, rfl, ix1⟩ := ix_2a (K := K) r2 w.f
      refine a_val (v := (.int ((it1.2.1 &&& state1 : Nat) : Int))) (vn_and (ix1 (val_var rfl) val_c) (val_var rfl)) ?_
      refine a_nil ?_
      refine ⟨F2, (it1.2.1 &&& state1), _, rfl, w.f, hW, ?_⟩
      intro z1 hW F3 H3 s3
      replace r1 := Rep.mono _ s3.g r1
      replace r2 := Rep.mono _ s3.g r2
      replace w := w.tr s3
      replace gx1 := Ex.tr gx1 s3.g
      refine e_call ?_
      obtain ⟨_, rfl, ix2⟩ := ix_2b (K := K) r2 w.f
      refine a_val (v := (.int ((it1.2.2 &&& row1 : Nat) : Int))) (vn_and (ix2 (val_var rfl) val_c) (val_var rfl)) ?_
      refine a_nil ?_
      refine ⟨F3, (it1.2.2 &&& row1), _, rfl, w.f, hW, ?_⟩
      intro z2 hW F4 H4 s4
      replace r1 := Rep.mono _ s4.g r1
      replace r2 := Rep.mono _ s4.g r2
      replace w := w.tr s4
      replace gx1 := Ex.tr gx1 s4.g
      refine rv2 (z := (.int ((z1 + z2 : Nat) : Int))) (vn_add val_c val_c) ?_
      refine e_val (v := (.int ((2 : Nat) : Int))) val_c ?_
      refine rv2 (z := (.int (((z1 + z2) % 2 : Nat) : Int))) (vn_mod val_c val_c (by decide)) ?_
      obtain ⟨c1, hW⟩ := hW
      refine e_val (v := (.int ((2 ^ it1.1 : Nat) : Int))) (vn_one val_c (val_var rfl) c1) ?_
      obtain ⟨c2, hW⟩ := hW
      refine rv2 (z := (.int ((((z1 + z2) % 2) * (2 ^ it1.1) : Nat) : Int))) (vn_mul val_c val_c c2) ?_
      refine rv2 (z := (.int ((found1 + (((z1 + z2) % 2) * (2 ^ it1.1)) : Nat) : Int))) (vn_add val_c val_c) ?_
      obtain ⟨found2, efound1⟩ : ∃ found2 : Nat, found2 = found1 + (((z1 + z2) % 2) * (2 ^ it1.1)) := ⟨_, rfl⟩
      replace hW := hW found2 efound1
      refine nx_set (v := (.int ((found2 : Nat) : Int))) (by rw [efound1]) ?_
      exact hN3 found2 _ _ _ ⟨_, _, w, gx1, rfl⟩ hW
    · intro found1 σ' F5 H5 hI2 hW
      obtain ⟨o1, o2, w, gx2, rfl⟩ := hI2
      have r1 := Rep.mono _ gx2 r1
      refine hN2 _ _ ?_
      refine a_ret (v := (.int ((found1 : Nat) : Int))) (val_var rfl) ?_
      exact hQ _ hW _ _ w
abbrev s_Lis_mask : Stmt := topS 36
def W_Lis_mask (thing1 : Nat) (width1 : Nat) (R : Bool → Prop) : Prop := jn (fun kk => (width1 < 100000000) ∧ kk (decide (0 ≤ thing1 ∧ thing1 < (2 ^ width1)))) fun b1 => R b1
def sp_Lis_mask (K : PySem.W.Frag) (cc : Cz) : Sp := fun vs H Q _ => ∃ (F : Hp) (thing1 : Nat) (width1 : Nat) (R : Bool → Prop), vs = [(.int ((thing1 : Nat) : Int)), (.int ((width1 : Nat) : Int))] ∧ Ex F H ∧ W_Lis_mask thing1 width1 R ∧ ∀ z, R z → ∀ F' H', Wf F H F' H' → Q (.bl (z)) H'
abbrev N_Lis_mask : List Str := ["_law_thing", "_law_width"]
theorem sc_Lis_mask : FnScope N_Lis_mask ["_law_thing", "_law_width"] (defScope s_Lis_mask) := ⟨rfl, rfl, rfl, by decide +kernel, rfl, by decide +kernel, by decide +kernel⟩
theorem ok_Lis_mask {P : Program} {w0 : World} {K : PySem.W.Frag} {mg : Str → Option Value} {base : Heap} {f : Addr} {fd : FuncData} {cc : Cz} (T : Tz K mg cc) (FU : Fun K "_law_is_mask" "_law_is_mask" s_Lis_mask f fd) (hm : mg "_law_is_mask" = some (.ref f)) (hb : Binds K fd ["_law_thing", "_law_width"] []) (n_bool : mg "bool" = none) (n_int : mg "int" = none) (n_isinstance : mg "isinstance" = none) : Fn P w0 K mg base CX0 1 "_law_is_mask" ["_law_thing", "_law_width"] (sp_Lis_mask K cc) := by
  refine ⟨f, fd, FU.ok sc_Lis_mask (fun vs H Q E h => ?_) (fun cdv A outer s H0 vs Q E hr h => ?_), hm, FU.kp, hb⟩
  · obtain ⟨_, _, _, _, rfl, _⟩ := h; rfl
  · obtain ⟨F0, thing1, width1, R, rfl, wf, hW, hQ⟩ := h
    have nd := sc_Lis_mask.nd
    refine ⟨(tRet (tAndV (tCB (rIsi K) (tCons (tVar 0) (tCons (tC (.ty "int")) tNil))) (tAndV (tNotV (tCB (rIsi K) (tCons (tVar 0) (tCons (tC (.ty "bool")) tNil)))) (tChain kLe kLt (tC (.int 0)) (tVar 0) (tOp kShl (tC (.int 1)) (tVar 1)))))), (pss_one (ps_ret (pe_and (pe_callB call_isi (by rfl) n_isinstance PyProof.Rows.boot_isinstance (pa_cons (pv 0) (pa_cons (pe_bltn (v := .ty "int") (by rfl) n_int PyProof.Rows.boot_int rfl) pa_nil))) (pe_and (pe_not (pe_callB call_isi (by rfl) n_isinstance PyProof.Rows.boot_isinstance (pa_cons (pv 0) (pa_cons (pe_bltn (v := .ty "bool") (by rfl) n_bool PyProof.Rows.boot_bool rfl) pa_nil)))) (pe_one (pe_chain op_le op_lt pe_int (pv 0) (pe_op op_shlW pe_int (pv 1)))))))), ?_⟩
    have w := Wf.id wf
    refine a_retE ?_
    refine e_jnV hW (fun b F' H' => b = b ∧ Wf F0 H0 F' H' ∧ Ex F0 F') ?_ ?_
    · intro N1 hN1 hW
      have gx1 : Ex F0 F0 := Ex.rfl'
      refine e_AndV ?_
      refine e_val (v := .bl true) (vb_of (vb_of (v_isi (b := true) (val_var rfl) (.base (.int _)) (by decide +kernel)) dec_T) dec_T.symm) ?_
      refine bl_if ?_
      refine if_t ?_
      refine e_AndV ?_
      refine e_val (v := .bl true) (vb_of (vb_dec (p := ¬ (False)) (q := True) (vt_not (vb_of (v_isi (b := false) (val_var rfl) (.base (.int _)) (by decide +kernel)) dec_F)) (by simp)) dec_T.symm) ?_
      refine bl_if ?_
      refine if_t ?_
      obtain ⟨c1, hW⟩ := hW
      refine e_val (v := .bl (decide (0 ≤ thing1 ∧ thing1 < (2 ^ width1)))) (vb_of (v_chain (b1 := decide (0 ≤ thing1)) (b2 := decide (thing1 < (2 ^ width1))) (x := (.int ((0 : Nat) : Int))) (y := (.int ((thing1 : Nat) : Int))) (z := (.int ((2 ^ width1 : Nat) : Int))) val_c (val_var rfl) (vn_one val_c (val_var rfl) c1) (fun Q k => rv2 (vb_dec (c_le val_c val_c) n_le) k) (fun Q k => rv2 (vb_dec (c_lt val_c val_c) n_lt) k)) dec_and) ?_
      exact hN1 (decide (0 ≤ thing1 ∧ thing1 < (2 ^ width1))) _ _ ⟨rfl, w, gx1⟩ hW
    intro b1 F1 H1 hI1 hW
    obtain ⟨_, w, gx2⟩ := hI1
    exact hQ _ hW _ _ w
abbrev s_is_list : Stmt := topS 37
def W_is_list (found1 : List Nat) (width1 : Nat) (R : Bool → Prop) : Prop := jn (fun kk => (found1.length < 1000000) ∧ compW found1 (fun one1 kk => W_Lis_mask one1 width1 fun z1 => if z1 = true then (kk none) else (kk (some one1))) fun ys1 => kk (decide (ys1 = ([] : List Nat)))) fun b1 => R b1
def sp_is_list (K : PySem.W.Frag) (cc : Cz) : Sp := fun vs H Q _ => ∃ (F : Hp) (v1 : V) (found1 : List Nat) (width1 : Nat) (R : Bool → Prop), vs = [v1, (.int ((width1 : Nat) : Int))] ∧ Ex F H ∧ (pL pN).r F v1 found1 ∧ W_is_list found1 width1 R ∧ ∀ z, R z → ∀ F' H', Wf F H F' H' → Q (.bl (z)) H'
abbrev N_is_list : List Str := ["_law_found", "_law_width", "_law_one"]
theorem sc_is_list : FnScope N_is_list ["_law_found", "_law_width"] (defScope s_is_list) := ⟨rfl, rfl, rfl, by decide +kernel, rfl, by decide +kernel, by decide +kernel⟩
theorem ok_is_list {P : Program} {w0 : World} {K : PySem.W.Frag} {mg : Str → Option Value} {base : Heap} {f : Addr} {fd : FuncData} {cc : Cz} (T : Tz K mg cc) (FU : Fun K "_law_is_list" "_law_is_list" s_is_list f fd) (hm : mg "_law_is_list" = some (.ref f)) (hb : Binds K fd ["_law_found", "_law_width"] []) (c_Lis_mask : Fn P w0 K mg base CX0 1 "_law_is_mask" ["_law_thing", "_law_width"] (sp_Lis_mask K cc)) (n_isinstance : mg "isinstance" = none) (n_list : mg "list" = none) : Fn P w0 K mg base CX0 2 "_law_is_list" ["_law_found", "_law_width"] (sp_is_list K cc) := by
  refine ⟨f, fd, FU.ok sc_is_list (fun vs H Q E h => ?_) (fun cdv A outer s H0 vs Q E hr h => ?_), hm, FU.kp, hb⟩
  · obtain ⟨_, _, _, _, _, rfl, _⟩ := h; rfl
  · obtain ⟨F0, v1, found1, width1, R, rfl, wf, r1, hW, hQ⟩ := h
    have nd := sc_is_list.nd
    refine ⟨(tRet (tAndV (tCB (rIsi K) (tCons (tVar 0) (tCons (tC (.ty "list")) tNil))) (tOp (L2.rEqD K) (tLc (iList K (tVar 0)) (gName 2) (tNot (tB (tCall (sp_Lis_mask K cc) [] E0 (tCons (tVar 2) (tCons (tVar 1) tNil))))) (tVar 2) [2]) (tLst tNil)))), (pss_one (ps_ret (pe_and (pe_callB call_isi (by rfl) n_isinstance PyProof.Rows.boot_isinstance (pa_cons (pv 0) (pa_cons (pe_bltn (v := .ty "list") (by rfl) n_list PyProof.Rows.boot_list rfl) pa_nil))) (pe_one (pe_cmpR (op_eqD hr.units) (pe_lc (own := [("_law_one", 2)]) (wi := (iList K (tVar 0))) (g := (gName 2)) (tt := (tNot (tB (tCall (sp_Lis_mask K cc) [] E0 (tCons (tVar 2) (tCons (tVar 1) tNil)))))) (te := (tVar 2)) rfl nd (pi_list (pv 0)) (blkOk_by (N := N_is_list) (sc := defScope s_is_list) (by decide +kernel)) (fun _ _ _ _ _ => (pg_name (i := 2) nd rfl (Or.inl rfl))) (fun _ _ _ _ _ => (pts_one (pt_not (pt_val (pe_fn c_Lis_mask (hr.mono (by decide)) rfl (pa_cons (pv 2) (pa_cons (pv 1) pa_nil))))))) (fun _ _ _ _ _ => (pv 2))) (pe_lst pa_nil) (nomark _)))))), ?_⟩
    have w := Wf.id wf
    refine a_retE ?_
    refine e_jnV hW (fun b F' H' => b = b ∧ Wf F0 H0 F' H' ∧ Ex F0 F') ?_ ?_
    · intro N1 hN1 hW
      have gx1 : Ex F0 F0 := Ex.rfl'
      refine e_AndV ?_
      refine e_val (v := .bl true) (vb_of (vb_of (v_isi (b := true) (val_var rfl) (ty_L r1 w.f) (by decide +kernel)) dec_T) dec_T.symm) ?_
      refine bl_if ?_
      refine if_t ?_
      refine e_op ?_
      refine c_LE ?_
      refine e_val (v := v1) (val_var rfl) ?_
      obtain ⟨c1, hW⟩ := hW
      refine w_compL (e := pN) r1 w c1 hW ?_ ?_
      · intro Qy Qn one1 u1 F1 H1 R1 q1 hx1 ru1 hW hy1 hn1
        have r1 := Rep.mono _ q1.g r1
        have w := Wf.id q1.f
        obtain rfl : u1 = (.int ((one1 : Nat) : Int)) := ru1
        refine ⟨rfl, ?_⟩
        refine e_tNot ?_
        refine e_tB ?_
        refine e_call ?_
        refine a_val (v := (.int ((one1 : Nat) : Int))) (val_var rfl) ?_
        refine a_val (v := (.int ((width1 : Nat) : Int))) (val_var rfl) ?_
        refine a_nil ?_
        refine ⟨F1, (one1), (width1), _, rfl, w.f, hW, ?_⟩
        intro z1 hW F2 H2 s1
        replace r1 := Rep.mono _ s1.g r1
        replace w := w.tr s1
        refine bl_v ?_
        refine bb_ifn (fun hc1 => ?_) (fun hc1 => ?_)
        · have hW := ifP hW hc1
          exact hn1 _ _ w hW
        · have hW := ifN hW hc1
          refine e_val (v := (.int ((one1 : Nat) : Int))) (val_var rfl) ?_
          exact hy1 _ _ _ _ w rfl hW
      intro p1 ys1 F3 H3 hp1 s2 x1 hW
      replace r1 := Rep.mono _ s2.g r1
      replace w := w.tr s2
      replace gx1 := Ex.tr gx1 s2.g
      refine e_lst ?_
      refine a_nil ?_
      refine n_lstX (e := pN) (xs := []) (vs := []) (show All pN _ [] [] from trivial) (show 0 < 1000000 from by decide) w ?_
      intro p2 H4 hp2 s3 x2
      have ne1 := x1.ne hp2
      replace r1 := Rep.mono _ s3.g r1
      replace x1 := x1.step s3
      replace w := w.tr s3
      replace gx1 := Ex.tr gx1 s3.g
      obtain ⟨F4, w1, g1, r2, fz1⟩ := x1.frzE w
      replace r1 := Rep.mono _ g1 r1
      replace x2 := x2.frzO fz1 (Ne.symm ne1) g1
      replace w := w1
      replace gx1 := Ex.tr gx1 g1
      obtain ⟨F5, w2, g2, r3, fz2⟩ := x2.frzE w
      replace r1 := Rep.mono _ g2 r1
      replace r2 := Rep.mono _ g2 r2
      replace w := w2
      replace gx1 := Ex.tr gx1 g2
      refine rv2 (z := .bl (decide (ys1 = ([] : List Nat)))) (c_eqD (K := K) (e := (pL pN)) val_c val_c w.f r2 w.f r3) ?_
      exact hN1 (decide (ys1 = ([] : List Nat))) _ _ ⟨rfl, w, gx1⟩ hW
    intro b1 F6 H5 hI1 hW
    obtain ⟨_, w, gx2⟩ := hI1
    have r1 := Rep.mono _ gx2 r1
    exact hQ _ hW _ _ w
abbrev s_sum_at : Stmt := topS 38
def W_sum_at (masks_here1 : List Nat) (places1 : List Nat) (R : Int → Prop) : Prop := ∀ last1 : Int, last1 = -1 → forW places1 (0, last1) (fun place1 (total1, last2) nx1 bk1 => jn (fun kk => W_Lis_mask place1 9 fun z1 => if z1 = true then (kk (decide ((((place1 : Nat) : Int) ≤ last2) ∨ (masks_here1.length ≤ place1)))) else (kk true)) fun b1 => if b1 = true then (R (-1)) else (∃ x1, masks_here1[place1]? = some x1 ∧ ∀ total2 : Nat, total2 = total1 ^^^ x1 → ∀ last3 : Int, last3 = ((place1 : Nat) : Int) → nx1 (total2, last3))) fun (total1, last2) => R ((total1 : Nat) : Int)
def sp_sum_at (K : PySem.W.Frag) (cc : Cz) : Sp := fun vs H Q _ => ∃ (F : Hp) (v1 : V) (masks_here1 : List Nat) (v2 : V) (places1 : List Nat) (R : Int → Prop), vs = [v1, v2] ∧ Ex F H ∧ (pL pN).r F v1 masks_here1 ∧ (pL pN).r F v2 places1 ∧ W_sum_at masks_here1 places1 R ∧ ∀ z, R z → ∀ F' H', Wf F H F' H' → Q (.int (z)) H'
abbrev N_sum_at : List Str := ["_law_masks_here", "_law_places", "_law_total", "_law_last", "_law_place"]
theorem sc_sum_at : FnScope N_sum_at ["_law_masks_here", "_law_places"] (defScope s_sum_at) := ⟨rfl, rfl, rfl, by decide +kernel, rfl, by decide +kernel, by decide +kernel⟩
theorem ok_sum_at {P : Program} {w0 : World} {K : PySem.W.Frag} {mg : Str → Option Value} {base : Heap} {f : Addr} {fd : FuncData} {cc : Cz} (T : Tz K mg cc) (FU : Fun K "_law_sum_at" "_law_sum_at" s_sum_at f fd) (hm : mg "_law_sum_at" = some (.ref f)) (hb : Binds K fd ["_law_masks_here", "_law_places"] []) (c_Lis_mask : Fn P w0 K mg base CX0 1 "_law_is_mask" ["_law_thing", "_law_width"] (sp_Lis_mask K cc)) (n_len : mg "len" = none) : Fn P w0 K mg base CX0 2 "_law_sum_at" ["_law_masks_here", "_law_places"] (sp_sum_at K cc) := by
  refine ⟨f, fd, FU.ok sc_sum_at (fun vs H Q E h => ?_) (fun cdv A outer s H0 vs Q E hr h => ?_), hm, FU.kp, hb⟩
  · obtain ⟨_, _, _, _, _, _, rfl, _⟩ := h; rfl
  · obtain ⟨F0, v1, masks_here1, v2, places1, R, rfl, wf, r1, r2, hW, hQ⟩ := h
    have nd := sc_sum_at.nd
    refine ⟨(tSeq (tAsg (tC (.int 0)) (gName 2)) (tSeq (tAsg (tUn kNeg (tC (.int 1))) (gName 3)) (tSeq (tFor (iList K (tVar 1)) (gName 4) (tSeq (tIfS (tOr (tNot (tB (tCall (sp_Lis_mask K cc) [] E0 (tCons (tVar 4) (tCons (tC (.int 9)) tNil))))) (tOr (tTest (tOp kLe (tVar 4) (tVar 3))) (tTest (tOp kGe (tVar 4) (tCB (Wk.rLen K) (tCons (tVar 0) tNil)))))) (tRet (tUn kNeg (tC (.int 1)))) tNext) (tSeq (tAsg (tOp kXor (tVar 2) (tOp (L2.rIxL K) (tVar 0) (tVar 4))) (gName 2)) (tAsg (tVar 4) (gName 3))))) (tRet (tVar 2))))), (pss_cons (ps_set (i := 2) nd rfl (Or.inl rfl) pe_int) (pss_cons (ps_set (i := 3) nd rfl (Or.inl rfl) (pe_un un_neg pe_int)) (pss_cons (ps_for PassesOwn.never rfl (pi_list (pv 1)) (pg_name (i := 4) nd rfl (Or.inl rfl)) (pss_cons (ps_if (PW.pt (pw_or (pt_not (pt_val (pe_fn c_Lis_mask (hr.mono (by decide)) rfl (pa_cons (pv 4) (pa_cons pe_int pa_nil))))) (pw_or (pt_cmpR op_le (pv 4) (pv 3) (nomark _)) (pw_or1 (pt_cmpR op_ge (pv 4) (pe_callB call_len_seq (by rfl) n_len PySem.boot_len (pa_cons (pv 0) pa_nil)) (nomark _)))))) (pss_one (ps_ret (pe_un un_neg pe_int))) pss_nil) (pss_cons (ps_set (i := 2) nd rfl (Or.inl rfl) (pe_op op_xor (pv 2) (pe_ix ix_list (pv 0) (pv 4) (fun _ _ => rfl)))) (pss_one (ps_set (i := 3) nd rfl (Or.inl rfl) (pv 4)))))) (pss_one (ps_ret (pv 2)))))), ?_⟩
    have w := Wf.id wf
    refine q_sq fun N1 hN1 => ?_
    refine a_asg (v := (.int ((0 : Nat) : Int))) val_c ?_
    refine hN1 _ _ ?_
    refine q_sq fun N2 hN2 => ?_
    obtain ⟨last1, elast1⟩ : ∃ last1 : Int, last1 = -1 := ⟨_, rfl⟩
    replace hW := hW last1 elast1
    refine a_asg (v := (.int (last1))) (v_eq (v_neg val_c) (by rw [elast1])) ?_
    refine hN2 _ _ ?_
    refine q_sq fun N3 hN3 => ?_
    refine f_LE ?_
    refine e_val (v := v2) (val_var rfl) ?_
    refine w_forL (S := Nat × Int) (fun s σ' F' H' => match s with | (total1, last2) => ∃ (o1 : Option V), Wf F0 H0 F' H' ∧ Ex F0 F' ∧ σ' = [some v1, some v2, some (.int ((total1 : Nat) : Int)), some (.int (last2)), o1]) r2 hW ⟨_, w, Ex.rfl', rfl⟩ (fun s σ' F' H' hI => by obtain ⟨total1, last2⟩ := s; obtain ⟨_, w', gx', _⟩ := hI; exact ⟨gx', w'.f⟩) w.f ?_ ?_
    · intro N4 Bk1 place1 u1 s1 σ' F1 H1 nx1 bk1 hI1 hx1 ru1 hW hN4 hB1
      obtain ⟨total1, last2⟩ := s1
      obtain ⟨o1, w, gx1, rfl⟩ := hI1
      have r1 := Rep.mono _ gx1 r1
      have r2 := Rep.mono _ gx1 r2
      obtain rfl : u1 = (.int ((place1 : Nat) : Int)) := ru1
      refine g_name ?_
      refine q_sq fun N5 hN5 => ?_
      refine a_ifE ?_
      refine e_jnT hW (fun b F' H' => b = b ∧ Wf F0 H0 F' H' ∧ Ex F1 F') ?_ ?_
      · intro N6 hN6 hW
        have gx2 : Ex F1 F1 := Ex.rfl'
        refine e_tOr ?_
        refine e_tNot ?_
        refine e_tB ?_
        refine e_call ?_
        refine a_val (v := (.int ((place1 : Nat) : Int))) (val_var rfl) ?_
        refine a_val (v := (.int ((9 : Nat) : Int))) val_c ?_
        refine a_nil ?_
        refine ⟨F1, (place1), (9), _, rfl, w.f, hW, ?_⟩
        intro z1 hW F2 H2 s2
        replace r1 := Rep.mono _ s2.g r1
        replace r2 := Rep.mono _ s2.g r2
        replace w := w.tr s2
        replace gx2 := Ex.tr gx2 s2.g
        replace gx1 := Ex.tr gx1 s2.g
        refine bl_v ?_
        refine bb_ifn (fun hc1 => ?_) (fun hc1 => ?_)
        · have hW := ifP hW hc1
          refine e_ans (b := decide ((((place1 : Nat) : Int) ≤ last2) ∨ (masks_here1.length ≤ place1))) (t_or (t_of (c_le (val_var rfl) (val_var rfl))) (fun _ => (t_of (vb_dec (c_ge (val_var rfl) (len_L r1 w.f (val_var rfl))) n_le)))) ?_
          exact hN6 (decide ((((place1 : Nat) : Int) ≤ last2) ∨ (masks_here1.length ≤ place1))) _ _ ⟨rfl, w, gx2⟩ hW
        · have hW := ifN hW hc1
          exact hN6 true _ _ ⟨rfl, w, gx2⟩ hW
      intro b1 F3 H3 hI2 hW
      obtain ⟨_, w, gx3⟩ := hI2
      have r1 := Rep.mono _ gx3 r1
      have r2 := Rep.mono _ gx3 r2
      have gx1 := Ex.tr gx1 gx3
      refine bb_if (fun hc2 => ?_) (fun hc2 => ?_)
      · have hW := ifP hW hc2
        refine a_ret (v := (.int (-1))) (v_neg val_c) ?_
        exact hQ _ hW _ _ w
      · have hW := ifN hW hc2
        refine hN5 _ _ ?_
        refine q_sq fun N7 hN7 => ?_
        obtain ⟨x1, hx1_1, hW⟩ := hW
        obtain ⟨_, rfl, ix1⟩ := ix_L (K := K) r1 w.f hx1_1
        obtain ⟨total2, etotal1⟩ : ∃ total2 : Nat, total2 = total1 ^^^ x1 := ⟨_, rfl⟩
        replace hW := hW total2 etotal1
        refine a_asg (v := (.int ((total2 : Nat) : Int))) (v_eq (vn_xor (val_var rfl) (ix1 (val_var rfl) (val_var rfl))) (by rw [etotal1])) ?_
        refine hN7 _ _ ?_
        obtain ⟨last3, elast2⟩ : ∃ last3 : Int, last3 = ((place1 : Nat) : Int) := ⟨_, rfl⟩
        replace hW := hW last3 elast2
        refine a_asg (v := (.int (last3))) (v_eq (val_var rfl) (by rw [elast2])) ?_
        exact hN4 (total2, last3) _ _ _ ⟨_, w, gx1, rfl⟩ hW
    · intro s3 σ' F4 H4 hI3 hW
      obtain ⟨total1, last2⟩ := s3
      obtain ⟨o1, w, gx4, rfl⟩ := hI3
      have r1 := Rep.mono _ gx4 r1
      have r2 := Rep.mono _ gx4 r2
      refine hN3 _ _ ?_
      refine a_ret (v := (.int (((total1 : Nat) : Int)))) (val_var rfl) ?_
      exact hQ _ hW _ _ w
abbrev s_answers : Stmt := topS 39
def W_answers (tables1 : Nat × List (Nat × Nat) × List (Nat × Nat)) (state1 : Nat) (rows_here1 : List Nat) (R : (List Nat) → Prop) : Prop := forW rows_here1 (([] : List Nat), state1) (fun row1 (found1, state2) nx1 bk1 => W_bits tables1.2.2 state2 row1 fun z1 => (found1.length < 1000000) ∧ W_bits tables1.2.1 state2 row1 fun z2 => nx1 (found1 ++ [z1], z2)) fun (found1, state2) => R found1
def sp_answers (K : PySem.W.Frag) (cc : Cz) : Sp := fun vs H Q _ => ∃ (F : Hp) (v1 : V) (tables1 : Nat × List (Nat × Nat) × List (Nat × Nat)) (state1 : Nat) (v2 : V) (rows_here1 : List Nat) (R : (List Nat) → Prop), vs = [v1, (.int ((state1 : Nat) : Int)), v2] ∧ Ex F H ∧ (pT3 pN (pL (pT2 pN pN)) (pL (pT2 pN pN))).r F v1 tables1 ∧ (pL pN).r F v2 rows_here1 ∧ W_answers tables1 state1 rows_here1 R ∧ ∀ z, R z → ∀ p F' H', Wf F H F' H' → XL pN H F' H' p z → Q (.ref p) H'
abbrev N_answers : List Str := ["_law_tables", "_law_state", "_law_rows_here", "_law_found", "_law_row"]
theorem sc_answers : FnScope N_answers ["_law_tables", "_law_state", "_law_rows_here"] (defScope s_answers) := ⟨rfl, rfl, rfl, by decide +kernel, rfl, by decide +kernel, by decide +kernel⟩
theorem ok_answers {P : Program} {w0 : World} {K : PySem.W.Frag} {mg : Str → Option Value} {base : Heap} {f : Addr} {fd : FuncData} {cc : Cz} (T : Tz K mg cc) (FU : Fun K "_law_answers" "_law_answers" s_answers f fd) (hm : mg "_law_answers" = some (.ref f)) (hb : Binds K fd ["_law_tables", "_law_state", "_law_rows_here"] []) (c_bits : Fn P w0 K mg base CX0 2 "_law_bits" ["_law_pairs", "_law_state", "_law_row"] (sp_bits K cc)) : Fn P w0 K mg base CX0 3 "_law_answers" ["_law_tables", "_law_state", "_law_rows_here"] (sp_answers K cc) := by
  refine ⟨f, fd, FU.ok sc_answers (fun vs H Q E h => ?_) (fun cdv A outer s H0 vs Q E hr h => ?_), hm, FU.kp, hb⟩
  · obtain ⟨_, _, _, _, _, _, _, rfl, _⟩ := h; rfl
  · obtain ⟨F0, v1, tables1, state1, v2, rows_here1, R, rfl, wf, r1, r2, hW, hQ⟩ := h
    have nd := sc_answers.nd
    refine ⟨(tSeq (tAsg (tLst tNil) (gName 3)) (tSeq (tFor (iList K (tVar 2)) (gName 4) (tSeq (tDrop (tBM K "list" rAppend (tVar 3) (tCons (tCall (sp_bits K cc) [] E0 (tCons (tOp (L2.rIxT K) (tVar 0) (tC (.int 2))) (tCons (tVar 1) (tCons (tVar 4) tNil)))) tNil))) (tAsg (tCall (sp_bits K cc) [] E0 (tCons (tOp (L2.rIxT K) (tVar 0) (tC (.int 1))) (tCons (tVar 1) (tCons (tVar 4) tNil)))) (gName 1)))) (tRet (tVar 3)))), (pss_cons (ps_set (i := 3) nd rfl (Or.inl rfl) (pe_lst pa_nil)) (pss_cons (ps_for PassesOwn.never rfl (pi_list (pv 2)) (pg_name (i := 4) nd rfl (Or.inl rfl)) (pss_cons (ps_expr (pe_bm PySem.F.plainAttrs_list PySem.F.slot_list_append PySem.F.type_list_append mt_append (pv 3) (pa_cons (pe_fn c_bits (hr.mono (by decide)) rfl (pa_cons (pe_ix ix_tup (pv 0) pe_int (fun _ _ => rfl)) (pa_cons (pv 1) (pa_cons (pv 4) pa_nil)))) pa_nil))) (pss_one (ps_set (i := 1) nd rfl (Or.inl rfl) (pe_fn c_bits (hr.mono (by decide)) rfl (pa_cons (pe_ix ix_tup (pv 0) pe_int (fun _ _ => rfl)) (pa_cons (pv 1) (pa_cons (pv 4) pa_nil)))))))) (pss_one (ps_ret (pv 3))))), ?_⟩
    have w := Wf.id wf
    refine q_sq fun N1 hN1 => ?_
    refine a_asgE ?_
    refine e_lst ?_
    refine a_nil ?_
    refine n_lstX (e := pN) (xs := []) (vs := []) (show All pN _ [] [] from trivial) (show 0 < 1000000 from by decide) w ?_
    intro p1 H1 hp1 s1 x1
    replace r1 := Rep.mono _ s1.g r1
    replace r2 := Rep.mono _ s1.g r2
    replace w := w.tr s1
    refine hN1 _ _ ?_
    refine q_sq fun N2 hN2 => ?_
    refine f_LE ?_
    refine e_val (v := v2) (val_var rfl) ?_
    refine w_forL (S := List Nat × Nat) (fun s σ' F' H' => match s with | (found1, state2) => ∃ (o1 : Option V), Wf F0 H0 F' H' ∧ Ex F0 F' ∧ σ' = [some v1, some (.int ((state2 : Nat) : Int)), some v2, some ((.ref p1)), o1] ∧ XL pN H0 F' H' p1 found1) r2 hW ⟨_, w, Ex.rfl', rfl, x1⟩ (fun s σ' F' H' hI => by obtain ⟨found1, state2⟩ := s; obtain ⟨_, w', gx', _⟩ := hI; exact ⟨gx', w'.f⟩) w.f ?_ ?_
    · intro N3 Bk1 row1 u1 s2 σ' F1 H2 nx1 bk1 hI1 hx1 ru1 hW hN3 hB1
      obtain ⟨found1, state2⟩ := s2
      obtain ⟨o1, w, gx1, rfl, x2⟩ := hI1
      have r1 := Rep.mono _ gx1 r1
      have r2 := Rep.mono _ gx1 r2
      obtain rfl : u1 = (.int ((row1 : Nat) : Int)) := ru1
      refine g_name ?_
      refine q_sq fun N4 hN4 => ?_
      refine a_dropE ?_
      refine m_list x2 (val_var rfl) ?_
      refine a_cons ?_
      refine e_call ?_
      obtain ⟨v3, r3, ix1⟩ := ix_3c (K := K) r1 w.f
      refine a_val (v := v3) (ix1 (val_var rfl) val_c) ?_
      refine a_val (v := (.int ((state2 : Nat) : Int))) (val_var rfl) ?_
      refine a_val (v := (.int ((row1 : Nat) : Int))) (val_var rfl) ?_
      refine a_nil ?_
      refine ⟨F1, (v3), (tables1.2.2), (state2), (row1), _, rfl, w.f, r3, hW, ?_⟩
      intro z1 hW F2 H3 s3
      replace r1 := Rep.mono _ s3.g r1
      replace r2 := Rep.mono _ s3.g r2
      replace x2 := x2.step s3
      replace r3 := Rep.mono _ s3.g r3
      replace w := w.tr s3
      replace gx1 := Ex.tr gx1 s3.g
      refine a_nil ?_
      obtain ⟨c1, hW⟩ := hW
      refine a_app x2 w c1 rfl (fun H4 w1 x3 kp1 => ?_)
      replace w := w1
      refine hN4 _ _ ?_
      refine a_asgE ?_
      refine e_call ?_
      obtain ⟨v4, r4, ix2⟩ := ix_3b (K := K) r1 w.f
      refine a_val (v := v4) (ix2 (val_var rfl) val_c) ?_
      refine a_val (v := (.int ((state2 : Nat) : Int))) (val_var rfl) ?_
      refine a_val (v := (.int ((row1 : Nat) : Int))) (val_var rfl) ?_
      refine a_nil ?_
      refine ⟨F2, (v4), (tables1.2.1), (state2), (row1), _, rfl, w.f, r4, hW, ?_⟩
      intro z2 hW F3 H5 s4
      replace r1 := Rep.mono _ s4.g r1
      replace r2 := Rep.mono _ s4.g r2
      replace x3 := x3.step s4
      replace r4 := Rep.mono _ s4.g r4
      replace w := w.tr s4
      replace gx1 := Ex.tr gx1 s4.g
      exact hN3 (found1 ++ [z1], z2) _ _ _ ⟨_, w, gx1, rfl, x3⟩ hW
    · intro s5 σ' F4 H6 hI2 hW
      obtain ⟨found1, state2⟩ := s5
      obtain ⟨o1, w, gx2, rfl, x2⟩ := hI2
      have r1 := Rep.mono _ gx2 r1
      have r2 := Rep.mono _ gx2 r2
      refine hN2 _ _ ?_
      refine a_ret (v := (.ref p1)) (val_var rfl) ?_
      exact hQ _ hW _ _ _ w x2
abbrev s_apart : Stmt := topS 40
def W_apart (found1 : Str × Nat × Nat) (tables1 : Nat × List (Nat × Nat) × List (Nat × Nat)) (one1 : Nat) (other1 : Nat) (rows_here1 : List Nat) (R : Bool → Prop) : Prop := jn (fun kk => W_Lis_mask found1.2.1 5 fun z1 => if z1 = true then (if tables1.2.1.length ≤ found1.2.1 then (kk true) else (W_Lis_mask found1.2.2 3 fun z2 => kk (!z2))) else (kk true)) fun b1 => if b1 = true then (R false) else (W_answers tables1 one1 (cutT rows_here1 none (some (found1.2.1 + 1))) fun z3 => W_answers tables1 other1 (cutT rows_here1 none (some (found1.2.1 + 1))) fun z4 => jn (fun kk => if (z3.take (z3.length - 1)) = (z4.take (z4.length - 1)) then (∃ x7, z3.getLast? = some x7 ∧ ∃ x8, z4.getLast? = some x8 ∧ kk (decide ((((x7 ^^^ x8) >>> found1.2.2) &&& 1) = 1))) else (kk false)) fun b2 => R b2)
def sp_apart (K : PySem.W.Frag) (cc : Cz) : Sp := fun vs H Q _ => ∃ (F : Hp) (v1 : V) (found1 : Str × Nat × Nat) (v2 : V) (tables1 : Nat × List (Nat × Nat) × List (Nat × Nat)) (one1 : Nat) (other1 : Nat) (v3 : V) (rows_here1 : List Nat) (R : Bool → Prop), vs = [v1, v2, (.int ((one1 : Nat) : Int)), (.int ((other1 : Nat) : Int)), v3] ∧ Ex F H ∧ (pT3 pS pN pN).r F v1 found1 ∧ (pT3 pN (pL (pT2 pN pN)) (pL (pT2 pN pN))).r F v2 tables1 ∧ (pL pN).r F v3 rows_here1 ∧ W_apart found1 tables1 one1 other1 rows_here1 R ∧ ∀ z, R z → ∀ F' H', Wf F H F' H' → Q (.bl (z)) H'
abbrev N_apart : List Str := ["_law_found", "_law_tables", "_law_one", "_law_other", "_law_rows_here", "_law_turn", "_law_output", "_law_first", "_law_second"]
theorem sc_apart : FnScope N_apart ["_law_found", "_law_tables", "_law_one", "_law_other", "_law_rows_here"] (defScope s_apart) := ⟨rfl, rfl, rfl, by decide +kernel, rfl, by decide +kernel, by decide +kernel⟩
theorem ok_apart {P : Program} {w0 : World} {K : PySem.W.Frag} {mg : Str → Option Value} {base : Heap} {f : Addr} {fd : FuncData} {cc : Cz} (T : Tz K mg cc) (FU : Fun K "_law_apart" "_law_apart" s_apart f fd) (hm : mg "_law_apart" = some (.ref f)) (hb : Binds K fd ["_law_found", "_law_tables", "_law_one", "_law_other", "_law_rows_here"] []) (c_Lis_mask : Fn P w0 K mg base CX0 1 "_law_is_mask" ["_law_thing", "_law_width"] (sp_Lis_mask K cc)) (c_answers : Fn P w0 K mg base CX0 3 "_law_answers" ["_law_tables", "_law_state", "_law_rows_here"] (sp_answers K cc)) (n_len : mg "len" = none) : Fn P w0 K mg base CX0 4 "_law_apart" ["_law_found", "_law_tables", "_law_one", "_law_other", "_law_rows_here"] (sp_apart K cc) := by
  refine ⟨f, fd, FU.ok sc_apart (fun vs H Q E h => ?_) (fun cdv A outer s H0 vs Q E hr h => ?_), hm, FU.kp, hb⟩
  · obtain ⟨_, _, _, _, _, _, _, _, _, _, rfl, _⟩ := h; rfl
  · obtain ⟨F0, v1, found1, v2, tables1, one1, other1, v3, rows_here1, R, rfl, wf, r1, r2, r3, hW, hQ⟩ := h
    have nd := sc_apart.nd
    refine ⟨(tSeq (tAsg (tSl (rSlT K) (tVar 0) (tPart (tC (.int 1))) tNoPart) (gTup K 2 (gCons (gName 5) (gCons (gName 6) gNil)))) (tSeq (tIfS (tOr (tNot (tB (tCall (sp_Lis_mask K cc) [] E0 (tCons (tVar 5) (tCons (tC (.int 5)) tNil))))) (tOr (tTest (tOp kGe (tVar 5) (tCB (Wk.rLen K) (tCons (tOp (L2.rIxT K) (tVar 1) (tC (.int 1))) tNil)))) (tNot (tB (tCall (sp_Lis_mask K cc) [] E0 (tCons (tVar 6) (tCons (tC (.int 3)) tNil))))))) (tRet (tC (.bl false))) tNext) (tSeq (tAsg (tCall (sp_answers K cc) [] E0 (tCons (tVar 1) (tCons (tVar 2) (tCons (tSl (rSlL K) (tVar 4) tNoPart (tPart (tOp kAdd (tVar 5) (tC (.int 1))))) tNil)))) (gName 7)) (tSeq (tAsg (tCall (sp_answers K cc) [] E0 (tCons (tVar 1) (tCons (tVar 3) (tCons (tSl (rSlL K) (tVar 4) tNoPart (tPart (tOp kAdd (tVar 5) (tC (.int 1))))) tNil)))) (gName 8)) (tRet (tAndV (tOp (L2.rEqD K) (tSl (rSlL K) (tVar 7) tNoPart (tPart (tUn kNeg (tC (.int 1))))) (tSl (rSlL K) (tVar 8) tNoPart (tPart (tUn kNeg (tC (.int 1)))))) (tOp L2.rEq (tOp kAnd (tOp kShr (tOp kXor (tOp (L2.rIxL K) (tVar 7) (tUn kNeg (tC (.int 1)))) (tOp (L2.rIxL K) (tVar 8) (tUn kNeg (tC (.int 1))))) (tVar 6)) (tC (.int 1))) (tC (.int 1))))))))), (pss_cons (ps_asg (pe_slice sl_tup (pv 0) (po_some pe_int) po_none) (pg_tup rfl (pgs_cons (pg_name (i := 5) nd rfl (Or.inl rfl)) (pgs_cons (pg_name (i := 6) nd rfl (Or.inl rfl)) pgs_nil)) (by rfl))) (pss_cons (ps_if (PW.pt (pw_or (pt_not (pt_val (pe_fn c_Lis_mask (hr.mono (by decide)) rfl (pa_cons (pv 5) (pa_cons pe_int pa_nil))))) (pw_or (pt_cmpR op_ge (pv 5) (pe_callB call_len_seq (by rfl) n_len PySem.boot_len (pa_cons (pe_ix ix_tup (pv 1) pe_int (fun _ _ => rfl)) pa_nil)) (nomark _)) (pw_or1 (pt_not (pt_val (pe_fn c_Lis_mask (hr.mono (by decide)) rfl (pa_cons (pv 6) (pa_cons pe_int pa_nil))))))))) (pss_one (ps_ret pe_bl)) pss_nil) (pss_cons (ps_set (i := 7) nd rfl (Or.inl rfl) (pe_fn c_answers (hr.mono (by decide)) rfl (pa_cons (pv 1) (pa_cons (pv 2) (pa_cons (pe_slice sl_list (pv 4) po_none (po_some (pe_op op_add (pv 5) pe_int))) pa_nil))))) (pss_cons (ps_set (i := 8) nd rfl (Or.inl rfl) (pe_fn c_answers (hr.mono (by decide)) rfl (pa_cons (pv 1) (pa_cons (pv 3) (pa_cons (pe_slice sl_list (pv 4) po_none (po_some (pe_op op_add (pv 5) pe_int))) pa_nil))))) (pss_one (ps_ret (pe_and (pe_cmpR (op_eqD hr.units) (pe_slice sl_list (pv 7) po_none (po_some (pe_un un_neg pe_int))) (pe_slice sl_list (pv 8) po_none (po_some (pe_un un_neg pe_int))) (nomark _)) (pe_one (pe_cmpR op_eq (pe_op op_and (pe_op op_shr (pe_op op_xor (pe_ix ix_list (pv 7) (pe_un un_neg pe_int) (fun _ _ => rfl)) (pe_ix ix_list (pv 8) (pe_un un_neg pe_int) (fun _ _ => rfl))) (pv 6)) pe_int) pe_int (nomark _)))))))))), ?_⟩
    have w := Wf.id wf
    refine q_sq fun N1 hN1 => ?_
    refine a_asgG ?_
    refine n_cutT3 r1 (val_var rfl) (po_s (n := 1) val_c) po_n w ?_
    intro p1 F1 H1 s1 r4
    replace r1 := Rep.mono _ s1.g r1
    replace r2 := Rep.mono _ s1.g r2
    replace r3 := Rep.mono _ s1.g r3
    replace w := w.tr s1
    have rr1 := r4
    obtain ⟨p2, u1, u2, hv1, h1, rfl, rfl⟩ := rr1
    refine ⟨p2, _, hv1, SqT.of (w.f _ _ h1), rfl, _, _, rfl, _, _, rfl, rfl, ?_⟩
    refine hN1 _ _ ?_
    refine q_sq fun N2 hN2 => ?_
    refine a_ifE ?_
    refine e_jnT hW (fun b F' H' => b = b ∧ Wf F0 H0 F' H' ∧ Ex F1 F') ?_ ?_
    · intro N3 hN3 hW
      have gx1 : Ex F1 F1 := Ex.rfl'
      refine e_tOr ?_
      refine e_tNot ?_
      refine e_tB ?_
      refine e_call ?_
      refine a_val (v := (.int ((found1.2.1 : Nat) : Int))) (val_var rfl) ?_
      refine a_val (v := (.int ((5 : Nat) : Int))) val_c ?_
      refine a_nil ?_
      refine ⟨F1, (found1.2.1), (5), _, rfl, w.f, hW, ?_⟩
      intro z1 hW F2 H2 s2
      replace r1 := Rep.mono _ s2.g r1
      replace r2 := Rep.mono _ s2.g r2
      replace r3 := Rep.mono _ s2.g r3
      replace w := w.tr s2
      replace gx1 := Ex.tr gx1 s2.g
      refine bl_v ?_
      refine bb_ifn (fun hc1 => ?_) (fun hc1 => ?_)
      · have hW := ifP hW hc1
        refine e_tOr ?_
        obtain ⟨v4, r5, ix1⟩ := ix_3b (K := K) r2 w.f
        refine e_ans (b := decide (tables1.2.1.length ≤ found1.2.1)) (t_of (vb_dec (c_ge (val_var rfl) (len_L r5 w.f (ix1 (val_var rfl) val_c))) n_le)) ?_
        refine b_if (fun hc2 => ?_) (fun hc2 => ?_)
        · have hW := ifP hW hc2
          exact hN3 true _ _ ⟨rfl, w, gx1⟩ hW
        · have hW := ifN hW hc2
          refine e_tNot ?_
          refine e_tB ?_
          refine e_call ?_
          refine a_val (v := (.int ((found1.2.2 : Nat) : Int))) (val_var rfl) ?_
          refine a_val (v := (.int ((3 : Nat) : Int))) val_c ?_
          refine a_nil ?_
          refine ⟨F2, (found1.2.2), (3), _, rfl, w.f, hW, ?_⟩
          intro z2 hW F3 H3 s3
          replace r1 := Rep.mono _ s3.g r1
          replace r2 := Rep.mono _ s3.g r2
          replace r3 := Rep.mono _ s3.g r3
          replace r5 := Rep.mono _ s3.g r5
          replace w := w.tr s3
          replace gx1 := Ex.tr gx1 s3.g
          refine bl_v ?_
          exact hN3 (!z2) _ _ ⟨rfl, w, gx1⟩ hW
      · have hW := ifN hW hc1
        exact hN3 true _ _ ⟨rfl, w, gx1⟩ hW
    intro b1 F4 H4 hI1 hW
    obtain ⟨_, w, gx2⟩ := hI1
    have r1 := Rep.mono _ gx2 r1
    have r2 := Rep.mono _ gx2 r2
    have r3 := Rep.mono _ gx2 r3
    refine bb_if (fun hc3 => ?_) (fun hc3 => ?_)
    · have hW := ifP hW hc3
      refine a_ret (v := (.bl (false))) val_c ?_
      exact hQ _ hW _ _ w
    · have hW := ifN hW hc3
      refine hN2 _ _ ?_
      refine q_sq fun N4 hN4 => ?_
      refine a_asgE ?_
      refine e_call ?_
      refine a_val (v := v2) (val_var rfl) ?_
      refine a_val (v := (.int ((one1 : Nat) : Int))) (val_var rfl) ?_
      refine a_cons ?_
      refine n_cutX (lo := none) (hi := (some (found1.2.1 + 1))) r3 (val_var rfl) po_n (po_s (n := found1.2.1 + 1) (vn_add (val_var rfl) val_c)) w ?_
      intro p3 H5 hp1 s4 x1
      replace r1 := Rep.mono _ s4.g r1
      replace r2 := Rep.mono _ s4.g r2
      replace r3 := Rep.mono _ s4.g r3
      replace w := w.tr s4
      refine a_nil ?_
      obtain ⟨F5, w1, g1, r6, fz1⟩ := x1.frzE w
      replace r1 := Rep.mono _ g1 r1
      replace r2 := Rep.mono _ g1 r2
      replace r3 := Rep.mono _ g1 r3
      replace w := w1
      refine ⟨F5, (v2), (tables1), (one1), ((.ref p3)), (cutT rows_here1 none (some (found1.2.1 + 1))), _, rfl, w.f, r2, r6, hW, ?_⟩
      intro z3 hW p4 F6 H6 s5 x2
      replace x2 := x2.base w
      replace r1 := Rep.mono _ s5.g r1
      replace r2 := Rep.mono _ s5.g r2
      replace r3 := Rep.mono _ s5.g r3
      replace r6 := Rep.mono _ s5.g r6
      replace w := w.tr s5
      obtain ⟨F7, w2, g2, r7, fz2⟩ := x2.frzE w
      replace r1 := Rep.mono _ g2 r1
      replace r2 := Rep.mono _ g2 r2
      replace r3 := Rep.mono _ g2 r3
      replace r6 := Rep.mono _ g2 r6
      replace w := w2
      refine hN4 _ _ ?_
      refine q_sq fun N5 hN5 => ?_
      refine a_asgE ?_
      refine e_call ?_
      refine a_val (v := v2) (val_var rfl) ?_
      refine a_val (v := (.int ((other1 : Nat) : Int))) (val_var rfl) ?_
      refine a_cons ?_
      refine n_cutX (lo := none) (hi := (some (found1.2.1 + 1))) r3 (val_var rfl) po_n (po_s (n := found1.2.1 + 1) (vn_add (val_var rfl) val_c)) w ?_
      intro p5 H7 hp2 s6 x3
      replace r1 := Rep.mono _ s6.g r1
      replace r2 := Rep.mono _ s6.g r2
      replace r3 := Rep.mono _ s6.g r3
      replace r7 := Rep.mono _ s6.g r7
      replace w := w.tr s6
      refine a_nil ?_
      obtain ⟨F8, w3, g3, r8, fz3⟩ := x3.frzE w
      replace r1 := Rep.mono _ g3 r1
      replace r2 := Rep.mono _ g3 r2
      replace r3 := Rep.mono _ g3 r3
      replace r7 := Rep.mono _ g3 r7
      replace w := w3
      refine ⟨F8, (v2), (tables1), (other1), ((.ref p5)), (cutT rows_here1 none (some (found1.2.1 + 1))), _, rfl, w.f, r2, r8, hW, ?_⟩
      intro z4 hW p6 F9 H8 s7 x4
      replace x4 := x4.base w
      replace r1 := Rep.mono _ s7.g r1
      replace r2 := Rep.mono _ s7.g r2
      replace r3 := Rep.mono _ s7.g r3
      replace r7 := Rep.mono _ s7.g r7
      replace r8 := Rep.mono _ s7.g r8
      replace w := w.tr s7
      obtain ⟨F10, w4, g4, r9, fz4⟩ := x4.frzE w
      replace r1 := Rep.mono _ g4 r1
      replace r2 := Rep.mono _ g4 r2
      replace r3 := Rep.mono _ g4 r3
      replace r7 := Rep.mono _ g4 r7
      replace r8 := Rep.mono _ g4 r8
      replace w := w4
      refine hN5 _ _ ?_
      refine a_retE ?_
      refine e_jnV hW (fun b F' H' => b = b ∧ Wf F0 H0 F' H' ∧ Ex F10 F') ?_ ?_
      · intro N6 hN6 hW
        have gx3 : Ex F10 F10 := Ex.rfl'
        refine e_AndV ?_
        refine e_op ?_
        refine n_cutNeg (n := 1) (by decide) r7 (val_var rfl) (v_neg val_c) w ?_
        intro p7 H9 hp3 s8 x5
        replace r1 := Rep.mono _ s8.g r1
        replace r2 := Rep.mono _ s8.g r2
        replace r3 := Rep.mono _ s8.g r3
        replace r7 := Rep.mono _ s8.g r7
        replace r9 := Rep.mono _ s8.g r9
        replace w := w.tr s8
        replace gx3 := Ex.tr gx3 s8.g
        refine n_cutNeg (n := 1) (by decide) r9 (val_var rfl) (v_neg val_c) w ?_
        intro p8 H10 hp4 s9 x6
        have ne1 := x5.ne hp4
        replace r1 := Rep.mono _ s9.g r1
        replace r2 := Rep.mono _ s9.g r2
        replace r3 := Rep.mono _ s9.g r3
        replace r7 := Rep.mono _ s9.g r7
        replace r9 := Rep.mono _ s9.g r9
        replace x5 := x5.step s9
        replace w := w.tr s9
        replace gx3 := Ex.tr gx3 s9.g
        obtain ⟨F11, w5, g5, r10, fz5⟩ := x5.frzE w
        replace r1 := Rep.mono _ g5 r1
        replace r2 := Rep.mono _ g5 r2
        replace r3 := Rep.mono _ g5 r3
        replace r7 := Rep.mono _ g5 r7
        replace r9 := Rep.mono _ g5 r9
        replace x6 := x6.frzO fz5 (Ne.symm ne1) g5
        replace w := w5
        replace gx3 := Ex.tr gx3 g5
        obtain ⟨F12, w6, g6, r11, fz6⟩ := x6.frzE w
        replace r1 := Rep.mono _ g6 r1
        replace r2 := Rep.mono _ g6 r2
        replace r3 := Rep.mono _ g6 r3
        replace r7 := Rep.mono _ g6 r7
        replace r9 := Rep.mono _ g6 r9
        replace r10 := Rep.mono _ g6 r10
        replace w := w6
        replace gx3 := Ex.tr gx3 g6
        refine rv2 (z := .bl (decide ((z3.take (z3.length - 1)) = (z4.take (z4.length - 1))))) (c_eqD (K := K) (e := (pL pN)) val_c val_c w.f r10 w.f r11) ?_
        refine bl_if ?_
        refine b_if (fun hc4 => ?_) (fun hc4 => ?_)
        · have hW := ifP hW hc4
          obtain ⟨x7, hx7_1, hW⟩ := hW
          obtain ⟨_, rfl, ix2⟩ := ix_Lm (K := K) r7 w.f hx7_1
          obtain ⟨x8, hx8_1, hW⟩ := hW
          obtain ⟨_, rfl, ix3⟩ := ix_Lm (K := K) r9 w.f hx8_1
          refine e_val (v := .bl (decide ((((x7 ^^^ x8) >>> found1.2.2) &&& 1) = 1))) (vb_dec (c_eqI (vn_and (vn_shr (vn_xor (ix2 (val_var rfl) (v_neg val_c)) (ix3 (val_var rfl) (v_neg val_c))) (val_var rfl)) val_c) val_c) n_eq) ?_
          exact hN6 (decide ((((x7 ^^^ x8) >>> found1.2.2) &&& 1) = 1)) _ _ ⟨rfl, w, gx3⟩ hW
        · have hW := ifN hW hc4
          exact hN6 false _ _ ⟨rfl, w, gx3⟩ hW
      intro b2 F13 H11 hI2 hW
      obtain ⟨_, w, gx4⟩ := hI2
      have r1 := Rep.mono _ gx4 r1
      have r2 := Rep.mono _ gx4 r2
      have r3 := Rep.mono _ gx4 r3
      have r7 := Rep.mono _ gx4 r7
      have r9 := Rep.mono _ gx4 r9
      exact hQ _ hW _ _ w
abbrev s_alike : Stmt := topS 41
def W_alike (found1 : Str × List Nat × List (List Nat)) (tables1 : Nat × List (Nat × Nat) × List (Nat × Nat)) (one1 : Nat) (other1 : Nat) (rows_here1 : List Nat) (R : Bool → Prop) : Prop := jn (fun kk => W_is_list found1.2.1 tables1.2.1.length fun z1 => if z1 = true then (kk (decide (found1.2.2.length ≠ found1.2.1.length))) else (kk true)) fun b1 => if b1 = true then (R false) else (jn (fun kk => W_answers tables1 one1 rows_here1 fun z2 => W_answers tables1 other1 rows_here1 fun z3 => if z2 ≠ z3 then (kk true) else (kk (decide ((decide (found1.2.1 = ([] : List Nat))) ≠ (decide (one1 = other1)))))) fun b2 => if b2 = true then (R false) else ((found1.2.1.length < 1000000) ∧ forW (List.range found1.2.1.length) () (fun k1 _ nx1 bk1 => jn (fun kk => ∃ x4, found1.2.1[k1]? = some x4 ∧ W_bits tables1.2.2 x4 0 fun z4 => if z4 ≠ 0 then (kk true) else (∃ x5, found1.2.2[k1]? = some x5 ∧ kk false)) fun b3 => if b3 = true then (R false) else (∃ x6, found1.2.2[k1]? = some x6 ∧ W_sum_at found1.2.1 x6 fun z5 => ∃ x7, found1.2.1[k1]? = some x7 ∧ W_bits tables1.2.1 x7 0 fun z6 => if z5 ≠ ((z6 : Nat) : Int) then (R false) else (nx1 ()))) fun _ => jn (fun kk => if found1.2.1 = ([] : List Nat) then (kk true) else (∃ x9, found1.2.1[0]? = some x9 ∧ kk (decide (x9 = (one1 ^^^ other1))))) fun b4 => R b4))
def sp_alike (K : PySem.W.Frag) (cc : Cz) : Sp := fun vs H Q _ => ∃ (F : Hp) (v1 : V) (found1 : Str × List Nat × List (List Nat)) (v2 : V) (tables1 : Nat × List (Nat × Nat) × List (Nat × Nat)) (one1 : Nat) (other1 : Nat) (v3 : V) (rows_here1 : List Nat) (R : Bool → Prop), vs = [v1, v2, (.int ((one1 : Nat) : Int)), (.int ((other1 : Nat) : Int)), v3] ∧ Ex F H ∧ (pT3 pS (pL pN) (pL (pL pN))).r F v1 found1 ∧ (pT3 pN (pL (pT2 pN pN)) (pL (pT2 pN pN))).r F v2 tables1 ∧ (pL pN).r F v3 rows_here1 ∧ W_alike found1 tables1 one1 other1 rows_here1 R ∧ ∀ z, R z → ∀ F' H', Wf F H F' H' → Q (.bl (z)) H'
abbrev N_alike : List Str := ["_law_found", "_law_tables", "_law_one", "_law_other", "_law_rows_here", "_law_states", "_law_sums", "_law_k"]
theorem sc_alike : FnScope N_alike ["_law_found", "_law_tables", "_law_one", "_law_other", "_law_rows_here"] (defScope s_alike) := ⟨rfl, rfl, rfl, by decide +kernel, rfl, by decide +kernel, by decide +kernel⟩
theorem ok_alike {P : Program} {w0 : World} {K : PySem.W.Frag} {mg : Str → Option Value} {base : Heap} {f : Addr} {fd : FuncData} {cc : Cz} (T : Tz K mg cc) (FU : Fun K "_law_alike" "_law_alike" s_alike f fd) (hm : mg "_law_alike" = some (.ref f)) (hb : Binds K fd ["_law_found", "_law_tables", "_law_one", "_law_other", "_law_rows_here"] []) (c_is_list : Fn P w0 K mg base CX0 2 "_law_is_list" ["_law_found", "_law_width"] (sp_is_list K cc)) (c_answers : Fn P w0 K mg base CX0 3 "_law_answers" ["_law_tables", "_law_state", "_law_rows_here"] (sp_answers K cc)) (c_bits : Fn P w0 K mg base CX0 2 "_law_bits" ["_law_pairs", "_law_state", "_law_row"] (sp_bits K cc)) (c_sum_at : Fn P w0 K mg base CX0 2 "_law_sum_at" ["_law_masks_here", "_law_places"] (sp_sum_at K cc)) (n_isinstance : mg "isinstance" = none) (n_len : mg "len" = none) (n_list : mg "list" = none) (n_range : mg "range" = none) : Fn P w0 K mg base CX0 4 "_law_alike" ["_law_found", "_law_tables", "_law_one", "_law_other", "_law_rows_here"] (sp_alike K cc) := by
  refine ⟨f, fd, FU.ok sc_alike (fun vs H Q E h => ?_) (fun cdv A outer s H0 vs Q E hr h => ?_), hm, FU.kp, hb⟩
  · obtain ⟨_, _, _, _, _, _, _, _, _, _, rfl, _⟩ := h; rfl
  · obtain ⟨F0, v1, found1, v2, tables1, one1, other1, v3, rows_here1, R, rfl, wf, r1, r2, r3, hW, hQ⟩ := h
    have nd := sc_alike.nd
    refine ⟨(tSeq (tAsg (tSl (rSlT K) (tVar 0) (tPart (tC (.int 1))) tNoPart) (gTup K 2 (gCons (gName 5) (gCons (gName 6) gNil)))) (tSeq (tIfS (tOr (tNot (tB (tCall (sp_is_list K cc) [] E0 (tCons (tVar 5) (tCons (tCB (Wk.rLen K) (tCons (tOp (L2.rIxT K) (tVar 1) (tC (.int 1))) tNil)) tNil))))) (tOr (tNot (tB (tCB (rIsi K) (tCons (tVar 6) (tCons (tC (.ty "list")) tNil))))) (tTest (tOp L2.rNe (tCB (Wk.rLen K) (tCons (tVar 6) tNil)) (tCB (Wk.rLen K) (tCons (tVar 5) tNil)))))) (tRet (tC (.bl false))) tNext) (tSeq (tIfS (tOr (tTest (tOp (L2.rNeD K) (tCall (sp_answers K cc) [] E0 (tCons (tVar 1) (tCons (tVar 2) (tCons (tVar 4) tNil)))) (tCall (sp_answers K cc) [] E0 (tCons (tVar 1) (tCons (tVar 3) (tCons (tVar 4) tNil)))))) (tTest (tOp L2.rNe (tOp (L2.rEqD K) (tVar 5) (tLst tNil)) (tOp L2.rEq (tVar 2) (tVar 3))))) (tRet (tC (.bl false))) tNext) (tSeq (tFor (iRng1 (tCons (tCB (Wk.rLen K) (tCons (tVar 5) tNil)) tNil)) (gName 7) (tSeq (tIfS (tOr (tTest (tOp L2.rNe (tCall (sp_bits K cc) [] E0 (tCons (tOp (L2.rIxT K) (tVar 1) (tC (.int 2))) (tCons (tOp (L2.rIxL K) (tVar 5) (tVar 7)) (tCons (tC (.int 0)) tNil)))) (tC (.int 0)))) (tNot (tB (tCB (rIsi K) (tCons (tOp (L2.rIxL K) (tVar 6) (tVar 7)) (tCons (tC (.ty "list")) tNil)))))) (tRet (tC (.bl false))) tNext) (tIfS (tTest (tOp L2.rNe (tCall (sp_sum_at K cc) [] E0 (tCons (tVar 5) (tCons (tOp (L2.rIxL K) (tVar 6) (tVar 7)) tNil))) (tCall (sp_bits K cc) [] E0 (tCons (tOp (L2.rIxT K) (tVar 1) (tC (.int 1))) (tCons (tOp (L2.rIxL K) (tVar 5) (tVar 7)) (tCons (tC (.int 0)) tNil)))))) (tRet (tC (.bl false))) tNext))) (tRet (tOrV (tOp (L2.rEqD K) (tVar 5) (tLst tNil)) (tOp L2.rEq (tOp (L2.rIxL K) (tVar 5) (tC (.int 0))) (tOp kXor (tVar 2) (tVar 3))))))))), (pss_cons (ps_asg (pe_slice sl_tup (pv 0) (po_some pe_int) po_none) (pg_tup rfl (pgs_cons (pg_name (i := 5) nd rfl (Or.inl rfl)) (pgs_cons (pg_name (i := 6) nd rfl (Or.inl rfl)) pgs_nil)) (by rfl))) (pss_cons (ps_if (PW.pt (pw_or (pt_not (pt_val (pe_fn c_is_list (hr.mono (by decide)) rfl (pa_cons (pv 5) (pa_cons (pe_callB call_len_seq (by rfl) n_len PySem.boot_len (pa_cons (pe_ix ix_tup (pv 1) pe_int (fun _ _ => rfl)) pa_nil)) pa_nil))))) (pw_or (pt_not (pt_val (pe_callB call_isi (by rfl) n_isinstance PyProof.Rows.boot_isinstance (pa_cons (pv 6) (pa_cons (pe_bltn (v := .ty "list") (by rfl) n_list PyProof.Rows.boot_list rfl) pa_nil))))) (pw_or1 (pt_cmpR op_ne (pe_callB call_len_seq (by rfl) n_len PySem.boot_len (pa_cons (pv 6) pa_nil)) (pe_callB call_len_seq (by rfl) n_len PySem.boot_len (pa_cons (pv 5) pa_nil)) (nomark _)))))) (pss_one (ps_ret pe_bl)) pss_nil) (pss_cons (ps_if (PW.pt (pw_or (pt_cmpR (op_neD hr.units) (pe_fn c_answers (hr.mono (by decide)) rfl (pa_cons (pv 1) (pa_cons (pv 2) (pa_cons (pv 4) pa_nil)))) (pe_fn c_answers (hr.mono (by decide)) rfl (pa_cons (pv 1) (pa_cons (pv 3) (pa_cons (pv 4) pa_nil)))) (nomark _)) (pw_or1 (pt_cmpR op_ne (pe_cmpR (op_eqD hr.units) (pv 5) (pe_lst pa_nil) (nomark _)) (pe_cmpR op_eq (pv 2) (pv 3) (nomark _)) (nomark _))))) (pss_one (ps_ret pe_bl)) pss_nil) (pss_cons (ps_for PassesOwn.never rfl (pi_range1 rfl n_range (pa_cons (pe_callB call_len_seq (by rfl) n_len PySem.boot_len (pa_cons (pv 5) pa_nil)) pa_nil)) (pg_name (i := 7) nd rfl (Or.inl rfl)) (pss_cons (ps_if (PW.pt (pw_or (pt_cmpR op_ne (pe_fn c_bits (hr.mono (by decide)) rfl (pa_cons (pe_ix ix_tup (pv 1) pe_int (fun _ _ => rfl)) (pa_cons (pe_ix ix_list (pv 5) (pv 7) (fun _ _ => rfl)) (pa_cons pe_int pa_nil)))) pe_int (nomark _)) (pw_or1 (pt_not (pt_val (pe_callB call_isi (by rfl) n_isinstance PyProof.Rows.boot_isinstance (pa_cons (pe_ix ix_list (pv 6) (pv 7) (fun _ _ => rfl)) (pa_cons (pe_bltn (v := .ty "list") (by rfl) n_list PyProof.Rows.boot_list rfl) pa_nil)))))))) (pss_one (ps_ret pe_bl)) pss_nil) (pss_one (ps_if (pt_cmpR op_ne (pe_fn c_sum_at (hr.mono (by decide)) rfl (pa_cons (pv 5) (pa_cons (pe_ix ix_list (pv 6) (pv 7) (fun _ _ => rfl)) pa_nil))) (pe_fn c_bits (hr.mono (by decide)) rfl (pa_cons (pe_ix ix_tup (pv 1) pe_int (fun _ _ => rfl)) (pa_cons (pe_ix ix_list (pv 5) (pv 7) (fun _ _ => rfl)) (pa_cons pe_int pa_nil)))) (nomark _)) (pss_one (ps_ret pe_bl)) pss_nil)))) (pss_one (ps_ret (pe_or (pe_cmpR (op_eqD hr.units) (pv 5) (pe_lst pa_nil) (nomark _)) (pe_one (pe_cmpR op_eq (pe_ix ix_list (pv 5) pe_int (fun _ _ => rfl)) (pe_op op_xor (pv 2) (pv 3)) (nomark _)))))))))), ?_⟩
    have w := Wf.id wf
    refine q_sq fun N1 hN1 => ?_
    refine a_asgG ?_
    refine n_cutT3 r1 (val_var rfl) (po_s (n := 1) val_c) po_n w ?_
    intro p1 F1 H1 s1 r4
    replace r1 := Rep.mono _ s1.g r1
    replace r2 := Rep.mono _ s1.g r2
    replace r3 := Rep.mono _ s1.g r3
    replace w := w.tr s1
    have rr1 := r4
    obtain ⟨p2, u1, u2, hv1, h1, r5, r6⟩ := rr1
    refine ⟨p2, _, hv1, SqT.of (w.f _ _ h1), rfl, _, _, rfl, _, _, rfl, rfl, ?_⟩
    refine hN1 _ _ ?_
    refine q_sq fun N2 hN2 => ?_
    refine a_ifE ?_
    refine e_jnT hW (fun b F' H' => b = b ∧ Wf F0 H0 F' H' ∧ Ex F1 F') ?_ ?_
    · intro N3 hN3 hW
      have gx1 : Ex F1 F1 := Ex.rfl'
      refine e_tOr ?_
      refine e_tNot ?_
      refine e_tB ?_
      refine e_call ?_
      refine a_val (v := u1) (val_var rfl) ?_
      obtain ⟨v4, r7, ix1⟩ := ix_3b (K := K) r2 w.f
      refine a_val (v := (.int ((tables1.2.1.length : Nat) : Int))) (len_L r7 w.f (ix1 (val_var rfl) val_c)) ?_
      refine a_nil ?_
      refine ⟨F1, (u1), (found1.2.1), (tables1.2.1.length), _, rfl, w.f, r5, hW, ?_⟩
      intro z1 hW F2 H2 s2
      replace r1 := Rep.mono _ s2.g r1
      replace r2 := Rep.mono _ s2.g r2
      replace r3 := Rep.mono _ s2.g r3
      replace r5 := Rep.mono _ s2.g r5
      replace r6 := Rep.mono _ s2.g r6
      replace r7 := Rep.mono _ s2.g r7
      replace w := w.tr s2
      replace gx1 := Ex.tr gx1 s2.g
      refine bl_v ?_
      refine bb_ifn (fun hc1 => ?_) (fun hc1 => ?_)
      · have hW := ifP hW hc1
        refine e_ans (b := decide (found1.2.2.length ≠ found1.2.1.length)) (t_iff (p := (¬ (True)) ∨ (found1.2.2.length ≠ found1.2.1.length)) (q := found1.2.2.length ≠ found1.2.1.length) (t_or (t_not (t_ofB (vb_of (v_isi (b := true) (val_var rfl) (ty_L r6 w.f) (by decide +kernel)) dec_T))) (fun _ => (t_of (vb_dec (c_neI (len_L r6 w.f (val_var rfl)) (len_L r5 w.f (val_var rfl))) n_ne)))) (by simp)) ?_
        exact hN3 (decide (found1.2.2.length ≠ found1.2.1.length)) _ _ ⟨rfl, w, gx1⟩ hW
      · have hW := ifN hW hc1
        exact hN3 true _ _ ⟨rfl, w, gx1⟩ hW
    intro b1 F3 H3 hI1 hW
    obtain ⟨_, w, gx2⟩ := hI1
    have r1 := Rep.mono _ gx2 r1
    have r2 := Rep.mono _ gx2 r2
    have r3 := Rep.mono _ gx2 r3
    have r5 := Rep.mono _ gx2 r5
    have r6 := Rep.mono _ gx2 r6
    refine bb_if (fun hc2 => ?_) (fun hc2 => ?_)
    · have hW := ifP hW hc2
      refine a_ret (v := (.bl (false))) val_c ?_
      exact hQ _ hW _ _ w
    · have hW := ifN hW hc2
      refine hN2 _ _ ?_
      refine q_sq fun N4 hN4 => ?_
      refine a_ifE ?_
      refine e_jnT hW (fun b F' H' => b = b ∧ Wf F0 H0 F' H' ∧ Ex F3 F') ?_ ?_
      · intro N5 hN5 hW
        have gx3 : Ex F3 F3 := Ex.rfl'
        refine e_tOr ?_
        refine e_tT ?_
        refine e_op ?_
        refine e_call ?_
        refine a_val (v := v2) (val_var rfl) ?_
        refine a_val (v := (.int ((one1 : Nat) : Int))) (val_var rfl) ?_
        refine a_val (v := v3) (val_var rfl) ?_
        refine a_nil ?_
        refine ⟨F3, (v2), (tables1), (one1), (v3), (rows_here1), _, rfl, w.f, r2, r3, hW, ?_⟩
        intro z2 hW p3 F4 H4 s3 x1
        replace x1 := x1.base w
        replace r1 := Rep.mono _ s3.g r1
        replace r2 := Rep.mono _ s3.g r2
        replace r3 := Rep.mono _ s3.g r3
        replace r5 := Rep.mono _ s3.g r5
        replace r6 := Rep.mono _ s3.g r6
        replace w := w.tr s3
        replace gx3 := Ex.tr gx3 s3.g
        refine e_call ?_
        refine a_val (v := v2) (val_var rfl) ?_
        refine a_val (v := (.int ((other1 : Nat) : Int))) (val_var rfl) ?_
        refine a_val (v := v3) (val_var rfl) ?_
        refine a_nil ?_
        refine ⟨F4, (v2), (tables1), (other1), (v3), (rows_here1), _, rfl, w.f, r2, r3, hW, ?_⟩
        intro z3 hW p4 F5 H5 s4 x2
        have ne1 := x1.ne x2.zero
        replace x2 := x2.base w
        replace r1 := Rep.mono _ s4.g r1
        replace r2 := Rep.mono _ s4.g r2
        replace r3 := Rep.mono _ s4.g r3
        replace r5 := Rep.mono _ s4.g r5
        replace r6 := Rep.mono _ s4.g r6
        replace x1 := x1.step s4
        replace w := w.tr s4
        replace gx3 := Ex.tr gx3 s4.g
        obtain ⟨F6, w1, g1, r8, fz1⟩ := x1.frzE w
        replace r1 := Rep.mono _ g1 r1
        replace r2 := Rep.mono _ g1 r2
        replace r3 := Rep.mono _ g1 r3
        replace r5 := Rep.mono _ g1 r5
        replace r6 := Rep.mono _ g1 r6
        replace x2 := x2.frzO fz1 (Ne.symm ne1) g1
        replace w := w1
        replace gx3 := Ex.tr gx3 g1
        obtain ⟨F7, w2, g2, r9, fz2⟩ := x2.frzE w
        replace r1 := Rep.mono _ g2 r1
        replace r2 := Rep.mono _ g2 r2
        replace r3 := Rep.mono _ g2 r3
        replace r5 := Rep.mono _ g2 r5
        replace r6 := Rep.mono _ g2 r6
        replace r8 := Rep.mono _ g2 r8
        replace w := w2
        replace gx3 := Ex.tr gx3 g2
        refine rv2T (b := decide (z2 ≠ z3)) (c_neD (K := K) (e := (pL pN)) val_c val_c w.f r8 w.f r9) ?_
        refine b_if (fun hc3 => ?_) (fun hc3 => ?_)
        · have hW := ifP hW hc3
          exact hN5 true _ _ ⟨rfl, w, gx3⟩ hW
        · have hW := ifN hW hc3
          refine e_tT ?_
          refine e_op ?_
          refine e_op ?_
          refine e_val (v := u1) (val_var rfl) ?_
          refine e_lst ?_
          refine a_nil ?_
          refine n_lstX (e := pN) (xs := []) (vs := []) (show All pN _ [] [] from trivial) (show 0 < 1000000 from by decide) w ?_
          intro p5 H6 hp1 s5 x3
          replace r1 := Rep.mono _ s5.g r1
          replace r2 := Rep.mono _ s5.g r2
          replace r3 := Rep.mono _ s5.g r3
          replace r5 := Rep.mono _ s5.g r5
          replace r6 := Rep.mono _ s5.g r6
          replace r8 := Rep.mono _ s5.g r8
          replace r9 := Rep.mono _ s5.g r9
          replace w := w.tr s5
          replace gx3 := Ex.tr gx3 s5.g
          obtain ⟨F8, w3, g3, r10, fz3⟩ := x3.frzE w
          replace r1 := Rep.mono _ g3 r1
          replace r2 := Rep.mono _ g3 r2
          replace r3 := Rep.mono _ g3 r3
          replace r5 := Rep.mono _ g3 r5
          replace r6 := Rep.mono _ g3 r6
          replace r8 := Rep.mono _ g3 r8
          replace r9 := Rep.mono _ g3 r9
          replace w := w3
          replace gx3 := Ex.tr gx3 g3
          refine rv2 (z := .bl (decide (found1.2.1 = ([] : List Nat)))) (c_eqD (K := K) (e := (pL pN)) val_c val_c w.f r5 w.f r10) ?_
          refine e_val (v := (.bl (decide (one1 = other1)))) (vb_dec (c_eqI (val_var rfl) (val_var rfl)) n_eq) ?_
          refine rv2T (b := decide ((decide (found1.2.1 = ([] : List Nat))) ≠ (decide (one1 = other1)))) (c_neB val_c val_c) ?_
          exact hN5 (decide ((decide (found1.2.1 = ([] : List Nat))) ≠ (decide (one1 = other1)))) _ _ ⟨rfl, w, gx3⟩ hW
      intro b2 F9 H7 hI2 hW
      obtain ⟨_, w, gx4⟩ := hI2
      have r1 := Rep.mono _ gx4 r1
      have r2 := Rep.mono _ gx4 r2
      have r3 := Rep.mono _ gx4 r3
      have r5 := Rep.mono _ gx4 r5
      have r6 := Rep.mono _ gx4 r6
      refine bb_if (fun hc4 => ?_) (fun hc4 => ?_)
      · have hW := ifP hW hc4
        refine a_ret (v := (.bl (false))) val_c ?_
        exact hQ _ hW _ _ w
      · have hW := ifN hW hc4
        refine hN4 _ _ ?_
        refine q_sq fun N6 hN6 => ?_
        refine f_RE ?_
        refine e_val (v := (.int ((found1.2.1.length : Nat) : Int))) (len_L r5 w.f (val_var rfl)) ?_
        obtain ⟨c1, hW⟩ := hW
        refine w_forR (S := Unit) (fun _ σ' F' H' => ∃ (o1 : Option V), Wf F0 H0 F' H' ∧ Ex F9 F' ∧ σ' = [some v1, some v2, some (.int ((one1 : Nat) : Int)), some (.int ((other1 : Nat) : Int)), some v3, some u1, some u2, o1]) c1 hW ⟨_, w, Ex.rfl', rfl⟩ ?_ ?_
        · intro N7 Bk1 k1 s6 σ' F10 H8 nx1 bk1 hI3 hx1 hW hN7 hB1
          obtain ⟨o1, w, gx5, rfl⟩ := hI3
          have r1 := Rep.mono _ gx5 r1
          have r2 := Rep.mono _ gx5 r2
          have r3 := Rep.mono _ gx5 r3
          have r5 := Rep.mono _ gx5 r5
          have r6 := Rep.mono _ gx5 r6
          refine g_name ?_
          refine q_sq fun N8 hN8 => ?_
          refine a_ifE ?_
          refine e_jnT hW (fun b F' H' => b = b ∧ Wf F0 H0 F' H' ∧ Ex F10 F') ?_ ?_
          · intro N9 hN9 hW
            have gx6 : Ex F10 F10 := Ex.rfl'
            refine e_tOr ?_
            refine e_tT ?_
            refine e_op ?_
            refine e_call ?_
            obtain ⟨v5, r11, ix2⟩ := ix_3c (K := K) r2 w.f
            refine a_val (v := v5) (ix2 (val_var rfl) val_c) ?_
            obtain ⟨x4, hx4_1, hW⟩ := hW
            obtain ⟨_, rfl, ix3⟩ := ix_L (K := K) r5 w.f hx4_1
            refine a_val (v := (.int ((x4 : Nat) : Int))) (ix3 (val_var rfl) (val_var rfl)) ?_
            refine a_val (v := (.int ((0 : Nat) : Int))) val_c ?_
            refine a_nil ?_
            refine ⟨F10, (v5), (tables1.2.2), (x4), (0), _, rfl, w.f, r11, hW, ?_⟩
            intro z4 hW F11 H9 s7
            replace r1 := Rep.mono _ s7.g r1
            replace r2 := Rep.mono _ s7.g r2
            replace r3 := Rep.mono _ s7.g r3
            replace r5 := Rep.mono _ s7.g r5
            replace r6 := Rep.mono _ s7.g r6
            replace r11 := Rep.mono _ s7.g r11
            replace w := w.tr s7
            replace gx6 := Ex.tr gx6 s7.g
            replace gx5 := Ex.tr gx5 s7.g
            refine e_val (v := (.int ((0 : Nat) : Int))) val_c ?_
            refine rv2T (b := decide (z4 ≠ 0)) (vb_dec (c_neI val_c val_c) n_ne) ?_
            refine b_if (fun hc5 => ?_) (fun hc5 => ?_)
            · have hW := ifP hW hc5
              exact hN9 true _ _ ⟨rfl, w, gx6⟩ hW
            · have hW := ifN hW hc5
              obtain ⟨x5, hx5_1, hW⟩ := hW
              obtain ⟨v6, r12, ix4⟩ := ix_L (K := K) r6 w.f hx5_1
              refine e_ans (b := false) (t_dec (t_iff (p := ¬ (True)) (q := False) (t_not (t_ofB (vb_of (v_isi (b := true) (ix4 (val_var rfl) (val_var rfl)) (ty_L r12 w.f) (by decide +kernel)) dec_T))) (by simp)) dec_F.symm) ?_
              exact hN9 false _ _ ⟨rfl, w, gx6⟩ hW
          intro b3 F12 H10 hI4 hW
          obtain ⟨_, w, gx7⟩ := hI4
          have r1 := Rep.mono _ gx7 r1
          have r2 := Rep.mono _ gx7 r2
          have r3 := Rep.mono _ gx7 r3
          have r5 := Rep.mono _ gx7 r5
          have r6 := Rep.mono _ gx7 r6
          have gx5 := Ex.tr gx5 gx7
          refine bb_if (fun hc6 => ?_) (fun hc6 => ?_)
          · have hW := ifP hW hc6
            refine a_ret (v := (.bl (false))) val_c ?_
            exact hQ _ hW _ _ w
          · have hW := ifN hW hc6
            refine hN8 _ _ ?_
            refine a_ifE ?_
            refine e_tT ?_
            refine e_op ?_
            refine e_call ?_
            refine a_val (v := u1) (val_var rfl) ?_
            obtain ⟨x6, hx6_1, hW⟩ := hW
            obtain ⟨v7, r13, ix5⟩ := ix_L (K := K) r6 w.f hx6_1
            refine a_val (v := v7) (ix5 (val_var rfl) (val_var rfl)) ?_
            refine a_nil ?_
            refine ⟨F12, (u1), (found1.2.1), (v7), (x6), _, rfl, w.f, r5, r13, hW, ?_⟩
            intro z5 hW F13 H11 s8
            replace r1 := Rep.mono _ s8.g r1
            replace r2 := Rep.mono _ s8.g r2
            replace r3 := Rep.mono _ s8.g r3
            replace r5 := Rep.mono _ s8.g r5
            replace r6 := Rep.mono _ s8.g r6
            replace r13 := Rep.mono _ s8.g r13
            replace w := w.tr s8
            replace gx5 := Ex.tr gx5 s8.g
            refine e_call ?_
            obtain ⟨v8, r14, ix6⟩ := ix_3b (K := K) r2 w.f
            refine a_val (v := v8) (ix6 (val_var rfl) val_c) ?_
            obtain ⟨x7, hx7_1, hW⟩ := hW
            obtain ⟨_, rfl, ix7⟩ := ix_L (K := K) r5 w.f hx7_1
            refine a_val (v := (.int ((x7 : Nat) : Int))) (ix7 (val_var rfl) (val_var rfl)) ?_
            refine a_val (v := (.int ((0 : Nat) : Int))) val_c ?_
            refine a_nil ?_
            refine ⟨F13, (v8), (tables1.2.1), (x7), (0), _, rfl, w.f, r14, hW, ?_⟩
            intro z6 hW F14 H12 s9
            replace r1 := Rep.mono _ s9.g r1
            replace r2 := Rep.mono _ s9.g r2
            replace r3 := Rep.mono _ s9.g r3
            replace r5 := Rep.mono _ s9.g r5
            replace r6 := Rep.mono _ s9.g r6
            replace r13 := Rep.mono _ s9.g r13
            replace r14 := Rep.mono _ s9.g r14
            replace w := w.tr s9
            replace gx5 := Ex.tr gx5 s9.g
            refine rv2T (b := decide (z5 ≠ ((z6 : Nat) : Int))) (c_neI val_c val_c) ?_
            refine b_if (fun hc7 => ?_) (fun hc7 => ?_)
            · have hW := ifP hW hc7
              refine a_ret (v := (.bl (false))) val_c ?_
              exact hQ _ hW _ _ w
            · have hW := ifN hW hc7
              exact hN7 () _ _ _ ⟨_, w, gx5, rfl⟩ hW
        · intro s10 σ' F15 H13 hI5 hW
          obtain ⟨o1, w, gx8, rfl⟩ := hI5
          have r1 := Rep.mono _ gx8 r1
          have r2 := Rep.mono _ gx8 r2
          have r3 := Rep.mono _ gx8 r3
          have r5 := Rep.mono _ gx8 r5
          have r6 := Rep.mono _ gx8 r6
          refine hN6 _ _ ?_
          refine a_retE ?_
          refine e_jnV hW (fun b F' H' => b = b ∧ Wf F0 H0 F' H' ∧ Ex F15 F') ?_ ?_
          · intro N10 hN10 hW
            have gx9 : Ex F15 F15 := Ex.rfl'
            refine e_OrV ?_
            refine e_op ?_
            refine e_val (v := u1) (val_var rfl) ?_
            refine e_lst ?_
            refine a_nil ?_
            refine n_lstX (e := pN) (xs := []) (vs := []) (show All pN _ [] [] from trivial) (show 0 < 1000000 from by decide) w ?_
            intro p6 H14 hp2 s11 x8
            replace r1 := Rep.mono _ s11.g r1
            replace r2 := Rep.mono _ s11.g r2
            replace r3 := Rep.mono _ s11.g r3
            replace r5 := Rep.mono _ s11.g r5
            replace r6 := Rep.mono _ s11.g r6
            replace w := w.tr s11
            replace gx9 := Ex.tr gx9 s11.g
            replace gx8 := Ex.tr gx8 s11.g
            obtain ⟨F16, w4, g4, r15, fz4⟩ := x8.frzE w
            replace r1 := Rep.mono _ g4 r1
            replace r2 := Rep.mono _ g4 r2
            replace r3 := Rep.mono _ g4 r3
            replace r5 := Rep.mono _ g4 r5
            replace r6 := Rep.mono _ g4 r6
            replace w := w4
            replace gx9 := Ex.tr gx9 g4
            replace gx8 := Ex.tr gx8 g4
            refine rv2 (z := .bl (decide (found1.2.1 = ([] : List Nat)))) (c_eqD (K := K) (e := (pL pN)) val_c val_c w.f r5 w.f r15) ?_
            refine bl_if ?_
            refine b_if (fun hc8 => ?_) (fun hc8 => ?_)
            · have hW := ifP hW hc8
              exact hN10 true _ _ ⟨rfl, w, gx9⟩ hW
            · have hW := ifN hW hc8
              obtain ⟨x9, hx9_1, hW⟩ := hW
              obtain ⟨_, rfl, ix8⟩ := ix_L (K := K) r5 w.f hx9_1
              refine e_val (v := .bl (decide (x9 = (one1 ^^^ other1)))) (vb_dec (c_eqI (ix8 (val_var rfl) val_c) (vn_xor (val_var rfl) (val_var rfl))) n_eq) ?_
              exact hN10 (decide (x9 = (one1 ^^^ other1))) _ _ ⟨rfl, w, gx9⟩ hW
          intro b4 F17 H15 hI6 hW
          obtain ⟨_, w, gx10⟩ := hI6
          have r1 := Rep.mono _ gx10 r1
          have r2 := Rep.mono _ gx10 r2
          have r3 := Rep.mono _ gx10 r3
          have r5 := Rep.mono _ gx10 r5
          have r6 := Rep.mono _ gx10 r6
          have gx8 := Ex.tr gx8 gx10
          exact hQ _ hW _ _ w
abbrev s_right : Stmt := topS 42
def W_right (found1 : Sum (Str × Nat × Nat) (Str × List Nat × List (List Nat))) (tables1 : Nat × List (Nat × Nat) × List (Nat × Nat)) (one1 : Nat) (other1 : Nat) (rows_here1 : List Nat) (R : Bool → Prop) : Prop := jn (fun kk => if (Sum.elim (fun _ => 3) (fun _ => 3) found1 : Nat) ≠ 3 then (kk true) else (kk (decide (¬ (Sum.elim (fun z => z.1) (fun z => z.1) found1) ∈ [(PySem.Str.ofString "apart"), (PySem.Str.ofString "alike")])))) fun b1 => if b1 = true then (R false) else (if (Sum.elim (fun z => z.1) (fun z => z.1) found1) = (PySem.Str.ofString "apart") then (jn (fun kk => ∃ y1, found1 = Sum.inl y1 ∧ W_apart y1 tables1 one1 other1 rows_here1 fun z1 => if z1 = true then (([0].length * 20 < 1000000 ∧ 20 < 1000000) ∧ ∃ y2, found1 = Sum.inl y2 ∧ W_apart y2 tables1 other1 one1 ((List.replicate 20 [0]).flatten) fun z2 => kk z2) else (kk false)) fun b2 => R b2) else (∃ y3, found1 = Sum.inr y3 ∧ W_alike y3 tables1 one1 other1 rows_here1 fun z3 => R z3))
def sp_right (K : PySem.W.Frag) (cc : Cz) : Sp := fun vs H Q _ => ∃ (F : Hp) (v1 : V) (found1 : Sum (Str × Nat × Nat) (Str × List Nat × List (List Nat))) (v2 : V) (tables1 : Nat × List (Nat × Nat) × List (Nat × Nat)) (one1 : Nat) (other1 : Nat) (v3 : V) (rows_here1 : List Nat) (R : Bool → Prop), vs = [v1, v2, (.int ((one1 : Nat) : Int)), (.int ((other1 : Nat) : Int)), v3] ∧ Ex F H ∧ (pAlt (pT3 pS pN pN) (pT3 pS (pL pN) (pL (pL pN)))).r F v1 found1 ∧ (pT3 pN (pL (pT2 pN pN)) (pL (pT2 pN pN))).r F v2 tables1 ∧ (pL pN).r F v3 rows_here1 ∧ W_right found1 tables1 one1 other1 rows_here1 R ∧ ∀ z, R z → ∀ F' H', Wf F H F' H' → Q (.bl (z)) H'
abbrev N_right : List Str := ["_law_found", "_law_tables", "_law_one", "_law_other", "_law_rows_here"]
theorem sc_right : FnScope N_right ["_law_found", "_law_tables", "_law_one", "_law_other", "_law_rows_here"] (defScope s_right) := ⟨rfl, rfl, rfl, by decide +kernel, rfl, by decide +kernel, by decide +kernel⟩
theorem ok_right {P : Program} {w0 : World} {K : PySem.W.Frag} {mg : Str → Option Value} {base : Heap} {f : Addr} {fd : FuncData} {cc : Cz} (T : Tz K mg cc) (FU : Fun K "_law_right" "_law_right" s_right f fd) (hm : mg "_law_right" = some (.ref f)) (hb : Binds K fd ["_law_found", "_law_tables", "_law_one", "_law_other", "_law_rows_here"] []) (c_apart : Fn P w0 K mg base CX0 4 "_law_apart" ["_law_found", "_law_tables", "_law_one", "_law_other", "_law_rows_here"] (sp_apart K cc)) (c_alike : Fn P w0 K mg base CX0 4 "_law_alike" ["_law_found", "_law_tables", "_law_one", "_law_other", "_law_rows_here"] (sp_alike K cc)) (n_isinstance : mg "isinstance" = none) (n_len : mg "len" = none) (n_tuple : mg "tuple" = none) : Fn P w0 K mg base CX0 5 "_law_right" ["_law_found", "_law_tables", "_law_one", "_law_other", "_law_rows_here"] (sp_right K cc) := by
  refine ⟨f, fd, FU.ok sc_right (fun vs H Q E h => ?_) (fun cdv A outer s H0 vs Q E hr h => ?_), hm, FU.kp, hb⟩
  · obtain ⟨_, _, _, _, _, _, _, _, _, _, rfl, _⟩ := h; rfl
  · obtain ⟨F0, v1, found1, v2, tables1, one1, other1, v3, rows_here1, R, rfl, wf, r1, r2, r3, hW, hQ⟩ := h
    have nd := sc_right.nd
    refine ⟨(tSeq (tIfS (tOr (tNot (tB (tCB (rIsi K) (tCons (tVar 0) (tCons (tC (.ty "tuple")) tNil))))) (tOr (tTest (tOp L2.rNe (tCB (Wk.rLen K) (tCons (tVar 0) tNil)) (tC (.int 3)))) (tTest (tOp (rIn K true) (tOp (L2.rIxT K) (tVar 0) (tC (.int 0))) (tLst (tCons (tC (.str (PySem.Str.ofString "apart"))) (tCons (tC (.str (PySem.Str.ofString "alike"))) tNil))))))) (tRet (tC (.bl false))) tNext) (tSeq (tIfS (tTest (tOp L2.rEq (tOp (L2.rIxT K) (tVar 0) (tC (.int 0))) (tC (.str (PySem.Str.ofString "apart"))))) (tRet (tAndV (tCall (sp_apart K cc) [] E0 (tCons (tVar 0) (tCons (tVar 1) (tCons (tVar 2) (tCons (tVar 3) (tCons (tVar 4) tNil)))))) (tCall (sp_apart K cc) [] E0 (tCons (tVar 0) (tCons (tVar 1) (tCons (tVar 3) (tCons (tVar 2) (tCons (tOp L2.rRep (tLst (tCons (tC (.int 0)) tNil)) (tC (.int 20))) tNil)))))))) tNext) (tRet (tCall (sp_alike K cc) [] E0 (tCons (tVar 0) (tCons (tVar 1) (tCons (tVar 2) (tCons (tVar 3) (tCons (tVar 4) tNil))))))))), (pss_cons (ps_if (PW.pt (pw_or (pt_not (pt_val (pe_callB call_isi (by rfl) n_isinstance PyProof.Rows.boot_isinstance (pa_cons (pv 0) (pa_cons (pe_bltn (v := .ty "tuple") (by rfl) n_tuple PyProof.Rows.boot_tuple rfl) pa_nil))))) (pw_or (pt_cmpR op_ne (pe_callB call_len_seq (by rfl) n_len PySem.boot_len (pa_cons (pv 0) pa_nil)) pe_int (nomark _)) (pw_or1 (pt_cmpR op_notIn_seq (pe_ix ix_tup (pv 0) pe_int (fun _ _ => rfl)) (pe_lst (pa_cons pe_str (pa_cons pe_str pa_nil))) rfl))))) (pss_one (ps_ret pe_bl)) pss_nil) (pss_cons (ps_if (pt_cmpR op_eq (pe_ix ix_tup (pv 0) pe_int (fun _ _ => rfl)) pe_str (nomark _)) (pss_one (ps_ret (pe_and (pe_fn c_apart (hr.mono (by decide)) rfl (pa_cons (pv 0) (pa_cons (pv 1) (pa_cons (pv 2) (pa_cons (pv 3) (pa_cons (pv 4) pa_nil)))))) (pe_one (pe_fn c_apart (hr.mono (by decide)) rfl (pa_cons (pv 0) (pa_cons (pv 1) (pa_cons (pv 3) (pa_cons (pv 2) (pa_cons (pe_op op_rep (pe_lst (pa_cons pe_int pa_nil)) pe_int) pa_nil)))))))))) pss_nil) (pss_one (ps_ret (pe_fn c_alike (hr.mono (by decide)) rfl (pa_cons (pv 0) (pa_cons (pv 1) (pa_cons (pv 2) (pa_cons (pv 3) (pa_cons (pv 4) pa_nil)))))))))), ?_⟩
    have w := Wf.id wf
    refine q_sq fun N1 hN1 => ?_
    refine a_ifE ?_
    refine e_jnT hW (fun b F' H' => b = b ∧ Wf F0 H0 F' H' ∧ Ex F0 F') ?_ ?_
    · intro N2 hN2 hW
      have gx1 : Ex F0 F0 := Ex.rfl'
      refine e_tOr ?_
      refine e_ans (b := false) (t_dec (t_iff (p := ¬ (True)) (q := False) (t_not (t_ofB (vb_of (v_isi (b := true) (val_var rfl) (ty_alt r1 (fun _ ra => (ty_T3 ra w.f)) (fun _ rb => (ty_T3 rb w.f))) (by decide +kernel)) dec_T))) (by simp)) dec_F.symm) ?_
      refine if_f ?_
      refine e_tOr ?_
      refine e_ans (b := decide ((Sum.elim (fun _ => 3) (fun _ => 3) found1 : Nat) ≠ 3)) (t_of (vb_dec (c_neI (len_alt r1 (fun _ ra => (len_T3 ra w.f (val_var rfl))) (fun _ rb => (len_T3 rb w.f (val_var rfl)))) val_c) n_ne)) ?_
      refine b_if (fun hc1 => ?_) (fun hc1 => ?_)
      · have hW := ifP hW hc1
        exact hN2 true _ _ ⟨rfl, w, gx1⟩ hW
      · have hW := ifN hW hc1
        refine e_tT ?_
        refine e_op ?_
        obtain ⟨_, rfl, ix1⟩ := ix_alt (K := K) (pa := fun z => z.1) (pb := fun z => z.1) r1 (fun _ q => ix_3a q w.f) (fun _ q => ix_3a q w.f)
        refine e_val (v := (.str ((Sum.elim (fun z => z.1) (fun z => z.1) found1)))) (ix1 (val_var rfl) val_c) ?_
        refine e_lst ?_
        refine a_val (v := (.str ((PySem.Str.ofString "apart")))) val_c ?_
        refine a_val (v := (.str ((PySem.Str.ofString "alike")))) val_c ?_
        refine a_nil ?_
        refine n_lstX (e := pS) (xs := [(PySem.Str.ofString "apart"), (PySem.Str.ofString "alike")]) (vs := [(.str ((PySem.Str.ofString "apart"))), (.str ((PySem.Str.ofString "alike")))]) (show All pS _ [(.str ((PySem.Str.ofString "apart"))), (.str ((PySem.Str.ofString "alike")))] [(PySem.Str.ofString "apart"), (PySem.Str.ofString "alike")] from ⟨rfl, ⟨rfl, trivial⟩⟩) (show 2 < 1000000 from by decide) w ?_
        intro p1 H1 hp1 s1 x1
        replace r1 := Rep.mono _ s1.g r1
        replace r2 := Rep.mono _ s1.g r2
        replace r3 := Rep.mono _ s1.g r3
        replace w := w.tr s1
        replace gx1 := Ex.tr gx1 s1.g
        obtain ⟨F1, w1, g1, r4, fz1⟩ := x1.frzE w
        replace r1 := Rep.mono _ g1 r1
        replace r2 := Rep.mono _ g1 r2
        replace r3 := Rep.mono _ g1 r3
        replace w := w1
        replace gx1 := Ex.tr gx1 g1
        refine rv2T (b := decide (¬ (Sum.elim (fun z => z.1) (fun z => z.1) found1) ∈ [(PySem.Str.ofString "apart"), (PySem.Str.ofString "alike")])) (v_notInLS (K := K) val_c val_c r4 w.f) ?_
        exact hN2 (decide (¬ (Sum.elim (fun z => z.1) (fun z => z.1) found1) ∈ [(PySem.Str.ofString "apart"), (PySem.Str.ofString "alike")])) _ _ ⟨rfl, w, gx1⟩ hW
    intro b1 F2 H2 hI1 hW
    obtain ⟨_, w, gx2⟩ := hI1
    have r1 := Rep.mono _ gx2 r1
    have r2 := Rep.mono _ gx2 r2
    have r3 := Rep.mono _ gx2 r3
    refine bb_if (fun hc2 => ?_) (fun hc2 => ?_)
    · have hW := ifP hW hc2
      refine a_ret (v := (.bl (false))) val_c ?_
      exact hQ _ hW _ _ w
    · have hW := ifN hW hc2
      refine hN1 _ _ ?_
      refine q_sq fun N3 hN3 => ?_
      refine a_ifE ?_
      obtain ⟨_, rfl, ix2⟩ := ix_alt (K := K) (pa := fun z => z.1) (pb := fun z => z.1) r1 (fun _ q => ix_3a q w.f) (fun _ q => ix_3a q w.f)
      refine e_ans (b := decide ((Sum.elim (fun z => z.1) (fun z => z.1) found1) = (PySem.Str.ofString "apart"))) (t_of (c_eqS (ix2 (val_var rfl) val_c) val_c)) ?_
      refine b_if (fun hc3 => ?_) (fun hc3 => ?_)
      · have hW := ifP hW hc3
        refine a_retE ?_
        refine e_jnV hW (fun b F' H' => b = b ∧ Wf F0 H0 F' H' ∧ Ex F2 F') ?_ ?_
        · intro N4 hN4 hW
          have gx3 : Ex F2 F2 := Ex.rfl'
          refine e_AndV ?_
          refine e_call ?_
          refine a_val (v := v1) (val_var rfl) ?_
          refine a_val (v := v2) (val_var rfl) ?_
          refine a_val (v := (.int ((one1 : Nat) : Int))) (val_var rfl) ?_
          refine a_val (v := (.int ((other1 : Nat) : Int))) (val_var rfl) ?_
          refine a_val (v := v3) (val_var rfl) ?_
          refine a_nil ?_
          obtain ⟨y1, hy1, hW⟩ := hW
          have r5 := alt_l r1 hy1
          refine ⟨F2, (v1), (y1), (v2), (tables1), (one1), (other1), (v3), (rows_here1), _, rfl, w.f, r5, r2, r3, hW, ?_⟩
          intro z1 hW F3 H3 s2
          replace r1 := Rep.mono _ s2.g r1
          replace r2 := Rep.mono _ s2.g r2
          replace r3 := Rep.mono _ s2.g r3
          replace r5 := Rep.mono _ s2.g r5
          replace w := w.tr s2
          replace gx3 := Ex.tr gx3 s2.g
          refine bl_if ?_
          refine bb_if (fun hc4 => ?_) (fun hc4 => ?_)
          · have hW := ifP hW hc4
            refine e_call ?_
            refine a_val (v := v1) (val_var rfl) ?_
            refine a_val (v := v2) (val_var rfl) ?_
            refine a_val (v := (.int ((other1 : Nat) : Int))) (val_var rfl) ?_
            refine a_val (v := (.int ((one1 : Nat) : Int))) (val_var rfl) ?_
            refine a_cons ?_
            refine e_op ?_
            refine e_lst ?_
            refine a_val (v := (.int ((0 : Nat) : Int))) val_c ?_
            refine a_nil ?_
            refine n_lstX (e := pN) (xs := [0]) (vs := [(.int ((0 : Nat) : Int))]) (show All pN _ [(.int ((0 : Nat) : Int))] [0] from ⟨rfl, trivial⟩) (show 1 < 1000000 from by decide) w ?_
            intro p2 H4 hp2 s3 x2
            replace r1 := Rep.mono _ s3.g r1
            replace r2 := Rep.mono _ s3.g r2
            replace r3 := Rep.mono _ s3.g r3
            replace r5 := Rep.mono _ s3.g r5
            replace w := w.tr s3
            replace gx3 := Ex.tr gx3 s3.g
            refine e_val (v := (.int ((20 : Nat) : Int))) val_c ?_
            obtain ⟨F4, w2, g2, r6, fz2⟩ := x2.frzE w
            replace r1 := Rep.mono _ g2 r1
            replace r2 := Rep.mono _ g2 r2
            replace r3 := Rep.mono _ g2 r3
            replace r5 := Rep.mono _ g2 r5
            replace w := w2
            replace gx3 := Ex.tr gx3 g2
            obtain ⟨c1, hW⟩ := hW
            refine n_rep (n := 20) r6 w c1.1 c1.2 ?_
            intro p3 H5 hp3 s4 x3
            replace r1 := Rep.mono _ s4.g r1
            replace r2 := Rep.mono _ s4.g r2
            replace r3 := Rep.mono _ s4.g r3
            replace r5 := Rep.mono _ s4.g r5
            replace r6 := Rep.mono _ s4.g r6
            replace w := w.tr s4
            replace gx3 := Ex.tr gx3 s4.g
            refine a_nil ?_
            obtain ⟨y2, hy2, hW⟩ := hW
            have r7 := alt_l r1 hy2
            obtain ⟨Fl1, lf1, lg1, lr1⟩ := x3.lend w
            refine ⟨Fl1, (v1), (y2), (v2), (tables1), (other1), (one1), ((.ref p3)), ((List.replicate 20 [0]).flatten), _, rfl, lf1, (Rep.mono _ lg1 r7), (Rep.mono _ lg1 r2), lr1, hW, ?_⟩
            intro z2 hW F5 H6 s5
            replace s5 := Wf.grow w.f s5.h
            replace r1 := Rep.mono _ s5.g r1
            replace r2 := Rep.mono _ s5.g r2
            replace r3 := Rep.mono _ s5.g r3
            replace r5 := Rep.mono _ s5.g r5
            replace r6 := Rep.mono _ s5.g r6
            replace x3 := x3.step s5
            replace r7 := Rep.mono _ s5.g r7
            replace w := w.tr s5
            replace gx3 := Ex.tr gx3 s5.g
            exact hN4 z2 _ _ ⟨rfl, w, gx3⟩ hW
          · have hW := ifN hW hc4
            exact hN4 false _ _ ⟨rfl, w, gx3⟩ hW
        intro b2 F6 H7 hI2 hW
        obtain ⟨_, w, gx4⟩ := hI2
        have r1 := Rep.mono _ gx4 r1
        have r2 := Rep.mono _ gx4 r2
        have r3 := Rep.mono _ gx4 r3
        exact hQ _ hW _ _ w
      · have hW := ifN hW hc3
        refine hN3 _ _ ?_
        refine a_retE ?_
        refine e_call ?_
        refine a_val (v := v1) (val_var rfl) ?_
        refine a_val (v := v2) (val_var rfl) ?_
        refine a_val (v := (.int ((one1 : Nat) : Int))) (val_var rfl) ?_
        refine a_val (v := (.int ((other1 : Nat) : Int))) (val_var rfl) ?_
        refine a_val (v := v3) (val_var rfl) ?_
        refine a_nil ?_
        obtain ⟨y3, hy3, hW⟩ := hW
        have r8 := alt_r r1 hy3
        refine ⟨F2, (v1), (y3), (v2), (tables1), (one1), (other1), (v3), (rows_here1), _, rfl, w.f, r8, r2, r3, hW, ?_⟩
        intro z3 hW F7 H8 s6
        replace r1 := Rep.mono _ s6.g r1
        replace r2 := Rep.mono _ s6.g r2
        replace r3 := Rep.mono _ s6.g r3
        replace r8 := Rep.mono _ s6.g r8
        replace w := w.tr s6
        exact hQ _ hW _ _ w
abbrev s_refused : Stmt := topS 43
def W_refused (machine_here1 : Nat × List (Nat × Nat) × List (Nat × Nat)) (one1 : An) (other1 : An) (R : Bool → Prop) : Prop := jn (fun kk => W_told_apart_bad machine_here1 one1 other1 (kk true) fun z1 => kk false) fun refused_here1 => R refused_here1
def sp_refused (K : PySem.W.Frag) (cc : Cz) : Sp := fun vs H Q _ => ∃ (F : Hp) (v1 : V) (machine_here1 : Nat × List (Nat × Nat) × List (Nat × Nat)) (v2 : V) (one1 : An) (v3 : V) (other1 : An) (R : Bool → Prop), vs = [v1, v2, v3] ∧ Ex F H ∧ (pO3 cc.Machine "inputs" "nexts" "outs" pN (pTL (pT2 pN pN)) (pTL (pT2 pN pN))).r F v1 machine_here1 ∧ pA.r F v2 one1 ∧ pA.r F v3 other1 ∧ W_refused machine_here1 one1 other1 R ∧ ∀ z, R z → ∀ F' H', Wf F H F' H' → Q (.bl (z)) H'
abbrev N_refused : List Str := ["_law_machine_here", "_law_one", "_law_other", "_law_refused_here"]
theorem sc_refused : FnScope N_refused ["_law_machine_here", "_law_one", "_law_other"] (defScope s_refused) := ⟨rfl, rfl, rfl, by decide +kernel, rfl, by decide +kernel, by decide +kernel⟩
theorem ok_refused {P : Program} {w0 : World} {K : PySem.W.Frag} {mg : Str → Option Value} {base : Heap} {f : Addr} {fd : FuncData} {cc : Cz} (T : Tz K mg cc) (FU : Fun K "_law_refused" "_law_refused" s_refused f fd) (hm : mg "_law_refused" = some (.ref f)) (hb : Binds K fd ["_law_machine_here", "_law_one", "_law_other"] []) (c_told_apart_bad : Fn P w0 K mg base (L2.CX P w0) 4 "told_apart" ["machine", "one", "other"] (sp_told_apart_bad K cc)) : Fn P w0 K mg base CX0 5 "_law_refused" ["_law_machine_here", "_law_one", "_law_other"] (sp_refused K cc) := by
  refine ⟨f, fd, FU.ok sc_refused (fun vs H Q E h => ?_) (fun cdv A outer s H0 vs Q E hr h => ?_), hm, FU.kp, hb⟩
  · obtain ⟨_, _, _, _, _, _, _, _, rfl, _⟩ := h; rfl
  · obtain ⟨F0, v1, machine_here1, v2, one1, v3, other1, R, rfl, wf, r1, r2, r3, hW, hQ⟩ := h
    have nd := sc_refused.nd
    refine ⟨(tSeq (tAsg (tC (.bl false)) (gName 3)) (tSeq (tTry K (.ref cc.BadMask) (fun W1 => (tDrop (tCallS (sp_told_apart_bad K cc) (WE W1) (tCons (tVar 0) (tCons (tVar 1) (tCons (tVar 2) tNil)))))) (fun _ _ _ => (tAsg (tC (.bl true)) (gName 3))) (fun _ _ _ _ => False)) (tRet (tVar 3)))), (pss_cons (ps_set (i := 3) nd rfl (Or.inl rfl) pe_bl) (pss_cons (ps_try_only (tb := fun W1 => (tDrop (tCallS (sp_told_apart_bad K cc) (WE W1) (tCons (tVar 0) (tCons (tVar 1) (tCons (tVar 2) tNil)))))) (ts := fun _ _ _ => (tAsg (tC (.bl true)) (gName 3))) (Wout := (fun _ _ _ _ => False)) rfl rfl ⟨rfl, by decide, Or.inl T.xc_BadMask.g⟩ takes0 (fun W1 pn1 xe1 tk1 po1 => (pss_one (ps_expr (pe_fnS (W := W1) c_told_apart_bad tk1 (hr.mono (by decide)) rfl (pa_cons (pv 0) (pa_cons (pv 1) (pa_cons (pv 2) pa_nil))))))) (fun _ _ _ _ _ _ _ => (pss_one (ps_set (i := 3) nd rfl (Or.inl rfl) pe_bl)))) (pss_one (ps_ret (pv 3))))), ?_⟩
    have w := Wf.id wf
    refine q_sq fun N1 hN1 => ?_
    refine a_asg (v := (.bl (false))) val_c ?_
    refine hN1 _ _ ?_
    refine q_jn (S := Bool) hW (fun refused_here1 σ' F' H' => Wf F0 H0 F' H' ∧ Ex F0 F' ∧ σ' = [some v1, some v2, some v3, some (.bl (refused_here1))]) ?_ ?_
    · intro N2 hN2 hW
      have gx1 : Ex F0 F0 := Ex.rfl'
      refine a_tryI ?_
      refine a_dropE ?_
      refine e_callS ?_
      refine a_val (v := v1) (val_var rfl) ?_
      refine a_val (v := v2) (val_var rfl) ?_
      refine a_val (v := v3) (val_var rfl) ?_
      refine a_nil ?_
      refine ⟨F0, (v1), (machine_here1), (v2), (one1), (v3), (other1), _, _, rfl, w.f, r1, r2, r3, hW, ?_, ?_⟩
      · intro hW F1 H1 s1
        replace r1 := Rep.mono _ s1.g r1
        replace r2 := Rep.mono _ s1.g r2
        replace r3 := Rep.mono _ s1.g r3
        replace w := w.tr s1
        replace gx1 := Ex.tr gx1 s1.g
        refine a_exc T.xm_BadMask_BadMask (fun a1 ha1 => ?_)
        refine a_asg (v := (.bl (true))) val_c ?_
        exact hN2 true _ _ _ ⟨w, gx1, rfl⟩ hW
      intro z1 hW v4 F2 H2 s2 r4
      replace r1 := Rep.mono _ s2.g r1
      replace r2 := Rep.mono _ s2.g r2
      replace r3 := Rep.mono _ s2.g r3
      replace w := w.tr s2
      replace gx1 := Ex.tr gx1 s2.g
      exact hN2 false _ _ _ ⟨w, gx1, rfl⟩ hW
    · intro refused_here1 σ' F3 H3 hI1 hW
      obtain ⟨w, gx2, rfl⟩ := hI1
      have r1 := Rep.mono _ gx2 r1
      have r2 := Rep.mono _ gx2 r2
      have r3 := Rep.mono _ gx2 r3
      refine a_ret (v := (.bl (refused_here1))) (val_var rfl) ?_
      exact hQ _ hW _ _ w
abbrev s_law : Stmt := topS 44
def W_law (script1 : List Int) (R : Bool → Prop) : Prop := W_machine script1 0 6 fun z1 => W_Machine___init__ z1.1 z1.2.1 z1.2.2 fun z2 => W_cell script1 5 fun z3 => (z1.2.1.length < 100000000) ∧ ∀ top1 : Nat, top1 = 2 ^ z1.2.1.length → (0 < top1) ∧ ∀ one1 : Nat, one1 = modN (z3 / ((4 : Nat) : Int)) top1 → W_cell script1 6 fun z4 => (0 < top1) ∧ (modN (z3 / ((4 : Nat) : Int)) 16 < 100000000) ∧ (0 < top1) ∧ (1 ≤ top1) ∧ ∃ x4, [modN z4 top1, one1 ^^^ ((2 ^ (modN (z3 / ((4 : Nat) : Int)) 16)) % top1), one1, one1 ^^^ (top1 - 1)][modN z3 4]? = some x4 ∧ W_cell script1 7 fun z5 => W_rows z5 20 z1.1 fun z6 => W_told_apart z2 one1 x4 fun z7 => W_right z7 z1 one1 x4 z6 fun z9 => if z9 = true then ((∀ n1, z7 = Sum.inl n1 → W_told_apart z2 x4 one1 fun z10 => jn (fun kk => if (Sum.elim (fun z => z.1) (fun z => z.1) z10) ≠ n1.1 then (kk true) else (if n1.1 = (PySem.Str.ofString "apart") then (∃ y1, z10 = Sum.inl y1 ∧ kk (decide (y1.2.1 ≠ n1.2.1))) else (kk false))) fun b1 => if b1 = true then (R false) else (W_told_apart z2 one1 one1 fun z12 => (okV (pAlt (pT3 pS pN pN) (pT3 pS (pL pN) (pL (pL pN)))) z12 ∧ okV (pAlt (pT3 pS pN pN) (pT3 pS (pL pN) (pL (pL pN)))) (Sum.inr ((PySem.Str.ofString "alike"), ([] : List Nat), ([] : List (List Nat))))) ∧ if z12 ≠ (Sum.inr ((PySem.Str.ofString "alike"), ([] : List Nat), ([] : List (List Nat)))) then (R false) else (if n1.1 = (PySem.Str.ofString "alike") then (False) else (forW [(An.i (-1)), (An.i ((top1 : Nat) : Int)), (An.b true), An.n, (An.s (PySem.Str.ofString "0"))] () (fun thing1 _ nx2 bk1 => jn (fun kk => W_refused z2 thing1 (An.i ((one1 : Nat) : Int)) fun z14 => if z14 = true then (W_refused z2 (An.i ((one1 : Nat) : Int)) thing1 fun z15 => kk (!z15)) else (kk true)) fun b2 => if b2 = true then (R false) else (nx2 ())) fun _ => R true)))) ∧ (∀ n1, z7 = Sum.inr n1 → W_told_apart z2 x4 one1 fun z16 => jn (fun kk => if (Sum.elim (fun z => z.1) (fun z => z.1) z16) ≠ n1.1 then (kk true) else (if n1.1 = (PySem.Str.ofString "apart") then (∃ y2, z16 = Sum.inr y2 ∧ kk (decide (y2.2.1 ≠ n1.2.1))) else (kk false))) fun b3 => if b3 = true then (R false) else (W_told_apart z2 one1 one1 fun z18 => (okV (pAlt (pT3 pS pN pN) (pT3 pS (pL pN) (pL (pL pN)))) z18 ∧ okV (pAlt (pT3 pS pN pN) (pT3 pS (pL pN) (pL (pL pN)))) (Sum.inr ((PySem.Str.ofString "alike"), ([] : List Nat), ([] : List (List Nat))))) ∧ if z18 ≠ (Sum.inr ((PySem.Str.ofString "alike"), ([] : List Nat), ([] : List (List Nat)))) then (R false) else (if n1.1 = (PySem.Str.ofString "alike") then ((n1.2.2.length < 1000000) ∧ compW n1.2.2 (fun places1 kk => kk (some places1)) fun ys1 => (n1.2.1.length + 0 < 1000000) ∧ (n1.2.2.length + 1 < 1000000) ∧ W_told_apart z2 one1 x4 fun z20 => jn (fun kk => if (Sum.elim (fun z => z.1) (fun z => z.1) z20) ≠ (PySem.Str.ofString "alike") then (kk true) else (∃ y3, z20 = Sum.inr y3 ∧ kk (decide ((y3.2.2, y3.2.1) ≠ (ys1, n1.2.1))))) fun b4 => if b4 = true then (R false) else (forW [(An.i (-1)), (An.i ((top1 : Nat) : Int)), (An.b true), An.n, (An.s (PySem.Str.ofString "0"))] () (fun thing2 _ nx3 bk2 => jn (fun kk => W_refused z2 thing2 (An.i ((one1 : Nat) : Int)) fun z22 => if z22 = true then (W_refused z2 (An.i ((one1 : Nat) : Int)) thing2 fun z23 => kk (!z23)) else (kk true)) fun b5 => if b5 = true then (R false) else (nx3 ())) fun _ => R true)) else (False))))) else (R false)
def sp_law (K : PySem.W.Frag) (cc : Cz) : Sp := fun vs H Q _ => ∃ (F : Hp) (v1 : V) (script1 : List Int) (R : Bool → Prop), vs = [v1] ∧ Ex F H ∧ (pScr K).r F v1 script1 ∧ XT (woL H [cc.t_told_apart]) F H cc.t_told_apart (("told_apart" : Str) ++ (".<locals>." : Str) ++ ("<lambda>" : Str)) ∧ W_law script1 R ∧ ∀ z, R z → ∀ F' H', Wf F (woL H [cc.t_told_apart]) F' H' → XT (woL H [cc.t_told_apart]) F' H' cc.t_told_apart (("told_apart" : Str) ++ (".<locals>." : Str) ++ ("<lambda>" : Str)) → Q (.bl (z)) H'
abbrev N_law : List Str := ["_law_script", "_law_tables", "_law_machine_here", "_law_cell_here", "_law_top", "_law_one", "_law_other", "_law_rows_here", "_law_found", "_law_again", "_law_held", "_law_places", "_law_later", "_law_thing"]
theorem sc_law : FnScope N_law ["_law_script"] (defScope s_law) := ⟨rfl, rfl, rfl, by decide +kernel, rfl, by decide +kernel, by decide +kernel⟩
theorem ok_law {P : Program} {w0 : World} {K : PySem.W.Frag} {mg : Str → Option Value} {base : Heap} {f : Addr} {fd : FuncData} {cc : Cz} (T : Tz K mg cc) (FU : Fun K "law" "law" s_law f fd) (c_machine : Fn P w0 K mg base CX0 3 "_law_machine" ["_law_script", "_law_start", "_law_most"] (sp_machine K cc)) (c_Machine___init__ : Nw P w0 K mg base CX0 4 cc.Machine "Machine" ["self", "inputs", "nexts", "outs"] (sp_Machine___init__ K cc)) (c_cell : Fn P w0 K mg base CX0 1 "_law_cell" ["_law_script", "_law_k"] (sp_cell K cc)) (c_rows : Fn P w0 K mg base CX0 3 "_law_rows" ["_law_cell_here", "_law_many", "_law_width"] (sp_rows K cc)) (c_told_apart : Fn P w0 K mg base CX0 9 "told_apart" ["machine", "one", "other"] (sp_told_apart K cc)) (c_right : Fn P w0 K mg base CX0 5 "_law_right" ["_law_found", "_law_tables", "_law_one", "_law_other", "_law_rows_here"] (sp_right K cc)) (c_refused : Fn P w0 K mg base CX0 5 "_law_refused" ["_law_machine_here", "_law_one", "_law_other"] (sp_refused K cc)) (n_len : mg "len" = none) (n_list : mg "list" = none) : FnOk P w0 K mg base CX0 10 f fd ["_law_script"] (sp_law K cc) := by
  refine FU.ok sc_law (fun vs H Q E h => ?_) (fun cdv A outer s H0 vs Q E hr h => ?_)
  · obtain ⟨_, _, _, _, rfl, _⟩ := h; rfl
  · obtain ⟨F0, v1, script1, R, rfl, wf, r1, xt_told_apart, hW, hQ⟩ := h
    have nd := sc_law.nd
    refine ⟨(tSeq (tAsg (tCall (sp_machine K cc) [] E0 (tCons (tVar 0) (tCons (tC (.int 0)) (tCons (tC (.int 6)) tNil)))) (gName 1)) (tSeq (tAsg (tMake cc.Machine (sp_Machine___init__ K cc) [] E0 (tCons (tOp (L2.rIxT K) (tVar 1) (tC (.int 0))) (tCons (tCB (rListOf K) (tCons (tOp (L2.rIxT K) (tVar 1) (tC (.int 1))) tNil)) (tCons (tCB (rListOf K) (tCons (tOp (L2.rIxT K) (tVar 1) (tC (.int 2))) tNil)) tNil)))) (gName 2)) (tSeq (tAsg (tCall (sp_cell K cc) [] E0 (tCons (tVar 0) (tCons (tC (.int 5)) tNil))) (gName 3)) (tSeq (tAsg (tOp kShl (tC (.int 1)) (tCB (Wk.rLen K) (tCons (tOp (L2.rIxT K) (tVar 1) (tC (.int 1))) tNil))) (gName 4)) (tSeq (tAsg (tOp kMod (tOp kDiv (tVar 3) (tC (.int 4))) (tVar 4)) (gName 5)) (tSeq (tAsg (tOp (L2.rIxL K) (tLst (tCons (tOp kMod (tCall (sp_cell K cc) [] E0 (tCons (tVar 0) (tCons (tC (.int 6)) tNil))) (tVar 4)) (tCons (tOp kXor (tVar 5) (tOp kMod (tOp kShl (tC (.int 1)) (tOp kMod (tOp kDiv (tVar 3) (tC (.int 4))) (tC (.int 16)))) (tVar 4))) (tCons (tVar 5) (tCons (tOp kXor (tVar 5) (tOp kSub (tVar 4) (tC (.int 1)))) tNil))))) (tOp kMod (tVar 3) (tC (.int 4)))) (gName 6)) (tSeq (tAsg (tCall (sp_rows K cc) [] E0 (tCons (tCall (sp_cell K cc) [] E0 (tCons (tVar 0) (tCons (tC (.int 7)) tNil))) (tCons (tC (.int 20)) (tCons (tOp (L2.rIxT K) (tVar 1) (tC (.int 0))) tNil)))) (gName 7)) (tSeq (tAsg (tCall (sp_told_apart K cc) [] E0 (tCons (tVar 2) (tCons (tVar 5) (tCons (tVar 6) tNil)))) (gName 8)) (tSeq (tIfS (tNot (tB (tCall (sp_right K cc) [] E0 (tCons (tVar 8) (tCons (tVar 1) (tCons (tVar 5) (tCons (tVar 6) (tCons (tVar 7) tNil)))))))) (tRet (tC (.bl false))) tNext) (tSeq (tAsg (tCall (sp_told_apart K cc) [] E0 (tCons (tVar 2) (tCons (tVar 6) (tCons (tVar 5) tNil)))) (gName 9)) (tSeq (tIfS (tOr (tTest (tOp L2.rNe (tOp (L2.rIxT K) (tVar 9) (tC (.int 0))) (tOp (L2.rIxT K) (tVar 8) (tC (.int 0))))) (tAnd (tTest (tOp L2.rEq (tOp (L2.rIxT K) (tVar 8) (tC (.int 0))) (tC (.str (PySem.Str.ofString "apart"))))) (tTest (tOp (L2.rNeD K) (tOp (L2.rIxT K) (tVar 9) (tC (.int 1))) (tOp (L2.rIxT K) (tVar 8) (tC (.int 1))))))) (tRet (tC (.bl false))) tNext) (tSeq (tIfS (tTest (tOp (L2.rNeD K) (tCall (sp_told_apart K cc) [] E0 (tCons (tVar 2) (tCons (tVar 5) (tCons (tVar 5) tNil)))) (tTup (tCons (tC (.str (PySem.Str.ofString "alike"))) (tCons (tLst tNil) (tCons (tLst tNil) tNil)))))) (tRet (tC (.bl false))) tNext) (tSeq (tIfS (tTest (tOp L2.rEq (tOp (L2.rIxT K) (tVar 8) (tC (.int 0))) (tC (.str (PySem.Str.ofString "alike"))))) (tSeq (tAsg (tTup (tCons (tLc (iList K (tOp (L2.rIxT K) (tVar 8) (tC (.int 2)))) (gName 11) tYes (tCB (rListOf K) (tCons (tVar 11) tNil)) [11]) (tCons (tCB (rListOf K) (tCons (tOp (L2.rIxT K) (tVar 8) (tC (.int 1))) tNil)) tNil))) (gName 10)) (tSeq (tDrop (tBM K "list" rAppend (tOp (L2.rIxT K) (tVar 8) (tC (.int 1))) (tCons (tC (.int 0)) tNil))) (tSeq (tDrop (tBM K "list" rAppend (tOp (L2.rIxT K) (tVar 8) (tC (.int 2))) (tCons (tLst (tCons (tC (.int 0)) tNil)) tNil))) (tSeq (tAsg (tCall (sp_told_apart K cc) [] E0 (tCons (tVar 2) (tCons (tVar 5) (tCons (tVar 6) tNil)))) (gName 12)) (tIfS (tOr (tTest (tOp L2.rNe (tOp (L2.rIxT K) (tVar 12) (tC (.int 0))) (tC (.str (PySem.Str.ofString "alike"))))) (tTest (tOp (L2.rNeD K) (tTup (tCons (tOp (L2.rIxT K) (tVar 12) (tC (.int 2))) (tCons (tOp (L2.rIxT K) (tVar 12) (tC (.int 1))) tNil))) (tVar 10)))) (tRet (tC (.bl false))) tNext))))) tNext) (tSeq (tFor (iList K (tLst (tCons (tUn kNeg (tC (.int 1))) (tCons (tVar 4) (tCons (tC (.bl true)) (tCons (tC .non) (tCons (tC (.str (PySem.Str.ofString "0"))) tNil))))))) (gName 13) (tIfS (tOr (tNot (tB (tCall (sp_refused K cc) [] E0 (tCons (tVar 2) (tCons (tVar 13) (tCons (tVar 5) tNil)))))) (tNot (tB (tCall (sp_refused K cc) [] E0 (tCons (tVar 2) (tCons (tVar 5) (tCons (tVar 13) tNil))))))) (tRet (tC (.bl false))) tNext)) (tRet (tC (.bl true))))))))))))))))), (pss_cons (ps_set (i := 1) nd rfl (Or.inl rfl) (pe_fn c_machine (hr.mono (by decide)) rfl (pa_cons (pv 0) (pa_cons pe_int (pa_cons pe_int pa_nil))))) (pss_cons (ps_set (i := 2) nd rfl (Or.inl rfl) (pe_nw c_Machine___init__ (hr.mono (by decide)) rfl (pa_cons (pe_ix ix_tup (pv 1) pe_int (fun _ _ => rfl)) (pa_cons (pe_callTy call_list_of (by rfl) n_list PyProof.Rows.boot_list (pa_cons (pe_ix ix_tup (pv 1) pe_int (fun _ _ => rfl)) pa_nil)) (pa_cons (pe_callTy call_list_of (by rfl) n_list PyProof.Rows.boot_list (pa_cons (pe_ix ix_tup (pv 1) pe_int (fun _ _ => rfl)) pa_nil)) pa_nil))))) (pss_cons (ps_set (i := 3) nd rfl (Or.inl rfl) (pe_fn c_cell (hr.mono (by decide)) rfl (pa_cons (pv 0) (pa_cons pe_int pa_nil)))) (pss_cons (ps_set (i := 4) nd rfl (Or.inl rfl) (pe_op op_shlW pe_int (pe_callB call_len_seq (by rfl) n_len PySem.boot_len (pa_cons (pe_ix ix_tup (pv 1) pe_int (fun _ _ => rfl)) pa_nil)))) (pss_cons (ps_set (i := 5) nd rfl (Or.inl rfl) (pe_op op_mod (pe_op op_fdivW (pv 3) pe_int) (pv 4))) (pss_cons (ps_set (i := 6) nd rfl (Or.inl rfl) (pe_ix ix_list (pe_lst (pa_cons (pe_op op_mod (pe_fn c_cell (hr.mono (by decide)) rfl (pa_cons (pv 0) (pa_cons pe_int pa_nil))) (pv 4)) (pa_cons (pe_op op_xor (pv 5) (pe_op op_mod (pe_op op_shlW pe_int (pe_op op_mod (pe_op op_fdivW (pv 3) pe_int) pe_int)) (pv 4))) (pa_cons (pv 5) (pa_cons (pe_op op_xor (pv 5) (pe_op op_sub (pv 4) pe_int)) pa_nil))))) (pe_op op_mod (pv 3) pe_int) (fun _ _ => rfl))) (pss_cons (ps_set (i := 7) nd rfl (Or.inl rfl) (pe_fn c_rows (hr.mono (by decide)) rfl (pa_cons (pe_fn c_cell (hr.mono (by decide)) rfl (pa_cons (pv 0) (pa_cons pe_int pa_nil))) (pa_cons pe_int (pa_cons (pe_ix ix_tup (pv 1) pe_int (fun _ _ => rfl)) pa_nil))))) (pss_cons (ps_set (i := 8) nd rfl (Or.inl rfl) (pe_fn c_told_apart (hr.mono (by decide)) rfl (pa_cons (pv 2) (pa_cons (pv 5) (pa_cons (pv 6) pa_nil))))) (pss_cons (ps_if (pt_not (pt_val (pe_fn c_right (hr.mono (by decide)) rfl (pa_cons (pv 8) (pa_cons (pv 1) (pa_cons (pv 5) (pa_cons (pv 6) (pa_cons (pv 7) pa_nil)))))))) (pss_one (ps_ret pe_bl)) pss_nil) (pss_cons (ps_set (i := 9) nd rfl (Or.inl rfl) (pe_fn c_told_apart (hr.mono (by decide)) rfl (pa_cons (pv 2) (pa_cons (pv 6) (pa_cons (pv 5) pa_nil))))) (pss_cons (ps_if (PW.pt (pw_or (pt_cmpR op_ne (pe_ix ix_tup (pv 9) pe_int (fun _ _ => rfl)) (pe_ix ix_tup (pv 8) pe_int (fun _ _ => rfl)) (nomark _)) (pw_or1 (PW.pt (pw_and (pt_cmpR op_eq (pe_ix ix_tup (pv 8) pe_int (fun _ _ => rfl)) pe_str (nomark _)) (pw_and1 (pt_cmpR (op_neD hr.units) (pe_ix ix_tup (pv 9) pe_int (fun _ _ => rfl)) (pe_ix ix_tup (pv 8) pe_int (fun _ _ => rfl)) (nomark _)))))))) (pss_one (ps_ret pe_bl)) pss_nil) (pss_cons (ps_if (pt_cmpR (op_neD hr.units) (pe_fn c_told_apart (hr.mono (by decide)) rfl (pa_cons (pv 2) (pa_cons (pv 5) (pa_cons (pv 5) pa_nil)))) (pe_tup (pa_cons pe_str (pa_cons (pe_lst pa_nil) (pa_cons (pe_lst pa_nil) pa_nil)))) (nomark _)) (pss_one (ps_ret pe_bl)) pss_nil) (pss_cons (ps_if (pt_cmpR op_eq (pe_ix ix_tup (pv 8) pe_int (fun _ _ => rfl)) pe_str (nomark _)) (pss_cons (ps_set (i := 10) nd rfl (Or.inl rfl) (pe_tup (pa_cons (pe_lc (own := [("_law_places", 11)]) (wi := (iList K (tOp (L2.rIxT K) (tVar 8) (tC (.int 2))))) (g := (gName 11)) (tt := tYes) (te := (tCB (rListOf K) (tCons (tVar 11) tNil))) rfl nd (pi_list (pe_ix ix_tup (pv 8) pe_int (fun _ _ => rfl))) (blkOk_by (N := N_law) (sc := defScope s_law) (by decide +kernel)) (fun _ _ _ _ _ => (pg_name (i := 11) nd rfl (Or.inl rfl))) (fun _ _ _ _ _ => pts_nil) (fun _ _ _ _ _ => (pe_callTy call_list_of (by rfl) n_list PyProof.Rows.boot_list (pa_cons (pv 11) pa_nil)))) (pa_cons (pe_callTy call_list_of (by rfl) n_list PyProof.Rows.boot_list (pa_cons (pe_ix ix_tup (pv 8) pe_int (fun _ _ => rfl)) pa_nil)) pa_nil)))) (pss_cons (ps_expr (pe_bm PySem.F.plainAttrs_list PySem.F.slot_list_append PySem.F.type_list_append mt_append (pe_ix ix_tup (pv 8) pe_int (fun _ _ => rfl)) (pa_cons pe_int pa_nil))) (pss_cons (ps_expr (pe_bm PySem.F.plainAttrs_list PySem.F.slot_list_append PySem.F.type_list_append mt_append (pe_ix ix_tup (pv 8) pe_int (fun _ _ => rfl)) (pa_cons (pe_lst (pa_cons pe_int pa_nil)) pa_nil))) (pss_cons (ps_set (i := 12) nd rfl (Or.inl rfl) (pe_fn c_told_apart (hr.mono (by decide)) rfl (pa_cons (pv 2) (pa_cons (pv 5) (pa_cons (pv 6) pa_nil))))) (pss_one (ps_if (PW.pt (pw_or (pt_cmpR op_ne (pe_ix ix_tup (pv 12) pe_int (fun _ _ => rfl)) pe_str (nomark _)) (pw_or1 (pt_cmpR (op_neD hr.units) (pe_tup (pa_cons (pe_ix ix_tup (pv 12) pe_int (fun _ _ => rfl)) (pa_cons (pe_ix ix_tup (pv 12) pe_int (fun _ _ => rfl)) pa_nil))) (pv 10) (nomark _))))) (pss_one (ps_ret pe_bl)) pss_nil)))))) pss_nil) (pss_cons (ps_for PassesOwn.never rfl (pi_list (pe_lst (pa_cons (pe_un un_neg pe_int) (pa_cons (pv 4) (pa_cons pe_bl (pa_cons pe_non (pa_cons pe_str pa_nil))))))) (pg_name (i := 13) nd rfl (Or.inl rfl)) (pss_one (ps_if (PW.pt (pw_or (pt_not (pt_val (pe_fn c_refused (hr.mono (by decide)) rfl (pa_cons (pv 2) (pa_cons (pv 13) (pa_cons (pv 5) pa_nil)))))) (pw_or1 (pt_not (pt_val (pe_fn c_refused (hr.mono (by decide)) rfl (pa_cons (pv 2) (pa_cons (pv 5) (pa_cons (pv 13) pa_nil))))))))) (pss_one (ps_ret pe_bl)) pss_nil))) (pss_one (ps_ret pe_bl)))))))))))))))), ?_⟩
    have w := Wf.startL (L := [cc.t_told_apart]) wf (allL1 xt_told_apart.nF)
    generalize hH0 : woL H0 [cc.t_told_apart] = Hb at w hQ xt_told_apart
    refine q_sq fun N1 hN1 => ?_
    refine a_asgE ?_
    refine e_call ?_
    refine a_val (v := v1) (val_var rfl) ?_
    refine a_val (v := (.int ((0 : Nat) : Int))) val_c ?_
    refine a_val (v := (.int ((6 : Nat) : Int))) val_c ?_
    refine a_nil ?_
    refine ⟨F0, (v1), (script1), (0), (6), _, rfl, w.f, r1, hW, ?_⟩
    intro z1 hW v2 F1 H1 s1 r2
    replace r1 := Rep.mono _ s1.g r1
    replace xt_told_apart := xt_told_apart.step s1
    replace w := w.tr s1
    refine hN1 _ _ ?_
    refine q_sq fun N2 hN2 => ?_
    refine a_asgE ?_
    refine e_nw ?_
    obtain ⟨_, rfl, ix1⟩ := ix_3a (K := K) r2 w.f
    refine a_val (v := (.int ((z1.1 : Nat) : Int))) (ix1 (val_var rfl) val_c) ?_
    refine a_cons ?_
    refine e_cb ?_
    obtain ⟨v4, r4, ix2⟩ := ix_3b (K := K) r2 w.f
    refine a_val (v := v4) (ix2 (val_var rfl) val_c) ?_
    refine a_nil ?_
    refine n_listX r4 w ?_
    intro p1 H2 hp1 s2 x1
    have ne1 := xt_told_apart.ne hp1
    replace r1 := Rep.mono _ s2.g r1
    replace xt_told_apart := xt_told_apart.step s2
    replace r2 := Rep.mono _ s2.g r2
    replace r4 := Rep.mono _ s2.g r4
    replace w := w.tr s2
    refine a_cons ?_
    refine e_cb ?_
    obtain ⟨v5, r5, ix3⟩ := ix_3c (K := K) r2 w.f
    refine a_val (v := v5) (ix3 (val_var rfl) val_c) ?_
    refine a_nil ?_
    refine n_listX r5 w ?_
    intro p2 H3 hp2 s3 x2
    have ne2 := xt_told_apart.ne hp2
    have ne3 := x1.ne hp2
    replace r1 := Rep.mono _ s3.g r1
    replace xt_told_apart := xt_told_apart.step s3
    replace r2 := Rep.mono _ s3.g r2
    replace r4 := Rep.mono _ s3.g r4
    replace x1 := x1.step s3
    replace r5 := Rep.mono _ s3.g r5
    replace w := w.tr s3
    refine a_nil ?_
    obtain ⟨F2, w1, g1, r6, fz1⟩ := x1.frzE w
    replace r1 := Rep.mono _ g1 r1
    replace xt_told_apart := xt_told_apart.frzO fz1 ne1 g1
    replace r2 := Rep.mono _ g1 r2
    replace r4 := Rep.mono _ g1 r4
    replace r5 := Rep.mono _ g1 r5
    replace x2 := x2.frzO fz1 (Ne.symm ne3) g1
    replace w := w1
    obtain ⟨F3, w2, g2, r7, fz2⟩ := x2.frzE w
    replace r1 := Rep.mono _ g2 r1
    replace xt_told_apart := xt_told_apart.frzO fz2 ne2 g2
    replace r2 := Rep.mono _ g2 r2
    replace r4 := Rep.mono _ g2 r4
    replace r6 := Rep.mono _ g2 r6
    replace r5 := Rep.mono _ g2 r5
    replace w := w2
    intro ob1 dx1 nx1 nd1 ne4
    refine ⟨F3, ob1, dx1, (z1.1), ((.ref p1)), (z1.2.1), ((.ref p2)), (z1.2.2), _, rfl, upd_same, (w.f.non nx1), (Ex.made w.f nx1 nd1), r6, r7, hW, ?_⟩
    intro z2 hW F4 H4 s4 r8
    refine ⟨rfl, ?_⟩
    replace s4 := Wf.made nx1 nd1 s4
    replace r1 := Rep.mono _ s4.g r1
    replace xt_told_apart := xt_told_apart.step s4
    replace r2 := Rep.mono _ s4.g r2
    replace r4 := Rep.mono _ s4.g r4
    replace r6 := Rep.mono _ s4.g r6
    replace r5 := Rep.mono _ s4.g r5
    replace r7 := Rep.mono _ s4.g r7
    replace w := w.tr s4
    refine hN2 _ _ ?_
    refine q_sq fun N3 hN3 => ?_
    refine a_asgE ?_
    refine e_call ?_
    refine a_val (v := v1) (val_var rfl) ?_
    refine a_val (v := (.int ((5 : Nat) : Int))) val_c ?_
    refine a_nil ?_
    refine ⟨F4, (v1), (script1), (5), _, rfl, w.f, r1, hW, ?_⟩
    intro z3 hW F5 H5 s5
    replace r1 := Rep.mono _ s5.g r1
    replace xt_told_apart := xt_told_apart.step s5
    replace r2 := Rep.mono _ s5.g r2
    replace r8 := Rep.mono _ s5.g r8
    replace w := w.tr s5
    refine hN3 _ _ ?_
    refine q_sq fun N4 hN4 => ?_
    obtain ⟨v6, r9, ix4⟩ := ix_3b (K := K) r2 w.f
    obtain ⟨c1, hW⟩ := hW
    obtain ⟨top1, etop1⟩ : ∃ top1 : Nat, top1 = 2 ^ z1.2.1.length := ⟨_, rfl⟩
    replace hW := hW top1 etop1
    refine a_asg (v := (.int ((top1 : Nat) : Int))) (v_eq (vn_one val_c (len_L r9 w.f (ix4 (val_var rfl) val_c)) c1) (by rw [etop1])) ?_
    refine hN4 _ _ ?_
    refine q_sq fun N5 hN5 => ?_
    obtain ⟨c2, hW⟩ := hW
    obtain ⟨one1, eone1⟩ : ∃ one1 : Nat, one1 = modN (z3 / ((4 : Nat) : Int)) top1 := ⟨_, rfl⟩
    replace hW := hW one1 eone1
    refine a_asg (v := (.int ((one1 : Nat) : Int))) (v_eq (vm_mod (vi_div (val_var rfl) val_c ⟨by decide, by decide +kernel⟩) (val_var rfl) c2) (by rw [eone1])) ?_
    refine hN5 _ _ ?_
    refine q_sq fun N6 hN6 => ?_
    refine a_asgE ?_
    refine e_op ?_
    refine e_lst ?_
    refine a_cons ?_
    refine e_op ?_
    refine e_call ?_
    refine a_val (v := v1) (val_var rfl) ?_
    refine a_val (v := (.int ((6 : Nat) : Int))) val_c ?_
    refine a_nil ?_
    refine ⟨F5, (v1), (script1), (6), _, rfl, w.f, r1, hW, ?_⟩
    intro z4 hW F6 H6 s6
    replace r1 := Rep.mono _ s6.g r1
    replace xt_told_apart := xt_told_apart.step s6
    replace r2 := Rep.mono _ s6.g r2
    replace r8 := Rep.mono _ s6.g r8
    replace w := w.tr s6
    refine e_val (v := (.int ((top1 : Nat) : Int))) (val_var rfl) ?_
    obtain ⟨c3, hW⟩ := hW
    refine rv2 (z := (.int ((modN z4 top1 : Nat) : Int))) (vm_mod val_c val_c c3) ?_
    obtain ⟨c4, hW⟩ := hW
    obtain ⟨c5, hW⟩ := hW
    refine a_val (v := (.int ((one1 ^^^ ((2 ^ (modN (z3 / ((4 : Nat) : Int)) 16)) % top1) : Nat) : Int))) (vn_xor (val_var rfl) (vn_mod (vn_one val_c (vm_mod (vi_div (val_var rfl) val_c ⟨by decide, by decide +kernel⟩) val_c (by decide)) c4) (val_var rfl) c5)) ?_
    refine a_val (v := (.int ((one1 : Nat) : Int))) (val_var rfl) ?_
    obtain ⟨c6, hW⟩ := hW
    refine a_val (v := (.int ((one1 ^^^ (top1 - 1) : Nat) : Int))) (vn_xor (val_var rfl) (vn_sub (val_var rfl) val_c c6)) ?_
    refine a_nil ?_
    refine n_lstX (e := pN) (xs := [modN z4 top1, one1 ^^^ ((2 ^ (modN (z3 / ((4 : Nat) : Int)) 16)) % top1), one1, one1 ^^^ (top1 - 1)]) (vs := [(.int ((modN z4 top1 : Nat) : Int)), (.int ((one1 ^^^ ((2 ^ (modN (z3 / ((4 : Nat) : Int)) 16)) % top1) : Nat) : Int)), (.int ((one1 : Nat) : Int)), (.int ((one1 ^^^ (top1 - 1) : Nat) : Int))]) (show All pN _ [(.int ((modN z4 top1 : Nat) : Int)), (.int ((one1 ^^^ ((2 ^ (modN (z3 / ((4 : Nat) : Int)) 16)) % top1) : Nat) : Int)), (.int ((one1 : Nat) : Int)), (.int ((one1 ^^^ (top1 - 1) : Nat) : Int))] [modN z4 top1, one1 ^^^ ((2 ^ (modN (z3 / ((4 : Nat) : Int)) 16)) % top1), one1, one1 ^^^ (top1 - 1)] from ⟨rfl, ⟨rfl, ⟨rfl, ⟨rfl, trivial⟩⟩⟩⟩) (show 4 < 1000000 from by decide) w ?_
    intro p3 H7 hp3 s7 x3
    have ne5 := xt_told_apart.ne hp3
    replace r1 := Rep.mono _ s7.g r1
    replace xt_told_apart := xt_told_apart.step s7
    replace r2 := Rep.mono _ s7.g r2
    replace r8 := Rep.mono _ s7.g r8
    replace w := w.tr s7
    refine e_val (v := (.int ((modN z3 4 : Nat) : Int))) (vm_mod (val_var rfl) val_c (by decide)) ?_
    obtain ⟨x4, hx4_1, hW⟩ := hW
    obtain ⟨_, rfl, ix5⟩ := ix_X (K := K) x3 hx4_1
    refine rv2 (z := (.int ((x4 : Nat) : Int))) (ix5 val_c val_c) ?_
    refine hN6 _ _ ?_
    refine q_sq fun N7 hN7 => ?_
    refine a_asgE ?_
    refine e_call ?_
    refine a_cons ?_
    refine e_call ?_
    refine a_val (v := v1) (val_var rfl) ?_
    refine a_val (v := (.int ((7 : Nat) : Int))) val_c ?_
    refine a_nil ?_
    refine ⟨F6, (v1), (script1), (7), _, rfl, w.f, r1, hW, ?_⟩
    intro z5 hW F7 H8 s8
    replace r1 := Rep.mono _ s8.g r1
    replace xt_told_apart := xt_told_apart.step s8
    replace r2 := Rep.mono _ s8.g r2
    replace r8 := Rep.mono _ s8.g r8
    replace w := w.tr s8
    refine a_val (v := (.int ((20 : Nat) : Int))) val_c ?_
    obtain ⟨_, rfl, ix6⟩ := ix_3a (K := K) r2 w.f
    refine a_val (v := (.int ((z1.1 : Nat) : Int))) (ix6 (val_var rfl) val_c) ?_
    refine a_nil ?_
    refine ⟨F7, (z5), (20), (z1.1), _, rfl, w.f, hW, ?_⟩
    intro z6 hW p4 F8 H9 s9 x5
    have ne6 := xt_told_apart.ne x5.zero
    replace x5 := x5.base w
    replace r1 := Rep.mono _ s9.g r1
    replace xt_told_apart := xt_told_apart.step s9
    replace r2 := Rep.mono _ s9.g r2
    replace r8 := Rep.mono _ s9.g r8
    replace w := w.tr s9
    obtain ⟨F9, w3, g3, r12, fz3⟩ := x5.frzE w
    replace r1 := Rep.mono _ g3 r1
    replace xt_told_apart := xt_told_apart.frzO fz3 ne6 g3
    replace r2 := Rep.mono _ g3 r2
    replace r8 := Rep.mono _ g3 r8
    replace w := w3
    refine hN7 _ _ ?_
    refine q_sq fun N8 hN8 => ?_
    refine a_asgE ?_
    refine e_call ?_
    refine a_val (v := (.ref ob1)) (val_var rfl) ?_
    refine a_val (v := (.int ((one1 : Nat) : Int))) (val_var rfl) ?_
    refine a_val (v := (.int ((x4 : Nat) : Int))) (val_var rfl) ?_
    refine a_nil ?_
    refine ⟨(nl F9), ((.ref ob1)), (z2), (one1), (x4), _, rfl, (nl_sub.tr w.f), ((NoL.O3 NoL.N (NoL.TL (NoL.T2 NoL.N NoL.N)) (NoL.TL (NoL.T2 NoL.N NoL.N))) r8), (xt_told_apart.nl.toL (List.mem_cons_self ..)), hW, ?_⟩
    intro z7 hW v9 F10 H10 s10 r13 x6
    have ne7 := x6.nF
    obtain ⟨F11, s11, hG1, rg1, hz_⟩ := RG.fzNL (L := [cc.t_told_apart]) w (allL1 xt_told_apart.nF) (allL1 x6.nF) s10
    replace x6 := XT.reg x6 hG1 (hz_ _ xt_told_apart.nF x6.nF)
    have z8 := xt_told_apart.zero
    replace w := w.mcall (L := [cc.t_told_apart]) (allL1 z8) s11 (allL1 x6.nF)
    replace r1 := Rep.mono _ s11.g r1
    replace r2 := Rep.mono _ s11.g r2
    replace r8 := Rep.mono _ s11.g r8
    replace r12 := Rep.mono _ s11.g r12
    replace x6 := XT.fromL x6 z8
    refine hN8 _ _ ?_
    refine q_sq fun N9 hN9 => ?_
    refine a_ifE ?_
    refine e_tNot ?_
    refine e_tB ?_
    refine e_call ?_
    refine a_val (v := v9) (val_var rfl) ?_
    refine a_val (v := v2) (val_var rfl) ?_
    refine a_val (v := (.int ((one1 : Nat) : Int))) (val_var rfl) ?_
    refine a_val (v := (.int ((x4 : Nat) : Int))) (val_var rfl) ?_
    refine a_val (v := (.ref p4)) (val_var rfl) ?_
    refine a_nil ?_
    obtain ⟨Fl1, lf1, lg1, lr1⟩ := rg1.lend w
    refine ⟨Fl1, (v9), (z7), (v2), (z1), (one1), (x4), ((.ref p4)), (z6), _, rfl, lf1, (Rep.mono _ lr1 r13), (Rep.mono _ lg1 r2), (Rep.mono _ lg1 r12), hW, ?_⟩
    intro z9 hW F12 H11 s12
    replace s12 := Wf.grow w.f s12.h
    replace r1 := Rep.mono _ s12.g r1
    replace x6 := x6.step s12
    replace r2 := Rep.mono _ s12.g r2
    replace r8 := Rep.mono _ s12.g r8
    replace r12 := Rep.mono _ s12.g r12
    replace rg1 := rg1.step s12
    replace w := w.tr s12
    replace hG1 := Ex.tr hG1 s12.g
    refine bl_v ?_
    refine bb_ifn (fun hc1 => ?_) (fun hc1 => ?_)
    · have hW := ifP hW hc1
      refine hN9 _ _ ?_
      refine q_sq fun N10 hN10 => ?_
      refine alt_ways (s := z7) (fun n1 hz1 => ?_) (fun n1 hz1 => ?_)
      · replace hW := hW.1 n1 hz1
        have r14 := alt_l r13 hz1
        refine a_asgE ?_
        refine e_call ?_
        refine a_val (v := (.ref ob1)) (val_var rfl) ?_
        refine a_val (v := (.int ((x4 : Nat) : Int))) (val_var rfl) ?_
        refine a_val (v := (.int ((one1 : Nat) : Int))) (val_var rfl) ?_
        refine a_nil ?_
        refine ⟨F11, ((.ref ob1)), (z2), (x4), (one1), _, rfl, w.f, r8, (x6.toL (List.mem_cons_self ..)), hW, ?_⟩
        intro z10 hW v10 F13 H12 s13 r15 x7
        have z11 := x6.zero
        replace w := w.mcall (L := [cc.t_told_apart]) (allL1 z11) s13 (allL1 x7.nF)
        replace r1 := Rep.mono _ s13.g r1
        replace r2 := Rep.mono _ s13.g r2
        replace r8 := Rep.mono _ s13.g r8
        replace r12 := Rep.mono _ s13.g r12
        replace rg1 := rg1.away (allL1 ne7) s13
        replace hG1 := Ex.tr hG1 s13.g
        replace x7 := XT.fromL x7 z11
        refine hN10 _ _ ?_
        refine q_sq fun N11 hN11 => ?_
        refine a_ifE ?_
        refine e_jnT hW (fun b F' H' => b = b ∧ Wf F0 Hb F' H' ∧ Ex F13 F' ∧ XT Hb F' H' cc.t_told_apart (("told_apart" : Str) ++ (".<locals>." : Str) ++ ("<lambda>" : Str)) ∧ RG Hb F' H' F10) ?_ ?_
        · intro N12 hN12 hW
          have gx1 : Ex F13 F13 := Ex.rfl'
          refine e_tOr ?_
          obtain ⟨_, rfl, ix7⟩ := ix_alt (K := K) (pa := fun z => z.1) (pb := fun z => z.1) r15 (fun _ q => ix_3a q w.f) (fun _ q => ix_3a q w.f)
          obtain ⟨_, rfl, ix8⟩ := ix_3a (K := K) r14 rg1.h
          refine e_ans (b := decide ((Sum.elim (fun z => z.1) (fun z => z.1) z10) ≠ n1.1)) (t_of (c_neS (ix7 (val_var rfl) val_c) (ix8 (val_var rfl) val_c))) ?_
          refine b_if (fun hc2 => ?_) (fun hc2 => ?_)
          · have hW := ifP hW hc2
            exact hN12 true _ _ ⟨rfl, w, gx1, x7, rg1⟩ hW
          · have hW := ifN hW hc2
            refine e_tAnd ?_
            obtain ⟨_, rfl, ix9⟩ := ix_3a (K := K) r14 rg1.h
            refine e_ans (b := decide (n1.1 = (PySem.Str.ofString "apart"))) (t_of (c_eqS (ix9 (val_var rfl) val_c) val_c)) ?_
            refine b_if (fun hc3 => ?_) (fun hc3 => ?_)
            · have hW := ifP hW hc3
              obtain ⟨y1, hy1, hW⟩ := hW
              have r18 := alt_l r15 hy1
              obtain ⟨_, rfl, ix10⟩ := ix_3b (K := K) r18 w.f
              obtain ⟨_, rfl, ix11⟩ := ix_3b (K := K) r14 rg1.h
              refine e_ans (b := decide (y1.2.1 ≠ n1.2.1)) (t_of (c_neD (K := K) (e := pN) (ix10 (val_var rfl) val_c) (ix11 (val_var rfl) val_c) w.f rfl w.f rfl)) ?_
              exact hN12 (decide (y1.2.1 ≠ n1.2.1)) _ _ ⟨rfl, w, gx1, x7, rg1⟩ hW
            · have hW := ifN hW hc3
              exact hN12 false _ _ ⟨rfl, w, gx1, x7, rg1⟩ hW
        intro b1 F14 H13 hI1 hW
        obtain ⟨_, w, gx2, x8, x9⟩ := hI1
        have r1 := Rep.mono _ gx2 r1
        have r2 := Rep.mono _ gx2 r2
        have r8 := Rep.mono _ gx2 r8
        have r12 := Rep.mono _ gx2 r12
        have r15 := Rep.mono _ gx2 r15
        have hG1 := Ex.tr hG1 gx2
        refine bb_if (fun hc4 => ?_) (fun hc4 => ?_)
        · have hW := ifP hW hc4
          refine a_ret (v := (.bl (false))) val_c ?_
          exact hQ _ hW _ _ w x8
        · have hW := ifN hW hc4
          refine hN11 _ _ ?_
          refine q_sq fun N13 hN13 => ?_
          refine a_ifE ?_
          refine e_tT ?_
          refine e_op ?_
          refine e_call ?_
          refine a_val (v := (.ref ob1)) (val_var rfl) ?_
          refine a_val (v := (.int ((one1 : Nat) : Int))) (val_var rfl) ?_
          refine a_val (v := (.int ((one1 : Nat) : Int))) (val_var rfl) ?_
          refine a_nil ?_
          refine ⟨F14, ((.ref ob1)), (z2), (one1), (one1), _, rfl, w.f, r8, (x8.toL (List.mem_cons_self ..)), hW, ?_⟩
          intro z12 hW v15 F15 H14 s14 r21 x10
          have z13 := x8.zero
          replace w := w.mcall (L := [cc.t_told_apart]) (allL1 z13) s14 (allL1 x10.nF)
          replace r1 := Rep.mono _ s14.g r1
          replace r2 := Rep.mono _ s14.g r2
          replace r8 := Rep.mono _ s14.g r8
          replace r12 := Rep.mono _ s14.g r12
          replace r15 := Rep.mono _ s14.g r15
          replace x9 := x9.away (allL1 ne7) s14
          replace hG1 := Ex.tr hG1 s14.g
          replace x10 := XT.fromL x10 z13
          refine e_tup ?_
          refine a_val (v := (.str ((PySem.Str.ofString "alike")))) val_c ?_
          refine a_cons ?_
          refine e_lst ?_
          refine a_nil ?_
          refine n_lstX (e := pN) (xs := []) (vs := []) (show All pN _ [] [] from trivial) (show 0 < 1000000 from by decide) w ?_
          intro p5 H15 hp4 s15 x11
          have ne8 := x10.ne hp4
          have ne9 := x9.ne hp4
          replace r1 := Rep.mono _ s15.g r1
          replace x10 := x10.step s15
          replace r2 := Rep.mono _ s15.g r2
          replace r8 := Rep.mono _ s15.g r8
          replace r12 := Rep.mono _ s15.g r12
          replace r15 := Rep.mono _ s15.g r15
          replace r21 := Rep.mono _ s15.g r21
          replace x9 := x9.step s15
          replace w := w.tr s15
          replace hG1 := Ex.tr hG1 s15.g
          refine a_cons ?_
          refine e_lst ?_
          refine a_nil ?_
          refine n_lstX (e := (pL pN)) (xs := []) (vs := []) (show All (pL pN) _ [] [] from trivial) (show 0 < 1000000 from by decide) w ?_
          intro p6 H16 hp5 s16 x12
          have ne10 := x10.ne hp5
          have ne11 := x11.ne hp5
          have ne12 := x9.ne hp5
          replace r1 := Rep.mono _ s16.g r1
          replace x10 := x10.step s16
          replace r2 := Rep.mono _ s16.g r2
          replace r8 := Rep.mono _ s16.g r8
          replace r12 := Rep.mono _ s16.g r12
          replace r15 := Rep.mono _ s16.g r15
          replace r21 := Rep.mono _ s16.g r21
          replace x11 := x11.step s16
          replace x9 := x9.step s16
          replace w := w.tr s16
          replace hG1 := Ex.tr hG1 s16.g
          refine a_nil ?_
          obtain ⟨F16, w4, g4, r22, fz4⟩ := x11.frzE w
          replace r1 := Rep.mono _ g4 r1
          replace x10 := x10.frzO fz4 ne8 g4
          replace r2 := Rep.mono _ g4 r2
          replace r8 := Rep.mono _ g4 r8
          replace r12 := Rep.mono _ g4 r12
          replace r15 := Rep.mono _ g4 r15
          replace r21 := Rep.mono _ g4 r21
          replace x12 := x12.frzO fz4 (Ne.symm ne11) g4
          replace x9 := x9.frzO fz4 ne9 g4
          replace w := w4
          replace hG1 := Ex.tr hG1 g4
          obtain ⟨F17, w5, g5, r23, fz5⟩ := x12.frzE w
          replace r1 := Rep.mono _ g5 r1
          replace x10 := x10.frzO fz5 ne10 g5
          replace r2 := Rep.mono _ g5 r2
          replace r8 := Rep.mono _ g5 r8
          replace r12 := Rep.mono _ g5 r12
          replace r15 := Rep.mono _ g5 r15
          replace r21 := Rep.mono _ g5 r21
          replace r22 := Rep.mono _ g5 r22
          replace x9 := x9.frzO fz5 ne12 g5
          replace w := w5
          replace hG1 := Ex.tr hG1 g5
          refine n_tup3 (e := pS) (f := (pL pN)) (g := (pL (pL pN))) (x := (PySem.Str.ofString "alike")) (y := ([] : List Nat)) (z := ([] : List (List Nat))) rfl r22 r23 w ?_
          intro p7 F18 H17 s17 r24
          replace r1 := Rep.mono _ s17.g r1
          replace x10 := x10.step s17
          replace r2 := Rep.mono _ s17.g r2
          replace r8 := Rep.mono _ s17.g r8
          replace r12 := Rep.mono _ s17.g r12
          replace r15 := Rep.mono _ s17.g r15
          replace r21 := Rep.mono _ s17.g r21
          replace r22 := Rep.mono _ s17.g r22
          replace r23 := Rep.mono _ s17.g r23
          replace x9 := x9.step s17
          replace w := w.tr s17
          replace hG1 := Ex.tr hG1 s17.g
          obtain ⟨c7, hW⟩ := hW
          refine rv2T (b := decide (z12 ≠ (Sum.inr ((PySem.Str.ofString "alike"), ([] : List Nat), ([] : List (List Nat)))))) (c_neO (K := K) (e := (pAlt (pT3 pS pN pN) (pT3 pS (pL pN) (pL (pL pN))))) val_c val_c w.f r21 w.f r24 c7) ?_
          refine b_if (fun hc5 => ?_) (fun hc5 => ?_)
          · have hW := ifP hW hc5
            refine a_ret (v := (.bl (false))) val_c ?_
            exact hQ _ hW _ _ w x10
          · have hW := ifN hW hc5
            refine hN13 _ _ ?_
            refine q_sq fun N14 hN14 => ?_
            refine a_ifE ?_
            obtain ⟨_, rfl, ix12⟩ := ix_3a (K := K) r14 x9.h
            refine e_ans (b := decide (n1.1 = (PySem.Str.ofString "alike"))) (t_of (c_eqS (ix12 (val_var rfl) val_c) val_c)) ?_
            refine b_if (fun hc6 => ?_) (fun hc6 => ?_)
            · have hW := ifP hW hc6
              exact hW.elim
            · have hW := ifN hW hc6
              refine hN14 _ _ ?_
              refine q_sq fun N15 hN15 => ?_
              refine f_LE ?_
              refine e_lst ?_
              refine a_val (v := (.int (-1))) (v_neg val_c) ?_
              refine a_val (v := (.int ((top1 : Nat) : Int))) (val_var rfl) ?_
              refine a_val (v := (.bl (true))) val_c ?_
              refine a_val (v := .non) val_c ?_
              refine a_val (v := (.str ((PySem.Str.ofString "0")))) val_c ?_
              refine a_nil ?_
              refine n_lstX (e := pA) (xs := [(An.i (-1)), (An.i ((top1 : Nat) : Int)), (An.b true), An.n, (An.s (PySem.Str.ofString "0"))]) (vs := [(.int (-1)), (.int ((top1 : Nat) : Int)), (.bl (true)), .non, (.str ((PySem.Str.ofString "0")))]) (show All pA _ [(.int (-1)), (.int ((top1 : Nat) : Int)), (.bl (true)), .non, (.str ((PySem.Str.ofString "0")))] [(An.i (-1)), (An.i ((top1 : Nat) : Int)), (An.b true), An.n, (An.s (PySem.Str.ofString "0"))] from ⟨(show pA.r _ (.int (-1)) (An.i (-1)) from rfl), ⟨(show pA.r _ (.int ((top1 : Nat) : Int)) (An.i ((top1 : Nat) : Int)) from rfl), ⟨(show pA.r _ (.bl (true)) (An.b true) from rfl), ⟨(show pA.r _ V.non An.n from rfl), ⟨(show pA.r _ (.str ((PySem.Str.ofString "0"))) (An.s (PySem.Str.ofString "0")) from rfl), trivial⟩⟩⟩⟩⟩) (show 5 < 1000000 from by decide) w ?_
              intro p8 H18 hp6 s18 x13
              have ne13 := x10.ne hp6
              have ne14 := x9.ne hp6
              replace r1 := Rep.mono _ s18.g r1
              replace x10 := x10.step s18
              replace r2 := Rep.mono _ s18.g r2
              replace r8 := Rep.mono _ s18.g r8
              replace r12 := Rep.mono _ s18.g r12
              replace r15 := Rep.mono _ s18.g r15
              replace x9 := x9.step s18
              replace w := w.tr s18
              replace hG1 := Ex.tr hG1 s18.g
              obtain ⟨F19, w6, g6, r26, fz6⟩ := x13.frzE w
              replace r1 := Rep.mono _ g6 r1
              replace x10 := x10.frzO fz6 ne13 g6
              replace r2 := Rep.mono _ g6 r2
              replace r8 := Rep.mono _ g6 r8
              replace r12 := Rep.mono _ g6 r12
              replace r15 := Rep.mono _ g6 r15
              replace x9 := x9.frzO fz6 ne14 g6
              replace w := w6
              replace hG1 := Ex.tr hG1 g6
              refine w_forL (S := Unit) (fun _ σ' F' H' => ∃ (o1 : Option V), Wf F0 Hb F' H' ∧ Ex F19 F' ∧ σ' = [some v1, some v2, some (.ref ob1), some (.int (z3)), some (.int ((top1 : Nat) : Int)), some (.int ((one1 : Nat) : Int)), some (.int ((x4 : Nat) : Int)), some (.ref p4), some v9, some v10, none, none, none, o1] ∧ XT Hb F' H' cc.t_told_apart (("told_apart" : Str) ++ (".<locals>." : Str) ++ ("<lambda>" : Str)) ∧ RG Hb F' H' F10) r26 hW ⟨_, w, Ex.rfl', rfl, x10, x9⟩ (fun s σ' F' H' hI => by obtain ⟨_, w', gx', _⟩ := hI; exact ⟨gx', w'.f⟩) w.f ?_ ?_
              · intro N16 Bk1 thing1 u1 s19 σ' F20 H19 nx2 bk1 hI2 hx1 ru1 hW hN16 hB1
                obtain ⟨o1, w, gx3, rfl, x14, g7⟩ := hI2
                have r1 := Rep.mono _ gx3 r1
                have r2 := Rep.mono _ gx3 r2
                have r8 := Rep.mono _ gx3 r8
                have r12 := Rep.mono _ gx3 r12
                have r15 := Rep.mono _ gx3 r15
                have r26 := Rep.mono _ gx3 r26
                have hG1 := Ex.tr hG1 gx3
                refine g_name ?_
                refine a_ifE ?_
                refine e_jnT hW (fun b F' H' => b = b ∧ Wf F0 Hb F' H' ∧ Ex F20 F' ∧ XT Hb F' H' cc.t_told_apart (("told_apart" : Str) ++ (".<locals>." : Str) ++ ("<lambda>" : Str)) ∧ RG Hb F' H' F10) ?_ ?_
                · intro N17 hN17 hW
                  have gx4 : Ex F20 F20 := Ex.rfl'
                  refine e_tOr ?_
                  refine e_tNot ?_
                  refine e_tB ?_
                  refine e_call ?_
                  refine a_val (v := (.ref ob1)) (val_var rfl) ?_
                  refine a_val (v := u1) (val_var rfl) ?_
                  refine a_val (v := (.int ((one1 : Nat) : Int))) (val_var rfl) ?_
                  refine a_nil ?_
                  refine ⟨F20, ((.ref ob1)), (z2), (u1), (thing1), ((.int ((one1 : Nat) : Int))), ((An.i ((one1 : Nat) : Int))), _, rfl, w.f, r8, ru1, (show pA.r _ (.int ((one1 : Nat) : Int)) (An.i ((one1 : Nat) : Int)) from rfl), hW, ?_⟩
                  intro z14 hW F21 H20 s20
                  replace r1 := Rep.mono _ s20.g r1
                  replace x14 := x14.step s20
                  replace r2 := Rep.mono _ s20.g r2
                  replace r8 := Rep.mono _ s20.g r8
                  replace r12 := Rep.mono _ s20.g r12
                  replace r15 := Rep.mono _ s20.g r15
                  replace ru1 := Rep.mono _ s20.g ru1
                  replace g7 := g7.step s20
                  replace w := w.tr s20
                  replace gx4 := Ex.tr gx4 s20.g
                  replace gx3 := Ex.tr gx3 s20.g
                  replace hG1 := Ex.tr hG1 s20.g
                  refine bl_v ?_
                  refine bb_ifn (fun hc7 => ?_) (fun hc7 => ?_)
                  · have hW := ifP hW hc7
                    refine e_tNot ?_
                    refine e_tB ?_
                    refine e_call ?_
                    refine a_val (v := (.ref ob1)) (val_var rfl) ?_
                    refine a_val (v := (.int ((one1 : Nat) : Int))) (val_var rfl) ?_
                    refine a_val (v := u1) (val_var rfl) ?_
                    refine a_nil ?_
                    refine ⟨F21, ((.ref ob1)), (z2), ((.int ((one1 : Nat) : Int))), ((An.i ((one1 : Nat) : Int))), (u1), (thing1), _, rfl, w.f, r8, (show pA.r _ (.int ((one1 : Nat) : Int)) (An.i ((one1 : Nat) : Int)) from rfl), ru1, hW, ?_⟩
                    intro z15 hW F22 H21 s21
                    replace r1 := Rep.mono _ s21.g r1
                    replace x14 := x14.step s21
                    replace r2 := Rep.mono _ s21.g r2
                    replace r8 := Rep.mono _ s21.g r8
                    replace r12 := Rep.mono _ s21.g r12
                    replace r15 := Rep.mono _ s21.g r15
                    replace ru1 := Rep.mono _ s21.g ru1
                    replace g7 := g7.step s21
                    replace w := w.tr s21
                    replace gx4 := Ex.tr gx4 s21.g
                    replace gx3 := Ex.tr gx3 s21.g
                    replace hG1 := Ex.tr hG1 s21.g
                    refine bl_v ?_
                    exact hN17 (!z15) _ _ ⟨rfl, w, gx4, x14, g7⟩ hW
                  · have hW := ifN hW hc7
                    exact hN17 true _ _ ⟨rfl, w, gx4, x14, g7⟩ hW
                intro b2 F23 H22 hI3 hW
                obtain ⟨_, w, gx5, x15, x16⟩ := hI3
                have r1 := Rep.mono _ gx5 r1
                have r2 := Rep.mono _ gx5 r2
                have r8 := Rep.mono _ gx5 r8
                have r12 := Rep.mono _ gx5 r12
                have r15 := Rep.mono _ gx5 r15
                have ru1 := Rep.mono _ gx5 ru1
                have gx3 := Ex.tr gx3 gx5
                have hG1 := Ex.tr hG1 gx5
                refine bb_if (fun hc8 => ?_) (fun hc8 => ?_)
                · have hW := ifP hW hc8
                  refine a_ret (v := (.bl (false))) val_c ?_
                  exact hQ _ hW _ _ w x15
                · have hW := ifN hW hc8
                  exact hN16 () _ _ _ ⟨_, w, gx3, rfl, x15, x16⟩ hW
              · intro s22 σ' F24 H23 hI4 hW
                obtain ⟨o1, w, gx6, rfl, x14, g7⟩ := hI4
                have r1 := Rep.mono _ gx6 r1
                have r2 := Rep.mono _ gx6 r2
                have r8 := Rep.mono _ gx6 r8
                have r12 := Rep.mono _ gx6 r12
                have r15 := Rep.mono _ gx6 r15
                have r26 := Rep.mono _ gx6 r26
                have hG1 := Ex.tr hG1 gx6
                refine hN15 _ _ ?_
                refine a_ret (v := (.bl (true))) val_c ?_
                exact hQ _ hW _ _ w x14
      · replace hW := hW.2 n1 hz1
        have r27 := alt_r r13 hz1
        refine a_asgE ?_
        refine e_call ?_
        refine a_val (v := (.ref ob1)) (val_var rfl) ?_
        refine a_val (v := (.int ((x4 : Nat) : Int))) (val_var rfl) ?_
        refine a_val (v := (.int ((one1 : Nat) : Int))) (val_var rfl) ?_
        refine a_nil ?_
        refine ⟨F11, ((.ref ob1)), (z2), (x4), (one1), _, rfl, w.f, r8, (x6.toL (List.mem_cons_self ..)), hW, ?_⟩
        intro z16 hW v17 F25 H24 s23 r28 x17
        have z17 := x6.zero
        replace w := w.mcall (L := [cc.t_told_apart]) (allL1 z17) s23 (allL1 x17.nF)
        replace r1 := Rep.mono _ s23.g r1
        replace r2 := Rep.mono _ s23.g r2
        replace r8 := Rep.mono _ s23.g r8
        replace r12 := Rep.mono _ s23.g r12
        replace rg1 := rg1.away (allL1 ne7) s23
        replace hG1 := Ex.tr hG1 s23.g
        replace x17 := XT.fromL x17 z17
        refine hN10 _ _ ?_
        refine q_sq fun N18 hN18 => ?_
        refine a_ifE ?_
        refine e_jnT hW (fun b F' H' => b = b ∧ Wf F0 Hb F' H' ∧ Ex F25 F' ∧ XT Hb F' H' cc.t_told_apart (("told_apart" : Str) ++ (".<locals>." : Str) ++ ("<lambda>" : Str)) ∧ RG Hb F' H' F10) ?_ ?_
        · intro N19 hN19 hW
          have gx7 : Ex F25 F25 := Ex.rfl'
          refine e_tOr ?_
          obtain ⟨_, rfl, ix13⟩ := ix_alt (K := K) (pa := fun z => z.1) (pb := fun z => z.1) r28 (fun _ q => ix_3a q w.f) (fun _ q => ix_3a q w.f)
          obtain ⟨_, rfl, ix14⟩ := ix_3a (K := K) r27 rg1.h
          refine e_ans (b := decide ((Sum.elim (fun z => z.1) (fun z => z.1) z16) ≠ n1.1)) (t_of (c_neS (ix13 (val_var rfl) val_c) (ix14 (val_var rfl) val_c))) ?_
          refine b_if (fun hc9 => ?_) (fun hc9 => ?_)
          · have hW := ifP hW hc9
            exact hN19 true _ _ ⟨rfl, w, gx7, x17, rg1⟩ hW
          · have hW := ifN hW hc9
            refine e_tAnd ?_
            obtain ⟨_, rfl, ix15⟩ := ix_3a (K := K) r27 rg1.h
            refine e_ans (b := decide (n1.1 = (PySem.Str.ofString "apart"))) (t_of (c_eqS (ix15 (val_var rfl) val_c) val_c)) ?_
            refine b_if (fun hc10 => ?_) (fun hc10 => ?_)
            · have hW := ifP hW hc10
              obtain ⟨y2, hy2, hW⟩ := hW
              have r31 := alt_r r28 hy2
              obtain ⟨v20, r32, ix16⟩ := ix_3b (K := K) r31 w.f
              obtain ⟨v21, r33, ix17⟩ := ix_3b (K := K) r27 rg1.h
              refine e_ans (b := decide (y2.2.1 ≠ n1.2.1)) (t_of (c_neD (K := K) (e := (pL pN)) (ix16 (val_var rfl) val_c) (ix17 (val_var rfl) val_c) w.f r32 rg1.h r33)) ?_
              exact hN19 (decide (y2.2.1 ≠ n1.2.1)) _ _ ⟨rfl, w, gx7, x17, rg1⟩ hW
            · have hW := ifN hW hc10
              exact hN19 false _ _ ⟨rfl, w, gx7, x17, rg1⟩ hW
        intro b3 F26 H25 hI5 hW
        obtain ⟨_, w, gx8, x18, x19⟩ := hI5
        have r1 := Rep.mono _ gx8 r1
        have r2 := Rep.mono _ gx8 r2
        have r8 := Rep.mono _ gx8 r8
        have r12 := Rep.mono _ gx8 r12
        have r28 := Rep.mono _ gx8 r28
        have hG1 := Ex.tr hG1 gx8
        refine bb_if (fun hc11 => ?_) (fun hc11 => ?_)
        · have hW := ifP hW hc11
          refine a_ret (v := (.bl (false))) val_c ?_
          exact hQ _ hW _ _ w x18
        · have hW := ifN hW hc11
          refine hN18 _ _ ?_
          refine q_sq fun N20 hN20 => ?_
          refine a_ifE ?_
          refine e_tT ?_
          refine e_op ?_
          refine e_call ?_
          refine a_val (v := (.ref ob1)) (val_var rfl) ?_
          refine a_val (v := (.int ((one1 : Nat) : Int))) (val_var rfl) ?_
          refine a_val (v := (.int ((one1 : Nat) : Int))) (val_var rfl) ?_
          refine a_nil ?_
          refine ⟨F26, ((.ref ob1)), (z2), (one1), (one1), _, rfl, w.f, r8, (x18.toL (List.mem_cons_self ..)), hW, ?_⟩
          intro z18 hW v22 F27 H26 s24 r34 x20
          have z19 := x18.zero
          replace w := w.mcall (L := [cc.t_told_apart]) (allL1 z19) s24 (allL1 x20.nF)
          replace r1 := Rep.mono _ s24.g r1
          replace r2 := Rep.mono _ s24.g r2
          replace r8 := Rep.mono _ s24.g r8
          replace r12 := Rep.mono _ s24.g r12
          replace r28 := Rep.mono _ s24.g r28
          replace x19 := x19.away (allL1 ne7) s24
          replace hG1 := Ex.tr hG1 s24.g
          replace x20 := XT.fromL x20 z19
          refine e_tup ?_
          refine a_val (v := (.str ((PySem.Str.ofString "alike")))) val_c ?_
          refine a_cons ?_
          refine e_lst ?_
          refine a_nil ?_
          refine n_lstX (e := pN) (xs := []) (vs := []) (show All pN _ [] [] from trivial) (show 0 < 1000000 from by decide) w ?_
          intro p9 H27 hp7 s25 x21
          have ne15 := x20.ne hp7
          have ne16 := x19.ne hp7
          replace r1 := Rep.mono _ s25.g r1
          replace x20 := x20.step s25
          replace r2 := Rep.mono _ s25.g r2
          replace r8 := Rep.mono _ s25.g r8
          replace r12 := Rep.mono _ s25.g r12
          replace r28 := Rep.mono _ s25.g r28
          replace r34 := Rep.mono _ s25.g r34
          replace x19 := x19.step s25
          replace w := w.tr s25
          replace hG1 := Ex.tr hG1 s25.g
          refine a_cons ?_
          refine e_lst ?_
          refine a_nil ?_
          refine n_lstX (e := (pL pN)) (xs := []) (vs := []) (show All (pL pN) _ [] [] from trivial) (show 0 < 1000000 from by decide) w ?_
          intro p10 H28 hp8 s26 x22
          have ne17 := x20.ne hp8
          have ne18 := x21.ne hp8
          have ne19 := x19.ne hp8
          replace r1 := Rep.mono _ s26.g r1
          replace x20 := x20.step s26
          replace r2 := Rep.mono _ s26.g r2
          replace r8 := Rep.mono _ s26.g r8
          replace r12 := Rep.mono _ s26.g r12
          replace r28 := Rep.mono _ s26.g r28
          replace r34 := Rep.mono _ s26.g r34
          replace x21 := x21.step s26
          replace x19 := x19.step s26
          replace w := w.tr s26
          replace hG1 := Ex.tr hG1 s26.g
          refine a_nil ?_
          obtain ⟨F28, w7, g8, r35, fz7⟩ := x21.frzE w
          replace r1 := Rep.mono _ g8 r1
          replace x20 := x20.frzO fz7 ne15 g8
          replace r2 := Rep.mono _ g8 r2
          replace r8 := Rep.mono _ g8 r8
          replace r12 := Rep.mono _ g8 r12
          replace r28 := Rep.mono _ g8 r28
          replace r34 := Rep.mono _ g8 r34
          replace x22 := x22.frzO fz7 (Ne.symm ne18) g8
          replace x19 := x19.frzO fz7 ne16 g8
          replace w := w7
          replace hG1 := Ex.tr hG1 g8
          obtain ⟨F29, w8, g9, r36, fz8⟩ := x22.frzE w
          replace r1 := Rep.mono _ g9 r1
          replace x20 := x20.frzO fz8 ne17 g9
          replace r2 := Rep.mono _ g9 r2
          replace r8 := Rep.mono _ g9 r8
          replace r12 := Rep.mono _ g9 r12
          replace r28 := Rep.mono _ g9 r28
          replace r34 := Rep.mono _ g9 r34
          replace r35 := Rep.mono _ g9 r35
          replace x19 := x19.frzO fz8 ne19 g9
          replace w := w8
          replace hG1 := Ex.tr hG1 g9
          refine n_tup3 (e := pS) (f := (pL pN)) (g := (pL (pL pN))) (x := (PySem.Str.ofString "alike")) (y := ([] : List Nat)) (z := ([] : List (List Nat))) rfl r35 r36 w ?_
          intro p11 F30 H29 s27 r37
          replace r1 := Rep.mono _ s27.g r1
          replace x20 := x20.step s27
          replace r2 := Rep.mono _ s27.g r2
          replace r8 := Rep.mono _ s27.g r8
          replace r12 := Rep.mono _ s27.g r12
          replace r28 := Rep.mono _ s27.g r28
          replace r34 := Rep.mono _ s27.g r34
          replace r35 := Rep.mono _ s27.g r35
          replace r36 := Rep.mono _ s27.g r36
          replace x19 := x19.step s27
          replace w := w.tr s27
          replace hG1 := Ex.tr hG1 s27.g
          obtain ⟨c8, hW⟩ := hW
          refine rv2T (b := decide (z18 ≠ (Sum.inr ((PySem.Str.ofString "alike"), ([] : List Nat), ([] : List (List Nat)))))) (c_neO (K := K) (e := (pAlt (pT3 pS pN pN) (pT3 pS (pL pN) (pL (pL pN))))) val_c val_c w.f r34 w.f r37 c8) ?_
          refine b_if (fun hc12 => ?_) (fun hc12 => ?_)
          · have hW := ifP hW hc12
            refine a_ret (v := (.bl (false))) val_c ?_
            exact hQ _ hW _ _ w x20
          · have hW := ifN hW hc12
            refine hN20 _ _ ?_
            refine q_sq fun N21 hN21 => ?_
            refine a_ifE ?_
            obtain ⟨_, rfl, ix18⟩ := ix_3a (K := K) r27 x19.h
            refine e_ans (b := decide (n1.1 = (PySem.Str.ofString "alike"))) (t_of (c_eqS (ix18 (val_var rfl) val_c) val_c)) ?_
            refine b_if (fun hc13 => ?_) (fun hc13 => ?_)
            · have hW := ifP hW hc13
              refine q_sq fun N22 hN22 => ?_
              refine a_asgE ?_
              refine e_tup ?_
              refine a_cons ?_
              refine c_LE ?_
              obtain ⟨v24, r39, ix19⟩ := ix_3c (K := K) r27 x19.h
              refine e_val (v := v24) (ix19 (val_var rfl) val_c) ?_
              obtain ⟨c9, hW⟩ := hW
              refine w_compRG (e := (pL pN)) x19 r39 w c9 hW ?_ ?_
              · intro Qy Qn places1 u2 F31 H30 R1 q1 hx2 ru2 hW hy3 hn1
                have r1 := Rep.mono _ q1.g r1
                have x20 := x20.step q1
                have r2 := Rep.mono _ q1.g r2
                have r8 := Rep.mono _ q1.g r8
                have r12 := Rep.mono _ q1.g r12
                have r28 := Rep.mono _ q1.g r28
                have x19 := x19.step q1
                have w := Wf.id q1.f
                refine ⟨rfl, ?_⟩
                refine c_yes ?_
                refine e_cb ?_
                refine a_val (v := u2) (val_var rfl) ?_
                refine a_nil ?_
                refine n_listG (F := F31) (G := F10) (e' := pN) (fun h => h) ru2 x19.h w ?_
                intro p12 H31 hp9 s28 x23
                have ne20 := x20.ne hp9
                have ne21 := x19.ne hp9
                replace r1 := Rep.mono _ s28.g r1
                replace x20 := x20.step s28
                replace r2 := Rep.mono _ s28.g r2
                replace r8 := Rep.mono _ s28.g r8
                replace r12 := Rep.mono _ s28.g r12
                replace r28 := Rep.mono _ s28.g r28
                replace x19 := x19.step s28
                replace w := w.tr s28
                obtain ⟨F32, w9, g10, r40, fz9⟩ := x23.frzE w
                replace r1 := Rep.mono _ g10 r1
                replace x20 := x20.frzO fz9 ne20 g10
                replace r2 := Rep.mono _ g10 r2
                replace r8 := Rep.mono _ g10 r8
                replace r12 := Rep.mono _ g10 r12
                replace r28 := Rep.mono _ g10 r28
                replace x19 := x19.frzO fz9 ne21 g10
                replace w := w9
                exact hy3 _ _ _ _ w r40 hW
              intro p13 ys1 F33 H32 hp10 s29 x24 hW
              have ne22 := x20.ne hp10
              have ne23 := x19.ne hp10
              replace r1 := Rep.mono _ s29.g r1
              replace x20 := x20.step s29
              replace r2 := Rep.mono _ s29.g r2
              replace r8 := Rep.mono _ s29.g r8
              replace r12 := Rep.mono _ s29.g r12
              replace r28 := Rep.mono _ s29.g r28
              replace x19 := x19.step s29
              replace w := w.tr s29
              replace hG1 := Ex.tr hG1 s29.g
              refine a_cons ?_
              refine e_cb ?_
              obtain ⟨v25, r41, ix20⟩ := ix_3b (K := K) r27 x19.h
              refine a_val (v := v25) (ix20 (val_var rfl) val_c) ?_
              refine a_nil ?_
              refine n_listG (F := F33) (G := F10) (e' := pN) (fun h => h) r41 x19.h w ?_
              intro p14 H33 hp11 s30 x25
              have ne24 := x20.ne hp11
              have ne25 := x24.ne hp11
              have ne26 := x19.ne hp11
              replace r1 := Rep.mono _ s30.g r1
              replace x20 := x20.step s30
              replace r2 := Rep.mono _ s30.g r2
              replace r8 := Rep.mono _ s30.g r8
              replace r12 := Rep.mono _ s30.g r12
              replace r28 := Rep.mono _ s30.g r28
              replace x24 := x24.step s30
              replace x19 := x19.step s30
              replace w := w.tr s30
              replace hG1 := Ex.tr hG1 s30.g
              refine a_nil ?_
              obtain ⟨F34, w10, g11, r42, fz10⟩ := x24.frzE w
              replace r1 := Rep.mono _ g11 r1
              replace x20 := x20.frzO fz10 ne22 g11
              replace r2 := Rep.mono _ g11 r2
              replace r8 := Rep.mono _ g11 r8
              replace r12 := Rep.mono _ g11 r12
              replace r28 := Rep.mono _ g11 r28
              replace x25 := x25.frzO fz10 (Ne.symm ne25) g11
              replace x19 := x19.frzO fz10 ne23 g11
              replace w := w10
              replace hG1 := Ex.tr hG1 g11
              obtain ⟨F35, w11, g12, r43, fz11⟩ := x25.frzE w
              replace r1 := Rep.mono _ g12 r1
              replace x20 := x20.frzO fz11 ne24 g12
              replace r2 := Rep.mono _ g12 r2
              replace r8 := Rep.mono _ g12 r8
              replace r12 := Rep.mono _ g12 r12
              replace r28 := Rep.mono _ g12 r28
              replace r42 := Rep.mono _ g12 r42
              replace x19 := x19.frzO fz11 ne26 g12
              replace w := w11
              replace hG1 := Ex.tr hG1 g12
              refine n_tup2 (e := (pL (pL pN))) (f := (pL pN)) (x := ys1) (y := n1.2.1) r42 r43 w ?_
              intro p15 F36 H34 s31 r44
              replace r1 := Rep.mono _ s31.g r1
              replace x20 := x20.step s31
              replace r2 := Rep.mono _ s31.g r2
              replace r8 := Rep.mono _ s31.g r8
              replace r12 := Rep.mono _ s31.g r12
              replace r28 := Rep.mono _ s31.g r28
              replace r42 := Rep.mono _ s31.g r42
              replace r43 := Rep.mono _ s31.g r43
              replace x19 := x19.step s31
              replace w := w.tr s31
              replace hG1 := Ex.tr hG1 s31.g
              refine hN22 _ _ ?_
              refine q_sq fun N23 hN23 => ?_
              have rd1 := x19.rd
              have rg2 := x19.nl
              have ne27 := nl_ne ne7
              have r45 := T3_at r27
              refine a_dropE ?_
              obtain ⟨v26, r46, ix21⟩ := ix_3b (K := K) r45 rg2.h
              obtain ⟨p16, vs1, rfl, hp12, hl1⟩ := L_at r46
              refine m_rd rd1 hp12 (ix21 (val_var rfl) val_c) ?_
              refine a_val (v := (.int ((0 : Nat) : Int))) val_c ?_
              refine a_nil ?_
              obtain ⟨c10, hW⟩ := hW
              refine a_appD rd1 hp12 w (by rw [hl1]; exact c10) (fun H35 w12 rd2 kp1 => ?_)
              replace x20 := x20.kept kp1 (ne_rg ne7 hp12)
              replace rg2 := rg2.kept kp1 (nl_lst hp12)
              replace w := w12
              refine hN23 _ _ ?_
              refine q_sq fun N24 hN24 => ?_
              refine a_dropE ?_
              obtain ⟨v27, r47, ix22⟩ := ix_3c (K := K) r45 rg2.h
              obtain ⟨p17, vs2, rfl, hp13, hl2⟩ := L_at r47
              refine m_rd rd2 hp13 (ix22 (val_var rfl) val_c) ?_
              refine a_cons ?_
              refine e_lst ?_
              refine a_val (v := (.int ((0 : Nat) : Int))) val_c ?_
              refine a_nil ?_
              refine n_lstX (e := pN) (xs := [0]) (vs := [(.int ((0 : Nat) : Int))]) (show All pN _ [(.int ((0 : Nat) : Int))] [0] from ⟨rfl, trivial⟩) (show 1 < 1000000 from by decide) w ?_
              intro p18 H36 hp14 s32 x26
              have ne28 := x20.ne hp14
              have ne29 := rd2.ne hp14
              have ne30 := rg2.ne hp14
              replace r1 := Rep.mono _ s32.g r1
              replace x20 := x20.step s32
              replace r2 := Rep.mono _ s32.g r2
              replace r8 := Rep.mono _ s32.g r8
              replace r12 := Rep.mono _ s32.g r12
              replace r28 := Rep.mono _ s32.g r28
              replace r44 := Rep.mono _ s32.g r44
              replace rd2 := rd2.step s32
              replace rg2 := rg2.step s32
              replace w := w.tr s32
              replace hG1 := Ex.tr hG1 s32.g
              refine a_nil ?_
              obtain ⟨F37, w13, g13, r48, fz12⟩ := x26.frzE w
              replace r1 := Rep.mono _ g13 r1
              replace x20 := x20.frzO fz12 ne28 g13
              replace r2 := Rep.mono _ g13 r2
              replace r8 := Rep.mono _ g13 r8
              replace r12 := Rep.mono _ g13 r12
              replace r28 := Rep.mono _ g13 r28
              replace r44 := Rep.mono _ g13 r44
              replace rd2 := rd2.frzO fz12 ne29 g13
              replace rg2 := rg2.frzO fz12 ne30 g13
              replace w := w13
              replace hG1 := Ex.tr hG1 g13
              obtain ⟨c11, hW⟩ := hW
              refine a_appD rd2 hp13 w (by rw [hl2]; exact c11) (fun H37 w14 rd3 kp2 => ?_)
              replace x20 := x20.kept kp2 (ne_rg ne7 hp13)
              replace rg2 := rg2.kept kp2 (nl_lst hp13)
              replace w := w14
              refine hN24 _ _ ?_
              refine q_sq fun N25 hN25 => ?_
              refine a_asgE ?_
              refine e_call ?_
              refine a_val (v := (.ref ob1)) (val_var rfl) ?_
              refine a_val (v := (.int ((one1 : Nat) : Int))) (val_var rfl) ?_
              refine a_val (v := (.int ((x4 : Nat) : Int))) (val_var rfl) ?_
              refine a_nil ?_
              refine ⟨F37, ((.ref ob1)), (z2), (one1), (x4), _, rfl, w.f, r8, (x20.toL (List.mem_cons_self ..)), hW, ?_⟩
              intro z20 hW v28 F38 H38 s33 r49 x27
              have z21 := x20.zero
              replace w := w.mcall (L := [cc.t_told_apart]) (allL1 z21) s33 (allL1 x27.nF)
              replace r1 := Rep.mono _ s33.g r1
              replace r2 := Rep.mono _ s33.g r2
              replace r8 := Rep.mono _ s33.g r8
              replace r12 := Rep.mono _ s33.g r12
              replace r28 := Rep.mono _ s33.g r28
              replace r44 := Rep.mono _ s33.g r44
              replace rd3 := rd3.away (allL1 ne7) s33
              replace rg2 := rg2.away (allL1 ne27) s33
              replace hG1 := Ex.tr hG1 s33.g
              replace x27 := XT.fromL x27 z21
              refine hN25 _ _ ?_
              refine a_ifE ?_
              refine e_jnT hW (fun b F' H' => b = b ∧ Wf F0 Hb F' H' ∧ Ex F38 F' ∧ XT Hb F' H' cc.t_told_apart (("told_apart" : Str) ++ (".<locals>." : Str) ++ ("<lambda>" : Str)) ∧ RD Hb F' H' F10 2 ∧ RG Hb F' H' (nl F10)) ?_ ?_
              · intro N26 hN26 hW
                have gx9 : Ex F38 F38 := Ex.rfl'
                refine e_tOr ?_
                obtain ⟨_, rfl, ix23⟩ := ix_alt (K := K) (pa := fun z => z.1) (pb := fun z => z.1) r49 (fun _ q => ix_3a q w.f) (fun _ q => ix_3a q w.f)
                refine e_ans (b := decide ((Sum.elim (fun z => z.1) (fun z => z.1) z20) ≠ (PySem.Str.ofString "alike"))) (t_of (c_neS (ix23 (val_var rfl) val_c) val_c)) ?_
                refine b_if (fun hc14 => ?_) (fun hc14 => ?_)
                · have hW := ifP hW hc14
                  exact hN26 true _ _ ⟨rfl, w, gx9, x27, rd3, rg2⟩ hW
                · have hW := ifN hW hc14
                  refine e_tT ?_
                  refine e_op ?_
                  refine e_tup ?_
                  obtain ⟨y3, hy4, hW⟩ := hW
                  have r50 := alt_r r49 hy4
                  obtain ⟨v29, r51, ix24⟩ := ix_3c (K := K) r50 w.f
                  refine a_val (v := v29) (ix24 (val_var rfl) val_c) ?_
                  obtain ⟨v30, r52, ix25⟩ := ix_3b (K := K) r50 w.f
                  refine a_val (v := v30) (ix25 (val_var rfl) val_c) ?_
                  refine a_nil ?_
                  refine n_tup2 (e := (pL (pL pN))) (f := (pL pN)) (x := y3.2.2) (y := y3.2.1) r51 r52 w ?_
                  intro p19 F39 H39 s34 r53
                  replace r1 := Rep.mono _ s34.g r1
                  replace x27 := x27.step s34
                  replace r2 := Rep.mono _ s34.g r2
                  replace r8 := Rep.mono _ s34.g r8
                  replace r12 := Rep.mono _ s34.g r12
                  replace r28 := Rep.mono _ s34.g r28
                  replace r44 := Rep.mono _ s34.g r44
                  replace r50 := Rep.mono _ s34.g r50
                  replace r51 := Rep.mono _ s34.g r51
                  replace r52 := Rep.mono _ s34.g r52
                  replace rd3 := rd3.step s34
                  replace rg2 := rg2.step s34
                  replace w := w.tr s34
                  replace gx9 := Ex.tr gx9 s34.g
                  replace hG1 := Ex.tr hG1 s34.g
                  refine e_val (v := (.ref p15)) (val_var rfl) ?_
                  refine rv2T (b := decide ((y3.2.2, y3.2.1) ≠ (ys1, n1.2.1))) (c_neD (K := K) (e := (pT2 (pL (pL pN)) (pL pN))) val_c val_c w.f r53 w.f r44) ?_
                  exact hN26 (decide ((y3.2.2, y3.2.1) ≠ (ys1, n1.2.1))) _ _ ⟨rfl, w, gx9, x27, rd3, rg2⟩ hW
              intro b4 F40 H40 hI6 hW
              obtain ⟨_, w, gx10, x28, x29, x30⟩ := hI6
              have r1 := Rep.mono _ gx10 r1
              have r2 := Rep.mono _ gx10 r2
              have r8 := Rep.mono _ gx10 r8
              have r12 := Rep.mono _ gx10 r12
              have r28 := Rep.mono _ gx10 r28
              have r44 := Rep.mono _ gx10 r44
              have r49 := Rep.mono _ gx10 r49
              have hG1 := Ex.tr hG1 gx10
              refine bb_if (fun hc15 => ?_) (fun hc15 => ?_)
              · have hW := ifP hW hc15
                refine a_ret (v := (.bl (false))) val_c ?_
                exact hQ _ hW _ _ w x28
              · have hW := ifN hW hc15
                refine hN21 _ _ ?_
                refine q_sq fun N27 hN27 => ?_
                refine f_LE ?_
                refine e_lst ?_
                refine a_val (v := (.int (-1))) (v_neg val_c) ?_
                refine a_val (v := (.int ((top1 : Nat) : Int))) (val_var rfl) ?_
                refine a_val (v := (.bl (true))) val_c ?_
                refine a_val (v := .non) val_c ?_
                refine a_val (v := (.str ((PySem.Str.ofString "0")))) val_c ?_
                refine a_nil ?_
                refine n_lstX (e := pA) (xs := [(An.i (-1)), (An.i ((top1 : Nat) : Int)), (An.b true), An.n, (An.s (PySem.Str.ofString "0"))]) (vs := [(.int (-1)), (.int ((top1 : Nat) : Int)), (.bl (true)), .non, (.str ((PySem.Str.ofString "0")))]) (show All pA _ [(.int (-1)), (.int ((top1 : Nat) : Int)), (.bl (true)), .non, (.str ((PySem.Str.ofString "0")))] [(An.i (-1)), (An.i ((top1 : Nat) : Int)), (An.b true), An.n, (An.s (PySem.Str.ofString "0"))] from ⟨(show pA.r _ (.int (-1)) (An.i (-1)) from rfl), ⟨(show pA.r _ (.int ((top1 : Nat) : Int)) (An.i ((top1 : Nat) : Int)) from rfl), ⟨(show pA.r _ (.bl (true)) (An.b true) from rfl), ⟨(show pA.r _ V.non An.n from rfl), ⟨(show pA.r _ (.str ((PySem.Str.ofString "0"))) (An.s (PySem.Str.ofString "0")) from rfl), trivial⟩⟩⟩⟩⟩) (show 5 < 1000000 from by decide) w ?_
                intro p20 H41 hp15 s35 x31
                have ne31 := x28.ne hp15
                have ne32 := x29.ne hp15
                have ne33 := x30.ne hp15
                replace r1 := Rep.mono _ s35.g r1
                replace x28 := x28.step s35
                replace r2 := Rep.mono _ s35.g r2
                replace r8 := Rep.mono _ s35.g r8
                replace r12 := Rep.mono _ s35.g r12
                replace r28 := Rep.mono _ s35.g r28
                replace r44 := Rep.mono _ s35.g r44
                replace r49 := Rep.mono _ s35.g r49
                replace x29 := x29.step s35
                replace x30 := x30.step s35
                replace w := w.tr s35
                replace hG1 := Ex.tr hG1 s35.g
                obtain ⟨F41, w15, g14, r54, fz13⟩ := x31.frzE w
                replace r1 := Rep.mono _ g14 r1
                replace x28 := x28.frzO fz13 ne31 g14
                replace r2 := Rep.mono _ g14 r2
                replace r8 := Rep.mono _ g14 r8
                replace r12 := Rep.mono _ g14 r12
                replace r28 := Rep.mono _ g14 r28
                replace r44 := Rep.mono _ g14 r44
                replace r49 := Rep.mono _ g14 r49
                replace x29 := x29.frzO fz13 ne32 g14
                replace x30 := x30.frzO fz13 ne33 g14
                replace w := w15
                replace hG1 := Ex.tr hG1 g14
                refine w_forL (S := Unit) (fun _ σ' F' H' => ∃ (o2 : Option V), Wf F0 Hb F' H' ∧ Ex F41 F' ∧ σ' = [some v1, some v2, some (.ref ob1), some (.int (z3)), some (.int ((top1 : Nat) : Int)), some (.int ((one1 : Nat) : Int)), some (.int ((x4 : Nat) : Int)), some (.ref p4), some v9, some v17, some (.ref p15), none, some v28, o2] ∧ XT Hb F' H' cc.t_told_apart (("told_apart" : Str) ++ (".<locals>." : Str) ++ ("<lambda>" : Str)) ∧ RD Hb F' H' F10 2 ∧ RG Hb F' H' (nl F10)) r54 hW ⟨_, w, Ex.rfl', rfl, x28, x29, x30⟩ (fun s σ' F' H' hI => by obtain ⟨_, w', gx', _⟩ := hI; exact ⟨gx', w'.f⟩) w.f ?_ ?_
                · intro N28 Bk2 thing2 u3 s36 σ' F42 H42 nx3 bk2 hI7 hx3 ru3 hW hN28 hB2
                  obtain ⟨o2, w, gx11, rfl, x32, g15, g16⟩ := hI7
                  have r1 := Rep.mono _ gx11 r1
                  have r2 := Rep.mono _ gx11 r2
                  have r8 := Rep.mono _ gx11 r8
                  have r12 := Rep.mono _ gx11 r12
                  have r28 := Rep.mono _ gx11 r28
                  have r44 := Rep.mono _ gx11 r44
                  have r49 := Rep.mono _ gx11 r49
                  have r54 := Rep.mono _ gx11 r54
                  have hG1 := Ex.tr hG1 gx11
                  refine g_name ?_
                  refine a_ifE ?_
                  refine e_jnT hW (fun b F' H' => b = b ∧ Wf F0 Hb F' H' ∧ Ex F42 F' ∧ XT Hb F' H' cc.t_told_apart (("told_apart" : Str) ++ (".<locals>." : Str) ++ ("<lambda>" : Str)) ∧ RD Hb F' H' F10 2 ∧ RG Hb F' H' (nl F10)) ?_ ?_
                  · intro N29 hN29 hW
                    have gx12 : Ex F42 F42 := Ex.rfl'
                    refine e_tOr ?_
                    refine e_tNot ?_
                    refine e_tB ?_
                    refine e_call ?_
                    refine a_val (v := (.ref ob1)) (val_var rfl) ?_
                    refine a_val (v := u3) (val_var rfl) ?_
                    refine a_val (v := (.int ((one1 : Nat) : Int))) (val_var rfl) ?_
                    refine a_nil ?_
                    refine ⟨F42, ((.ref ob1)), (z2), (u3), (thing2), ((.int ((one1 : Nat) : Int))), ((An.i ((one1 : Nat) : Int))), _, rfl, w.f, r8, ru3, (show pA.r _ (.int ((one1 : Nat) : Int)) (An.i ((one1 : Nat) : Int)) from rfl), hW, ?_⟩
                    intro z22 hW F43 H43 s37
                    replace r1 := Rep.mono _ s37.g r1
                    replace x32 := x32.step s37
                    replace r2 := Rep.mono _ s37.g r2
                    replace r8 := Rep.mono _ s37.g r8
                    replace r12 := Rep.mono _ s37.g r12
                    replace r28 := Rep.mono _ s37.g r28
                    replace r44 := Rep.mono _ s37.g r44
                    replace r49 := Rep.mono _ s37.g r49
                    replace ru3 := Rep.mono _ s37.g ru3
                    replace g15 := g15.step s37
                    replace g16 := g16.step s37
                    replace w := w.tr s37
                    replace gx12 := Ex.tr gx12 s37.g
                    replace gx11 := Ex.tr gx11 s37.g
                    replace hG1 := Ex.tr hG1 s37.g
                    refine bl_v ?_
                    refine bb_ifn (fun hc16 => ?_) (fun hc16 => ?_)
                    · have hW := ifP hW hc16
                      refine e_tNot ?_
                      refine e_tB ?_
                      refine e_call ?_
                      refine a_val (v := (.ref ob1)) (val_var rfl) ?_
                      refine a_val (v := (.int ((one1 : Nat) : Int))) (val_var rfl) ?_
                      refine a_val (v := u3) (val_var rfl) ?_
                      refine a_nil ?_
                      refine ⟨F43, ((.ref ob1)), (z2), ((.int ((one1 : Nat) : Int))), ((An.i ((one1 : Nat) : Int))), (u3), (thing2), _, rfl, w.f, r8, (show pA.r _ (.int ((one1 : Nat) : Int)) (An.i ((one1 : Nat) : Int)) from rfl), ru3, hW, ?_⟩
                      intro z23 hW F44 H44 s38
                      replace r1 := Rep.mono _ s38.g r1
                      replace x32 := x32.step s38
                      replace r2 := Rep.mono _ s38.g r2
                      replace r8 := Rep.mono _ s38.g r8
                      replace r12 := Rep.mono _ s38.g r12
                      replace r28 := Rep.mono _ s38.g r28
                      replace r44 := Rep.mono _ s38.g r44
                      replace r49 := Rep.mono _ s38.g r49
                      replace ru3 := Rep.mono _ s38.g ru3
                      replace g15 := g15.step s38
                      replace g16 := g16.step s38
                      replace w := w.tr s38
                      replace gx12 := Ex.tr gx12 s38.g
                      replace gx11 := Ex.tr gx11 s38.g
                      replace hG1 := Ex.tr hG1 s38.g
                      refine bl_v ?_
                      exact hN29 (!z23) _ _ ⟨rfl, w, gx12, x32, g15, g16⟩ hW
                    · have hW := ifN hW hc16
                      exact hN29 true _ _ ⟨rfl, w, gx12, x32, g15, g16⟩ hW
                  intro b5 F45 H45 hI8 hW
                  obtain ⟨_, w, gx13, x33, x34, x35⟩ := hI8
                  have r1 := Rep.mono _ gx13 r1
                  have r2 := Rep.mono _ gx13 r2
                  have r8 := Rep.mono _ gx13 r8
                  have r12 := Rep.mono _ gx13 r12
                  have r28 := Rep.mono _ gx13 r28
                  have r44 := Rep.mono _ gx13 r44
                  have r49 := Rep.mono _ gx13 r49
                  have ru3 := Rep.mono _ gx13 ru3
                  have gx11 := Ex.tr gx11 gx13
                  have hG1 := Ex.tr hG1 gx13
                  refine bb_if (fun hc17 => ?_) (fun hc17 => ?_)
                  · have hW := ifP hW hc17
                    refine a_ret (v := (.bl (false))) val_c ?_
                    exact hQ _ hW _ _ w x33
                  · have hW := ifN hW hc17
                    exact hN28 () _ _ _ ⟨_, w, gx11, rfl, x33, x34, x35⟩ hW
                · intro s39 σ' F46 H46 hI9 hW
                  obtain ⟨o2, w, gx14, rfl, x32, g15, g16⟩ := hI9
                  have r1 := Rep.mono _ gx14 r1
                  have r2 := Rep.mono _ gx14 r2
                  have r8 := Rep.mono _ gx14 r8
                  have r12 := Rep.mono _ gx14 r12
                  have r28 := Rep.mono _ gx14 r28
                  have r44 := Rep.mono _ gx14 r44
                  have r49 := Rep.mono _ gx14 r49
                  have r54 := Rep.mono _ gx14 r54
                  have hG1 := Ex.tr hG1 gx14
                  refine hN27 _ _ ?_
                  refine a_ret (v := (.bl (true))) val_c ?_
                  exact hQ _ hW _ _ w x32
            · have hW := ifN hW hc13
              exact hW.elim
    · have hW := ifN hW hc1
      refine a_ret (v := (.bl (false))) val_c ?_
      exact hQ _ hW _ _ w x6
end My
namespace My
open Wk
theorem w_even {n : Nat} {R : Bool → Prop} (h : R (!par n)) : W_even n R := by
  refine whileW_ind (fun s => s.1 ≤ 1 ∧ xor (decide (s.1 = 1)) (par s.2) = par n) (fun s => s.2) ⟨by show 0 ≤ 1; decide, by simp⟩ ?_
  rintro ⟨many, number⟩ nx ⟨h1, h2⟩ hn
  by_cases hp : 0 < number
  · show if decide (0 < number) = true then _ else _
    rw [if_pos (decide_eq_true hp)]
    rintro _ rfl _ rfl
    refine hn _ ⟨?_, ?_⟩ ?_
    · show many ^^^ (number &&& 1) ≤ 1
      rw [Nat.and_one_is_mod]
      have : many = 0 ∨ many = 1 := by simp at h1; omega
      rcases Nat.mod_two_eq_zero_or_one number with e | e <;> rcases this with f | f <;> rw [e, f] <;> decide
    · show xor (decide (many ^^^ (number &&& 1) = 1)) (par (number >>> 1)) = par n
      rw [← h2, Nat.and_one_is_mod, par_step number, Nat.shiftRight_eq_div_pow, Nat.testBit_zero]
      simp only [Nat.pow_one]
      have : many = 0 ∨ many = 1 := by simp at h1; omega
      rcases Nat.mod_two_eq_zero_or_one number with e | e <;> rcases this with f | f <;> simp [e, f]
    · show number >>> 1 < number
      rw [Nat.shiftRight_eq_div_pow]; omega
  · show if decide (0 < number) = true then _ else _
    rw [if_neg (by simpa using hp)]
    have : number = 0 := by omega
    subst this
    show R (decide (many = 0))
    simp [par_zero] at h2
    rw [← h2] at h
    have e : many = 0 ∨ many = 1 := by simp at h1; omega
    rcases e with f | f <;> subst f <;> simpa using h
end My
namespace My
open Wk
theorem w_bits_of {k n : Nat} {R : List Nat → Prop} (hk : k < 1000000) (hn : n < 2 ^ k) (h : R (bl k n)) : W_bits_of n R := by
  refine whileW_ind (fun s => s.2.1 = n >>> s.2.2 ∧ s.1 = bl s.2.2 n ∧ s.2.2 ≤ k) (fun s => k - s.2.2) ⟨rfl, rfl, Nat.zero_le _⟩ ?_
  rintro ⟨found, mask, place⟩ nx ⟨(rfl : mask = n >>> place), (rfl : found = bl place n), (h3 : place ≤ k)⟩ hx
  show if decide (0 < n >>> place) = true then _ else _
  by_cases hp : 0 < n >>> place
  · rw [if_pos (decide_eq_true hp)]
    have hl : place < k := by
      refine Nat.lt_of_not_le fun z => ?_
      rw [Nat.shiftRight_eq_div_pow, Nat.div_eq_of_lt (Nat.lt_of_lt_of_le hn (Nat.pow_le_pow_right (by decide) z))] at hp
      exact Nat.lt_irrefl _ hp
    have nxt : ∀ (s' : List Nat × Nat × Nat), s' = (bl (place + 1) n, n >>> (place + 1), place + 1) → nx s' := fun s' e => hx s' (by subst e; exact ⟨rfl, rfl, hl⟩) (by
      subst e
      show k - (place + 1) < k - place
      omega)
    have e1 : (n >>> place &&& 1 = 1) ↔ n.testBit place = true := by
      rw [Nat.and_one_is_mod, Nat.testBit_eq_decide_div_mod_eq, Nat.shiftRight_eq_div_pow, decide_eq_true_iff]
    have e2 : n >>> place >>> 1 = n >>> (place + 1) := (Nat.shiftRight_add ..).symm
    show if _ then _ else _
    by_cases hb : n.testBit place = true
    · rw [if_pos (e1.mpr hb)]
      refine ⟨Nat.lt_of_le_of_lt (bl_len _ _) (Nat.lt_of_le_of_lt h3 hk), ?_⟩
      rintro _ rfl _ rfl
      exact nxt _ (by rw [bl_snoc, if_pos hb, e2])
    · rw [if_neg (fun z => hb (e1.mp z))]
      rintro _ rfl _ rfl
      exact nxt _ (by rw [bl_snoc, if_neg hb, e2, List.append_nil])
  · rw [if_neg (by simpa using hp)]
    show R (bl place n)
    rw [← bl_more h3 (Nat.eq_zero_of_not_pos hp)]; exact h
end My
namespace My
open Wk
def cellV (s : List Int) (k : Nat) : Int := if h : k < s.length then s[k] else ((41 * k + 3 : Nat) : Int)
theorem w_cell {s : List Int} {k : Nat} {R : Int → Prop} (h : R (cellV s k)) : W_cell s k R := by
  unfold W_cell
  unfold cellV at h
  by_cases e : k < s.length
  · rw [dif_pos e] at h; rw [if_pos e]; exact ⟨_, List.getElem?_eq_getElem e, h⟩
  · rw [dif_neg e] at h; rw [if_neg e]; exact h
def mixN (c : Int) (k : Nat) : Nat := (((modN c 2147483647) * 48271) + (7919 * k) + 11) % 2147483647
def mixV (c : Int) (k : Nat) : Nat := ((mixN c k * mixN c k % 2147483629) * ((mixN c k * mixN c k % 2147483629 + 48271 * k) + 7)) % 2147483587
theorem w_mix {c : Int} {k : Nat} {R : Nat → Prop} (h : R (mixV c k)) : W_mix c k R := by
  rintro _ rfl
  have b : mixN c k < 2 ^ 64 := Nat.lt_trans (Nat.mod_lt _ (by decide)) (by decide)
  refine ⟨.inl b, ?_⟩
  rintro _ rfl
  exact ⟨.inl (Nat.lt_trans (Nat.mod_lt _ (by decide)) (by decide)), h⟩
end My
namespace My
open Wk
/-- what is kept, behind the rows pre -/
structure KI (pre : List Nat) (kept : List (Nat × (Nat × Nat))) : Prop where
  ent : ∀ t l p, valT kept t = some (l, p) → l ≠ 0 ∧ bits l = t ∧ comb pre p = l ∧ p < 2 ^ pre.length
  top : ∀ v, v ≠ 0 → Span pre v → hasT kept (bits v) = true
theorem KI.nil : KI [] [] := ⟨fun t l p h => (by cases h), fun v h s => absurd (Span.nil.mp s) h⟩
/-- behind lowered -/
structure Low (pre : List Nat) (kept : List (Nat × (Nat × Nat))) (row places left more : Nat) : Prop where
  no : hasT kept (bits left) = false
  by_ : ∃ D, D < 2 ^ pre.length ∧ left = row ^^^ comb pre D ∧ more = places ^^^ D
theorem w_lowered {pre : List Nat} {kept : List (Nat × (Nat × Nat))} (K : KI pre kept) {row places : Nat} {R : Nat × Nat → Prop} (h : ∀ z : Nat × Nat, Low pre kept row places z.1 z.2 → R z) : W_Steps_lowered kept row places R := by
  refine whileW_ind (fun s => ∃ D, D < 2 ^ pre.length ∧ s.1 = row ^^^ comb pre D ∧ s.2 = places ^^^ D) (fun s => bits s.1) ⟨0, Nat.two_pow_pos _, by rw [comb_zero, Nat.xor_zero], by rw [Nat.xor_zero]⟩ ?_
  rintro ⟨r, p⟩ nx ⟨D, hD, (e1 : r = _), (e2 : p = _)⟩ hn
  show if decide (hasT kept (bits r) = true) = true then _ else _
  by_cases q : hasT kept (bits r) = true
  · rw [if_pos (decide_eq_true q)]
    obtain ⟨⟨l, pl⟩, hx⟩ : ∃ x, valT kept (bits r) = some x := by
      unfold hasT at q
      cases hv : valT kept (bits r) with
      | none => rw [hv] at q; cases q
      | some x => exact ⟨x, rfl⟩
    refine ⟨(l, pl), hx, ?_⟩
    rintro _ rfl _ rfl
    obtain ⟨h0, hb, hc, hp⟩ := K.ent _ _ _ hx
    have hr : r ≠ 0 := fun z => by rw [z, bits_zero] at hb; exact h0 (bits_eq_zero.mp hb)
    refine hn _ ⟨D ^^^ pl, Nat.xor_lt_two_pow hD hp, ?_, ?_⟩ (bits_xor_eq hb.symm hr)
    · show r ^^^ l = _
      rw [e1, comb_xor, hc, Nat.xor_assoc]
    · show p ^^^ pl = _
      rw [e2, Nat.xor_assoc]
  · rw [if_neg (by simpa using q)]
    exact h (r, p) ⟨by simpa using q, D, hD, e1, e2⟩
theorem Low.zero {pre : List Nat} {kept : List (Nat × (Nat × Nat))} {row places left more : Nat} (K : KI pre kept) (L : Low pre kept row places left more) : left = 0 ↔ Span pre row := by
  obtain ⟨D, hD, e1, e2⟩ := L.by_
  constructor
  · intro h
    rw [h] at e1
    exact ⟨D, (xor0 e1.symm).symm⟩
  · intro h
    refine Classical.byContradiction fun z => ?_
    have hs : Span pre left := by rw [e1]; exact h.xor ⟨D, rfl⟩
    have := K.top left z hs
    rw [L.no] at this; cases this
/-- what Steps(rows) holds -/
structure StepsOk (rows : List Nat) (z : List (Nat × (Nat × Nat)) × List Nat × List Nat) : Prop where
  ki : KI rows z.1
  nd : (z.1.map (·.1)).Nodup
  kl : z.1.length = z.2.1.length
  fnd : z.2.1 = fndP rows
  gon : ∀ g ∈ z.2.2, g ≠ 0 ∧ comb rows g = 0 ∧ g < 2 ^ rows.length
  inc : z.2.2.Pairwise (fun a b => bits a < bits b)
  len : z.2.1.length + z.2.2.length = rows.length
theorem KI.up {pre : List Nat} {kept : List (Nat × (Nat × Nat))} (K : KI pre kept) {x : Nat} : ∀ t l p, valT kept t = some (l, p) → l ≠ 0 ∧ bits l = t ∧ comb (pre ++ [x]) p = l ∧ p < 2 ^ (pre ++ [x]).length := fun t l p h => by
  obtain ⟨a, b, c, d⟩ := K.ent t l p h
  refine ⟨a, b, by rw [comb_snoc, testBit_big d (Nat.le_refl _), c]; simp, Nat.lt_of_lt_of_le d (Nat.pow_le_pow_right (by decide) (by simp))⟩
theorem keys_putT {κ α : Type} [DecidableEq κ] [KeyT κ] {m : List (κ × α)} {j : κ} {x : α} (hn : (m.map (·.1)).Nodup) : ((putT m j x).map (·.1)).Nodup := by
  unfold putT
  by_cases h : hasT m j = true
  · rw [if_pos h, List.map_map]
    have : ((fun q : κ × α => q.1) ∘ fun q => if q.1 = j then (q.1, x) else q) = fun q => q.1 := by
      funext q
      show (if q.1 = j then (q.1, x) else q).1 = q.1
      by_cases e : q.1 = j
      · rw [if_pos e]
      · rw [if_neg e]
    rw [this]; exact hn
  · rw [if_neg h, List.map_append]
    refine List.nodup_append.mpr ⟨hn, by simp, fun a ha b hb e => ?_⟩
    rw [List.mem_singleton.mp (show b ∈ [j] from hb)] at e
    subst e
    exact h (hasT_iff.mpr ha)
theorem w_Steps_init {rows : List Nat} (hl : rows.length < 1000000) {R : (List (Nat × (Nat × Nat)) × List Nat × List Nat) → Prop} (h : ∀ z, StepsOk rows z → R z) : W_Steps___init__ rows R := by
  refine forW_ind (fun pre (s : List Nat × List (Nat × (Nat × Nat)) × List Nat) => ∃ us, rows = us ++ rows.drop us.length ∧ us.length = pre.length ∧ StepsOk us (s.2.1, s.2.2, s.1)) ⟨[], rfl, rfl, ⟨KI.nil, List.nodup_nil, rfl, rfl, fun g hg => (by cases hg), List.Pairwise.nil, rfl⟩⟩ ?_ ?_
  · rintro pre ⟨i, x⟩ post ⟨gone, kept, found⟩ nx bk e ⟨us, hu, hul, S⟩ hn _
    have hget : (enumT rows)[pre.length]? = some (i, x) := by rw [e, List.getElem?_append_right (Nat.le_refl _), Nat.sub_self]; rfl
    rw [enumT_get] at hget
    obtain ⟨y, hy, ey⟩ := Option.map_eq_some_iff.mp hget
    obtain ⟨rfl, rfl⟩ := Prod.ext_iff.mp ey
    have hlt : pre.length < rows.length := (List.getElem?_eq_some_iff.mp hy).1
    have hus : us ++ [y] = rows.take (us.length + 1) := by
      have e1 : us = rows.take us.length := by
        conv => rhs; rw [hu]
        rw [List.take_append_of_le_length (Nat.le_refl _), List.take_length]
      have e2 : rows[us.length]'(by omega) = y := by
        have := (List.getElem?_eq_some_iff.mp hy).2
        simp only [hul]; exact this
      rw [List.take_succ_eq_append_getElem (by omega), e2, ← e1]
    have hnew : rows = (us ++ [y]) ++ rows.drop (us ++ [y]).length := by
      rw [hus, List.length_take, Nat.min_eq_left (by omega), List.take_append_drop]
    have hsl := S.len
    have hsk := S.kl
    have hi : (pre.length : Nat) = us.length := hul.symm
    show (pre.length < 100000000) ∧ _
    refine ⟨by omega, w_lowered S.ki fun z L => ?_⟩
    have hz := L.zero S.ki
    obtain ⟨D, hD, e1, e2⟩ := L.by_
    have hc : comb (us ++ [y]) z.2 = z.1 := by
      show comb (us ++ [y]) z.2 = z.1
      rw [e2, hi, comb_xor, comb_snoc, comb_pow_len, Nat.testBit_two_pow, decide_eq_true rfl, if_pos rfl, comb_snoc, testBit_big hD (Nat.le_refl _), if_neg (by simp), Nat.zero_xor, Nat.xor_zero, e1]
    have hzb : z.2.testBit us.length = true := by rw [e2, hi, Nat.testBit_xor, Nat.testBit_two_pow, decide_eq_true rfl, testBit_big hD (Nat.le_refl _)]; rfl
    have hzl : z.2 < 2 ^ (us.length + 1) := by
      rw [e2, hi]
      exact Nat.xor_lt_two_pow (Nat.pow_lt_pow_right (by decide) (Nat.lt_succ_self _)) (Nat.lt_of_lt_of_le hD (Nat.pow_le_pow_right (by decide) (Nat.le_succ _)))
    have hzz : bits z.2 = us.length + 1 := bits_of_bit hzb hzl
    have ll : (us ++ [y]).length = us.length + 1 := by simp
    by_cases q : z.1 = 0
    · rw [if_pos q]
      have hs := hz.mp q
      refine ⟨by simp only at hsl; omega, hn _ ⟨us ++ [y], hnew, by simp [hul], ?_⟩⟩
      refine ⟨⟨S.ki.up, fun v hv sv => ?_⟩, S.nd, S.kl, ?_, ?_, ?_, ?_⟩
      · rcases Span.snoc.mp sv with a | a
        · exact S.ki.top v hv a
        · refine S.ki.top v hv ?_
          have := a.xor hs
          rwa [Nat.xor_assoc, Nat.xor_self, Nat.xor_zero] at this
      · rw [fndP_snoc, if_pos hs, List.append_nil]; exact S.fnd
      · intro g hg
        rcases List.mem_append.mp hg with m | m
        · obtain ⟨a, b, c⟩ := S.gon g m
          exact ⟨a, by rw [comb_snoc, testBit_big c (Nat.le_refl _), b]; simp, Nat.lt_of_lt_of_le c (Nat.pow_le_pow_right (by decide) (by simp))⟩
        · rw [List.mem_singleton.mp m]
          exact ⟨fun z0 => by rw [z0, bits_zero] at hzz; omega, by rw [hc, q], by rw [ll]; exact hzl⟩
      · refine List.pairwise_append.mpr ⟨S.inc, List.pairwise_singleton _ _, fun a ha b hb => ?_⟩
        rw [List.mem_singleton.mp hb, hzz]
        exact Nat.lt_succ_of_le (bits_le.mpr (S.gon a ha).2.2)
      · simp only [List.length_append, List.length_singleton] at hsl ⊢; omega
    · rw [if_neg q]
      have hs : ¬ Span us y := fun z0 => q (hz.mpr z0)
      refine ⟨by simp only at hsk hsl; omega, by simp only at hsl; omega, hn _ ⟨us ++ [y], hnew, by simp [hul], ?_⟩⟩
      have hno := L.no
      refine ⟨⟨fun t l p hv => ?_, fun v hv sv => ?_⟩, keys_putT S.nd, ?_, ?_, ?_, S.inc, ?_⟩
      · rw [valT_putT] at hv
        by_cases e : bits z.1 = t
        · rw [if_pos e] at hv
          obtain ⟨rfl, rfl⟩ := Prod.ext_iff.mp (Option.some.inj hv)
          exact ⟨q, e, hc, by rw [ll]; exact hzl⟩
        · rw [if_neg e] at hv
          exact S.ki.up t l p hv
      · show hasT (putT kept (bits z.1) (z.1, z.2)) (bits v) = true
        rw [hasT_putT]
        have key : ∀ u, u ≠ 0 → Span us u → hasT kept (bits u) = true := S.ki.top
        rcases Span.snoc.mp sv with a | a
        · rw [key v hv a, Bool.or_true]
        · have a' : Span us (v ^^^ z.1) := by
            have := a.xor ⟨D, rfl⟩
            rw [e1]; rwa [Nat.xor_assoc] at this
          by_cases hu0 : v ^^^ z.1 = 0
          · rw [xor0 hu0, decide_eq_true rfl]; rfl
          · have hk := key _ hu0 a'
            have hne : bits (v ^^^ z.1) ≠ bits z.1 := fun e => by rw [e, hno] at hk; cases hk
            have hm : bits v = max (bits (v ^^^ z.1)) (bits z.1) := by
              rw [← bits_xor_max hne, Nat.xor_assoc, Nat.xor_self, Nat.xor_zero]
            rcases Nat.le_total (bits (v ^^^ z.1)) (bits z.1) with o | o
            · rw [hm, Nat.max_eq_right o, decide_eq_true rfl]; rfl
            · rw [hm, Nat.max_eq_left o, hk, Bool.or_true]
      · show (putT kept (bits z.1) (z.1, z.2)).length = (found ++ [pre.length]).length
        unfold putT
        rw [if_neg (by rw [hno]; simp), List.length_append, List.length_append]
        simp only at hsk
        rw [hsk]; rfl
      · show found ++ [pre.length] = _
        rw [fndP_snoc, if_neg hs, hi]
        have := S.fnd
        simp only at this
        rw [this]
      · intro g hg
        obtain ⟨a, b, c⟩ := S.gon g hg
        exact ⟨a, by rw [comb_snoc, testBit_big c (Nat.le_refl _), b]; simp, Nat.lt_of_lt_of_le c (Nat.pow_le_pow_right (by decide) (by simp))⟩
      · simp only [List.length_append, List.length_singleton] at hsl ⊢; omega
  · rintro ⟨gone, kept, found⟩ ⟨us, hu, hul, S⟩
    have : us = rows := by
      rw [enumT_len] at hul
      rw [hul, List.drop_length, List.append_nil] at hu
      exact hu.symm
    rw [this] at S
    exact h _ S
end My
namespace My
open Wk
/-- a mask that is even with all rows, and of the bits that no kept row has for its highest has bit alone -/
structure Crs (rows : List Nat) (kept : List (Nat × (Nat × Nat))) (bit m : Nat) : Prop where
  ev : ∀ v, Span rows v → par (v &&& m) = false
  own : ∀ b, hasT kept (b + 1) = false → (m.testBit b = true ↔ b = bit)
  lowz : ∀ j, j < bit → m.testBit j = false
  low : ∀ w, bit < w → (∀ t, hasT kept t = true → t ≤ w) → m < 2 ^ w
theorem and_xor (a b c : Nat) : (a ^^^ b) &&& c = (a &&& c) ^^^ (b &&& c) := Nat.eq_of_testBit_eq fun i => by
  rw [Nat.testBit_and, Nat.testBit_xor, Nat.testBit_xor, Nat.testBit_and, Nat.testBit_and]
  cases a.testBit i <;> cases b.testBit i <;> cases c.testBit i <;> rfl
theorem and_xor' (a b c : Nat) : a &&& (b ^^^ c) = (a &&& b) ^^^ (a &&& c) := by rw [Nat.and_comm, and_xor, Nat.and_comm b, Nat.and_comm c]
theorem and_pow {a k : Nat} : a &&& 2 ^ k = if a.testBit k = true then 2 ^ k else 0 := Nat.eq_of_testBit_eq fun i => by
  rw [Nat.testBit_and, Nat.testBit_two_pow]
  by_cases e : k = i
  · subst e
    by_cases q : a.testBit k = true
    · rw [if_pos q, q, Nat.testBit_two_pow]; simp
    · rw [if_neg q]; simp [q]
  · by_cases q : a.testBit k = true
    · rw [if_pos q, Nat.testBit_two_pow, decide_eq_false e]; simp
    · rw [if_neg q, decide_eq_false e]; simp
theorem w_crossing {rows : List Nat} {z : List (Nat × (Nat × Nat)) × List Nat × List Nat} (S : StepsOk rows z) {bit : Nat} (hb : bit < 100000000) (hbt : hasT z.1 (bit + 1) = false) (hk : z.1.length < 1000000) (ht : ∀ t, hasT z.1 t = true → t < 100000000) {R : Nat → Prop} (h : ∀ m, Crs rows z.1 bit m → R m) : W_Steps_crossing z bit R := by
  refine ⟨hb, ?_⟩
  rintro _ rfl
  refine ⟨hk, fun ys hp hs => ?_⟩
  have key : ∀ t, t ∈ ys ↔ hasT z.1 t = true := fun t => by rw [hp.mem_iff, hasT_iff]
  have nd : ys.Nodup := hp.nodup_iff.mpr S.nd
  refine forW_ind (fun pre (m : Nat) => (∀ t l p, t ∈ pre → valT z.1 t = some (l, p) → par (l &&& m) = false) ∧ (∀ b, m.testBit b = true → b = bit ∨ (b + 1) ∈ pre) ∧ m.testBit bit = true ∧ ∀ j, j < bit → m.testBit j = false) ⟨fun t l p ht => (by cases ht), fun b hb => .inl ?_, by rw [Nat.testBit_two_pow]; simp, fun j hj => by rw [Nat.testBit_two_pow, decide_eq_false (by omega)]⟩ ?_ ?_
  · rw [Nat.testBit_two_pow] at hb; exact (of_decide_eq_true hb).symm
  · rintro pre t post m nx bk e ⟨h1, h2, h3, h4⟩ hx _
    have tm : t ∈ ys := by rw [e]; exact List.mem_append_right _ (List.mem_cons_self ..)
    have tk := (key t).mp tm
    obtain ⟨⟨l, p⟩, hv⟩ : ∃ x, valT z.1 t = some x := by
      unfold hasT at tk
      cases hv : valT z.1 t with
      | none => rw [hv] at tk; cases tk
      | some x => exact ⟨x, rfl⟩
    obtain ⟨l0, lb, lc, lp⟩ := S.ki.ent t l p hv
    have tpos : 0 < t := by rw [← lb]; exact bits_pos l0
    have prelt : ∀ t' ∈ pre, t' < t := fun t' ht' => by
      rw [e, List.pairwise_append] at hs
      have a := hs.2.2 t' ht' t (List.mem_cons_self ..)
      rw [e, List.nodup_append] at nd
      have b := nd.2.2 t' ht' t (List.mem_cons_self ..)
      omega
    refine ⟨(l, p), hv, (l, p), hv, fun row1 erow => ?_⟩
    rw [show row1 = l from erow]
    refine w_even ?_
    have tlt : l.testBit (t - 1) = true := by rw [← lb]; exact bits_bit l0
    have mt : t ∈ pre ++ [t] := List.mem_append_right _ (List.mem_singleton_self _)
    by_cases q : par (l &&& m) = true
    · rw [q, if_neg (by simp)]
      refine ⟨tpos, by have := ht t tk; omega, ?_⟩
      rintro _ rfl
      have tge : bit ≤ t - 1 := by
        refine Nat.le_of_not_lt fun z0 => ?_
        have : l &&& m = 0 := Nat.eq_of_testBit_eq fun i => by
          rw [Nat.testBit_and, Nat.zero_testBit]
          by_cases o : i < bit
          · rw [h4 i o, Bool.and_false]
          · rw [testBit_big (lt_bits l) (by omega), Bool.false_and]
        rw [this, par_zero] at q; cases q
      refine hx _ ⟨fun t' l' p' ht' hv' => ?_, fun b hb' => ?_, ?_, fun j hj => by rw [Nat.testBit_xor, h4 j hj, Nat.testBit_two_pow, decide_eq_false (by omega)]; rfl⟩
      · rw [and_xor', par_xor, and_pow]
        rcases List.mem_append.mp ht' with g | g
        · obtain ⟨l0', lb', _, _⟩ := S.ki.ent t' l' p' hv'
          have := prelt t' g
          rw [h1 t' l' p' g hv', testBit_big (lt_bits l') (by omega), if_neg (by simp), par_zero]; rfl
        · rw [List.mem_singleton.mp g, hv] at hv'
          obtain ⟨rfl, rfl⟩ := Prod.ext_iff.mp (Option.some.inj hv')
          show xor (par (l &&& m)) (par (if l.testBit (t - 1) = true then 2 ^ (t - 1) else 0)) = false
          rw [q, tlt, if_pos rfl, par_two_pow]; rfl
      · rw [Nat.testBit_xor, Nat.testBit_two_pow] at hb'
        by_cases eb : t - 1 = b
        · right
          have : b + 1 = t := by omega
          rw [this]; exact mt
        · rw [decide_eq_false eb, Bool.xor_false] at hb'
          exact (h2 b hb').imp id fun g => List.mem_append_left _ g
      · rw [Nat.testBit_xor, h3, Nat.testBit_two_pow, decide_eq_false (fun eb => ?_)]; rfl
        have : bit + 1 = t := by omega
        rw [this, tk] at hbt; cases hbt
    · have q' : par (l &&& m) = false := by simpa using q
      rw [q', if_pos (by rfl)]
      refine hx _ ⟨fun t' l' p' ht' hv' => ?_, fun b hb' => (h2 b hb').imp id fun g => List.mem_append_left _ g, h3, h4⟩
      rcases List.mem_append.mp ht' with g | g
      · exact h1 t' l' p' g hv'
      · rw [List.mem_singleton.mp g, hv] at hv'
        obtain ⟨rfl, rfl⟩ := Prod.ext_iff.mp (Option.some.inj hv')
        exact q'
  · rintro m ⟨h1, h2, h3, h4⟩
    refine h m ⟨fun v => ?_, fun b hb' => ⟨fun hm => ?_, fun e => by subst e; exact h3⟩, h4, fun w hw hw2 => ?_⟩
    · -- each sum is taken down by what is kept
      induction hn : bits v using Nat.strongRecOn generalizing v with
      | ind n ih =>
        intro hs'
        by_cases v0 : v = 0
        · subst v0; rw [Nat.zero_and, par_zero]
        · have hk' := S.ki.top v v0 hs'
          obtain ⟨⟨l, p⟩, hv⟩ : ∃ x, valT z.1 (bits v) = some x := by
            unfold hasT at hk'
            cases hv : valT z.1 (bits v) with
            | none => rw [hv] at hk'; cases hk'
            | some x => exact ⟨x, rfl⟩
          obtain ⟨l0, lb, lc, lp⟩ := S.ki.ent _ l p hv
          have e : v = (v ^^^ l) ^^^ l := by rw [Nat.xor_assoc, Nat.xor_self, Nat.xor_zero]
          have := ih (bits (v ^^^ l)) (by rw [← hn]; exact bits_xor_eq lb.symm v0) _ rfl (hs'.xor ⟨p, lc⟩)
          rw [e, and_xor, par_xor, this, h1 _ l p ((key _).mpr hk') hv]; rfl
    · rcases h2 b hm with g | g
      · exact g
      · rw [(key _).mp g] at hb'; cases hb'
    · refine Nat.lt_pow_two_of_testBit _ fun j hj => ?_
      refine Bool.eq_false_iff.mpr fun hm => ?_
      rcases h2 j hm with g | g
      · omega
      · have := hw2 _ ((key _).mp g); omega
end My
namespace My
open Wk
theorem kept_has {kept : List (Nat × (Nat × Nat))} {t : Nat} (h : hasT kept t = true) : ∃ l p, valT kept t = some (l, p) := by
  unfold hasT at h
  cases hv : valT kept t with
  | none => rw [hv] at h; cases h
  | some x => exact ⟨x.1, x.2, rfl⟩
theorem Span.mem {rows : List Nat} {r : Nat} (hr : r ∈ rows) : Span rows r := by
  obtain ⟨us, vs, er⟩ := List.append_of_mem hr
  rw [er]
  have : ∀ (vs us : List Nat), Span us r → Span (us ++ vs) r := by
    intro vs
    induction vs with
    | nil => intro us h; rwa [List.append_nil]
    | cons v vs ih => intro us h; rw [show us ++ v :: vs = (us ++ [v]) ++ vs by simp]; exact ih _ (Span.snoc.mpr (.inl h))
  rw [show us ++ r :: vs = (us ++ [r]) ++ vs by simp]
  exact this vs _ (Span.snoc.mpr (.inr (by rw [Nat.xor_self]; exact Span.zero _)))
end My
namespace My
open Wk
theorem w_sum_for {rows : List Nat} {wish w : Nat} (hl : rows.length < 1000000) (hw : w < 1000000) (hr : ∀ r ∈ rows, r < 2 ^ w) (hwi : wish < 2 ^ w) {R : PySem.Str × (Sum (List Nat) Nat) → Prop}
    (hs : Span rows wish → ∀ D, D < 2 ^ rows.length → comb rows D = wish → R (PySem.Str.ofString "sum", Sum.inl (bl rows.length D)))
    (hn : ¬ Span rows wish → ∀ m, (∀ v, Span rows v → par (v &&& m) = false) → par (wish &&& m) = true → m < 2 ^ w → R (PySem.Str.ofString "no", Sum.inr m)) : W_sum_for rows wish R := by
  refine w_Steps_init hl fun z S => w_lowered S.ki fun y L => ?_
  have hz := L.zero S.ki
  obtain ⟨D, hD, e1, e2⟩ := L.by_
  rw [Nat.zero_xor] at e2
  by_cases q : y.1 = 0
  · rw [if_pos q]
    rw [e2]
    have hc : comb rows D = wish := (xor0 (by rw [← e1]; exact q)).symm
    exact w_bits_of hl hD (hs (hz.mp q) D hD hc)
  · rw [if_neg q]
    have bp := bits_pos q
    have tw : ∀ t, hasT z.1 t = true → t ≤ w := fun t ht => by
      obtain ⟨l, p, hv⟩ := kept_has ht
      obtain ⟨l0, lb, lc, lp⟩ := S.ki.ent t l p hv
      rw [← lb]
      exact bits_le.mpr (by rw [← lc]; exact comb_lt hr)
    have yl : y.1 < 2 ^ w := by rw [e1]; exact Nat.xor_lt_two_pow hwi (comb_lt hr)
    have yb : bits y.1 ≤ w := bits_le.mpr yl
    have no := L.no
    refine ⟨bp, w_crossing S (by omega) (by rw [Nat.sub_add_cancel bp]; exact no) (by have := S.kl; have := S.len; omega) (fun t ht => by have := tw t ht; omega) fun m C => hn (fun z0 => q (hz.mpr z0)) m C.ev ?_ (C.low w (by omega) tw)⟩
    have e3 : wish = y.1 ^^^ comb rows D := by rw [e1, Nat.xor_assoc, Nat.xor_self, Nat.xor_zero]
    rw [e3, and_xor, par_xor, C.ev _ ⟨D, rfl⟩, Bool.xor_false]
    have e4 : y.1 &&& m = 2 ^ (bits y.1 - 1) := Nat.eq_of_testBit_eq fun i => by
      rw [Nat.testBit_and, Nat.testBit_two_pow]
      rcases Nat.lt_trichotomy i (bits y.1 - 1) with o | o | o
      · rw [C.lowz i o, Bool.and_false, decide_eq_false (by omega)]
      · subst o
        rw [bits_bit q, (C.own _ (by rw [Nat.sub_add_cancel bp]; exact no)).mpr rfl, decide_eq_true rfl]; rfl
      · rw [testBit_big (lt_bits y.1) (by omega), Bool.false_and, decide_eq_false (by omega)]
    rw [e4, par_two_pow]
end My
namespace My
open Wk
theorem fine_i {z : Int} : fineA (An.i z) := trivial
theorem w_is_whole {x : An} (hf : fineA x) {R : Bool → Prop} (h1 : ∀ z : Int, x = An.i z → R true) (h0 : (∀ z : Int, x ≠ An.i z) → R false) : W_is_whole x R := by
  show R (decide (_ ∧ _))
  by_cases h : ∃ z : Int, x = An.i z
  · rw [decide_eq_true ((isA_int x hf).mpr h)]
    obtain ⟨z, e⟩ := h
    exact h1 z e
  · rw [decide_eq_false (fun q => h ((isA_int x hf).mp q))]
    exact h0 fun z e => h ⟨z, e⟩
theorem w_is_mask {x : An} {w : Nat} (hf : fineA x) (hw : w < 100000000) {R : Bool → Prop} (h1 : okA x w → R true) (h0 : ¬ okA x w → R false) : W_is_mask x w R := by
  refine jnI (w_is_whole hf (fun z e => ?_) fun hn => ?_)
  · rw [if_pos rfl]
    refine ⟨z, e, hw, ?_⟩
    have hp : ((2 ^ w : Nat) : Int) = ((2 ^ w : Nat) : Int) := rfl
    by_cases h : ((0 : Nat) : Int) ≤ z ∧ z < ((2 ^ w : Nat) : Int)
    · rw [decide_eq_true h]
      refine h1 ⟨z.toNat, ?_, ?_⟩
      · rw [e, Int.toNat_of_nonneg (by have := h.1; omega)]
      · have := h.1; have := h.2; omega
    · rw [decide_eq_false h]
      refine h0 fun ⟨n, e2, hn⟩ => h ?_
      rw [e] at e2
      have e3 : z = (n : Int) := An.i.inj e2
      rw [e3]
      exact ⟨by omega, by omega⟩
  · rw [if_neg (by simp)]
    exact h0 fun ⟨n, e, _⟩ => hn _ e
theorem okA_nat {n w : Nat} : okA (An.i (n : Int)) w ↔ n < 2 ^ w := by
  constructor
  · rintro ⟨m, e, h⟩
    have e2 : (n : Int) = (m : Int) := An.i.inj e
    have : n = m := by omega
    rw [this]; exact h
  · exact fun h => ⟨n, rfl, h⟩
end My
namespace My
open Wk
theorem w_is_pairs {ps : List (Nat × Nat)} {most st inp : Nat} (hl : ps.length ≤ most) (hs : st < 100000000) (hi : inp < 100000000) (h : ∀ p ∈ ps, p.1 < 2 ^ st ∧ p.2 < 2 ^ inp) {R : Bool → Prop} (hR : R true) : W_is_pairs ps most st inp R := by
  unfold W_is_pairs
  rw [if_neg (by omega)]
  refine forW_unit (fun p hp nx bk hn => ?_) hR
  rw [if_neg (by simp)]
  refine jnI (w_is_mask fine_i hs (fun _ => ?_) fun q => absurd (okA_nat.mpr (h p hp).1) q)
  rw [if_pos rfl]
  refine w_is_mask fine_i hi (fun _ => ?_) fun q => absurd (okA_nat.mpr (h p hp).2) q
  show if (!true) = true then _ else _
  rw [if_neg (by simp)]; exact hn
theorem w_machine_init {M : Mach} (h : MOk M) {R : Mach → Prop} (hR : R M) : W_Machine___init__ M.1 M.2.1 M.2.2 R := by
  have h1 := h.i; have h2 := h.n; have h3 := h.o
  refine jnI (w_is_whole fine_i (fun z _ => ?_) fun q => absurd rfl (q _))
  rw [if_pos rfl, decide_eq_false (fun q => q ⟨Nat.zero_le _, h1⟩)]
  show if false = true then _ else _
  rw [if_neg (by simp)]
  refine jnI (w_is_pairs h2 (by omega) (by omega) h.mn ?_)
  rw [if_pos rfl]
  refine w_is_pairs h3 (by omega) (by omega) h.mo ?_
  show if (!true) = true then _ else _
  rw [if_neg (by simp)]; exact hR
theorem w_bit_of {p : Nat × Nat} {s r : Nat} {R : Nat → Prop} (h : R (bitf p s r).toNat) : W_bit_of p s r R := by
  refine w_even (w_even ?_)
  have e : decide ((!par (p.1 &&& s)) ≠ (!par (p.2 &&& r))) = bitf p s r := by
    unfold bitf
    cases par (p.1 &&& s) <;> cases par (p.2 &&& r) <;> decide
  rw [e]; exact h
theorem w_bits_by {ps : List (Nat × Nat)} {s r : Nat} (hl : ps.length ≤ 1000) {R : Nat → Prop} (h : R (bitsV ps s r)) : W_bits_by ps s r R := by
  refine w_bits (fun p => bitf p s r) (fun pre p post nx bk e hn => w_bit_of ?_) h
  have hp : pre.length < 1000000 := by rw [e, List.length_append] at hl; omega
  refine ⟨NShl_bit hp, ?_⟩
  rintro _ rfl
  rw [List.map_append] at hn
  have e2 := maskB_snoc (pre.map fun p => bitf p s r) (bitf p s r)
  rw [List.length_map] at e2
  rw [← e2]; exact hn
theorem w_need {M : Mach} {x : An} {w : Nat} {E : Prop} {R : Unit → Prop} (hf : fineA x) (hw : w < 100000000) (h1 : okA x w → R ()) (h0 : ¬ okA x w → E) : W_Machine_need M x w E R := by
  refine w_is_mask hf hw (fun q => ?_) fun q => ?_
  · rw [if_pos rfl]; exact h1 q
  · rw [if_neg (by simp)]; exact h0 q
/-- a turn -/
theorem w_step {M : Mach} (hM : MOk M) {x y : An} {E : Prop} {R : Nat × Nat → Prop} (fx : fineA x) (fy : fineA y) (h1 : ∀ s r : Nat, x = An.i (s : Int) → s < 2 ^ M.2.1.length → y = An.i (r : Int) → r < 2 ^ M.1 → R (outV M s r, nextV M s r)) (h0 : ¬ okA x M.2.1.length ∨ ¬ okA y M.1 → E) : W_Machine_step M x y E R := by
  have m1 := hM.i; have m2 := hM.n; have m3 := hM.o
  unfold W_Machine_step W_Machine_stores
  refine w_need fx (by omega) (fun ⟨s, ex, hs⟩ => ?_) fun q => h0 (.inl q)
  refine w_need fy (by omega) (fun ⟨r, ey, hr⟩ => ?_) fun q => h0 (.inr q)
  refine ⟨s, ex, r, ey, w_bits_by (by omega) ⟨s, ex, r, ey, w_bits_by (by omega) ?_⟩⟩
  exact h1 s r ex hs ey hr
theorem need_rows {M : Mach} (hM : MOk M) {E : Prop} {k : Unit → Prop} : ∀ {rows : List An}, (∀ r ∈ rows, fineA r) → ((∀ r ∈ rows, okA r M.1) → k ()) → ((∃ r ∈ rows, ¬ okA r M.1) → E) → forW rows () (fun row1 _ nx1 bk1 => W_Machine_need M row1 M.1 E fun z3 => nx1 ()) k
  | [], _, h1, _ => h1 (fun r hr => by cases hr)
  | r :: rows, hf, h1, h0 => by
    have m1 := hM.i
    show W_Machine_need M r M.1 E _
    refine w_need (hf r (List.mem_cons_self ..)) (by omega) (fun q => ?_) fun q => h0 ⟨r, List.mem_cons_self .., q⟩
    exact need_rows hM (fun x hx => hf x (List.mem_cons_of_mem _ hx)) (fun h => h1 fun x hx => (List.mem_cons.mp hx).elim (fun e => e ▸ q) (h x)) fun ⟨x, hx, hq⟩ => h0 ⟨x, List.mem_cons_of_mem _ hx, hq⟩
theorem rows_nat : ∀ {rows : List An} {w : Nat}, (∀ r ∈ rows, okA r w) → ∃ rs : List Nat, rows = rs.map anN ∧ ∀ r ∈ rs, r < 2 ^ w
  | [], _, _ => ⟨[], rfl, fun r hr => by cases hr⟩
  | r :: rows, w, h => by
    obtain ⟨n, e, hn⟩ := h r (List.mem_cons_self ..)
    obtain ⟨rs, e2, h2⟩ := rows_nat (rows := rows) fun x hx => h x (List.mem_cons_of_mem _ hx)
    exact ⟨n :: rs, by rw [e, e2]; rfl, fun x hx => (List.mem_cons.mp hx).elim (fun q => by rw [q]; exact hn) (h2 x)⟩
theorem map_anN_inj {rs qs : List Nat} (h : rs.map anN = qs.map anN) : rs = qs := by
  induction rs generalizing qs with
  | nil => cases qs with
    | nil => rfl
    | cons q qs => cases h
  | cons r rs ih =>
    cases qs with
    | nil => cases h
    | cons q qs =>
      rw [List.map_cons, List.map_cons] at h
      injection h with h1 h2
      have : (r : Int) = (q : Int) := An.i.inj h1
      rw [ih h2, show r = q by omega]
/-- a walk over rows -/
theorem w_walk {M : Mach} (hM : MOk M) {rows : List An} {x : An} {E : Prop} {R : List Nat × Nat → Prop} (hl : rows.length < 1000000) (fr : ∀ r ∈ rows, fineA r) (fx : fineA x)
    (h1 : ∀ (rs : List Nat) (s : Nat), rows = rs.map anN → (∀ r ∈ rs, r < 2 ^ M.1) → x = An.i (s : Int) → s < 2 ^ M.2.1.length → R (walkV M rs s)) (h0 : ¬ okA x M.2.1.length ∨ (∃ r ∈ rows, ¬ okA r M.1) → E) : W_Machine_walk M rows x E R := by
  have m1 := hM.i; have m2 := hM.n
  unfold W_Machine_walk W_Machine_stores
  refine w_need fx (by omega) (fun ⟨s, ex, hs⟩ => ?_) fun q => h0 (.inl q)
  refine need_rows hM fr (fun hr => ?_) fun q => h0 (.inr q)
  refine ⟨s, ex, ?_⟩
  obtain ⟨rs, er, hrs⟩ := rows_nat hr
  have fin := h1 rs s er hrs ex hs
  subst er
  rw [List.length_map] at hl
  refine forW_ind (fun pre (t : Nat × List Nat) => ∃ ps, pre = ps.map anN ∧ t = ((walkV M ps s).2, (walkV M ps s).1)) ⟨[], rfl, rfl⟩ (fun pre y post t nx bk e ⟨ps, ep, et⟩ hn _ => ?_) fun t ⟨ps, ep, et⟩ => ?_
  · subst ep et
    have hy : y ∈ rs.map anN := by rw [e]; simp
    obtain ⟨r, hr, ey⟩ := List.mem_map.mp hy
    have le : ps.length < rs.length := by
      have := congrArg List.length e
      rw [List.length_map, List.length_append, List.length_map, List.length_cons] at this; omega
    show W_Machine_step _ _ _ _ _
    refine w_step hM fine_i (by rw [← ey]; exact fine_i) (fun s' r' es hs' er' hr' => ?_) fun q => ?_
    · have es' : (((walkV M ps s).2 : Nat) : Int) = (s' : Int) := An.i.inj es
      have es2 : s' = (walkV M ps s).2 := by omega
      subst es2
      refine ⟨by show (walkV M ps s).1.length < 1000000; rw [walkV_len]; omega, hn _ ⟨ps ++ [r'], by rw [er', List.map_append]; rfl, ?_⟩⟩
      rw [walkV_snoc]
    · rcases q with q | q
      · exact absurd (okA_nat.mpr (walkV_lt hs)) q
      · rw [← ey] at q; exact absurd (okA_nat.mpr (hrs r hr)) q
  · subst et
    have : rs = ps := map_anN_inj ep
    subst this
    exact fin
theorem fine_nats (rs : List Nat) : ∀ r ∈ rs.map anN, fineA r := fun r hr => by
  obtain ⟨n, _, e⟩ := List.mem_map.mp hr
  rw [← e]; exact fine_i
/-- .. of numbers that are masks -/
theorem w_walkN {M : Mach} (hM : MOk M) {rs : List Nat} {s : Nat} {E : Prop} {R : List Nat × Nat → Prop} (hl : rs.length < 1000000) (hr : ∀ r ∈ rs, r < 2 ^ M.1) (hs : s < 2 ^ M.2.1.length) (h : R (walkV M rs s)) : W_Machine_walk M (rs.map anN) (An.i (s : Int)) E R := by
  refine w_walk hM (by rw [List.length_map]; exact hl) (fine_nats rs) fine_i (fun rs' s' e _ es _ => ?_) fun q => ?_
  · have e1 := map_anN_inj e
    have e2 : (s : Int) = (s' : Int) := An.i.inj es
    have e3 : s = s' := by omega
    subst e1 e3; exact h
  · rcases q with q | ⟨r, hr', q⟩
    · exact absurd (okA_nat.mpr hs) q
    · obtain ⟨n, hn, e⟩ := List.mem_map.mp hr'
      rw [← e] at q; exact absurd (okA_nat.mpr (hr n hn)) q
theorem w_stepN {M : Mach} (hM : MOk M) {s r : Nat} {E : Prop} {R : Nat × Nat → Prop} (hs : s < 2 ^ M.2.1.length) (hr : r < 2 ^ M.1) (h : R (outV M s r, nextV M s r)) : W_Machine_step M (An.i (s : Int)) (An.i (r : Int)) E R := by
  refine w_step hM fine_i fine_i (fun s' r' e1 _ e2 _ => ?_) fun q => ?_
  · have e3 : (s : Int) = (s' : Int) := An.i.inj e1
    have e4 : (r : Int) = (r' : Int) := An.i.inj e2
    have e5 : s = s' := by omega
    have e6 : r = r' := by omega
    subst e5 e6; exact h
  · rcases q with q | q
    · exact absurd (okA_nat.mpr hs) q
    · exact absurd (okA_nat.mpr hr) q
end My
namespace My
open Wk
theorem w_masks {c : Int} {st n w : Nat} {d : Bool} (hn : n ≤ 64) (hw : w ≤ 16) {R : List Nat → Prop} (h : ∀ l : List Nat, l.length = n → (∀ x ∈ l, x < 2 ^ w) → R l) : W_masks c st n w d R := by
  have hm : n * w ≤ 1024 := Nat.mul_le_mul hn hw
  refine ⟨.inl (by omega), by omega, ?_⟩
  rintro _ rfl
  refine ⟨by omega, forW_ind (fun pre (s : List Nat × Nat) => s.1.length = pre.length ∧ ∀ x ∈ s.1, x < 2 ^ w) ⟨rfl, fun x hx => by cases hx⟩ (fun pre k post s nx bk e hs hnx _ => ?_) fun s hs => ?_⟩
  · obtain ⟨found, left⟩ := s
    obtain ⟨h1, h2⟩ := hs
    have h1 : found.length = pre.length := h1
    have hl : pre.length < n := by
      have := congrArg List.length e
      rw [List.length_range, List.length_append, List.length_cons] at this; omega
    have snoc : ∀ y, y < 2 ^ w → (found ++ [y]).length = (pre ++ [k]).length ∧ ∀ x ∈ found ++ [y], x < 2 ^ w := fun y hy => by
      refine ⟨by rw [List.length_append, List.length_append, h1]; rfl, fun x hx => ?_⟩
      rcases List.mem_append.mp hx with q | q
      · exact h2 x q
      · rw [List.mem_singleton.mp q]; exact hy
    show if d = true then _ else _
    by_cases hd : d = true
    · rw [if_pos hd]
      refine ⟨by omega, by omega, by omega, NDiv_pow (by omega), ?_⟩
      rintro _ rfl
      exact hnx _ (snoc _ (Nat.mod_lt _ (Nat.two_pow_pos w)))
    · rw [if_neg hd]
      refine w_mix ⟨by omega, by omega, hnx _ (snoc _ (Nat.mod_lt _ (Nat.two_pow_pos w)))⟩
  · refine h _ ?_ hs.2
    rw [hs.1, List.length_range]
theorem and_lt {a b w : Nat} (h : a < 2 ^ w) : a &&& b < 2 ^ w := Nat.lt_of_le_of_lt Nat.and_le_left h
theorem w_thinned {l : List Nat} {c : Int} {st way w : Nat} (hl : l.length ≤ 16) (hw : l.length ≤ w) (hm : ∀ x ∈ l, x < 2 ^ w) {R : List Nat → Prop} (h : ∀ l' : List Nat, l'.length = l.length → (∀ x ∈ l', x < 2 ^ w) → R l') : W_thinned l c st way R := by
  refine forW_enum (fun pre (s : List Nat) => s.length = pre.length ∧ ∀ x ∈ s, x < 2 ^ w) ⟨rfl, fun x hx => by cases hx⟩ (fun pre p post s nx bk e hs hnx => ?_) fun s hs => h s hs.1 hs.2
  obtain ⟨h1, h2⟩ := hs
  have hlen : pre.length < l.length := by rw [e, List.length_append, List.length_cons]; omega
  have hp : p < 2 ^ w := hm p (by rw [e]; simp)
  have fin : ∀ y, y < 2 ^ w → s.length < 1000000 ∧ nx (s ++ [y]) := fun y hy => by
    refine ⟨by omega, hnx _ ⟨by rw [List.length_append, List.length_append, h1]; rfl, fun x hx => ?_⟩⟩
    rcases List.mem_append.mp hx with q | q
    · exact h2 x q
    · rw [List.mem_singleton.mp q]; exact hy
  have s3 : ∀ y, y < 2 ^ w → jn (fun kk => if way = 3 then (∃ x7, [43690, 21845][pre.length % 2]? = some x7 ∧ ∀ mask7 : Nat, mask7 = y &&& x7 → kk mask7) else (kk y)) fun mask6 => (s.length < 1000000) ∧ nx (s ++ [mask6]) := fun y hy => by
    refine jnI ?_
    by_cases q : way = 3
    · rw [if_pos q]
      rcases Nat.mod_two_eq_zero_or_one pre.length with f | f
      · rw [f]; refine ⟨_, rfl, ?_⟩; rintro _ rfl; exact fin _ (and_lt hy)
      · rw [f]; refine ⟨_, rfl, ?_⟩; rintro _ rfl; exact fin _ (and_lt hy)
    · rw [if_neg q]; exact fin _ hy
  have s2 : ∀ y, y < 2 ^ w → jn (fun kk => if (way = 2) ∧ (0 < pre.length) then ((1 ≤ pre.length) ∧ (pre.length - 1 < 100000000) ∧ ∀ mask5 : Nat, mask5 = 2 ^ (pre.length - 1) → kk mask5) else (kk y)) fun mask4 => jn (fun kk => if way = 3 then (∃ x7, [43690, 21845][pre.length % 2]? = some x7 ∧ ∀ mask7 : Nat, mask7 = mask4 &&& x7 → kk mask7) else (kk mask4)) fun mask6 => (s.length < 1000000) ∧ nx (s ++ [mask6]) := fun y hy => by
    refine jnI ?_
    by_cases q : (way = 2) ∧ (0 < pre.length)
    · rw [if_pos q]
      have q2 := q.2
      refine ⟨by omega, by omega, ?_⟩
      rintro _ rfl
      exact s3 _ (Nat.pow_lt_pow_right (by decide) (by omega))
    · rw [if_neg q]; exact s3 _ hy
  refine jnI ?_
  show if way = 1 then _ else _
  by_cases q : way = 1
  · rw [if_pos q]
    refine w_mix ?_
    rintro _ rfl
    exact s2 _ (and_lt hp)
  · rw [if_neg q]; exact s2 _ hp
theorem comp_and {l : List Nat} {w : Nat} (hl : l.length ≤ 16) (hm : ∀ x ∈ l, x < 2 ^ w) {bd : Nat × Nat → (Option Nat → Prop) → Prop} {K : List Nat → Prop} (hb : ∀ it kk, (∀ y, kk (some (it.2 &&& y))) → bd it kk) (h : ∀ l' : List Nat, l'.length = l.length → (∀ x ∈ l', x < 2 ^ w) → K l') : (enumT l).length < 1000000 ∧ compW (enumT l) bd K := by
  refine ⟨by rw [enumT_len]; omega, compW_rel (fun it o => ∃ y, o = some (it.2 &&& y)) (fun it hit kk hk => hb it kk fun y => hk _ ⟨y, rfl⟩) fun ys hys => ?_⟩
  have key : ∀ (xs : List (Nat × Nat)) (ys : List Nat), CR (fun (it : Nat × Nat) (o : Option Nat) => ∃ y, o = some (it.2 &&& y)) xs ys → (∀ x ∈ xs, x.2 < 2 ^ w) → ys.length = xs.length ∧ ∀ x ∈ ys, x < 2 ^ w := by
    intro xs
    induction xs with
    | nil => rintro ys rfl _; exact ⟨rfl, fun x hx => by cases hx⟩
    | cons x xs ih =>
      rintro ys ⟨o, ys', ⟨y, eo⟩, ey, hc⟩ hx
      obtain ⟨a, b⟩ := ih ys' hc fun z hz => hx z (List.mem_cons_of_mem _ hz)
      subst eo ey
      refine ⟨by show (_ :: ys').length = _; rw [List.length_cons, a]; rfl, fun z hz => ?_⟩
      have hz' : z = x.2 &&& y ∨ z ∈ ys' := List.mem_cons.mp hz
      rcases hz' with q | q
      · rw [q]; exact and_lt (hx x (List.mem_cons_self ..))
      · exact b z q
  obtain ⟨a, b⟩ := key _ _ hys fun x hx => hm _ (by rw [← enumT_snd l]; exact List.mem_map_of_mem hx)
  exact h ys (by rw [a, enumT_len]) b
theorem zip_ok {n w v : Nat} {a b : List Nat} (ha : a.length = n) (hb : b.length = n) (h1 : ∀ x ∈ a, x < 2 ^ w) (h2 : ∀ x ∈ b, x < 2 ^ v) : (a.zip b).length = n ∧ ∀ p ∈ a.zip b, p.1 < 2 ^ w ∧ p.2 < 2 ^ v := by
  refine ⟨by rw [List.length_zip, ha, hb, Nat.min_self], fun p hp => ?_⟩
  obtain ⟨x, y⟩ := p
  have := List.of_mem_zip hp
  exact ⟨h1 _ this.1, h2 _ this.2⟩
/-- a drawn machine -/
structure Drawn (most : Nat) (M : Mach) : Prop extends MOk M where
  n16 : M.2.1.length ≤ 16
theorem w_lmachine {s : List Int} {st most : Nat} (hmost : most ≤ 16) {R : Mach → Prop} (h : ∀ M, Drawn most M → R M) : W_machine s st most R := by
  refine w_cell ⟨by omega, ?_⟩
  rintro _ rfl
  rintro stores he
  have hst : stores ≤ 16 := by
    rw [he]
    have a : ∀ z : Int, modN z (most + 1) < most + 1 := fun z => modN_lt (by omega)
    have b : ∀ z : Int, modN z 17 < 17 := fun z => modN_lt (by decide)
    have a1 := a (cellV s st / ((2 : Nat) : Int))
    have b1 := b (cellV s st / ((512 : Nat) : Int))
    by_cases q : modN (cellV s st / ((64 : Nat) : Int)) 8 = 5
    · rw [if_pos q]; omega
    · rw [if_neg q]; omega
  clear he
  refine w_mix ?_
  rintro inp0 hi0
  refine w_mix ?_
  rintro out0 ho0
  have rest : ∀ inp out, inp ≤ 6 → out ≤ 6 → ∀ digits1 : Bool, digits1 = decide ((modN (cellV s st) 2) = 0) → W_mix (cellV s st) 3 fun z6 => ∀ way1 : Nat, way1 = z6 % 5 → W_cell s (st + 1) fun z7 => W_masks z7 100 stores stores digits1 fun z8 => W_cell s (st + 2) fun z9 => W_masks z9 140 stores inp digits1 fun z10 => jn (fun kk => if ¬ (digits1 = true) then (W_cell s (st + 1) fun z11 => W_thinned z8 z11 180 way1 fun z12 => if 0 < way1 then (((enumT z10).length < 1000000) ∧ compW (enumT z10) (fun it1 kk => W_cell s (st + 2) fun z13 => W_mix z13 (220 + it1.1) fun z14 => kk (some (it1.2 &&& z14))) fun ys1 => kk (z12, ys1)) else (kk (z12, z10))) else (kk (z8, z10))) fun (one1, other1) => W_cell s (st + 3) fun z15 => W_masks z15 260 out stores digits1 fun z16 => W_cell s (st + 4) fun z17 => W_masks z17 280 out inp digits1 fun z18 => jn (fun kk => if (¬ (digits1 = true)) ∧ (1 < way1) then (((enumT z16).length < 1000000) ∧ compW (enumT z16) (fun it2 kk => W_cell s (st + 3) fun z19 => W_mix z19 (300 + it2.1) fun z20 => kk (some (it2.2 &&& z20))) fun ys2 => kk ys2) else (kk z16)) fun shown1 => jn (fun kk => if (¬ (digits1 = true)) ∧ (2 < way1) then ((z18.length < 1000000) ∧ compW z18 (fun mask3 kk => kk (some 0)) fun ys3 => kk ys3) else (kk z18)) fun straight1 => R (inp, one1.zip other1, shown1.zip straight1) := by
    intro inp out hi ho d _
    refine w_mix ?_
    intro way _
    refine w_cell (w_masks (by omega) hst fun z8 l8 m8 => w_cell (w_masks (by omega) (by omega) fun z10 l10 m10 => jnI ?_))
    have fin : ∀ one other : List Nat, one.length = stores → (∀ x ∈ one, x < 2 ^ stores) → other.length = stores → (∀ x ∈ other, x < 2 ^ inp) → W_cell s (st + 3) fun z15 => W_masks z15 260 out stores d fun z16 => W_cell s (st + 4) fun z17 => W_masks z17 280 out inp d fun z18 => jn (fun kk => if (¬ (d = true)) ∧ (1 < way) then (((enumT z16).length < 1000000) ∧ compW (enumT z16) (fun it2 kk => W_cell s (st + 3) fun z19 => W_mix z19 (300 + it2.1) fun z20 => kk (some (it2.2 &&& z20))) fun ys2 => kk ys2) else (kk z16)) fun shown1 => jn (fun kk => if (¬ (d = true)) ∧ (2 < way) then ((z18.length < 1000000) ∧ compW z18 (fun mask3 kk => kk (some 0)) fun ys3 => kk ys3) else (kk z18)) fun straight1 => R (inp, one.zip other, shown1.zip straight1) := by
      intro one other l1 m1 l2 m2
      refine w_cell (w_masks (by omega) hst fun z16 l16 m16 => w_cell (w_masks (by omega) (by omega) fun z18 l18 m18 => jnI ?_))
      have end2 : ∀ shown : List Nat, shown.length = out → (∀ x ∈ shown, x < 2 ^ stores) → jn (fun kk => if (¬ (d = true)) ∧ (2 < way) then ((z18.length < 1000000) ∧ compW z18 (fun mask3 kk => kk (some 0)) fun ys3 => kk ys3) else (kk z18)) fun straight1 => R (inp, one.zip other, shown.zip straight1) := by
        intro shown l3 m3
        refine jnI ?_
        have end3 : ∀ str : List Nat, str.length = out → (∀ x ∈ str, x < 2 ^ inp) → R (inp, one.zip other, shown.zip str) := by
          intro str l4 m4
          obtain ⟨a1, a2⟩ := zip_ok l1 l2 m1 m2
          obtain ⟨b1, b2⟩ := zip_ok l3 l4 m3 m4
          exact h _ { i := hi, n := by show (one.zip other).length ≤ 120; omega, o := by show (shown.zip str).length ≤ 6; omega, mn := by show ∀ p ∈ one.zip other, p.1 < 2 ^ (one.zip other).length ∧ p.2 < 2 ^ inp; rw [a1]; exact a2, mo := by show ∀ p ∈ shown.zip str, p.1 < 2 ^ (one.zip other).length ∧ p.2 < 2 ^ inp; rw [a1]; exact b2, n16 := by show (one.zip other).length ≤ 16; omega }
        by_cases q : (¬ (d = true)) ∧ (2 < way)
        · rw [if_pos q]
          refine ⟨by omega, compW_map (fun _ => 0) (fun x _ kk hk => hk) (end3 _ (by rw [List.length_map, l18]) fun x hx => ?_)⟩
          obtain ⟨_, _, e⟩ := List.mem_map.mp hx
          rw [← e]; exact Nat.two_pow_pos _
        · rw [if_neg q]; exact end3 _ l18 m18
      by_cases q : (¬ (d = true)) ∧ (1 < way)
      · rw [if_pos q]
        exact comp_and (by omega) m16 (fun it kk hk => w_cell (w_mix (hk _))) fun l' a b => end2 l' (by omega) b
      · rw [if_neg q]; exact end2 _ l16 m16
    by_cases q : ¬ (d = true)
    · rw [if_pos q]
      refine w_cell (w_thinned (by omega) (by omega) m8 fun z12 l12 m12 => ?_)
      by_cases q2 : 0 < way
      · rw [if_pos q2]
        exact comp_and (by omega) m10 (fun it kk hk => w_cell (w_mix (hk _))) fun l' a b => fin _ _ (by omega) m12 (by omega) b
      · rw [if_neg q2]; exact fin _ _ (by omega) m12 l10 m10
    · rw [if_neg q]; exact fin _ _ l8 m8 l10 m10
  refine jnI ?_
  by_cases q : modN (cellV s st / ((64 : Nat) : Int)) 8 = 6
  · rw [if_pos q]
    refine w_mix ?_
    intro i3 hi3
    refine w_mix ?_
    intro o3 ho3
    exact rest i3 o3 (by omega) (by omega)
  · rw [if_neg q]; exact rest inp0 out0 (by omega) (by omega)
end My
namespace My
open Wk
theorem w_oddm {n : Nat} {R : Nat → Prop} (h : R (par n).toNat) : W_odd n R := by
  refine whileW_ind (fun s => xor (decide (s.1 % 2 = 1)) (par s.2) = par n) (fun s => s.2) (by simp) ?_
  rintro ⟨m, k⟩ nx (h1 : xor (decide (m % 2 = 1)) (par k) = par n) hn
  show if decide (0 < k) = true then _ else _
  by_cases hp : 0 < k
  · rw [if_pos (decide_eq_true hp)]
    rintro _ rfl _ rfl
    refine hn _ ?_ (by show k / 2 < k; omega)
    show xor (decide ((m + k % 2) % 2 = 1)) (par (k / 2)) = par n
    rw [← h1, par_step k, Nat.testBit_zero]
    rcases Nat.mod_two_eq_zero_or_one k with e | e <;> rcases Nat.mod_two_eq_zero_or_one m with f | f
    · rw [e, show (m + 0) % 2 = 0 by omega, f]; simp
    · rw [e, show (m + 0) % 2 = 1 by omega, f]; simp
    · rw [e, show (m + 1) % 2 = 1 by omega, f]; simp
    · rw [e, show (m + 1) % 2 = 0 by omega, f]; simp
  · rw [if_neg (by simpa using hp)]
    have : k = 0 := by omega
    subst this
    rw [par_zero] at h1
    show R (m % 2)
    have e : (par n).toNat = m % 2 := by
      rw [← h1]
      rcases Nat.mod_two_eq_zero_or_one m with f | f <;> rw [f] <;> rfl
    rw [← e]; exact h
theorem w_lbits {ps : List (Nat × Nat)} {s r : Nat} (hl : ps.length ≤ 1000) {R : Nat → Prop} (h : R (bitsV ps s r)) : W_bits ps s r R := by
  have sum : ∀ p : Nat × Nat, ((par (p.1 &&& s)).toNat + (par (p.2 &&& r)).toNat) % 2 = (bitf p s r).toNat := fun p => by
    unfold bitf; cases par (p.1 &&& s) <;> cases par (p.2 &&& r) <;> rfl
  refine w_bits (fun p => bitf p s r) (fun pre p post nx bk e hn => w_oddm (w_oddm ?_)) h
  have hp : pre.length < 1000000 := by rw [e, List.length_append] at hl; omega
  rw [sum p]
  refine ⟨by show pre.length < 100000000; omega, .inl (by cases bitf p s r <;> decide), ?_⟩
  rintro _ rfl
  rw [List.map_append] at hn
  have e2 := maskB_snoc (pre.map fun p => bitf p s r) (bitf p s r)
  rw [List.length_map, Nat.shiftLeft_eq] at e2
  rw [← e2]; exact hn
end My
namespace My
open Wk
/-- turns are linear -/
theorem next_lin (ps : List (Nat × Nat)) (s t r q : Nat) : bitsV ps (s ^^^ t) (r ^^^ q) = bitsV ps s r ^^^ bitsV ps t q := Nat.eq_of_testBit_eq fun j => by
  have ax : ∀ c a b : Nat, c &&& (a ^^^ b) = (c &&& a) ^^^ (c &&& b) := fun c a b => Nat.eq_of_testBit_eq fun i => by
    rw [Nat.testBit_and, Nat.testBit_xor, Nat.testBit_xor, Nat.testBit_and, Nat.testBit_and]
    cases a.testBit i <;> cases b.testBit i <;> cases c.testBit i <;> rfl
  rw [Nat.testBit_xor, bitsV_bit, bitsV_bit, bitsV_bit]
  have e : ∀ p : Nat × Nat, bitf p (s ^^^ t) (r ^^^ q) = xor (bitf p s r) (bitf p t q) := fun p => by
    unfold bitf
    rw [ax, ax, par_xor, par_xor]
    cases par (p.1 &&& s) <;> cases par (p.1 &&& t) <;> cases par (p.2 &&& r) <;> cases par (p.2 &&& q) <;> rfl
  rw [e]
  cases decide (j < ps.length) <;> simp
/-- the state alone -/
def stV (M : Mach) (rows : List Nat) (s : Nat) : Nat := rows.foldl (fun s r => nextV M s r) s
theorem walk_st (M : Mach) : ∀ (rows : List Nat) (t : List Nat × Nat), (rows.foldl (fun t r => (t.1 ++ [outV M t.2 r], nextV M t.2 r)) t).2 = stV M rows t.2
  | [], t => rfl
  | r :: rows, t => by
    rw [List.foldl_cons, walk_st M rows]; rfl
theorem walkV_st (M : Mach) (rows : List Nat) (s : Nat) : (walkV M rows s).2 = stV M rows s := walk_st M rows ([], s)
end My
namespace My
open Wk
/-- sums of sums -/
theorem Span.comb_in {vs : List Nat} : ∀ {rs : List Nat} (S : Nat), (∀ r ∈ rs, Span vs r) → Span vs (comb rs S)
  | [], S, _ => Span.zero vs
  | r :: rs, S, h => by
    have a := Span.comb_in (rs := rs) (S / 2) fun x hx => h x (List.mem_cons_of_mem _ hx)
    show Span vs ((if S.testBit 0 = true then r else 0) ^^^ _)
    by_cases q : S.testBit 0 = true
    · rw [if_pos q]; exact (h r (List.mem_cons_self ..)).xor a
    · rw [if_neg q, Nat.zero_xor]; exact a
theorem Span.sub {vs ws : List Nat} {v : Nat} (h : ∀ r ∈ ws, Span vs r) : Span ws v → Span vs v := fun ⟨S, e⟩ => by rw [← e]; exact Span.comb_in S h
end My
namespace My
open Wk
def nxV (M : Mach) (s : Nat) : Nat := nextV M s 0
theorem nx_lin (M : Mach) : Lin (nxV M) := lin_bits M.2.1
theorem nx_lt (M : Mach) (s : Nat) : nxV M s < 2 ^ M.2.1.length := bitsV_lt ..
theorem it_lt (M : Mach) {v : Nat} (hv : v < 2 ^ M.2.1.length) (t : Nat) : itV (nxV M) v t < 2 ^ M.2.1.length := itV_lt (nx_lt M) hv t
theorem st_app (M : Mach) (rs qs : List Nat) (s : Nat) : stV M (rs ++ qs) s = stV M qs (stV M rs s) := by unfold stV; rw [List.foldl_append]
/-- what comes behind as many turns as there are stores is a sum of what came ahead -/
theorem krylov {f : Nat → Nat} (hf : Lin f) {n v : Nat} (hb : ∀ s, f s < 2 ^ n) (hv : v < 2 ^ n) (k : Nat) : Span (orb f v n) (itV f v k) := by
  have ol : ∀ m, ∀ r ∈ orb f v m, r < 2 ^ n := fun m r hr => by
    obtain ⟨i, _, e⟩ := List.mem_map.mp (show r ∈ List.map _ _ from hr)
    rw [← e]; exact itV_lt hb hv i
  obtain ⟨j, hj, hsp⟩ := some_sum (n := n) (vs := orb f v (n + 1)) (orb_len ..) (ol _)
  rw [orb_take v (by omega), orb_getD v (by omega)] at hsp
  have mem : ∀ {t m : Nat}, t < m → itV f v t ∈ orb f v m := fun h => List.mem_map.mpr ⟨_, List.mem_range.mpr h, rfl⟩
  have all : ∀ k, Span (orb f v j) (itV f v k) := fun k => by
    induction k with
    | zero =>
      by_cases q : j = 0
      · rw [q] at hsp ⊢; exact hsp
      · exact Span.mem (mem (by omega))
    | succ k ih =>
      obtain ⟨S, e⟩ := ih
      show Span _ (f (itV f v k))
      rw [← e, ← comb_map f hf.z hf.x]
      refine Span.comb_in S fun r hr => ?_
      obtain ⟨x, hx, e2⟩ := List.mem_map.mp hr
      obtain ⟨t, ht, e3⟩ := List.mem_map.mp (show x ∈ List.map _ _ from hx)
      have ht := List.mem_range.mp ht
      have e4 : r = itV f v (t + 1) := by rw [← e2, ← e3]; rfl
      rw [e4]
      by_cases q : t + 1 = j
      · rw [q]; exact hsp
      · exact Span.mem (mem (by omega))
  refine Span.sub (fun r hr => ?_) (all k)
  obtain ⟨t, ht, e3⟩ := List.mem_map.mp (show r ∈ List.map _ _ from hr)
  have ht := List.mem_range.mp ht
  rw [← e3]
  exact Span.mem (mem (by omega))
end My
namespace My
open Wk
theorem w_afterN {M : Mach} (hM : MOk M) {rs : List Nat} {s : Nat} {E : Prop} {R : Nat → Prop} (hl : rs.length < 1000000) (hr : ∀ r ∈ rs, r < 2 ^ M.1) (hs : s < 2 ^ M.2.1.length) (h : R (stV M rs s)) : W_Machine_after M (rs.map anN) (An.i (s : Int)) E R := by
  refine w_walkN hM hl hr hs ?_
  show R (walkV M rs s).2
  rw [walkV_st]; exact h
theorem w_need_state {M : Mach} (hM : MOk M) {x : An} {E : Prop} {R : Unit → Prop} (fx : fineA x) (h1 : okA x M.2.1.length → R ()) (h0 : ¬ okA x M.2.1.length → E) : W_need_state M x E R := by
  have m2 := hM.n
  unfold W_need_state W_Machine_stores
  refine w_is_mask fx (by omega) (fun q => ?_) fun q => ?_
  · rw [if_pos rfl]; exact h1 q
  · rw [if_neg (by simp)]; exact h0 q
end My
namespace My
open Wk
def Rise (ps : List Nat) (n : Nat) : Prop := ps.Pairwise (· < ·) ∧ ∀ p ∈ ps, p < n
def sumAt (vs ps : List Nat) : Nat := ps.foldl (fun t p => t ^^^ vs.getD p 0) 0
theorem Rise.le {ps : List Nat} {n m : Nat} (h : Rise ps n) (q : n ≤ m) : Rise ps m := ⟨h.1, fun p hp => Nat.lt_of_lt_of_le (h.2 p hp) q⟩
theorem bl_rise (k S : Nat) : Rise (bl k S) k := ⟨by
  unfold bl
  exact (List.pairwise_lt_range).filter _, fun p hp => (mem_bl.mp hp).1⟩
theorem sumAt_app (vs ws ps : List Nat) (h : ∀ p ∈ ps, p < vs.length) : sumAt (vs ++ ws) ps = sumAt vs ps := by
  have go : ∀ (ps : List Nat) (z : Nat), (∀ p ∈ ps, p < vs.length) → ps.foldl (fun t p => t ^^^ (vs ++ ws).getD p 0) z = ps.foldl (fun t p => t ^^^ vs.getD p 0) z := fun ps => by
    induction ps with
    | nil => exact fun _ _ => rfl
    | cons p ps ih =>
      intro z h
      rw [List.foldl_cons, List.foldl_cons, ih _ fun q hq => h q (List.mem_cons_of_mem _ hq)]
      rw [List.getD_eq_getElem?_getD, List.getElem?_append_left (h p (List.mem_cons_self ..)), ← List.getD_eq_getElem?_getD]
  exact go ps 0 h
theorem sumAt_bl (vs : List Nat) (S : Nat) : ∀ k, k ≤ vs.length → sumAt vs (bl k S) = comb (vs.take k) S
  | 0, _ => rfl
  | k + 1, hk => by
    have e2 : vs.take (k + 1) = vs.take k ++ [vs[k]'(by omega)] := List.take_succ_eq_append_getElem (by omega)
    have eg : vs.getD k 0 = vs[k]'(by omega) := by rw [List.getD_eq_getElem?_getD, List.getElem?_eq_getElem (by omega)]; rfl
    have el : (vs.take k).length = k := by rw [List.length_take]; omega
    have ih := sumAt_bl vs S k (by omega)
    unfold sumAt at ih ⊢
    rw [bl_snoc, List.foldl_append, ih, e2, comb_snoc, el]
    by_cases q : S.testBit k = true
    · rw [if_pos q, if_pos q, ← eg]; rfl
    · rw [if_neg q, if_neg q, Nat.xor_zero]; rfl
theorem ind_len {n : Nat} {vs : List Nat} (hi : ∀ j, j < vs.length → ¬ Span (vs.take j) (vs.getD j 0)) (hv : ∀ v ∈ vs, v < 2 ^ n) : vs.length ≤ n := by
  refine Nat.le_of_not_lt fun q => ?_
  obtain ⟨j, hj, hs⟩ := some_sum (n := n) (vs := vs.take (n + 1)) (by rw [List.length_take]; omega) fun v hm => hv v (List.mem_of_mem_take hm)
  rw [List.take_take, show min j (n + 1) = j by omega, List.getD_eq_getElem?_getD, List.getElem?_take, if_pos (by omega), ← List.getD_eq_getElem?_getD] at hs
  exact hi j (by omega) hs
theorem getD_snoc_lt {α : Type} {xs : List α} {x d : α} {j : Nat} (h : j < xs.length) : (xs ++ [x]).getD j d = xs.getD j d := by
  rw [List.getD_eq_getElem?_getD, List.getElem?_append_left h, ← List.getD_eq_getElem?_getD]
theorem getD_snoc_eq {α : Type} {xs : List α} {x d : α} {j : Nat} (h : j = xs.length) : (xs ++ [x]).getD j d = x := by
  subst h
  rw [List.getD_eq_getElem?_getD, List.getElem?_append_right (Nat.le_refl _), Nat.sub_self]; rfl
theorem getD_some {α : Type} {xs : List α} {d : α} {j : Nat} (h : j < xs.length) : xs[j]? = some (xs.getD j d) := by
  rw [List.getD_eq_getElem?_getD, List.getElem?_eq_getElem h]; rfl
end My
namespace My
open Wk PySem
theorem det_is_whole (thing1 : An) : Det (W_is_whole thing1) := by
  show Det (fun R => W_is_whole thing1 R)
  unfold W_is_whole
  exact (Det.lf0a _)
theorem det_is_mask (thing1 : An) (width1 : Nat) : Det (W_is_mask thing1 width1) := by
  show Det (fun R => W_is_mask thing1 width1 R)
  unfold W_is_mask
  exact (Det.jn (Det.call (det_is_whole _) fun z1 => (Det.ite (by refine Det.ex fun y1 => ?_; exact (Det.and fun _ => (Det.and fun _ => (Det.lf0r _)))) (Det.lf0r _))) fun b1 => (Det.lf0a _))
theorem det_even (number1 : Nat) : Det (W_even number1) := by
  show Det (fun R => W_even number1 R)
  unfold W_even
  exact (Det.while_ (fun ⟨many1, number2⟩ => (Det.lf0a _)) (fun ⟨many1, number2⟩ => (Det.alleq (Det.alleq (Det.lf0rl _)))) (fun ⟨many1, number2⟩ => (Det.lf0a _)) _)
theorem det_bits_of (mask1 : Nat) : Det (W_bits_of mask1) := by
  show Det (fun R => W_bits_of mask1 R)
  unfold W_bits_of
  exact (Det.while_ (fun ⟨found1, mask2, place1⟩ => (Det.lf0a _)) (fun ⟨found1, mask2, place1⟩ => (Det.jn (Det.ite (Det.and fun _ => (Det.lf0r _)) (Det.lf0r _)) fun found2 => (Det.alleq (Det.alleq (Det.lf0rl _))))) (fun ⟨found1, mask2, place1⟩ => (Det.lf0a _)) _)
theorem det_Steps_lowered (kept1 : List (Nat × (Nat × Nat))) (row1 : Nat) (places1 : Nat) : Det (W_Steps_lowered kept1 row1 places1) := by
  show Det (fun R => W_Steps_lowered kept1 row1 places1 R)
  unfold W_Steps_lowered
  exact (Det.while_ (fun ⟨row2, places2⟩ => (Det.lf0a _)) (fun ⟨row2, places2⟩ => (by refine Det.ex fun x3 => ?_; exact (Det.and fun _ => (Det.alleq (Det.alleq (Det.lf0rl _)))))) (fun ⟨row2, places2⟩ => (Det.lf0a _)) _)
theorem det_Steps_crossing (self1 : List (Nat × (Nat × Nat)) × List Nat × List Nat) (bit1 : Nat) : Det (W_Steps_crossing self1 bit1) := by
  show Det (fun R => W_Steps_crossing self1 bit1 R)
  unfold W_Steps_crossing
  exact (Det.and fun _ => (Det.alleq (Det.and fun _ => (Det.sorted fun ys1 => (Det.for_ (fun top1 mask2 => (by refine Det.ex fun x2 => ?_; exact (Det.and fun _ => (by refine Det.ex fun x3 => ?_; exact (Det.and fun _ => (Det.alleq (Det.call (det_even _) fun z1 => (Det.ite (Det.lf0rl _) (Det.and fun _ => (Det.and fun _ => (Det.alleq (Det.lf0rl _)))))))))))) (fun mask2 => (Det.lf0a _)) _ _)))))
theorem det_Steps___init__ (rows1 : List Nat) : Det (W_Steps___init__ rows1) := by
  show Det (fun R => W_Steps___init__ rows1 R)
  unfold W_Steps___init__
  exact (Det.for_ (fun it1 ⟨self_gone1, self_kept1, self_found1⟩ => (by (try dsimp only); exact (Det.and fun _ => (Det.call (det_Steps_lowered _ _ _) fun z1 => (Det.ite (Det.and fun _ => (Det.lf0rl _)) (Det.and fun _ => (Det.and fun _ => (Det.lf0rl _)))))))) (fun ⟨self_gone1, self_kept1, self_found1⟩ => (Det.lf0a _)) _ _)
theorem det_sum_for (rows1 : List Nat) (wish1 : Nat) : Det (W_sum_for rows1 wish1) := by
  show Det (fun R => W_sum_for rows1 wish1 R)
  unfold W_sum_for
  exact (Det.call (det_Steps___init__ _) fun z1 => (Det.call (det_Steps_lowered _ _ _) fun z2 => (Det.ite (Det.call (det_bits_of _) fun z3 => (Det.lf0a _)) (Det.and fun _ => (Det.call (det_Steps_crossing _ _) fun z4 => (Det.lf0a _))))))
theorem det_bit_of (pair1 : Nat × Nat) (state1 : Nat) (row1 : Nat) : Det (W_bit_of pair1 state1 row1) := by
  show Det (fun R => W_bit_of pair1 state1 row1 R)
  unfold W_bit_of
  exact (Det.call (det_even _) fun z1 => (Det.call (det_even _) fun z2 => (Det.lf0a _)))
theorem det_bits_by (pairs1 : List (Nat × Nat)) (state1 : Nat) (row1 : Nat) : Det (W_bits_by pairs1 state1 row1) := by
  show Det (fun R => W_bits_by pairs1 state1 row1 R)
  unfold W_bits_by
  exact (Det.for_ (fun it1 found1 => (Det.call (det_bit_of _ _ _) fun z1 => (Det.and fun _ => (Det.alleq (Det.lf0rl _))))) (fun found1 => (Det.lf0a _)) _ _)
theorem det_Machine_stores (self1 : Nat × List (Nat × Nat) × List (Nat × Nat)) : Det (W_Machine_stores self1) := by
  show Det (fun R => W_Machine_stores self1 R)
  unfold W_Machine_stores
  exact (Det.lf0a _)
theorem det_Machine_need (self1 : Nat × List (Nat × Nat) × List (Nat × Nat)) (thing1 : An) (width1 : Nat) (E_BadMask : Prop) : Det (W_Machine_need self1 thing1 width1 E_BadMask) := by
  show Det (fun R => W_Machine_need self1 thing1 width1 E_BadMask R)
  unfold W_Machine_need
  exact (Det.call (det_is_mask _ _) fun z1 => (Det.ite (Det.lf0a _) Det.const))
theorem det_Machine_step (self1 : Nat × List (Nat × Nat) × List (Nat × Nat)) (state1 : An) (row1 : An) (E_BadMask : Prop) : Det (W_Machine_step self1 state1 row1 E_BadMask) := by
  show Det (fun R => W_Machine_step self1 state1 row1 E_BadMask R)
  unfold W_Machine_step
  exact (Det.call (det_Machine_stores _) fun z1 => (Det.call (det_Machine_need _ _ _ _) fun z2 => (Det.call (det_Machine_need _ _ _ _) fun z3 => (by refine Det.ex fun y1 => ?_; exact (Det.and fun _ => (by refine Det.ex fun y2 => ?_; exact (Det.and fun _ => (Det.call (det_bits_by _ _ _) fun z4 => (by refine Det.ex fun y3 => ?_; exact (Det.and fun _ => (by refine Det.ex fun y4 => ?_; exact (Det.and fun _ => (Det.call (det_bits_by _ _ _) fun z5 => (Det.lf0a _))))))))))))))
theorem det_Machine_walk (self1 : Nat × List (Nat × Nat) × List (Nat × Nat)) (rows1 : List An) (state1 : An) (E_BadMask : Prop) : Det (W_Machine_walk self1 rows1 state1 E_BadMask) := by
  show Det (fun R => W_Machine_walk self1 rows1 state1 E_BadMask R)
  unfold W_Machine_walk
  exact (Det.call (det_Machine_stores _) fun z1 => (Det.call (det_Machine_need _ _ _ _) fun z2 => (Det.for_ (fun row1 _ => (Det.call (det_Machine_need _ _ _ _) fun z3 => (Det.lf0rl _))) (fun _ => (by refine Det.ex fun y1 => ?_; exact (Det.and fun _ => (Det.for_ (fun row2 ⟨state2, answers1⟩ => (by (try dsimp only); exact (Det.call (det_Machine_step _ _ _ _) fun z4 => (Det.and fun _ => (Det.lf0rl _))))) (fun ⟨state2, answers1⟩ => (Det.lf0a _)) _ _)))) _ _)))
theorem det_Machine_after (self1 : Nat × List (Nat × Nat) × List (Nat × Nat)) (rows1 : List An) (state1 : An) (E_BadMask : Prop) : Det (W_Machine_after self1 rows1 state1 E_BadMask) := by
  show Det (fun R => W_Machine_after self1 rows1 state1 E_BadMask R)
  unfold W_Machine_after
  exact (Det.call (det_Machine_walk _ _ _ _) fun z1 => (Det.lf0a _))
theorem det_need_state (machine1 : Nat × List (Nat × Nat) × List (Nat × Nat)) (state1 : An) (E_BadMask : Prop) : Det (W_need_state machine1 state1 E_BadMask) := by
  show Det (fun R => W_need_state machine1 state1 E_BadMask R)
  unfold W_need_state
  exact (Det.call (det_Machine_stores _) fun z1 => (Det.call (det_is_mask _ _) fun z2 => (Det.ite (Det.lf0a _) Det.const)))
theorem det_closed (first1 : Nat) (wl : Nat → (Nat → Prop) → Prop) (hwl : ∀ x, Det (wl x)) : Det (W_closed first1 wl) := by
  show Det (fun R => W_closed first1 wl R)
  unfold W_closed
  exact (Det.while_ (fun ⟨masks1, sums1⟩ => (Det.lf0a _)) (fun ⟨masks1, sums1⟩ => (by refine Det.ex fun x5 => ?_; exact (Det.and fun _ => (Det.call (hwl _) fun z1 => (Det.call (det_sum_for _ _) fun z2 => (Det.jn (Det.ite (Det.and fun _ => (Det.lf0r _)) (by refine Det.ex fun y1 => ?_; exact (Det.and fun _ => (Det.lf0r _)))) fun ⟨found2, masks2⟩ => (Det.and fun _ => (Det.lf0rl _)))))))) (fun ⟨masks1, sums1⟩ => (Det.lf0a _)) _)
theorem det_first_bit (answer1 : Nat) : Det (W_first_bit answer1) := by
  show Det (fun R => W_first_bit answer1 R)
  unfold W_first_bit
  exact (Det.call (det_bits_of _) fun z1 => (by refine Det.ex fun x2 => ?_; exact (Det.and fun _ => (Det.lf0a _))))
theorem det_told_apart (machine1 : Nat × List (Nat × Nat) × List (Nat × Nat)) (one1 : Nat) (other1 : Nat) : Det (W_told_apart machine1 one1 other1) := by
  show Det (fun R => W_told_apart machine1 one1 other1 R)
  unfold W_told_apart
  exact (Det.call (det_need_state _ _ _) fun z1 => (Det.call (det_need_state _ _ _) fun z2 => (Det.alleq (Det.call (det_Machine_stores _) fun z3 => (Det.and fun _ => (Det.for_ (fun turn1 state2 => (Det.call (det_Machine_step _ _ _ _) fun z4 => (Det.ite (Det.call (det_first_bit _) fun z5 => (Det.lf1a _)) (Det.lf0rl _)))) (fun state2 => (Det.ite (Det.lf0a _) (Det.call (det_closed _ _ (fun mask1 => (Det.call (det_Machine_after _ _ _ _) fun z7 => (Det.lf0a _)))) fun z8 => (Det.lf0a _)))) _ _))))))
end My
namespace My
open Wk
structure Clo (n : Nat) (f : Nat → Nat) (x0 : Nat) (ms : List Nat) (su : List (List Nat)) : Prop where
  h0 : ms.getD 0 0 = x0
  pos : 0 < ms.length
  ls : su.length = ms.length
  le : ms.length ≤ n
  lt : ∀ m ∈ ms, m < 2 ^ n
  cl : ∀ P : Nat → Prop, P x0 → (∀ x, x < 2 ^ n → P x → P (f x)) → ∀ m ∈ ms, P m
  sums : ∀ i, i < ms.length → Rise (su.getD i []) ms.length ∧ sumAt ms (su.getD i []) = f (ms.getD i 0)
structure CloI (n : Nat) (f : Nat → Nat) (x0 : Nat) (ms : List Nat) (su : List (List Nat)) : Prop where
  h0 : ms.getD 0 0 = x0
  pos : 0 < ms.length
  ls : su.length = ms.length ∨ su.length + 1 = ms.length
  lt : ∀ m ∈ ms, m < 2 ^ n
  ind : ∀ j, j < ms.length → ¬ Span (ms.take j) (ms.getD j 0)
  cl : ∀ P : Nat → Prop, P x0 → (∀ x, x < 2 ^ n → P x → P (f x)) → ∀ m ∈ ms, P m
  sums : ∀ i, i < su.length → Rise (su.getD i []) ms.length ∧ sumAt ms (su.getD i []) = f (ms.getD i 0)
theorem span_nil {x : Nat} (h : Span [] x) : x = 0 := by
  obtain ⟨S, e⟩ := h
  exact e.symm
theorem no_sum2 : ¬ (PySem.Str.ofString "sum" = PySem.Str.ofString "no") := by decide +kernel
theorem w_closed {n x0 : Nat} {f : Nat → Nat} (hn : n ≤ 1000) (z0 : x0 ≠ 0) (hx : x0 < 2 ^ n) {wl : Nat → (Nat → Prop) → Prop} (hwl : ∀ (x : Nat) (k : Nat → Prop), x < 2 ^ n → k (f x) → wl x k) (hf : ∀ x, x < 2 ^ n → f x < 2 ^ n)
    {R : List Nat × List (List Nat) → Prop} (h : ∀ ms su, Clo n f x0 ms su → R (ms, su)) : W_closed x0 wl R := by
  refine whileW_ind (fun s => CloI n f x0 s.1 s.2) (fun s => n + 1 - s.2.length) ⟨rfl, Nat.zero_lt_one, .inr rfl, fun m hm => by rw [List.mem_singleton.mp hm]; exact hx, fun j hj q => ?_, fun P p0 _ m hm => by rw [List.mem_singleton.mp hm]; exact p0, fun i hi => absurd hi (Nat.not_lt_zero i)⟩ ?_
  · have hj : j < 1 := hj
    obtain rfl : j = 0 := by omega
    exact z0 (span_nil q)
  rintro ⟨ms, su⟩ nx (I : CloI n f x0 ms su) hnx
  have le := ind_len I.ind I.lt
  have ls := I.ls
  show if decide (su.length < ms.length) = true then _ else _
  by_cases q : su.length < ms.length
  · rw [if_pos (decide_eq_true q)]
    have e : su.length + 1 = ms.length := by omega
    have e2 : ms.length - 1 = su.length := by omega
    have hl : ms.getLast? = some (ms.getD su.length 0) := by
      rw [List.getLast?_eq_getElem?, e2, getD_some q]
    have xm : ms.getD su.length 0 ∈ ms := by
      rw [List.getD_eq_getElem?_getD, List.getElem?_eq_getElem q]; exact List.getElem_mem _
    have xl := I.lt _ xm
    refine ⟨_, hl, hwl _ _ xl ?_⟩
    refine w_sum_for (w := n) (by omega) (by omega) I.lt (hf _ xl) (fun _ D _ hc => ?_) fun hs m _ _ _ => ?_
    · refine jnI ?_
      show if PySem.Str.ofString "sum" = PySem.Str.ofString "no" then _ else _
      rw [if_neg no_sum2]
      refine ⟨_, rfl, by omega, hnx _ ⟨I.h0, I.pos, .inl ?_, I.lt, I.ind, I.cl, fun i hi => ?_⟩ ?_⟩
      · show (su ++ [_]).length = _
        rw [List.length_append]; exact e
      · have hi : i < (su ++ [bl ms.length D]).length := hi
        rw [List.length_append] at hi
        have hi : i < su.length + 1 := hi
        by_cases z : i < su.length
        · rw [getD_snoc_lt z]; exact I.sums i z
        · have z : i = su.length := by omega
          rw [getD_snoc_eq z, z]
          exact ⟨bl_rise _ _, by rw [sumAt_bl _ _ _ (Nat.le_refl _), List.take_length]; exact hc⟩
      · show n + 1 - (su ++ [_]).length < n + 1 - su.length
        rw [List.length_append]
        show n + 1 - (su.length + 1) < _
        omega
    · refine jnI ?_
      show if PySem.Str.ofString "no" = PySem.Str.ofString "no" then _ else _
      rw [if_pos rfl]
      have ne : ms ≠ [] := fun z => by rw [z] at q; exact absurd q (Nat.not_lt_zero _)
      refine ⟨by omega, by omega, hnx _ ⟨?_, ?_, .inr ?_, fun m hm => ?_, fun j hj => ?_, fun P p0 pf m hm => ?_, fun i hi => ?_⟩ ?_⟩
      · show (ms ++ [_]).getD 0 0 = x0
        rw [getD_snoc_lt I.pos]; exact I.h0
      · show 0 < (ms ++ [_]).length
        rw [List.length_append]; exact Nat.succ_pos _
      · show (su ++ [_]).length + 1 = (ms ++ [_]).length
        rw [List.length_append, List.length_append]; show su.length + 1 + 1 = ms.length + 1; omega
      · rcases List.mem_append.mp hm with hm | hm
        · exact I.lt m hm
        · rw [List.mem_singleton.mp hm]; exact hf _ xl
      · have hj : j < (ms ++ [f (ms.getD su.length 0)]).length := hj
        rw [List.length_append] at hj
        have hj : j < ms.length + 1 := hj
        show ¬ Span ((ms ++ [_]).take j) ((ms ++ [_]).getD j 0)
        by_cases z : j < ms.length
        · rw [getD_snoc_lt z, List.take_append_of_le_length (by omega)]; exact I.ind j z
        · have z : j = ms.length := by omega
          rw [getD_snoc_eq z, z, List.take_append_of_le_length (Nat.le_refl _), List.take_length]
          exact hs
      · rcases List.mem_append.mp hm with hm | hm
        · exact I.cl P p0 pf m hm
        · rw [List.mem_singleton.mp hm]; exact pf _ xl (I.cl P p0 pf _ xm)
      · have hi : i < (su ++ [[ms.length]]).length := hi
        rw [List.length_append] at hi
        have hi : i < su.length + 1 := hi
        show Rise ((su ++ [_]).getD i []) (ms ++ [_]).length ∧ sumAt (ms ++ [_]) ((su ++ [_]).getD i []) = f ((ms ++ [_]).getD i 0)
        have im : i < ms.length := by omega
        rw [getD_snoc_lt im]
        have l2 : (ms ++ [f (ms.getD su.length 0)]).length = ms.length + 1 := by rw [List.length_append]; rfl
        by_cases z : i < su.length
        · rw [getD_snoc_lt z]
          obtain ⟨a, b⟩ := I.sums i z
          exact ⟨a.le (by omega), by rw [sumAt_app _ _ _ a.2]; exact b⟩
        · have z : i = su.length := by omega
          rw [getD_snoc_eq z, z]
          refine ⟨⟨List.pairwise_singleton _ _, fun p hp => by rw [List.mem_singleton.mp hp]; omega⟩, ?_⟩
          show 0 ^^^ (ms ++ [_]).getD ms.length 0 = _
          rw [getD_snoc_eq rfl, Nat.zero_xor]
      · show n + 1 - (su ++ [_]).length < n + 1 - su.length
        rw [List.length_append]
        show n + 1 - (su.length + 1) < _
        omega
  · rw [if_neg (by rw [decide_eq_false q]; simp)]
    have e : su.length = ms.length := by omega
    exact h ms su ⟨I.h0, I.pos, e, le, I.lt, I.cl, fun i hi => I.sums i (by omega)⟩
end My
namespace My
open Wk
def ansR (M : Mach) : List Nat → Nat → List Nat
  | [], _ => []
  | r :: rs, s => outV M s r :: ansR M rs (nextV M s r)
theorem ansR_len (M : Mach) : ∀ (rs : List Nat) (s : Nat), (ansR M rs s).length = rs.length
  | [], _ => rfl
  | r :: rs, s => by show (ansR M rs _).length + 1 = rs.length + 1; rw [ansR_len M rs]
theorem ansR_snoc (M : Mach) : ∀ (rs : List Nat) (r s : Nat), ansR M (rs ++ [r]) s = ansR M rs s ++ [outV M (stV M rs s) r]
  | [], _, _ => rfl
  | q :: rs, r, s => by
    show outV M s q :: ansR M (rs ++ [r]) (nextV M s q) = outV M s q :: (ansR M rs (nextV M s q) ++ [outV M (stV M rs (nextV M s q)) r])
    rw [ansR_snoc M rs r]
theorem out_diff (M : Mach) (a b r : Nat) : outV M a r ^^^ outV M b r = outV M (a ^^^ b) 0 := by
  have := next_lin M.2.2 a b r r
  rw [Nat.xor_self] at this
  exact this.symm
theorem nx_diff (M : Mach) (a b r : Nat) : nextV M a r ^^^ nextV M b r = nxV M (a ^^^ b) := by
  have := next_lin M.2.1 a b r r
  rw [Nat.xor_self] at this
  exact this.symm
theorem ans_diff (M : Mach) : ∀ (rs : List Nat) (a b k : Nat), k < rs.length → (ansR M rs a).getD k 0 ^^^ (ansR M rs b).getD k 0 = outV M (itV (nxV M) (a ^^^ b) k) 0
  | [], _, _, _, h => absurd h (Nat.not_lt_zero _)
  | r :: rs, a, b, 0, _ => out_diff M a b r
  | r :: rs, a, b, k + 1, h => by
    have h : k + 1 < rs.length + 1 := h
    have ih := ans_diff M rs (nextV M a r) (nextV M b r) k (by omega)
    rw [nx_diff] at ih
    show (ansR M rs (nextV M a r)).getD k 0 ^^^ (ansR M rs (nextV M b r)).getD k 0 = outV M (itV (nxV M) (a ^^^ b) (k + 1)) 0
    rw [ih, itV_succ]
theorem ans_same {M : Mach} {rs : List Nat} {a b L : Nat} (h : ∀ k, k < L → outV M (itV (nxV M) (a ^^^ b) k) 0 = 0) (hL : L ≤ rs.length) : (ansR M rs a).take L = (ansR M rs b).take L := by
  have l1 := ansR_len M rs a
  have l2 := ansR_len M rs b
  refine List.ext_getElem (by rw [List.length_take, List.length_take, l1, l2]) fun k h1 h2 => ?_
  rw [List.length_take] at h1
  have hk : k < L := by omega
  have := ans_diff M rs a b k (by omega)
  rw [h k hk, List.getD_eq_getElem?_getD, List.getD_eq_getElem?_getD, List.getElem?_eq_getElem (by omega), List.getElem?_eq_getElem (by omega)] at this
  rw [List.getElem_take, List.getElem_take]
  have e := congrArg (fun z => z ^^^ (ansR M rs b)[k]'(by omega)) this
  simp only [Option.getD_some, Nat.xor_assoc, Nat.xor_self, Nat.xor_zero, Nat.zero_xor] at e
  exact e
abbrev ATld := Sum (PySem.Str × Nat × Nat) (PySem.Str × List Nat × List (List Nat))
/-- what is told, as it has to be; d: both states' sum -/
def AGood (M : Mach) (d : Nat) (z : ATld) : Prop :=
  (∃ t o : Nat, z = Sum.inl (PySem.Str.ofString "apart", t, o) ∧ t < M.2.1.length ∧ (∀ k, k < t → outV M (itV (nxV M) d k) 0 = 0) ∧ (outV M (itV (nxV M) d t) 0).testBit o = true) ∨
  (z = Sum.inr (PySem.Str.ofString "alike", [], []) ∧ d = 0) ∨
  (∃ (ms : List Nat) (su : List (List Nat)), z = Sum.inr (PySem.Str.ofString "alike", ms, su) ∧ d ≠ 0 ∧ Clo M.2.1.length (nxV M) d ms su ∧ ∀ k, outV M (itV (nxV M) d k) 0 = 0)
theorem out_lin (M : Mach) : Lin (fun s => outV M s 0) := lin_bits M.2.2
theorem out_zero (M : Mach) : outV M 0 0 = 0 := by
  have := (out_lin M).x 0 0
  rw [Nat.xor_self, Nat.xor_self] at this
  exact this
theorem it_zero0 (M : Mach) : ∀ t, itV (nxV M) 0 t = 0 := fun t => by
  have := ((nx_lin M).it t).x 0 0
  rw [Nat.xor_self, Nat.xor_self] at this
  exact this
theorem out_comb (M : Mach) : ∀ (vs : List Nat) (S : Nat), (∀ v ∈ vs, outV M v 0 = 0) → outV M (comb vs S) 0 = 0
  | [], S, _ => out_zero M
  | v :: vs, S, h => by
    show outV M ((if S.testBit 0 = true then v else 0) ^^^ comb vs (S / 2)) 0 = 0
    rw [(out_lin M).x, out_comb M vs (S / 2) fun x hx => h x (List.mem_cons_of_mem _ hx), Nat.xor_zero]
    by_cases q : S.testBit 0 = true
    · rw [if_pos q]; exact h v (List.mem_cons_self ..)
    · rw [if_neg q]; exact out_zero M
theorem quiet_all {M : Mach} {d : Nat} (hd : d < 2 ^ M.2.1.length) (h : ∀ k, k < M.2.1.length → outV M (itV (nxV M) d k) 0 = 0) (k : Nat) : outV M (itV (nxV M) d k) 0 = 0 := by
  obtain ⟨S, e⟩ := krylov (nx_lin M) (nx_lt M) hd k
  rw [← e]
  refine out_comb M _ S fun v hv => ?_
  obtain ⟨t, ht, e2⟩ := List.mem_map.mp (show v ∈ List.map _ _ from hv)
  rw [← e2]; exact h t (List.mem_range.mp ht)
theorem bl_head {k n : Nat} (hn : n < 2 ^ k) (z : n ≠ 0) : ∃ o, (bl k n)[0]? = some o ∧ o < k ∧ n.testBit o = true := by
  cases h : bl k n with
  | nil =>
    refine absurd (Nat.eq_of_testBit_eq fun j => ?_) z
    rw [Nat.zero_testBit]
    cases q : n.testBit j
    · rfl
    · by_cases hj : j < k
      · have : j ∈ bl k n := mem_bl.mpr ⟨hj, q⟩
        rw [h] at this; cases this
      · rw [testBit_big hn (by omega)] at q; cases q
  | cons o os =>
    have : o ∈ bl k n := by rw [h]; exact List.mem_cons_self ..
    exact ⟨o, rfl, mem_bl.mp this⟩
theorem w_told_apart {M : Mach} (hM : MOk M) {a b : Nat} (ha : a < 2 ^ M.2.1.length) (hb : b < 2 ^ M.2.1.length) {R : ATld → Prop} (h : ∀ z, AGood M (a ^^^ b) z → (∀ t, z = t → True) → R z) : W_told_apart M a b R := by
  have m1 := hM.i; have m2 := hM.n; have m3 := hM.o
  refine w_need_state hM fine_i (fun _ => w_need_state hM fine_i (fun _ => ?_) fun q => absurd (okA_nat.mpr hb) q) fun q => absurd (okA_nat.mpr ha) q
  rintro _ rfl
  show (M.2.1.length < 1000000) ∧ _
  have hd := Nat.xor_lt_two_pow ha hb
  refine ⟨by omega, ?_⟩
  refine forW_ind (fun pre (s : Nat) => s = itV (nxV M) (a ^^^ b) pre.length ∧ ∀ k, k < pre.length → outV M (itV (nxV M) (a ^^^ b) k) 0 = 0) ⟨rfl, fun k hk => absurd hk (Nat.not_lt_zero _)⟩ (fun pre t post s nx bk e hI hn _ => ?_) fun s hI => ?_
  · obtain ⟨rfl, i2⟩ := hI
    have hlen : pre.length < M.2.1.length := by
      have := congrArg List.length e
      rw [List.length_range, List.length_append, List.length_cons] at this; omega
    have et : t = pre.length := by
      have : (List.range M.2.1.length)[pre.length]? = some t := by rw [e]; simp
      rw [List.getElem?_range hlen] at this
      exact (Option.some.inj this).symm
    subst et
    have hs := it_lt M hd pre.length
    refine w_stepN hM hs (Nat.two_pow_pos _) ?_
    show if outV M (itV (nxV M) (a ^^^ b) pre.length) 0 ≠ 0 then _ else _
    by_cases q : outV M (itV (nxV M) (a ^^^ b) pre.length) 0 = 0
    · rw [if_neg (fun z => z q)]
      refine hn _ ⟨?_, fun k hk => ?_⟩
      · rw [List.length_append]
        show nxV M _ = itV (nxV M) _ (pre.length + 1)
        rfl
      · rw [List.length_append] at hk
        have hk : k < pre.length + 1 := hk
        by_cases z : k < pre.length
        · exact i2 k z
        · obtain rfl : k = pre.length := by omega
          exact q
    · rw [if_pos q]
      have lt : outV M (itV (nxV M) (a ^^^ b) pre.length) 0 < 2 ^ M.2.2.length := bitsV_lt ..
      refine w_bits_of (k := M.2.2.length) (by omega) lt ?_
      obtain ⟨o, e1, _, e3⟩ := bl_head lt q
      exact ⟨o, e1, h _ (.inl ⟨_, o, rfl, hlen, i2, e3⟩) fun _ _ => trivial⟩
  · obtain ⟨_, i2⟩ := hI
    rw [List.length_range] at i2
    by_cases q : a = b
    · rw [if_pos q]
      exact h _ (.inr (.inl ⟨rfl, by rw [q, Nat.xor_self]⟩)) fun _ _ => trivial
    · rw [if_neg q]
      have z0 : a ^^^ b ≠ 0 := fun z => q (by
        have := congrArg (fun x => x ^^^ b) z
        simp only [Nat.xor_assoc, Nat.xor_self, Nat.xor_zero, Nat.zero_xor] at this
        exact this)
      refine w_closed (f := nxV M) (by omega) z0 hd (fun x k hx hk => ?_) (fun x _ => nx_lt M x) fun ms su C => h _ (.inr (.inr ⟨ms, su, rfl, z0, C, quiet_all hd i2⟩)) fun _ _ => trivial
      show W_Machine_after M ([0].map anN) (An.i ((x : Nat) : Int)) False _
      exact w_afterN hM (by decide) (fun r hr => by rw [List.mem_singleton.mp hr]; exact Nat.two_pow_pos _) hx hk
theorem w_apart_same {M : Mach} (hM : MOk M) {a b : Nat} (ha : a < 2 ^ M.2.1.length) (hb : b < 2 ^ M.2.1.length) : (∀ R, W_told_apart M a b R) ∨ ∃ z, AGood M (a ^^^ b) z ∧ ∀ R : ATld → Prop, R z → W_told_apart M a b R := by
  rcases Det.tells' (det_told_apart M a b) (P := AGood M (a ^^^ b)) (fun R h => w_told_apart hM ha hb fun z hz _ => h z hz) with q | ⟨z, hz, q⟩
  · exact .inl q
  · exact .inr ⟨z, hz, q⟩
theorem w_apart_bad1 {M : Mach} (hM : MOk M) {x y : An} {E : Prop} {R : ATld → Prop} (fx : fineA x) (hx : ¬ okA x M.2.1.length) (h : E) : W_told_apart_bad M x y E R := w_need_state hM fx (fun q => absurd q hx) fun _ => h
theorem w_apart_bad2 {M : Mach} (hM : MOk M) {a : Nat} {y : An} {E : Prop} {R : ATld → Prop} (ha : a < 2 ^ M.2.1.length) (fy : fineA y) (hy : ¬ okA y M.2.1.length) (h : E) : W_told_apart_bad M (An.i (a : Int)) y E R :=
  w_need_state hM fine_i (fun _ => w_need_state hM fy (fun q => absurd q hy) fun _ => h) fun q => absurd (okA_nat.mpr ha) q
/-- one turn alone -/
theorem AGood.one {M : Mach} {d : Nat} {y y' : PySem.Str × Nat × Nat} (h : AGood M d (Sum.inl y)) (h' : AGood M d (Sum.inl y')) : y.2.1 = y'.2.1 := by
  rcases h with ⟨t, o, e, _, h1, h2⟩ | ⟨e, _⟩ | ⟨_, _, e, _⟩
  · rcases h' with ⟨t', o', e', _, h1', h2'⟩ | ⟨e, _⟩ | ⟨_, _, e, _⟩
    · cases e; cases e'
      show t = t'
      rcases Nat.lt_trichotomy t t' with q | q | q
      · rw [h1' t q, Nat.zero_testBit] at h2; cases h2
      · exact q
      · rw [h1 t' q, Nat.zero_testBit] at h2'; cases h2'
    · cases e
    · cases e
  · cases e
  · cases e
theorem AGood.kinds {M : Mach} {d : Nat} {y : PySem.Str × Nat × Nat} {y' : PySem.Str × List Nat × List (List Nat)} (h : AGood M d (Sum.inl y)) (h' : AGood M d (Sum.inr y')) : False := by
  rcases h with ⟨t, o, e, _, h1, h2⟩ | ⟨e, _⟩ | ⟨_, _, e, _⟩
  · rcases h' with ⟨_, _, e', _⟩ | ⟨_, hd⟩ | ⟨_, _, _, _, _, hq⟩
    · cases e'
    · rw [hd, it_zero0, out_zero, Nat.zero_testBit] at h2; cases h2
    · rw [hq t, Nat.zero_testBit] at h2; cases h2
  · cases e
  · cases e
theorem AGood.wordl {M : Mach} {d : Nat} {y : PySem.Str × Nat × Nat} (h : AGood M d (Sum.inl y)) : y.1 = PySem.Str.ofString "apart" := by
  rcases h with ⟨t, o, e, _⟩ | ⟨e, _⟩ | ⟨_, _, e, _⟩
  · cases e; rfl
  · cases e
  · cases e
theorem AGood.wordr {M : Mach} {d : Nat} {y : PySem.Str × List Nat × List (List Nat)} (h : AGood M d (Sum.inr y)) : y.1 = PySem.Str.ofString "alike" := by
  rcases h with ⟨t, o, e, _⟩ | ⟨e, _⟩ | ⟨_, _, e, _⟩
  · cases e
  · cases e; rfl
  · cases e; rfl
end My
namespace My
open Wk
theorem and_one_bit (m k : Nat) : ((m >>> k) &&& 1 = 1) ↔ m.testBit k = true := by
  rw [Nat.and_one_is_mod, Nat.testBit_eq_decide_div_mod_eq, Nat.shiftRight_eq_div_pow, decide_eq_true_iff]
theorem w_lis_mask {m w : Nat} (hw : w < 100000000) (h : m < 2 ^ w) {R : Bool → Prop} (hR : R true) : W_Lis_mask m w R := by
  refine jnI ⟨hw, ?_⟩
  rw [decide_eq_true ⟨Nat.zero_le _, h⟩]; exact hR
theorem w_is_list {ms : List Nat} {w : Nat} (hw : w < 100000000) (hl : ms.length < 1000000) (h : ∀ m ∈ ms, m < 2 ^ w) {R : Bool → Prop} (hR : R true) : W_is_list ms w R := by
  refine jnI ⟨hl, compW_fm (fun _ => none) (fun x hx kk hk => w_lis_mask hw (h x hx) (by rw [if_pos rfl]; exact hk)) ?_⟩
  have e0 : ms.filterMap (fun _ => (none : Option Nat)) = [] := by simp
  rw [e0, decide_eq_true rfl]; exact hR
theorem w_sum_at {ms ps : List Nat} (hr : Rise ps ms.length) (hl : ms.length ≤ 512) {R : Int → Prop} (h : R ((sumAt ms ps : Nat) : Int)) : W_sum_at ms ps R := by
  rintro _ rfl
  refine forW_ind (fun pre (t : Nat × Int) => t.1 = sumAt ms pre ∧ (t.2 = -1 ∨ ∃ pre' a, pre = pre' ++ [a] ∧ t.2 = ((a : Nat) : Int))) ⟨rfl, .inl rfl⟩ (fun pre p post t nx bk e hI hn _ => ?_) fun t hI => ?_
  · obtain ⟨t1, t2⟩ := t
    obtain ⟨i1, i2⟩ := hI
    have hp : p < ms.length := hr.2 p (by rw [e]; simp)
    have hlt : ¬ (((p : Nat) : Int) ≤ t2) := fun q => by
      rcases i2 with z | ⟨pre', a, ea, z⟩
      · have z : t2 = -1 := z
        rw [z] at q
        have : (0 : Int) ≤ (p : Int) := Int.natCast_nonneg p
        omega
      · have z : t2 = ((a : Nat) : Int) := z
        have hpw := hr.1
        rw [e, ea, List.append_assoc] at hpw
        have hpw := (List.pairwise_append.mp hpw).2.1
        have := (List.pairwise_cons.mp (show List.Pairwise (· < ·) (a :: (p :: post)) from hpw)).1 p (List.mem_cons_self ..)
        rw [z] at q
        omega
    refine jnI (w_lis_mask (by decide) (show p < 2 ^ 9 by show p < 512; omega) ?_)
    rw [if_pos rfl, decide_eq_false (fun q => q.elim hlt fun q => by omega), if_neg (by simp)]
    refine ⟨ms.getD p 0, getD_some hp, ?_⟩
    rintro _ rfl _ rfl
    refine hn _ ⟨?_, .inr ⟨pre, p, rfl, rfl⟩⟩
    show t1 ^^^ ms.getD p 0 = sumAt ms (pre ++ [p])
    unfold sumAt
    rw [List.foldl_append]
    have i1 : t1 = pre.foldl (fun t p => t ^^^ ms.getD p 0) 0 := i1
    rw [← i1]; rfl
  · obtain ⟨t1, t2⟩ := t
    have i1 : t1 = sumAt ms ps := hI.1
    show R ((t1 : Nat) : Int)
    rw [i1]; exact h
theorem w_lrows {c : Int} {T i : Nat} (hT : T ≤ 40) (hi : i ≤ 6) {R : List Nat → Prop} (h : ∀ l : List Nat, l.length = T → (∀ x ∈ l, x < 2 ^ i) → R l) : W_rows c T i R := w_masks (by omega) (by omega) h
theorem neg_no {z : Int} (hz : z < 0) (P : Nat → Prop) : ¬ ∃ n : Nat, An.i z = An.i (n : Int) ∧ P n := fun ⟨n, e, _⟩ => by
  have : z = (n : Int) := An.i.inj e
  omega
theorem w_lanswers {M : Mach} (hM : MOk M) {rs : List Nat} {s : Nat} (hl : rs.length ≤ 1000) {R : List Nat → Prop} (h : R (ansR M rs s)) : W_answers M s rs R := by
  have m2 := hM.n; have m3 := hM.o
  refine forW_ind (fun pre (t : List Nat × Nat) => t = (ansR M pre s, stV M pre s)) rfl (fun pre r post t nx bk e hI hn _ => ?_) fun t hI => by rw [hI]; exact h
  subst hI
  have hlen : pre.length ≤ 1000 := by
    have := congrArg List.length e
    rw [List.length_append] at this; omega
  refine w_lbits (ps := M.2.2) (by omega) ⟨by show (ansR M pre s).length < 1000000; rw [ansR_len]; omega, w_lbits (ps := M.2.1) (by omega) (hn _ ?_)⟩
  rw [ansR_snoc, st_app]; rfl
theorem w_lapart {M : Mach} (hM : MOk M) (h16 : M.2.1.length ≤ 16) {a b t o : Nat} {rs : List Nat} (hl : rs.length = 20) (h1 : t < M.2.1.length) (h2 : ∀ k, k < t → outV M (itV (nxV M) (a ^^^ b) k) 0 = 0) (h3 : (outV M (itV (nxV M) (a ^^^ b) t) 0).testBit o = true) {R : Bool → Prop} (h : R true) :
    W_apart (PySem.Str.ofString "apart", t, o) M a b rs R := by
  have m3 := hM.o
  have ho : o < 8 := by
    refine Nat.lt_of_not_le fun q => ?_
    have lt : outV M (itV (nxV M) (a ^^^ b) t) 0 < 2 ^ M.2.2.length := bitsV_lt ..
    rw [testBit_big lt (by omega)] at h3; cases h3
  refine jnI (w_lis_mask (by decide) (show t < 2 ^ 5 by show t < 32; omega) ?_)
  rw [if_pos rfl, if_neg (show ¬ M.2.1.length ≤ t by omega)]
  refine w_lis_mask (by decide) (show o < 2 ^ 3 from ho) ?_
  show if (!true) = true then _ else _
  rw [if_neg (by simp)]
  have lt : (cutT rs none (some (t + 1))).length = t + 1 := by
    show (rs.take (t + 1)).length = _
    rw [List.length_take]; omega
  generalize hq : cutT rs none (some (t + 1)) = qs at lt
  have l1 := ansR_len M qs a
  have l2 := ansR_len M qs b
  refine w_lanswers hM (by omega) (w_lanswers hM (by omega) (jnI ?_))
  have e1 : (ansR M qs a).length - 1 = t := by omega
  have e2 : (ansR M qs b).length - 1 = t := by omega
  rw [e1, e2, if_pos (ans_same h2 (by omega))]
  have g1 : (ansR M qs a).getLast? = some ((ansR M qs a).getD t 0) := by rw [List.getLast?_eq_getElem?, e1, getD_some (by omega)]
  have g2 : (ansR M qs b).getLast? = some ((ansR M qs b).getD t 0) := by rw [List.getLast?_eq_getElem?, e2, getD_some (by omega)]
  refine ⟨_, g1, _, g2, ?_⟩
  rw [ans_diff M qs a b t (by omega), decide_eq_true ((and_one_bit _ _).mpr h3)]
  exact h
theorem w_lalike {M : Mach} (hM : MOk M) {a b : Nat} {ms : List Nat} {su : List (List Nat)} {rs : List Nat} (hl : rs.length = 20) (C : (ms = [] ∧ su = [] ∧ a ^^^ b = 0) ∨ (a ^^^ b ≠ 0 ∧ Clo M.2.1.length (nxV M) (a ^^^ b) ms su ∧ ∀ k, outV M (itV (nxV M) (a ^^^ b) k) 0 = 0)) {R : Bool → Prop} (h : R true) :
    W_alike (PySem.Str.ofString "alike", ms, su) M a b rs R := by
  have m2 := hM.n; have m3 := hM.o
  have ls : su.length = ms.length := by
    rcases C with ⟨e1, e2, _⟩ | ⟨_, C, _⟩
    · rw [e1, e2]; rfl
    · exact C.ls
  have le : ms.length ≤ 120 := by
    rcases C with ⟨e1, _⟩ | ⟨_, C, _⟩
    · rw [e1]; exact Nat.zero_le _
    · exact Nat.le_trans C.le m2
  have lt : ∀ m ∈ ms, m < 2 ^ M.2.1.length := by
    rcases C with ⟨e1, _⟩ | ⟨_, C, _⟩
    · rw [e1]; exact fun _ q => nomatch q
    · exact C.lt
  have quiet : ∀ k, outV M (itV (nxV M) (a ^^^ b) k) 0 = 0 := by
    rcases C with ⟨_, _, e⟩ | ⟨_, _, q⟩
    · intro k; rw [e, it_zero0, out_zero]
    · exact q
  have ab : a = b ↔ a ^^^ b = 0 := ⟨fun q => by rw [q, Nat.xor_self], fun z => by
    have := congrArg (fun x => x ^^^ b) z
    simp only [Nat.xor_assoc, Nat.xor_self, Nat.xor_zero, Nat.zero_xor] at this
    exact this⟩
  have em : ms = [] ↔ a = b := by
    rcases C with ⟨e1, _, e⟩ | ⟨z, C, _⟩
    · exact ⟨fun _ => ab.mpr e, fun _ => e1⟩
    · exact ⟨fun q => by have := C.pos; rw [q] at this; exact absurd this (Nat.lt_irrefl 0), fun q => absurd (ab.mp q) z⟩
  refine jnI (w_is_list (by omega) (show ms.length < 1000000 by omega) lt ?_)
  rw [if_pos rfl, decide_eq_false (fun z => z ls)]
  show if false = true then _ else _
  rw [if_neg (by simp)]
  refine jnI (w_lanswers hM (by omega) (w_lanswers hM (by omega) ?_))
  have l1 := ansR_len M rs a
  have l2 := ansR_len M rs b
  have e3 : ansR M rs a = ansR M rs b := by
    have := ans_same (M := M) (rs := rs) (a := a) (b := b) (L := rs.length) (fun k _ => quiet k) (Nat.le_refl _)
    rwa [List.take_of_length_le (by omega), List.take_of_length_le (by omega)] at this
  rw [if_neg (fun z => z e3)]
  have e4 : decide (decide (ms = []) ≠ decide (a = b)) = false := decide_eq_false fun z => z (by
    by_cases q : a = b
    · rw [decide_eq_true q, decide_eq_true (em.mpr q)]
    · rw [decide_eq_false q, decide_eq_false fun y => q (em.mp y)])
  show if (decide (decide (ms = []) ≠ decide (a = b))) = true then R false else _
  rw [e4, if_neg (by simp)]
  refine ⟨by show ms.length < 1000000; omega, forW_unit (fun k hk nx bk hn => ?_) ?_⟩
  · have hk : k < ms.length := List.mem_range.mp hk
    rcases C with ⟨e1, _⟩ | ⟨z, C, _⟩
    · rw [e1] at hk; exact absurd hk (Nat.not_lt_zero _)
    have xm : ms.getD k 0 ∈ ms := by
      rw [List.getD_eq_getElem?_getD, List.getElem?_eq_getElem hk]; exact List.getElem_mem _
    have q0 : ∀ j, outV M (itV (nxV M) (ms.getD k 0) j) 0 = 0 := (C.cl (fun x => ∀ j, outV M (itV (nxV M) x j) 0 = 0) quiet fun x _ px j => by rw [← itV_succ]; exact px (j + 1)) _ xm
    have hk2 : k < su.length := by omega
    obtain ⟨c1, c2⟩ := C.sums k hk
    refine jnI ⟨ms.getD k 0, getD_some hk, w_lbits (ps := M.2.2) (by omega) ?_⟩
    rw [show bitsV M.2.2 (ms.getD k 0) 0 = 0 from q0 0, if_neg (fun z => z rfl)]
    refine ⟨su.getD k [], getD_some hk2, ?_⟩
    show if false = true then _ else _
    rw [if_neg (by simp)]
    refine ⟨su.getD k [], getD_some hk2, w_sum_at c1 (by omega) ⟨ms.getD k 0, getD_some hk, w_lbits (ps := M.2.1) (by omega) ?_⟩⟩
    rw [c2, if_neg (fun z => z rfl)]
    exact hn
  · refine jnI ?_
    by_cases q : ms = []
    · rw [if_pos q]; exact h
    · rw [if_neg q]
      rcases C with ⟨e1, _⟩ | ⟨z, C, _⟩
      · exact absurd e1 q
      refine ⟨ms.getD 0 0, getD_some C.pos, ?_⟩
      rw [C.h0, decide_eq_true rfl]; exact h
theorem apart_alike : ¬ (PySem.Str.ofString "alike" = PySem.Str.ofString "apart") := by decide +kernel
theorem w_right {M : Mach} (hM : MOk M) (h16 : M.2.1.length ≤ 16) {a b : Nat} {rs : List Nat} (hl : rs.length = 20) {z : ATld} (hz : AGood M (a ^^^ b) z) {R : Bool → Prop} (h : R true) : W_right z M a b rs R := by
  have fin : ∀ (ms : List Nat) (su : List (List Nat)), z = Sum.inr (PySem.Str.ofString "alike", ms, su) → ((ms = [] ∧ su = [] ∧ a ^^^ b = 0) ∨ (a ^^^ b ≠ 0 ∧ Clo M.2.1.length (nxV M) (a ^^^ b) ms su ∧ ∀ k, outV M (itV (nxV M) (a ^^^ b) k) 0 = 0)) → W_right z M a b rs R := fun ms su ez C => by
    subst ez
    refine jnI ?_
    rw [if_neg (fun q => q rfl), decide_eq_false (fun q => q (List.mem_cons_of_mem _ (List.mem_cons_self ..)))]
    show if false = true then _ else _
    rw [if_neg (by simp)]
    show if PySem.Str.ofString "alike" = PySem.Str.ofString "apart" then _ else _
    rw [if_neg apart_alike]
    exact ⟨_, rfl, w_lalike hM hl C h⟩
  rcases hz with ⟨t, o, ez, h1, h2, h3⟩ | ⟨ez, hd⟩ | ⟨ms, su, ez, z0, C, hq⟩
  · subst ez
    refine jnI ?_
    rw [if_neg (fun q => q rfl), decide_eq_false (fun q => q (List.mem_cons_self ..))]
    show if false = true then _ else _
    rw [if_neg (by simp)]
    show if PySem.Str.ofString "apart" = PySem.Str.ofString "apart" then _ else _
    rw [if_pos rfl]
    refine jnI ⟨_, rfl, w_lapart hM h16 hl h1 h2 h3 ?_⟩
    rw [if_pos rfl]
    refine ⟨⟨by decide, by decide⟩, _, rfl, w_lapart hM h16 (by decide) h1 (by rw [Nat.xor_comm]; exact h2) (by rw [Nat.xor_comm]; exact h3) h⟩
  · exact fin [] [] ez (.inl ⟨rfl, rfl, hd⟩)
  · exact fin ms su ez (.inr ⟨z0, C, hq⟩)
theorem w_refused1 {M : Mach} (hM : MOk M) {x y : An} (fx : fineA x) (hx : ¬ okA x M.2.1.length) {R : Bool → Prop} (h : R true) : W_refused M x y R := jnI (w_apart_bad1 hM fx hx h)
theorem w_refused2 {M : Mach} (hM : MOk M) {a : Nat} {y : An} (ha : a < 2 ^ M.2.1.length) (fy : fineA y) (hy : ¬ okA y M.2.1.length) {R : Bool → Prop} (h : R true) : W_refused M (An.i (a : Int)) y R := jnI (w_apart_bad2 hM ha fy hy h)
theorem w_tail {M : Mach} (hM : MOk M) {one : Nat} (ho : one < 2 ^ M.2.1.length) {R : Bool → Prop} (h : R true) : forW [(An.i (-1)), (An.i ((2 ^ M.2.1.length : Nat) : Int)), (An.b true), An.n, (An.s (PySem.Str.ofString "0"))] () (fun thing1 _ nx2 bk1 => jn (fun kk => W_refused M thing1 (An.i ((one : Nat) : Int)) fun z14 => if z14 = true then (W_refused M (An.i ((one : Nat) : Int)) thing1 fun z15 => kk (!z15)) else (kk true)) fun b2 => if b2 = true then (R false) else (nx2 ())) fun _ => R true := by
  refine forW_unit (fun x hx nx bk hn => ?_) h
  have fin : fineA x → ¬ okA x M.2.1.length → jn (fun kk => W_refused M x (An.i ((one : Nat) : Int)) fun z14 => if z14 = true then (W_refused M (An.i ((one : Nat) : Int)) x fun z15 => kk (!z15)) else (kk true)) fun b2 => if b2 = true then (R false) else (nx ()) := fun fx bx => jnI (w_refused1 hM fx bx (by
    rw [if_pos rfl]
    refine w_refused2 hM ho fx bx ?_
    show if (!true) = true then _ else _
    rw [if_neg (by simp)]; exact hn))
  have hx' : x = An.i (-1) ∨ x = An.i ((2 ^ M.2.1.length : Nat) : Int) ∨ x = An.b true ∨ x = An.n ∨ x = An.s (PySem.Str.ofString "0") := by simpa using hx
  rcases hx' with e | e | e | e | e <;> subst e
  · exact fin fine_i (neg_no (by decide) _)
  · exact fin fine_i fun q => absurd (okA_nat.mp q) (Nat.lt_irrefl _)
  · exact fin trivial fun ⟨n, e, _⟩ => by cases e
  · exact fin trivial fun ⟨n, e, _⟩ => by cases e
  · exact fin trivial fun ⟨n, e, _⟩ => by cases e
theorem okS_alike : okS (PySem.Str.ofString "alike") := by show PySem.PyData.canLay0 (.str _) = true; decide +kernel
theorem ok_none : okV (pAlt (pT3 pS pN pN) (pT3 pS (pL pN) (pL (pL pN)))) (Sum.inr (PySem.Str.ofString "alike", ([] : List Nat), ([] : List (List Nat))) : ATld) := ⟨okS_alike, (fun _ q => nomatch q), fun _ q => nomatch q⟩
theorem w_law {s : List Int} (hl : s.length ≤ 63) {R : Bool → Prop} (h : R true) : W_law s R := by
  refine w_lmachine (by decide) fun M hD => w_machine_init hD.toMOk (w_cell ?_)
  have hM := hD.toMOk
  have m1 := hM.i; have m2 := hM.n; have h16 := hD.n16
  refine ⟨by omega, ?_⟩
  rintro _ rfl
  have tp := Nat.two_pow_pos M.2.1.length
  refine ⟨tp, ?_⟩
  rintro one hone
  have ho : one < 2 ^ M.2.1.length := by rw [hone]; exact modN_lt tp
  clear hone
  refine w_cell ⟨tp, ?_, tp, tp, ?_⟩
  · have : modN (cellV s 5 / ((4 : Nat) : Int)) 16 < 16 := modN_lt (by decide)
    omega
  have hx : ∃ x4, [modN (cellV s 6) (2 ^ M.2.1.length), one ^^^ ((2 ^ (modN (cellV s 5 / ((4 : Nat) : Int)) 16)) % 2 ^ M.2.1.length), one, one ^^^ (2 ^ M.2.1.length - 1)][modN (cellV s 5) 4]? = some x4 ∧ x4 < 2 ^ M.2.1.length := by
    have c : modN (cellV s 5) 4 < 4 := modN_lt (by decide)
    rcases (by omega : modN (cellV s 5) 4 = 0 ∨ modN (cellV s 5) 4 = 1 ∨ modN (cellV s 5) 4 = 2 ∨ modN (cellV s 5) 4 = 3) with q | q | q | q
    · rw [q]; exact ⟨_, rfl, modN_lt tp⟩
    · rw [q]; exact ⟨_, rfl, Nat.xor_lt_two_pow ho (Nat.mod_lt _ tp)⟩
    · rw [q]; exact ⟨_, rfl, ho⟩
    · rw [q]; exact ⟨_, rfl, Nat.xor_lt_two_pow ho (by omega)⟩
  obtain ⟨x4, e4, hx4⟩ := hx
  refine ⟨x4, e4, w_cell (w_lrows (by decide) m1 fun rows l1 l2 => ?_)⟩
  rcases w_apart_same hM ho hx4 with a | ⟨z, hz, a⟩
  · exact a _
  refine a _ (w_right hM h16 l1 hz ?_)
  rw [if_pos rfl]
  refine ⟨fun n1 e1 => ?_, fun n1 e1 => ?_⟩
  · subst e1
    refine w_told_apart hM hx4 ho fun z' hz' _ => jnI ?_
    rw [Nat.xor_comm] at hz'
    rcases z' with y | y
    · have w1 := hz.wordl; have w2 := hz'.wordl
      show if y.1 ≠ n1.1 then _ else _
      rw [if_neg (fun q => q (by rw [w1, w2])), if_pos w1]
      refine ⟨y, rfl, ?_⟩
      rw [decide_eq_false (fun q => q (AGood.one hz' hz))]
      show if false = true then R false else _
      rw [if_neg (by simp)]
      refine w_told_apart hM ho ho fun z3 hz3 _ => ?_
      rw [Nat.xor_self] at hz3
      have e3 : z3 = Sum.inr (PySem.Str.ofString "alike", [], []) := by
        rcases hz3 with ⟨t, o, _, _, _, q⟩ | ⟨e, _⟩ | ⟨_, _, _, q, _⟩
        · rw [it_zero0, out_zero, Nat.zero_testBit] at q; cases q
        · exact e
        · exact absurd rfl q
      subst e3
      refine ⟨⟨ok_none, ok_none⟩, ?_⟩
      rw [if_neg (fun q => q rfl), if_neg (fun q => apart_alike (q.symm.trans w1))]
      exact w_tail hM ho h
    · exact (AGood.kinds hz hz').elim
  · subst e1
    refine w_told_apart hM hx4 ho fun z' hz' _ => jnI ?_
    rw [Nat.xor_comm] at hz'
    rcases z' with y | y
    · exact (AGood.kinds hz' hz).elim
    · have w1 := hz.wordr; have w2 := hz'.wordr
      show if y.1 ≠ n1.1 then _ else _
      rw [if_neg (fun q => q (by rw [w1, w2])), if_neg (fun q => apart_alike (w1.symm.trans q))]
      show if false = true then R false else _
      rw [if_neg (by simp)]
      refine w_told_apart hM ho ho fun z3 hz3 _ => ?_
      rw [Nat.xor_self] at hz3
      have e3 : z3 = Sum.inr (PySem.Str.ofString "alike", [], []) := by
        rcases hz3 with ⟨t, o, _, _, _, q⟩ | ⟨e, _⟩ | ⟨_, _, _, q, _⟩
        · rw [it_zero0, out_zero, Nat.zero_testBit] at q; cases q
        · exact e
        · exact absurd rfl q
      subst e3
      refine ⟨⟨ok_none, ok_none⟩, ?_⟩
      rw [if_neg (fun q => q rfl), if_pos w1]
      have lens : n1.2.1.length ≤ 120 ∧ n1.2.2.length ≤ 120 := by
        rcases hz with ⟨t, o, e, _⟩ | ⟨e, _⟩ | ⟨ms, su, e, _, C, _⟩
        · cases e
        · cases e; exact ⟨Nat.zero_le _, Nat.zero_le _⟩
        · cases e
          have c1 := C.ls; have c2 := C.le
          exact ⟨by show ms.length ≤ 120; omega, by show su.length ≤ 120; omega⟩
      refine ⟨by omega, compW_map id (fun x _ kk hk => hk) ⟨by omega, by omega, a _ (jnI ?_)⟩⟩
      show if n1.1 ≠ PySem.Str.ofString "alike" then _ else _
      rw [if_neg (fun q => q w1)]
      refine ⟨n1, rfl, ?_⟩
      rw [List.map_id, decide_eq_false (fun q => q rfl)]
      show if false = true then R false else _
      rw [if_neg (by simp)]
      exact w_tail hM ho h
end My
namespace My
open PySem L2 Wk
theorem all_mk {l : PySem.W.OpenLaw} {w : World} {K : PySem.W.Frag} {h : Heap} {mg : Str → Option Value} {fa f_is_whole f_is_mask f_even f_bits_of f_Steps_lowered f_Steps_crossing f_Steps___init__ f_sum_for f_is_pairs f_bit_of f_bits_by f_Machine___init__ f_Machine_stores f_Machine_told f_Machine_need f_Machine_step f_Machine_walk f_Machine_after f_need_state f_closed f_first_bit f_told_apart f_told_apart_bad f_cell f_mix f_masks f_thinned f_machine f_rows f_odd f_bits f_Lis_mask f_is_list f_sum_at f_answers f_apart f_alike f_right f_refused f_law C_Machine C_Steps C_BadMask C_BadTable C_WireError : Addr} (X : K.In h) (G : h.Ns mainGlobals mg) (hfa : mg "law" = some (.ref fa))
    {oc_is_whole kV_is_whole dc_is_whole pm_is_whole cd_is_whole ct_is_whole : Value} {od_is_whole an_is_whole : Option Addr} {sl_is_whole : Array (Option Value)} {oc_is_mask kV_is_mask dc_is_mask pm_is_mask cd_is_mask ct_is_mask : Value} {od_is_mask an_is_mask : Option Addr} {sl_is_mask : Array (Option Value)} {oc_even kV_even dc_even pm_even cd_even ct_even : Value} {od_even an_even : Option Addr} {sl_even : Array (Option Value)} {oc_bits_of kV_bits_of dc_bits_of pm_bits_of cd_bits_of ct_bits_of : Value} {od_bits_of an_bits_of : Option Addr} {sl_bits_of : Array (Option Value)} {oc_Steps_lowered kV_Steps_lowered dc_Steps_lowered pm_Steps_lowered cd_Steps_lowered ct_Steps_lowered : Value} {od_Steps_lowered an_Steps_lowered : Option Addr} {sl_Steps_lowered : Array (Option Value)} {oc_Steps_crossing kV_Steps_crossing dc_Steps_crossing pm_Steps_crossing cd_Steps_crossing ct_Steps_crossing : Value} {od_Steps_crossing an_Steps_crossing : Option Addr} {sl_Steps_crossing : Array (Option Value)} {oc_Steps___init__ kV_Steps___init__ dc_Steps___init__ pm_Steps___init__ cd_Steps___init__ ct_Steps___init__ : Value} {od_Steps___init__ an_Steps___init__ : Option Addr} {sl_Steps___init__ : Array (Option Value)} {oc_sum_for kV_sum_for dc_sum_for pm_sum_for cd_sum_for ct_sum_for : Value} {od_sum_for an_sum_for : Option Addr} {sl_sum_for : Array (Option Value)} {oc_is_pairs kV_is_pairs dc_is_pairs pm_is_pairs cd_is_pairs ct_is_pairs : Value} {od_is_pairs an_is_pairs : Option Addr} {sl_is_pairs : Array (Option Value)} {oc_bit_of kV_bit_of dc_bit_of pm_bit_of cd_bit_of ct_bit_of : Value} {od_bit_of an_bit_of : Option Addr} {sl_bit_of : Array (Option Value)} {oc_bits_by kV_bits_by dc_bits_by pm_bits_by cd_bits_by ct_bits_by : Value} {od_bits_by an_bits_by : Option Addr} {sl_bits_by : Array (Option Value)} {oc_Machine___init__ kV_Machine___init__ dc_Machine___init__ pm_Machine___init__ cd_Machine___init__ ct_Machine___init__ : Value} {od_Machine___init__ an_Machine___init__ : Option Addr} {sl_Machine___init__ : Array (Option Value)} {oc_Machine_stores kV_Machine_stores dc_Machine_stores pm_Machine_stores cd_Machine_stores ct_Machine_stores : Value} {od_Machine_stores an_Machine_stores : Option Addr} {sl_Machine_stores : Array (Option Value)} {oc_Machine_told kV_Machine_told dc_Machine_told pm_Machine_told cd_Machine_told ct_Machine_told : Value} {od_Machine_told an_Machine_told : Option Addr} {sl_Machine_told : Array (Option Value)} {oc_Machine_need kV_Machine_need dc_Machine_need pm_Machine_need cd_Machine_need ct_Machine_need : Value} {od_Machine_need an_Machine_need : Option Addr} {sl_Machine_need : Array (Option Value)} {oc_Machine_step kV_Machine_step dc_Machine_step pm_Machine_step cd_Machine_step ct_Machine_step : Value} {od_Machine_step an_Machine_step : Option Addr} {sl_Machine_step : Array (Option Value)} {oc_Machine_walk kV_Machine_walk dc_Machine_walk pm_Machine_walk cd_Machine_walk ct_Machine_walk : Value} {od_Machine_walk an_Machine_walk : Option Addr} {sl_Machine_walk : Array (Option Value)} {oc_Machine_after kV_Machine_after dc_Machine_after pm_Machine_after cd_Machine_after ct_Machine_after : Value} {od_Machine_after an_Machine_after : Option Addr} {sl_Machine_after : Array (Option Value)} {oc_need_state kV_need_state dc_need_state pm_need_state cd_need_state ct_need_state : Value} {od_need_state an_need_state : Option Addr} {sl_need_state : Array (Option Value)} {oc_closed kV_closed dc_closed pm_closed cd_closed ct_closed : Value} {od_closed an_closed : Option Addr} {sl_closed : Array (Option Value)} {oc_first_bit kV_first_bit dc_first_bit pm_first_bit cd_first_bit ct_first_bit : Value} {od_first_bit an_first_bit : Option Addr} {sl_first_bit : Array (Option Value)} {oc_told_apart kV_told_apart dc_told_apart pm_told_apart cd_told_apart ct_told_apart : Value} {od_told_apart an_told_apart : Option Addr} {sl_told_apart : Array (Option Value)} {oc_told_apart_bad kV_told_apart_bad dc_told_apart_bad pm_told_apart_bad cd_told_apart_bad ct_told_apart_bad : Value} {od_told_apart_bad an_told_apart_bad : Option Addr} {sl_told_apart_bad : Array (Option Value)} {oc_cell kV_cell dc_cell pm_cell cd_cell ct_cell : Value} {od_cell an_cell : Option Addr} {sl_cell : Array (Option Value)} {oc_mix kV_mix dc_mix pm_mix cd_mix ct_mix : Value} {od_mix an_mix : Option Addr} {sl_mix : Array (Option Value)} {oc_masks kV_masks dc_masks pm_masks cd_masks ct_masks : Value} {od_masks an_masks : Option Addr} {sl_masks : Array (Option Value)} {oc_thinned kV_thinned dc_thinned pm_thinned cd_thinned ct_thinned : Value} {od_thinned an_thinned : Option Addr} {sl_thinned : Array (Option Value)} {oc_machine kV_machine dc_machine pm_machine cd_machine ct_machine : Value} {od_machine an_machine : Option Addr} {sl_machine : Array (Option Value)} {oc_rows kV_rows dc_rows pm_rows cd_rows ct_rows : Value} {od_rows an_rows : Option Addr} {sl_rows : Array (Option Value)} {oc_odd kV_odd dc_odd pm_odd cd_odd ct_odd : Value} {od_odd an_odd : Option Addr} {sl_odd : Array (Option Value)} {oc_bits kV_bits dc_bits pm_bits cd_bits ct_bits : Value} {od_bits an_bits : Option Addr} {sl_bits : Array (Option Value)} {oc_Lis_mask kV_Lis_mask dc_Lis_mask pm_Lis_mask cd_Lis_mask ct_Lis_mask : Value} {od_Lis_mask an_Lis_mask : Option Addr} {sl_Lis_mask : Array (Option Value)} {oc_is_list kV_is_list dc_is_list pm_is_list cd_is_list ct_is_list : Value} {od_is_list an_is_list : Option Addr} {sl_is_list : Array (Option Value)} {oc_sum_at kV_sum_at dc_sum_at pm_sum_at cd_sum_at ct_sum_at : Value} {od_sum_at an_sum_at : Option Addr} {sl_sum_at : Array (Option Value)} {oc_answers kV_answers dc_answers pm_answers cd_answers ct_answers : Value} {od_answers an_answers : Option Addr} {sl_answers : Array (Option Value)} {oc_apart kV_apart dc_apart pm_apart cd_apart ct_apart : Value} {od_apart an_apart : Option Addr} {sl_apart : Array (Option Value)} {oc_alike kV_alike dc_alike pm_alike cd_alike ct_alike : Value} {od_alike an_alike : Option Addr} {sl_alike : Array (Option Value)} {oc_right kV_right dc_right pm_right cd_right ct_right : Value} {od_right an_right : Option Addr} {sl_right : Array (Option Value)} {oc_refused kV_refused dc_refused pm_refused cd_refused ct_refused : Value} {od_refused an_refused : Option Addr} {sl_refused : Array (Option Value)} {oc_law kV_law dc_law pm_law cd_law ct_law : Value} {od_law an_law : Option Addr} {sl_law : Array (Option Value)}
    (aC_Machine : PySem.W.nsIn K mainGlobals "Machine" = some (some (.ref C_Machine))) (pg_Machine : PySem.W.plainGet K C_Machine Str.empty = true) (hd_Machine : PySem.W.hasDictIn K C_Machine = true) (po_Machine : PySem.W.plainOver K C_Machine = true) (sa_Machine : PySem.W.findIn K (.ref C_Machine) "__setattr__" = some (some (.builtin "object.__setattr__"))) (mk_Machine : PySem.W.makesIn K C_Machine = true) (kc_Machine : PySem.W.keepIn K (.ref C_Machine) = true)
    (na_Machine_inputs : PySem.W.findIn K (.ref C_Machine) "inputs" = some none)
    (na_Machine_nexts : PySem.W.findIn K (.ref C_Machine) "nexts" = some none)
    (na_Machine_outs : PySem.W.findIn K (.ref C_Machine) "outs" = some none)
    (aC_Steps : PySem.W.nsIn K mainGlobals "Steps" = some (some (.ref C_Steps))) (pg_Steps : PySem.W.plainGet K C_Steps Str.empty = true) (hd_Steps : PySem.W.hasDictIn K C_Steps = true) (po_Steps : PySem.W.plainOver K C_Steps = true) (sa_Steps : PySem.W.findIn K (.ref C_Steps) "__setattr__" = some (some (.builtin "object.__setattr__"))) (mk_Steps : PySem.W.makesIn K C_Steps = true) (kc_Steps : PySem.W.keepIn K (.ref C_Steps) = true)
    (na_Steps_kept : PySem.W.findIn K (.ref C_Steps) "kept" = some none)
    (na_Steps_found : PySem.W.findIn K (.ref C_Steps) "found" = some none)
    (na_Steps_gone : PySem.W.findIn K (.ref C_Steps) "gone" = some none)
    (aC_BadMask : PySem.W.nsIn K mainGlobals "BadMask" = some (some (.ref C_BadMask))) (xX_BadMask : PySem.W.excIn K C_BadMask [.type "ValueError", .type "Exception", .type "BaseException", .type "object"] "ValueError.__new__" = true) (kX_BadMask : PySem.W.keepIn K (.ref C_BadMask) = true) (bX_BadMask : PySem.W.subIn K (.ref C_BadMask) (.type "BaseException") = some true) (tX_BadMask : PySem.W.typeIn K (.ref C_BadMask) = some (.type "type")) (iX_BadMask : PySem.W.isClsIn K C_BadMask = true)
    (aC_BadTable : PySem.W.nsIn K mainGlobals "BadTable" = some (some (.ref C_BadTable))) (xX_BadTable : PySem.W.excIn K C_BadTable [.type "ValueError", .type "Exception", .type "BaseException", .type "object"] "ValueError.__new__" = true) (kX_BadTable : PySem.W.keepIn K (.ref C_BadTable) = true) (bX_BadTable : PySem.W.subIn K (.ref C_BadTable) (.type "BaseException") = some true) (tX_BadTable : PySem.W.typeIn K (.ref C_BadTable) = some (.type "type")) (iX_BadTable : PySem.W.isClsIn K C_BadTable = true)
    (aC_WireError : PySem.W.nsIn K mainGlobals "WireError" = some (some (.ref C_WireError))) (xX_WireError : PySem.W.excIn K C_WireError [.type "ValueError", .type "Exception", .type "BaseException", .type "object"] "ValueError.__new__" = true) (kX_WireError : PySem.W.keepIn K (.ref C_WireError) = true) (bX_WireError : PySem.W.subIn K (.ref C_WireError) (.type "BaseException") = some true) (tX_WireError : PySem.W.typeIn K (.ref C_WireError) = some (.type "type")) (iX_WireError : PySem.W.isClsIn K C_WireError = true)
    {t_MOST_INPUTS : Tok} (u_MOST_INPUTS : PySem.W.nsIn K mainGlobals "MOST_INPUTS" = some (some (.int 6 t_MOST_INPUTS)))
    {t_MOST_OUTS : Tok} (u_MOST_OUTS : PySem.W.nsIn K mainGlobals "MOST_OUTS" = some (some (.int 6 t_MOST_OUTS)))
    {t_MOST_STORES : Tok} (u_MOST_STORES : PySem.W.nsIn K mainGlobals "MOST_STORES" = some (some (.int 120 t_MOST_STORES)))
    (sX_BadMask_BadMask : PySem.W.subIn K (.ref C_BadMask) (.ref C_BadMask) = some true)
    (a_is_whole : PySem.W.nsIn K mainGlobals "is_whole" = some (some (.ref f_is_whole)))
    (l_is_whole : K.lookup f_is_whole = some ⟨oc_is_whole, od_is_whole, .func (PySem.W.fnOf "is_whole" "is_whole" (defArgs s_is_whole) (defBody s_is_whole) (defScope s_is_whole) .none kV_is_whole dc_is_whole pm_is_whole an_is_whole cd_is_whole ct_is_whole), sl_is_whole⟩) (c_is_whole : PySem.W.codeIn K cd_is_whole "is_whole" = true) (k_is_whole : PySem.W.keepIn K (.ref f_is_whole) = true)
    (a_is_mask : PySem.W.nsIn K mainGlobals "is_mask" = some (some (.ref f_is_mask)))
    (l_is_mask : K.lookup f_is_mask = some ⟨oc_is_mask, od_is_mask, .func (PySem.W.fnOf "is_mask" "is_mask" (defArgs s_is_mask) (defBody s_is_mask) (defScope s_is_mask) .none kV_is_mask dc_is_mask pm_is_mask an_is_mask cd_is_mask ct_is_mask), sl_is_mask⟩) (c_is_mask : PySem.W.codeIn K cd_is_mask "is_mask" = true) (k_is_mask : PySem.W.keepIn K (.ref f_is_mask) = true)
    (a_even : PySem.W.nsIn K mainGlobals "even" = some (some (.ref f_even)))
    (l_even : K.lookup f_even = some ⟨oc_even, od_even, .func (PySem.W.fnOf "even" "even" (defArgs s_even) (defBody s_even) (defScope s_even) .none kV_even dc_even pm_even an_even cd_even ct_even), sl_even⟩) (c_even : PySem.W.codeIn K cd_even "even" = true) (k_even : PySem.W.keepIn K (.ref f_even) = true)
    (a_bits_of : PySem.W.nsIn K mainGlobals "bits_of" = some (some (.ref f_bits_of)))
    (l_bits_of : K.lookup f_bits_of = some ⟨oc_bits_of, od_bits_of, .func (PySem.W.fnOf "bits_of" "bits_of" (defArgs s_bits_of) (defBody s_bits_of) (defScope s_bits_of) .none kV_bits_of dc_bits_of pm_bits_of an_bits_of cd_bits_of ct_bits_of), sl_bits_of⟩) (c_bits_of : PySem.W.codeIn K cd_bits_of "bits_of" = true) (k_bits_of : PySem.W.keepIn K (.ref f_bits_of) = true)
    (a_Steps_lowered : PySem.W.findIn K (.ref C_Steps) "lowered" = some (some (.ref f_Steps_lowered))) (i_Steps_lowered : PySem.W.isFn K (.ref f_Steps_lowered) = true)
    (l_Steps_lowered : K.lookup f_Steps_lowered = some ⟨oc_Steps_lowered, od_Steps_lowered, .func (PySem.W.fnOf "lowered" "Steps.lowered" (defArgs s_Steps_lowered) (defBody s_Steps_lowered) (defScope s_Steps_lowered) .none kV_Steps_lowered dc_Steps_lowered pm_Steps_lowered an_Steps_lowered cd_Steps_lowered ct_Steps_lowered), sl_Steps_lowered⟩) (c_Steps_lowered : PySem.W.codeIn K cd_Steps_lowered "Steps.lowered" = true) (k_Steps_lowered : PySem.W.keepIn K (.ref f_Steps_lowered) = true)
    (a_Steps_crossing : PySem.W.findIn K (.ref C_Steps) "crossing" = some (some (.ref f_Steps_crossing))) (i_Steps_crossing : PySem.W.isFn K (.ref f_Steps_crossing) = true)
    (l_Steps_crossing : K.lookup f_Steps_crossing = some ⟨oc_Steps_crossing, od_Steps_crossing, .func (PySem.W.fnOf "crossing" "Steps.crossing" (defArgs s_Steps_crossing) (defBody s_Steps_crossing) (defScope s_Steps_crossing) .none kV_Steps_crossing dc_Steps_crossing pm_Steps_crossing an_Steps_crossing cd_Steps_crossing ct_Steps_crossing), sl_Steps_crossing⟩) (c_Steps_crossing : PySem.W.codeIn K cd_Steps_crossing "Steps.crossing" = true) (k_Steps_crossing : PySem.W.keepIn K (.ref f_Steps_crossing) = true)
    (a_Steps___init__ : PySem.W.findIn K (.ref C_Steps) "__init__" = some (some (.ref f_Steps___init__))) (i_Steps___init__ : PySem.W.isFn K (.ref f_Steps___init__) = true)
    (l_Steps___init__ : K.lookup f_Steps___init__ = some ⟨oc_Steps___init__, od_Steps___init__, .func (PySem.W.fnOf "__init__" "Steps.__init__" (defArgs s_Steps___init__) (defBody s_Steps___init__) (defScope s_Steps___init__) .none kV_Steps___init__ dc_Steps___init__ pm_Steps___init__ an_Steps___init__ cd_Steps___init__ ct_Steps___init__), sl_Steps___init__⟩) (c_Steps___init__ : PySem.W.codeIn K cd_Steps___init__ "Steps.__init__" = true) (k_Steps___init__ : PySem.W.keepIn K (.ref f_Steps___init__) = true)
    (a_sum_for : PySem.W.nsIn K mainGlobals "sum_for" = some (some (.ref f_sum_for)))
    (l_sum_for : K.lookup f_sum_for = some ⟨oc_sum_for, od_sum_for, .func (PySem.W.fnOf "sum_for" "sum_for" (defArgs s_sum_for) (defBody s_sum_for) (defScope s_sum_for) .none kV_sum_for dc_sum_for pm_sum_for an_sum_for cd_sum_for ct_sum_for), sl_sum_for⟩) (c_sum_for : PySem.W.codeIn K cd_sum_for "sum_for" = true) (k_sum_for : PySem.W.keepIn K (.ref f_sum_for) = true)
    (a_is_pairs : PySem.W.nsIn K mainGlobals "is_pairs" = some (some (.ref f_is_pairs)))
    (l_is_pairs : K.lookup f_is_pairs = some ⟨oc_is_pairs, od_is_pairs, .func (PySem.W.fnOf "is_pairs" "is_pairs" (defArgs s_is_pairs) (defBody s_is_pairs) (defScope s_is_pairs) .none kV_is_pairs dc_is_pairs pm_is_pairs an_is_pairs cd_is_pairs ct_is_pairs), sl_is_pairs⟩) (c_is_pairs : PySem.W.codeIn K cd_is_pairs "is_pairs" = true) (k_is_pairs : PySem.W.keepIn K (.ref f_is_pairs) = true)
    (a_bit_of : PySem.W.nsIn K mainGlobals "bit_of" = some (some (.ref f_bit_of)))
    (l_bit_of : K.lookup f_bit_of = some ⟨oc_bit_of, od_bit_of, .func (PySem.W.fnOf "bit_of" "bit_of" (defArgs s_bit_of) (defBody s_bit_of) (defScope s_bit_of) .none kV_bit_of dc_bit_of pm_bit_of an_bit_of cd_bit_of ct_bit_of), sl_bit_of⟩) (c_bit_of : PySem.W.codeIn K cd_bit_of "bit_of" = true) (k_bit_of : PySem.W.keepIn K (.ref f_bit_of) = true)
    (a_bits_by : PySem.W.nsIn K mainGlobals "bits_by" = some (some (.ref f_bits_by)))
    (l_bits_by : K.lookup f_bits_by = some ⟨oc_bits_by, od_bits_by, .func (PySem.W.fnOf "bits_by" "bits_by" (defArgs s_bits_by) (defBody s_bits_by) (defScope s_bits_by) .none kV_bits_by dc_bits_by pm_bits_by an_bits_by cd_bits_by ct_bits_by), sl_bits_by⟩) (c_bits_by : PySem.W.codeIn K cd_bits_by "bits_by" = true) (k_bits_by : PySem.W.keepIn K (.ref f_bits_by) = true)
    (a_Machine___init__ : PySem.W.findIn K (.ref C_Machine) "__init__" = some (some (.ref f_Machine___init__))) (i_Machine___init__ : PySem.W.isFn K (.ref f_Machine___init__) = true)
    (l_Machine___init__ : K.lookup f_Machine___init__ = some ⟨oc_Machine___init__, od_Machine___init__, .func (PySem.W.fnOf "__init__" "Machine.__init__" (defArgs s_Machine___init__) (defBody s_Machine___init__) (defScope s_Machine___init__) .none kV_Machine___init__ dc_Machine___init__ pm_Machine___init__ an_Machine___init__ cd_Machine___init__ ct_Machine___init__), sl_Machine___init__⟩) (c_Machine___init__ : PySem.W.codeIn K cd_Machine___init__ "Machine.__init__" = true) (k_Machine___init__ : PySem.W.keepIn K (.ref f_Machine___init__) = true)
    (a_Machine_stores : PySem.W.findIn K (.ref C_Machine) "stores" = some (some (.ref f_Machine_stores))) (i_Machine_stores : PySem.W.isFn K (.ref f_Machine_stores) = true)
    (l_Machine_stores : K.lookup f_Machine_stores = some ⟨oc_Machine_stores, od_Machine_stores, .func (PySem.W.fnOf "stores" "Machine.stores" (defArgs s_Machine_stores) (defBody s_Machine_stores) (defScope s_Machine_stores) .none kV_Machine_stores dc_Machine_stores pm_Machine_stores an_Machine_stores cd_Machine_stores ct_Machine_stores), sl_Machine_stores⟩) (c_Machine_stores : PySem.W.codeIn K cd_Machine_stores "Machine.stores" = true) (k_Machine_stores : PySem.W.keepIn K (.ref f_Machine_stores) = true)
    (a_Machine_told : PySem.W.findIn K (.ref C_Machine) "told" = some (some (.ref f_Machine_told))) (i_Machine_told : PySem.W.isFn K (.ref f_Machine_told) = true)
    (l_Machine_told : K.lookup f_Machine_told = some ⟨oc_Machine_told, od_Machine_told, .func (PySem.W.fnOf "told" "Machine.told" (defArgs s_Machine_told) (defBody s_Machine_told) (defScope s_Machine_told) .none kV_Machine_told dc_Machine_told pm_Machine_told an_Machine_told cd_Machine_told ct_Machine_told), sl_Machine_told⟩) (c_Machine_told : PySem.W.codeIn K cd_Machine_told "Machine.told" = true) (k_Machine_told : PySem.W.keepIn K (.ref f_Machine_told) = true)
    (a_Machine_need : PySem.W.findIn K (.ref C_Machine) "need" = some (some (.ref f_Machine_need))) (i_Machine_need : PySem.W.isFn K (.ref f_Machine_need) = true)
    (l_Machine_need : K.lookup f_Machine_need = some ⟨oc_Machine_need, od_Machine_need, .func (PySem.W.fnOf "need" "Machine.need" (defArgs s_Machine_need) (defBody s_Machine_need) (defScope s_Machine_need) .none kV_Machine_need dc_Machine_need pm_Machine_need an_Machine_need cd_Machine_need ct_Machine_need), sl_Machine_need⟩) (c_Machine_need : PySem.W.codeIn K cd_Machine_need "Machine.need" = true) (k_Machine_need : PySem.W.keepIn K (.ref f_Machine_need) = true)
    (a_Machine_step : PySem.W.findIn K (.ref C_Machine) "step" = some (some (.ref f_Machine_step))) (i_Machine_step : PySem.W.isFn K (.ref f_Machine_step) = true)
    (l_Machine_step : K.lookup f_Machine_step = some ⟨oc_Machine_step, od_Machine_step, .func (PySem.W.fnOf "step" "Machine.step" (defArgs s_Machine_step) (defBody s_Machine_step) (defScope s_Machine_step) .none kV_Machine_step dc_Machine_step pm_Machine_step an_Machine_step cd_Machine_step ct_Machine_step), sl_Machine_step⟩) (c_Machine_step : PySem.W.codeIn K cd_Machine_step "Machine.step" = true) (k_Machine_step : PySem.W.keepIn K (.ref f_Machine_step) = true)
    (a_Machine_walk : PySem.W.findIn K (.ref C_Machine) "walk" = some (some (.ref f_Machine_walk))) (i_Machine_walk : PySem.W.isFn K (.ref f_Machine_walk) = true)
    (l_Machine_walk : K.lookup f_Machine_walk = some ⟨oc_Machine_walk, od_Machine_walk, .func (PySem.W.fnOf "walk" "Machine.walk" (defArgs s_Machine_walk) (defBody s_Machine_walk) (defScope s_Machine_walk) .none kV_Machine_walk dc_Machine_walk pm_Machine_walk an_Machine_walk cd_Machine_walk ct_Machine_walk), sl_Machine_walk⟩) (c_Machine_walk : PySem.W.codeIn K cd_Machine_walk "Machine.walk" = true) (k_Machine_walk : PySem.W.keepIn K (.ref f_Machine_walk) = true)
    (a_Machine_after : PySem.W.findIn K (.ref C_Machine) "after" = some (some (.ref f_Machine_after))) (i_Machine_after : PySem.W.isFn K (.ref f_Machine_after) = true)
    {dT_Machine_after : Addr} {da_Machine_after : Value} {db_Machine_after : Option Addr} {dn_Machine_after : Nat} {ds_Machine_after : Array (Option Value)} {dt0_Machine_after : Tok}
    (l_Machine_after : K.lookup f_Machine_after = some ⟨oc_Machine_after, od_Machine_after, .func (PySem.W.fnOf "after" "Machine.after" (defArgs s_Machine_after) (defBody s_Machine_after) (defScope s_Machine_after) (.ref dT_Machine_after) kV_Machine_after dc_Machine_after pm_Machine_after an_Machine_after cd_Machine_after ct_Machine_after), sl_Machine_after⟩) (d_Machine_after : K.lookup dT_Machine_after = some ⟨da_Machine_after, db_Machine_after, .seq #[.int 0 dt0_Machine_after] dn_Machine_after, ds_Machine_after⟩) (c_Machine_after : PySem.W.codeIn K cd_Machine_after "Machine.after" = true) (k_Machine_after : PySem.W.keepIn K (.ref f_Machine_after) = true)
    (a_need_state : PySem.W.nsIn K mainGlobals "need_state" = some (some (.ref f_need_state)))
    (l_need_state : K.lookup f_need_state = some ⟨oc_need_state, od_need_state, .func (PySem.W.fnOf "need_state" "need_state" (defArgs s_need_state) (defBody s_need_state) (defScope s_need_state) .none kV_need_state dc_need_state pm_need_state an_need_state cd_need_state ct_need_state), sl_need_state⟩) (c_need_state : PySem.W.codeIn K cd_need_state "need_state" = true) (k_need_state : PySem.W.keepIn K (.ref f_need_state) = true)
    (a_closed : PySem.W.nsIn K mainGlobals "closed" = some (some (.ref f_closed)))
    (l_closed : K.lookup f_closed = some ⟨oc_closed, od_closed, .func (PySem.W.fnOf "closed" "closed" (defArgs s_closed) (defBody s_closed) (defScope s_closed) .none kV_closed dc_closed pm_closed an_closed cd_closed ct_closed), sl_closed⟩) (c_closed : PySem.W.codeIn K cd_closed "closed" = true) (k_closed : PySem.W.keepIn K (.ref f_closed) = true)
    (a_first_bit : PySem.W.nsIn K mainGlobals "first_bit" = some (some (.ref f_first_bit)))
    (l_first_bit : K.lookup f_first_bit = some ⟨oc_first_bit, od_first_bit, .func (PySem.W.fnOf "first_bit" "first_bit" (defArgs s_first_bit) (defBody s_first_bit) (defScope s_first_bit) .none kV_first_bit dc_first_bit pm_first_bit an_first_bit cd_first_bit ct_first_bit), sl_first_bit⟩) (c_first_bit : PySem.W.codeIn K cd_first_bit "first_bit" = true) (k_first_bit : PySem.W.keepIn K (.ref f_first_bit) = true)
    (a_told_apart : PySem.W.nsIn K mainGlobals "told_apart" = some (some (.ref f_told_apart)))
    (l_told_apart : K.lookup f_told_apart = some ⟨oc_told_apart, od_told_apart, .func (PySem.W.fnOf "told_apart" "told_apart" (defArgs s_told_apart) (defBody s_told_apart) (defScope s_told_apart) .none kV_told_apart dc_told_apart pm_told_apart an_told_apart cd_told_apart ct_told_apart), sl_told_apart⟩) (c_told_apart : PySem.W.codeIn K cd_told_apart "told_apart" = true) (k_told_apart : PySem.W.keepIn K (.ref f_told_apart) = true)
    (a_told_apart_bad : PySem.W.nsIn K mainGlobals "told_apart" = some (some (.ref f_told_apart_bad)))
    (l_told_apart_bad : K.lookup f_told_apart_bad = some ⟨oc_told_apart_bad, od_told_apart_bad, .func (PySem.W.fnOf "told_apart" "told_apart" (defArgs s_told_apart_bad) (defBody s_told_apart_bad) (defScope s_told_apart_bad) .none kV_told_apart_bad dc_told_apart_bad pm_told_apart_bad an_told_apart_bad cd_told_apart_bad ct_told_apart_bad), sl_told_apart_bad⟩) (c_told_apart_bad : PySem.W.codeIn K cd_told_apart_bad "told_apart" = true) (k_told_apart_bad : PySem.W.keepIn K (.ref f_told_apart_bad) = true)
    (a_cell : PySem.W.nsIn K mainGlobals "_law_cell" = some (some (.ref f_cell)))
    (l_cell : K.lookup f_cell = some ⟨oc_cell, od_cell, .func (PySem.W.fnOf "_law_cell" "_law_cell" (defArgs s_cell) (defBody s_cell) (defScope s_cell) .none kV_cell dc_cell pm_cell an_cell cd_cell ct_cell), sl_cell⟩) (c_cell : PySem.W.codeIn K cd_cell "_law_cell" = true) (k_cell : PySem.W.keepIn K (.ref f_cell) = true)
    (a_mix : PySem.W.nsIn K mainGlobals "_law_mix" = some (some (.ref f_mix)))
    (l_mix : K.lookup f_mix = some ⟨oc_mix, od_mix, .func (PySem.W.fnOf "_law_mix" "_law_mix" (defArgs s_mix) (defBody s_mix) (defScope s_mix) .none kV_mix dc_mix pm_mix an_mix cd_mix ct_mix), sl_mix⟩) (c_mix : PySem.W.codeIn K cd_mix "_law_mix" = true) (k_mix : PySem.W.keepIn K (.ref f_mix) = true)
    (a_masks : PySem.W.nsIn K mainGlobals "_law_masks" = some (some (.ref f_masks)))
    (l_masks : K.lookup f_masks = some ⟨oc_masks, od_masks, .func (PySem.W.fnOf "_law_masks" "_law_masks" (defArgs s_masks) (defBody s_masks) (defScope s_masks) .none kV_masks dc_masks pm_masks an_masks cd_masks ct_masks), sl_masks⟩) (c_masks : PySem.W.codeIn K cd_masks "_law_masks" = true) (k_masks : PySem.W.keepIn K (.ref f_masks) = true)
    (a_thinned : PySem.W.nsIn K mainGlobals "_law_thinned" = some (some (.ref f_thinned)))
    (l_thinned : K.lookup f_thinned = some ⟨oc_thinned, od_thinned, .func (PySem.W.fnOf "_law_thinned" "_law_thinned" (defArgs s_thinned) (defBody s_thinned) (defScope s_thinned) .none kV_thinned dc_thinned pm_thinned an_thinned cd_thinned ct_thinned), sl_thinned⟩) (c_thinned : PySem.W.codeIn K cd_thinned "_law_thinned" = true) (k_thinned : PySem.W.keepIn K (.ref f_thinned) = true)
    (a_machine : PySem.W.nsIn K mainGlobals "_law_machine" = some (some (.ref f_machine)))
    (l_machine : K.lookup f_machine = some ⟨oc_machine, od_machine, .func (PySem.W.fnOf "_law_machine" "_law_machine" (defArgs s_machine) (defBody s_machine) (defScope s_machine) .none kV_machine dc_machine pm_machine an_machine cd_machine ct_machine), sl_machine⟩) (c_machine : PySem.W.codeIn K cd_machine "_law_machine" = true) (k_machine : PySem.W.keepIn K (.ref f_machine) = true)
    (a_rows : PySem.W.nsIn K mainGlobals "_law_rows" = some (some (.ref f_rows)))
    (l_rows : K.lookup f_rows = some ⟨oc_rows, od_rows, .func (PySem.W.fnOf "_law_rows" "_law_rows" (defArgs s_rows) (defBody s_rows) (defScope s_rows) .none kV_rows dc_rows pm_rows an_rows cd_rows ct_rows), sl_rows⟩) (c_rows : PySem.W.codeIn K cd_rows "_law_rows" = true) (k_rows : PySem.W.keepIn K (.ref f_rows) = true)
    (a_odd : PySem.W.nsIn K mainGlobals "_law_odd" = some (some (.ref f_odd)))
    (l_odd : K.lookup f_odd = some ⟨oc_odd, od_odd, .func (PySem.W.fnOf "_law_odd" "_law_odd" (defArgs s_odd) (defBody s_odd) (defScope s_odd) .none kV_odd dc_odd pm_odd an_odd cd_odd ct_odd), sl_odd⟩) (c_odd : PySem.W.codeIn K cd_odd "_law_odd" = true) (k_odd : PySem.W.keepIn K (.ref f_odd) = true)
    (a_bits : PySem.W.nsIn K mainGlobals "_law_bits" = some (some (.ref f_bits)))
    (l_bits : K.lookup f_bits = some ⟨oc_bits, od_bits, .func (PySem.W.fnOf "_law_bits" "_law_bits" (defArgs s_bits) (defBody s_bits) (defScope s_bits) .none kV_bits dc_bits pm_bits an_bits cd_bits ct_bits), sl_bits⟩) (c_bits : PySem.W.codeIn K cd_bits "_law_bits" = true) (k_bits : PySem.W.keepIn K (.ref f_bits) = true)
    (a_Lis_mask : PySem.W.nsIn K mainGlobals "_law_is_mask" = some (some (.ref f_Lis_mask)))
    (l_Lis_mask : K.lookup f_Lis_mask = some ⟨oc_Lis_mask, od_Lis_mask, .func (PySem.W.fnOf "_law_is_mask" "_law_is_mask" (defArgs s_Lis_mask) (defBody s_Lis_mask) (defScope s_Lis_mask) .none kV_Lis_mask dc_Lis_mask pm_Lis_mask an_Lis_mask cd_Lis_mask ct_Lis_mask), sl_Lis_mask⟩) (c_Lis_mask : PySem.W.codeIn K cd_Lis_mask "_law_is_mask" = true) (k_Lis_mask : PySem.W.keepIn K (.ref f_Lis_mask) = true)
    (a_is_list : PySem.W.nsIn K mainGlobals "_law_is_list" = some (some (.ref f_is_list)))
    (l_is_list : K.lookup f_is_list = some ⟨oc_is_list, od_is_list, .func (PySem.W.fnOf "_law_is_list" "_law_is_list" (defArgs s_is_list) (defBody s_is_list) (defScope s_is_list) .none kV_is_list dc_is_list pm_is_list an_is_list cd_is_list ct_is_list), sl_is_list⟩) (c_is_list : PySem.W.codeIn K cd_is_list "_law_is_list" = true) (k_is_list : PySem.W.keepIn K (.ref f_is_list) = true)
    (a_sum_at : PySem.W.nsIn K mainGlobals "_law_sum_at" = some (some (.ref f_sum_at)))
    (l_sum_at : K.lookup f_sum_at = some ⟨oc_sum_at, od_sum_at, .func (PySem.W.fnOf "_law_sum_at" "_law_sum_at" (defArgs s_sum_at) (defBody s_sum_at) (defScope s_sum_at) .none kV_sum_at dc_sum_at pm_sum_at an_sum_at cd_sum_at ct_sum_at), sl_sum_at⟩) (c_sum_at : PySem.W.codeIn K cd_sum_at "_law_sum_at" = true) (k_sum_at : PySem.W.keepIn K (.ref f_sum_at) = true)
    (a_answers : PySem.W.nsIn K mainGlobals "_law_answers" = some (some (.ref f_answers)))
    (l_answers : K.lookup f_answers = some ⟨oc_answers, od_answers, .func (PySem.W.fnOf "_law_answers" "_law_answers" (defArgs s_answers) (defBody s_answers) (defScope s_answers) .none kV_answers dc_answers pm_answers an_answers cd_answers ct_answers), sl_answers⟩) (c_answers : PySem.W.codeIn K cd_answers "_law_answers" = true) (k_answers : PySem.W.keepIn K (.ref f_answers) = true)
    (a_apart : PySem.W.nsIn K mainGlobals "_law_apart" = some (some (.ref f_apart)))
    (l_apart : K.lookup f_apart = some ⟨oc_apart, od_apart, .func (PySem.W.fnOf "_law_apart" "_law_apart" (defArgs s_apart) (defBody s_apart) (defScope s_apart) .none kV_apart dc_apart pm_apart an_apart cd_apart ct_apart), sl_apart⟩) (c_apart : PySem.W.codeIn K cd_apart "_law_apart" = true) (k_apart : PySem.W.keepIn K (.ref f_apart) = true)
    (a_alike : PySem.W.nsIn K mainGlobals "_law_alike" = some (some (.ref f_alike)))
    (l_alike : K.lookup f_alike = some ⟨oc_alike, od_alike, .func (PySem.W.fnOf "_law_alike" "_law_alike" (defArgs s_alike) (defBody s_alike) (defScope s_alike) .none kV_alike dc_alike pm_alike an_alike cd_alike ct_alike), sl_alike⟩) (c_alike : PySem.W.codeIn K cd_alike "_law_alike" = true) (k_alike : PySem.W.keepIn K (.ref f_alike) = true)
    (a_right : PySem.W.nsIn K mainGlobals "_law_right" = some (some (.ref f_right)))
    (l_right : K.lookup f_right = some ⟨oc_right, od_right, .func (PySem.W.fnOf "_law_right" "_law_right" (defArgs s_right) (defBody s_right) (defScope s_right) .none kV_right dc_right pm_right an_right cd_right ct_right), sl_right⟩) (c_right : PySem.W.codeIn K cd_right "_law_right" = true) (k_right : PySem.W.keepIn K (.ref f_right) = true)
    (a_refused : PySem.W.nsIn K mainGlobals "_law_refused" = some (some (.ref f_refused)))
    (l_refused : K.lookup f_refused = some ⟨oc_refused, od_refused, .func (PySem.W.fnOf "_law_refused" "_law_refused" (defArgs s_refused) (defBody s_refused) (defScope s_refused) .none kV_refused dc_refused pm_refused an_refused cd_refused ct_refused), sl_refused⟩) (c_refused : PySem.W.codeIn K cd_refused "_law_refused" = true) (k_refused : PySem.W.keepIn K (.ref f_refused) = true)
    (a_law : PySem.W.nsIn K mainGlobals "law" = some (some (.ref f_law)))
    (l_law : K.lookup f_law = some ⟨oc_law, od_law, .func (PySem.W.fnOf "law" "law" (defArgs s_law) (defBody s_law) (defScope s_law) .none kV_law dc_law pm_law an_law cd_law ct_law), sl_law⟩) (c_law : PySem.W.codeIn K cd_law "law" = true) (k_law : PySem.W.keepIn K (.ref f_law) = true)
    (z_bool : PySem.W.nsIn K mainGlobals "bool" = some none)
    (z_enumerate : PySem.W.nsIn K mainGlobals "enumerate" = some none)
    (z_int : PySem.W.nsIn K mainGlobals "int" = some none)
    (z_isinstance : PySem.W.nsIn K mainGlobals "isinstance" = some none)
    (z_len : PySem.W.nsIn K mainGlobals "len" = some none)
    (z_list : PySem.W.nsIn K mainGlobals "list" = some none)
    (z_range : PySem.W.nsIn K mainGlobals "range" = some none)
    (z_sorted : PySem.W.nsIn K mainGlobals "sorted" = some none)
    (z_tuple : PySem.W.nsIn K mainGlobals "tuple" = some none)
    (z_zip : PySem.W.nsIn K mainGlobals "zip" = some none)
    {m_told_apart P_told_apart : Addr} {la_told_apart : Value} {lb_told_apart : Option Addr} {lv_told_apart : Array Value} {ls_told_apart : Array (Option Value)} (e_told_apart : cd_told_apart = .ref m_told_apart) (lk_told_apart : K.lookup m_told_apart = some ⟨la_told_apart, lb_told_apart, .fields lv_told_apart, ls_told_apart⟩) (vp_told_apart : (lv_told_apart[11]? : Option Value) = some (.ref P_told_apart)) (ch_told_apart : PySem.W.codeHdIn K m_told_apart P_told_apart = true) (nt_told_apart : K.lookup P_told_apart = none) (hT_told_apart : h.get? P_told_apart = some { cls := .none, data := .fields #[] })
    : LamX.LawAtS l w K CX0 10 63 "_law_script" mg fa h := by
  have e := hfa.symm.trans (PySem.W.mg_of X G a_law)
  cases e
  have F_is_whole := fun_mk (st := s_is_whole) l_is_whole c_is_whole k_is_whole
  have b_is_whole := F_is_whole.binds (ps := ["thing"]) fun _ _ _ _ _ _ us hl => match us, hl with | [_], _ => rfl
  have F_is_mask := fun_mk (st := s_is_mask) l_is_mask c_is_mask k_is_mask
  have b_is_mask := F_is_mask.binds (ps := ["thing", "width"]) fun _ _ _ _ _ _ us hl => match us, hl with | [_, _], _ => rfl
  have F_even := fun_mk (st := s_even) l_even c_even k_even
  have b_even := F_even.binds (ps := ["number"]) fun _ _ _ _ _ _ us hl => match us, hl with | [_], _ => rfl
  have F_bits_of := fun_mk (st := s_bits_of) l_bits_of c_bits_of k_bits_of
  have b_bits_of := F_bits_of.binds (ps := ["mask"]) fun _ _ _ _ _ _ us hl => match us, hl with | [_], _ => rfl
  have F_Steps_lowered := fun_mk (st := s_Steps_lowered) l_Steps_lowered c_Steps_lowered k_Steps_lowered
  have b_Steps_lowered := F_Steps_lowered.binds (ps := ["self", "row", "places"]) fun _ _ _ _ _ _ us hl => match us, hl with | [_, _, _], _ => rfl
  have F_Steps_crossing := fun_mk (st := s_Steps_crossing) l_Steps_crossing c_Steps_crossing k_Steps_crossing
  have b_Steps_crossing := F_Steps_crossing.binds (ps := ["self", "bit"]) fun _ _ _ _ _ _ us hl => match us, hl with | [_, _], _ => rfl
  have F_Steps___init__ := fun_mk (st := s_Steps___init__) l_Steps___init__ c_Steps___init__ k_Steps___init__
  have b_Steps___init__ := F_Steps___init__.binds (ps := ["self", "rows"]) fun _ _ _ _ _ _ us hl => match us, hl with | [_, _], _ => rfl
  have F_sum_for := fun_mk (st := s_sum_for) l_sum_for c_sum_for k_sum_for
  have b_sum_for := F_sum_for.binds (ps := ["rows", "wish"]) fun _ _ _ _ _ _ us hl => match us, hl with | [_, _], _ => rfl
  have F_is_pairs := fun_mk (st := s_is_pairs) l_is_pairs c_is_pairs k_is_pairs
  have b_is_pairs := F_is_pairs.binds (ps := ["thing", "most", "stores", "inputs"]) fun _ _ _ _ _ _ us hl => match us, hl with | [_, _, _, _], _ => rfl
  have F_bit_of := fun_mk (st := s_bit_of) l_bit_of c_bit_of k_bit_of
  have b_bit_of := F_bit_of.binds (ps := ["pair", "state", "row"]) fun _ _ _ _ _ _ us hl => match us, hl with | [_, _, _], _ => rfl
  have F_bits_by := fun_mk (st := s_bits_by) l_bits_by c_bits_by k_bits_by
  have b_bits_by := F_bits_by.binds (ps := ["pairs", "state", "row"]) fun _ _ _ _ _ _ us hl => match us, hl with | [_, _, _], _ => rfl
  have F_Machine___init__ := fun_mk (st := s_Machine___init__) l_Machine___init__ c_Machine___init__ k_Machine___init__
  have b_Machine___init__ := F_Machine___init__.binds (ps := ["self", "inputs", "nexts", "outs"]) fun _ _ _ _ _ _ us hl => match us, hl with | [_, _, _, _], _ => rfl
  have F_Machine_stores := fun_mk (st := s_Machine_stores) l_Machine_stores c_Machine_stores k_Machine_stores
  have b_Machine_stores := F_Machine_stores.binds (ps := ["self"]) fun _ _ _ _ _ _ us hl => match us, hl with | [_], _ => rfl
  have F_Machine_told := fun_mk (st := s_Machine_told) l_Machine_told c_Machine_told k_Machine_told
  have b_Machine_told := F_Machine_told.binds (ps := ["self"]) fun _ _ _ _ _ _ us hl => match us, hl with | [_], _ => rfl
  have F_Machine_need := fun_mk (st := s_Machine_need) l_Machine_need c_Machine_need k_Machine_need
  have b_Machine_need := F_Machine_need.binds (ps := ["self", "thing", "width"]) fun _ _ _ _ _ _ us hl => match us, hl with | [_, _, _], _ => rfl
  have F_Machine_step := fun_mk (st := s_Machine_step) l_Machine_step c_Machine_step k_Machine_step
  have b_Machine_step := F_Machine_step.binds (ps := ["self", "state", "row"]) fun _ _ _ _ _ _ us hl => match us, hl with | [_, _, _], _ => rfl
  have F_Machine_walk := fun_mk (st := s_Machine_walk) l_Machine_walk c_Machine_walk k_Machine_walk
  have b_Machine_walk := F_Machine_walk.binds (ps := ["self", "rows", "state"]) fun _ _ _ _ _ _ us hl => match us, hl with | [_, _, _], _ => rfl
  have F_Machine_after := funD_mk (st := s_Machine_after) (dvs := [.int 0]) l_Machine_after c_Machine_after k_Machine_after d_Machine_after (.cons ⟨_, rfl⟩ .nil) (by simp)
  have b_Machine_after := FunD.full (ps := ["self", "rows", "state"]) F_Machine_after (by simp) fun _ _ _ _ _ _ _ us its h1 h2 => match us, its, h1, h2 with | [_, _, _], [_], _, _ => ⟨_, rfl, rfl⟩
  have B_Machine_after := FunD.binds1 (ps := ["self", "rows", "state"]) F_Machine_after 2 0 (by simp) rfl fun _ _ _ _ _ _ _ us its h1 h2 => match us, its, h1, h2 with | [_, _], [_], _, _ => ⟨_, rfl, rfl⟩
  have F_need_state := fun_mk (st := s_need_state) l_need_state c_need_state k_need_state
  have b_need_state := F_need_state.binds (ps := ["machine", "state"]) fun _ _ _ _ _ _ us hl => match us, hl with | [_, _], _ => rfl
  have F_closed := fun_mk (st := s_closed) l_closed c_closed k_closed
  have b_closed := F_closed.binds (ps := ["first", "following"]) fun _ _ _ _ _ _ us hl => match us, hl with | [_, _], _ => rfl
  have F_first_bit := fun_mk (st := s_first_bit) l_first_bit c_first_bit k_first_bit
  have b_first_bit := F_first_bit.binds (ps := ["answer"]) fun _ _ _ _ _ _ us hl => match us, hl with | [_], _ => rfl
  have F_told_apart := fun_mk (st := s_told_apart) l_told_apart c_told_apart k_told_apart
  have b_told_apart := F_told_apart.binds (ps := ["machine", "one", "other"]) fun _ _ _ _ _ _ us hl => match us, hl with | [_, _, _], _ => rfl
  have F_told_apart_bad := fun_mk (st := s_told_apart_bad) l_told_apart_bad c_told_apart_bad k_told_apart_bad
  have b_told_apart_bad := F_told_apart_bad.binds (ps := ["machine", "one", "other"]) fun _ _ _ _ _ _ us hl => match us, hl with | [_, _, _], _ => rfl
  have F_cell := fun_mk (st := s_cell) l_cell c_cell k_cell
  have b_cell := F_cell.binds (ps := ["_law_script", "_law_k"]) fun _ _ _ _ _ _ us hl => match us, hl with | [_, _], _ => rfl
  have F_mix := fun_mk (st := s_mix) l_mix c_mix k_mix
  have b_mix := F_mix.binds (ps := ["_law_cell_here", "_law_k"]) fun _ _ _ _ _ _ us hl => match us, hl with | [_, _], _ => rfl
  have F_masks := fun_mk (st := s_masks) l_masks c_masks k_masks
  have b_masks := F_masks.binds (ps := ["_law_cell_here", "_law_start", "_law_many", "_law_width", "_law_digits"]) fun _ _ _ _ _ _ us hl => match us, hl with | [_, _, _, _, _], _ => rfl
  have F_thinned := fun_mk (st := s_thinned) l_thinned c_thinned k_thinned
  have b_thinned := F_thinned.binds (ps := ["_law_masks_here", "_law_cell_here", "_law_start", "_law_way"]) fun _ _ _ _ _ _ us hl => match us, hl with | [_, _, _, _], _ => rfl
  have F_machine := fun_mk (st := s_machine) l_machine c_machine k_machine
  have b_machine := F_machine.binds (ps := ["_law_script", "_law_start", "_law_most"]) fun _ _ _ _ _ _ us hl => match us, hl with | [_, _, _], _ => rfl
  have F_rows := fun_mk (st := s_rows) l_rows c_rows k_rows
  have b_rows := F_rows.binds (ps := ["_law_cell_here", "_law_many", "_law_width"]) fun _ _ _ _ _ _ us hl => match us, hl with | [_, _, _], _ => rfl
  have F_odd := fun_mk (st := s_odd) l_odd c_odd k_odd
  have b_odd := F_odd.binds (ps := ["_law_number"]) fun _ _ _ _ _ _ us hl => match us, hl with | [_], _ => rfl
  have F_bits := fun_mk (st := s_bits) l_bits c_bits k_bits
  have b_bits := F_bits.binds (ps := ["_law_pairs", "_law_state", "_law_row"]) fun _ _ _ _ _ _ us hl => match us, hl with | [_, _, _], _ => rfl
  have F_Lis_mask := fun_mk (st := s_Lis_mask) l_Lis_mask c_Lis_mask k_Lis_mask
  have b_Lis_mask := F_Lis_mask.binds (ps := ["_law_thing", "_law_width"]) fun _ _ _ _ _ _ us hl => match us, hl with | [_, _], _ => rfl
  have F_is_list := fun_mk (st := s_is_list) l_is_list c_is_list k_is_list
  have b_is_list := F_is_list.binds (ps := ["_law_found", "_law_width"]) fun _ _ _ _ _ _ us hl => match us, hl with | [_, _], _ => rfl
  have F_sum_at := fun_mk (st := s_sum_at) l_sum_at c_sum_at k_sum_at
  have b_sum_at := F_sum_at.binds (ps := ["_law_masks_here", "_law_places"]) fun _ _ _ _ _ _ us hl => match us, hl with | [_, _], _ => rfl
  have F_answers := fun_mk (st := s_answers) l_answers c_answers k_answers
  have b_answers := F_answers.binds (ps := ["_law_tables", "_law_state", "_law_rows_here"]) fun _ _ _ _ _ _ us hl => match us, hl with | [_, _, _], _ => rfl
  have F_apart := fun_mk (st := s_apart) l_apart c_apart k_apart
  have b_apart := F_apart.binds (ps := ["_law_found", "_law_tables", "_law_one", "_law_other", "_law_rows_here"]) fun _ _ _ _ _ _ us hl => match us, hl with | [_, _, _, _, _], _ => rfl
  have F_alike := fun_mk (st := s_alike) l_alike c_alike k_alike
  have b_alike := F_alike.binds (ps := ["_law_found", "_law_tables", "_law_one", "_law_other", "_law_rows_here"]) fun _ _ _ _ _ _ us hl => match us, hl with | [_, _, _, _, _], _ => rfl
  have F_right := fun_mk (st := s_right) l_right c_right k_right
  have b_right := F_right.binds (ps := ["_law_found", "_law_tables", "_law_one", "_law_other", "_law_rows_here"]) fun _ _ _ _ _ _ us hl => match us, hl with | [_, _, _, _, _], _ => rfl
  have F_refused := fun_mk (st := s_refused) l_refused c_refused k_refused
  have b_refused := F_refused.binds (ps := ["_law_machine_here", "_law_one", "_law_other"]) fun _ _ _ _ _ _ us hl => match us, hl with | [_, _, _], _ => rfl
  have F_law := fun_mk (st := s_law) l_law c_law k_law
  refine ⟨PySem.W.fnOf "law" "law" (defArgs s_law) (defBody s_law) (defScope s_law) .none kV_law dc_law pm_law an_law cd_law ct_law, [(m_told_apart, P_told_apart)], sp_law K ⟨C_Machine, C_Steps, C_BadMask, C_BadTable, C_WireError, P_told_apart⟩, allM1 hT_told_apart, allM1 nt_told_apart, allM1 (PySem.W.codeHd_of_K X ch_told_apart), fun s v => .of_eq rfl, fun H a ns hl hbt hT hS => ⟨woL H [P_told_apart], .ref a, ns, fun b => b = true, rfl, woL_sub, ⟨a, rfl, SqL.wo hS (allM1 (hT _ memM1))⟩, XT.start (hT _ memM1) memM1, w_law hl rfl, fun z hz _ _ _ _ => by subst hz; rfl⟩, fun base KB GB TB => ?_⟩
  have T : Tz K mg ⟨C_Machine, C_Steps, C_BadMask, C_BadTable, C_WireError, P_told_apart⟩ := ⟨⟨pg_Machine, hd_Machine, po_Machine, sa_Machine⟩, na_Machine_inputs, na_Machine_nexts, na_Machine_outs, ⟨pg_Steps, hd_Steps, po_Steps, sa_Steps⟩, na_Steps_kept, na_Steps_found, na_Steps_gone, ⟨xX_BadMask, PySem.W.mg_of X G aC_BadMask, kX_BadMask, bX_BadMask, tX_BadMask⟩, ⟨xX_BadTable, PySem.W.mg_of X G aC_BadTable, kX_BadTable, bX_BadTable, tX_BadTable⟩, ⟨xX_WireError, PySem.W.mg_of X G aC_WireError, kX_WireError, bX_WireError, tX_WireError⟩, ⟨_, PySem.W.mg_of X G u_MOST_INPUTS, _, rfl⟩, ⟨_, PySem.W.mg_of X G u_MOST_OUTS, _, rfl⟩, ⟨_, PySem.W.mg_of X G u_MOST_STORES, _, rfl⟩, exm_of bX_BadMask iX_BadMask tX_BadMask sX_BadMask_BadMask⟩
  have C_is_whole := ok_is_whole (P := l.prog) (w0 := w) (base := base) T F_is_whole (PySem.W.mg_of X G a_is_whole) b_is_whole (PySem.W.mg_none_of X G z_bool) (PySem.W.mg_none_of X G z_int) (PySem.W.mg_none_of X G z_isinstance)
  have C_is_mask := ok_is_mask (P := l.prog) (w0 := w) (base := base) T F_is_mask (PySem.W.mg_of X G a_is_mask) b_is_mask C_is_whole
  have C_even := ok_even (P := l.prog) (w0 := w) (base := base) T F_even (PySem.W.mg_of X G a_even) b_even
  have C_bits_of := ok_bits_of (P := l.prog) (w0 := w) (base := base) T F_bits_of (PySem.W.mg_of X G a_bits_of) b_bits_of
  have C_Steps_lowered := ok_Steps_lowered (P := l.prog) (w0 := w) (base := base) T F_Steps_lowered ⟨a_Steps_lowered, i_Steps_lowered, k_Steps_lowered⟩ b_Steps_lowered
  have C_Steps_crossing := ok_Steps_crossing (P := l.prog) (w0 := w) (base := base) T F_Steps_crossing ⟨a_Steps_crossing, i_Steps_crossing, k_Steps_crossing⟩ b_Steps_crossing C_even (PySem.W.mg_none_of X G z_sorted)
  have C_Steps___init__ := ok_Steps___init__ (P := l.prog) (w0 := w) (base := base) T F_Steps___init__ ⟨mk_Steps, a_Steps___init__, i_Steps___init__, kc_Steps⟩ (PySem.W.mg_of X G aC_Steps) b_Steps___init__ C_Steps_lowered (PySem.W.mg_none_of X G z_enumerate)
  have C_sum_for := ok_sum_for (P := l.prog) (w0 := w) (base := base) T F_sum_for (PySem.W.mg_of X G a_sum_for) b_sum_for C_Steps___init__ C_Steps_lowered C_bits_of C_Steps_crossing
  have C_is_pairs := ok_is_pairs (P := l.prog) (w0 := w) (base := base) T F_is_pairs (PySem.W.mg_of X G a_is_pairs) b_is_pairs C_is_mask (PySem.W.mg_none_of X G z_isinstance) (PySem.W.mg_none_of X G z_len) (PySem.W.mg_none_of X G z_list) (PySem.W.mg_none_of X G z_tuple)
  have C_bit_of := ok_bit_of (P := l.prog) (w0 := w) (base := base) T F_bit_of (PySem.W.mg_of X G a_bit_of) b_bit_of C_even (PySem.W.mg_none_of X G z_int)
  have C_bits_by := ok_bits_by (P := l.prog) (w0 := w) (base := base) T F_bits_by (PySem.W.mg_of X G a_bits_by) b_bits_by C_bit_of (PySem.W.mg_none_of X G z_enumerate)
  have C_Machine___init__ := ok_Machine___init__ (P := l.prog) (w0 := w) (base := base) T F_Machine___init__ ⟨mk_Machine, a_Machine___init__, i_Machine___init__, kc_Machine⟩ (PySem.W.mg_of X G aC_Machine) b_Machine___init__ C_is_whole C_is_pairs (PySem.W.mg_none_of X G z_isinstance) (PySem.W.mg_none_of X G z_len) (PySem.W.mg_none_of X G z_list) (PySem.W.mg_none_of X G z_tuple)
  have C_Machine_stores := ok_Machine_stores (P := l.prog) (w0 := w) (base := base) T F_Machine_stores ⟨a_Machine_stores, i_Machine_stores, k_Machine_stores⟩ b_Machine_stores (PySem.W.mg_none_of X G z_len)
  have C_Machine_told := ok_Machine_told (P := l.prog) (w0 := w) (base := base) T F_Machine_told ⟨a_Machine_told, i_Machine_told, k_Machine_told⟩ b_Machine_told (PySem.W.mg_none_of X G z_list)
  have C_Machine_need := ok_Machine_need (P := l.prog) (w0 := w) (base := base) T F_Machine_need ⟨a_Machine_need, i_Machine_need, k_Machine_need⟩ b_Machine_need C_is_mask
  have C_Machine_step := ok_Machine_step (P := l.prog) (w0 := w) (base := base) T F_Machine_step ⟨a_Machine_step, i_Machine_step, k_Machine_step⟩ b_Machine_step C_Machine_stores C_Machine_need C_bits_by
  have C_Machine_walk := ok_Machine_walk (P := l.prog) (w0 := w) (base := base) T F_Machine_walk ⟨a_Machine_walk, i_Machine_walk, k_Machine_walk⟩ b_Machine_walk C_Machine_stores C_Machine_need C_Machine_step
  have C_Machine_after := ok_Machine_after (P := l.prog) (w0 := w) (base := base) T F_Machine_after ⟨a_Machine_after, i_Machine_after, k_Machine_after⟩ b_Machine_after B_Machine_after C_Machine_walk
  have C_need_state := ok_need_state (P := l.prog) (w0 := w) (base := base) T F_need_state (PySem.W.mg_of X G a_need_state) b_need_state C_Machine_stores C_is_mask
  have C_closed := ok_closed (P := l.prog) (w0 := w) (base := base) T F_closed (PySem.W.mg_of X G a_closed) b_closed C_sum_for (PySem.W.mg_none_of X G z_len)
  have C_first_bit := ok_first_bit (P := l.prog) (w0 := w) (base := base) T F_first_bit (PySem.W.mg_of X G a_first_bit) b_first_bit C_bits_of
  have C_told_apart := ok_told_apart (P := l.prog) (w0 := w) (base := base) T F_told_apart (PySem.W.mg_of X G a_told_apart) b_told_apart C_need_state C_Machine_stores C_Machine_step C_first_bit C_closed C_Machine_after (PySem.W.mg_none_of X G z_range) e_told_apart (TB _ memM1)
  have C_told_apart_bad := ok_told_apart_bad (P := l.prog) (w0 := w) (base := base) T F_told_apart_bad (PySem.W.mg_of X G a_told_apart_bad) b_told_apart_bad C_need_state
  have C_cell := ok_cell (P := l.prog) (w0 := w) (base := base) T F_cell (PySem.W.mg_of X G a_cell) b_cell (PySem.W.mg_none_of X G z_len)
  have C_mix := ok_mix (P := l.prog) (w0 := w) (base := base) T F_mix (PySem.W.mg_of X G a_mix) b_mix
  have C_masks := ok_masks (P := l.prog) (w0 := w) (base := base) T F_masks (PySem.W.mg_of X G a_masks) b_masks C_mix (PySem.W.mg_none_of X G z_range)
  have C_thinned := ok_thinned (P := l.prog) (w0 := w) (base := base) T F_thinned (PySem.W.mg_of X G a_thinned) b_thinned C_mix (PySem.W.mg_none_of X G z_enumerate)
  have C_machine := ok_machine (P := l.prog) (w0 := w) (base := base) T F_machine (PySem.W.mg_of X G a_machine) b_machine C_cell C_mix C_masks C_thinned (PySem.W.mg_none_of X G z_enumerate) (PySem.W.mg_none_of X G z_list) (PySem.W.mg_none_of X G z_zip)
  have C_rows := ok_rows (P := l.prog) (w0 := w) (base := base) T F_rows (PySem.W.mg_of X G a_rows) b_rows C_masks
  have C_odd := ok_odd (P := l.prog) (w0 := w) (base := base) T F_odd (PySem.W.mg_of X G a_odd) b_odd
  have C_bits := ok_bits (P := l.prog) (w0 := w) (base := base) T F_bits (PySem.W.mg_of X G a_bits) b_bits C_odd (PySem.W.mg_none_of X G z_enumerate)
  have C_Lis_mask := ok_Lis_mask (P := l.prog) (w0 := w) (base := base) T F_Lis_mask (PySem.W.mg_of X G a_Lis_mask) b_Lis_mask (PySem.W.mg_none_of X G z_bool) (PySem.W.mg_none_of X G z_int) (PySem.W.mg_none_of X G z_isinstance)
  have C_is_list := ok_is_list (P := l.prog) (w0 := w) (base := base) T F_is_list (PySem.W.mg_of X G a_is_list) b_is_list C_Lis_mask (PySem.W.mg_none_of X G z_isinstance) (PySem.W.mg_none_of X G z_list)
  have C_sum_at := ok_sum_at (P := l.prog) (w0 := w) (base := base) T F_sum_at (PySem.W.mg_of X G a_sum_at) b_sum_at C_Lis_mask (PySem.W.mg_none_of X G z_len)
  have C_answers := ok_answers (P := l.prog) (w0 := w) (base := base) T F_answers (PySem.W.mg_of X G a_answers) b_answers C_bits
  have C_apart := ok_apart (P := l.prog) (w0 := w) (base := base) T F_apart (PySem.W.mg_of X G a_apart) b_apart C_Lis_mask C_answers (PySem.W.mg_none_of X G z_len)
  have C_alike := ok_alike (P := l.prog) (w0 := w) (base := base) T F_alike (PySem.W.mg_of X G a_alike) b_alike C_is_list C_answers C_bits C_sum_at (PySem.W.mg_none_of X G z_isinstance) (PySem.W.mg_none_of X G z_len) (PySem.W.mg_none_of X G z_list) (PySem.W.mg_none_of X G z_range)
  have C_right := ok_right (P := l.prog) (w0 := w) (base := base) T F_right (PySem.W.mg_of X G a_right) b_right C_apart C_alike (PySem.W.mg_none_of X G z_isinstance) (PySem.W.mg_none_of X G z_len) (PySem.W.mg_none_of X G z_tuple)
  have C_refused := ok_refused (P := l.prog) (w0 := w) (base := base) T F_refused (PySem.W.mg_of X G a_refused) b_refused C_told_apart_bad
  exact ok_law T F_law C_machine C_Machine___init__ C_cell C_rows C_told_apart C_right C_refused (PySem.W.mg_none_of X G z_len) (PySem.W.mg_none_of X G z_list)
end My
open PySem PySem.W PyProof.Rows
set_option maxRecDepth 100000 in
set_option maxHeartbeats 0 in
theorem PySem.Challenge.cw_sumwires_k52_states_told_apart_holds : PySem.Challenge.rw_sumwires_k52_states_told_apart.Holds := by
  w_on; o_law; km_head; (case hw => w_witness2)
  k_fill
  refine LamX.walk_ofTs (l := PySem.Challenge.rw_sumwires_k52_states_told_apart) (n := 63) (k := 10) (CX := fun _ => L2.CX0) (x := "_law_script") rfl (by decide) rfl ⟨rfl, by decide, by decide⟩ (fun w h Y => PySem.W.km_in_of Y) ?F (fun _ _ _ _ _ z => z)
  case F =>
    intro w mg fa h Y KX G hmg
    refine' My.all_mk KX G hmg ?aC_Machine ?pg_Machine ?hd_Machine ?po_Machine ?sa_Machine ?mk_Machine ?kc_Machine ?na_Machine_inputs ?na_Machine_nexts ?na_Machine_outs ?aC_Steps ?pg_Steps ?hd_Steps ?po_Steps ?sa_Steps ?mk_Steps ?kc_Steps ?na_Steps_kept ?na_Steps_found ?na_Steps_gone ?aC_BadMask ?xX_BadMask ?kX_BadMask ?bX_BadMask ?tX_BadMask ?iX_BadMask ?aC_BadTable ?xX_BadTable ?kX_BadTable ?bX_BadTable ?tX_BadTable ?iX_BadTable ?aC_WireError ?xX_WireError ?kX_WireError ?bX_WireError ?tX_WireError ?iX_WireError ?u_MOST_INPUTS ?u_MOST_OUTS ?u_MOST_STORES ?sX_BadMask_BadMask ?a_is_whole ?l_is_whole ?c_is_whole ?k_is_whole ?a_is_mask ?l_is_mask ?c_is_mask ?k_is_mask ?a_even ?l_even ?c_even ?k_even ?a_bits_of ?l_bits_of ?c_bits_of ?k_bits_of ?a_Steps_lowered ?i_Steps_lowered ?l_Steps_lowered ?c_Steps_lowered ?k_Steps_lowered ?a_Steps_crossing ?i_Steps_crossing ?l_Steps_crossing ?c_Steps_crossing ?k_Steps_crossing ?a_Steps___init__ ?i_Steps___init__ ?l_Steps___init__ ?c_Steps___init__ ?k_Steps___init__ ?a_sum_for ?l_sum_for ?c_sum_for ?k_sum_for ?a_is_pairs ?l_is_pairs ?c_is_pairs ?k_is_pairs ?a_bit_of ?l_bit_of ?c_bit_of ?k_bit_of ?a_bits_by ?l_bits_by ?c_bits_by ?k_bits_by ?a_Machine___init__ ?i_Machine___init__ ?l_Machine___init__ ?c_Machine___init__ ?k_Machine___init__ ?a_Machine_stores ?i_Machine_stores ?l_Machine_stores ?c_Machine_stores ?k_Machine_stores ?a_Machine_told ?i_Machine_told ?l_Machine_told ?c_Machine_told ?k_Machine_told ?a_Machine_need ?i_Machine_need ?l_Machine_need ?c_Machine_need ?k_Machine_need ?a_Machine_step ?i_Machine_step ?l_Machine_step ?c_Machine_step ?k_Machine_step ?a_Machine_walk ?i_Machine_walk ?l_Machine_walk ?c_Machine_walk ?k_Machine_walk ?a_Machine_after ?i_Machine_after ?l_Machine_after ?d_Machine_after ?c_Machine_after ?k_Machine_after ?a_need_state ?l_need_state ?c_need_state ?k_need_state ?a_closed ?l_closed ?c_closed ?k_closed ?a_first_bit ?l_first_bit ?c_first_bit ?k_first_bit ?a_told_apart ?l_told_apart ?c_told_apart ?k_told_apart ?a_told_apart_bad ?l_told_apart_bad ?c_told_apart_bad ?k_told_apart_bad ?a_cell ?l_cell ?c_cell ?k_cell ?a_mix ?l_mix ?c_mix ?k_mix ?a_masks ?l_masks ?c_masks ?k_masks ?a_thinned ?l_thinned ?c_thinned ?k_thinned ?a_machine ?l_machine ?c_machine ?k_machine ?a_rows ?l_rows ?c_rows ?k_rows ?a_odd ?l_odd ?c_odd ?k_odd ?a_bits ?l_bits ?c_bits ?k_bits ?a_Lis_mask ?l_Lis_mask ?c_Lis_mask ?k_Lis_mask ?a_is_list ?l_is_list ?c_is_list ?k_is_list ?a_sum_at ?l_sum_at ?c_sum_at ?k_sum_at ?a_answers ?l_answers ?c_answers ?k_answers ?a_apart ?l_apart ?c_apart ?k_apart ?a_alike ?l_alike ?c_alike ?k_alike ?a_right ?l_right ?c_right ?k_right ?a_refused ?l_refused ?c_refused ?k_refused ?a_law ?l_law ?c_law ?k_law ?z_bool ?z_enumerate ?z_int ?z_isinstance ?z_len ?z_list ?z_range ?z_sorted ?z_tuple ?z_zip ?e_told_apart ?lk_told_apart ?vp_told_apart ?ch_told_apart ?nt_told_apart ?hT_told_apart
    (case aC_Machine => k_is); (case pg_Machine => k_is); (case hd_Machine => k_is); (case po_Machine => k_is)
    (case sa_Machine => k_is); (case mk_Machine => k_is); (case kc_Machine => k_is); (case na_Machine_inputs => k_is)
    (case na_Machine_nexts => k_is); (case na_Machine_outs => k_is); (case aC_Steps => k_is); (case pg_Steps => k_is)
    (case hd_Steps => k_is); (case po_Steps => k_is); (case sa_Steps => k_is); (case mk_Steps => k_is)
    (case kc_Steps => k_is); (case na_Steps_kept => k_is); (case na_Steps_found => k_is); (case na_Steps_gone => k_is)
    (case aC_BadMask => k_is); (case xX_BadMask => k_exc); (case kX_BadMask => k_is); (case bX_BadMask => k_is)
    (case tX_BadMask => k_is); (case iX_BadMask => k_is); (case aC_BadTable => k_is); (case xX_BadTable => k_exc)
    (case kX_BadTable => k_is); (case bX_BadTable => k_is); (case tX_BadTable => k_is); (case iX_BadTable => k_is)
    (case aC_WireError => k_is); (case xX_WireError => k_exc); (case kX_WireError => k_is); (case bX_WireError => k_is)
    (case tX_WireError => k_is); (case iX_WireError => k_is); (case u_MOST_INPUTS => k_is); (case u_MOST_OUTS => k_is)
    (case u_MOST_STORES => k_is); (case sX_BadMask_BadMask => first | rfl | k_is); (case a_is_whole => k_is); (case l_is_whole => k_is)
    (case c_is_whole => k_is); (case k_is_whole => k_is); (case a_is_mask => k_is); (case l_is_mask => k_is)
    (case c_is_mask => k_is); (case k_is_mask => k_is); (case a_even => k_is); (case l_even => k_is)
    (case c_even => k_is); (case k_even => k_is); (case a_bits_of => k_is); (case l_bits_of => k_is)
    (case c_bits_of => k_is); (case k_bits_of => k_is); (case a_Steps_lowered => k_is); (case i_Steps_lowered => k_is)
    (case l_Steps_lowered => k_is); (case c_Steps_lowered => k_is); (case k_Steps_lowered => k_is); (case a_Steps_crossing => k_is)
    (case i_Steps_crossing => k_is); (case l_Steps_crossing => k_is); (case c_Steps_crossing => k_is); (case k_Steps_crossing => k_is)
    (case a_Steps___init__ => k_is); (case i_Steps___init__ => k_is); (case l_Steps___init__ => k_is); (case c_Steps___init__ => k_is)
    (case k_Steps___init__ => k_is); (case a_sum_for => k_is); (case l_sum_for => k_is); (case c_sum_for => k_is)
    (case k_sum_for => k_is); (case a_is_pairs => k_is); (case l_is_pairs => k_is); (case c_is_pairs => k_is)
    (case k_is_pairs => k_is); (case a_bit_of => k_is); (case l_bit_of => k_is); (case c_bit_of => k_is)
    (case k_bit_of => k_is); (case a_bits_by => k_is); (case l_bits_by => k_is); (case c_bits_by => k_is)
    (case k_bits_by => k_is); (case a_Machine___init__ => k_is); (case i_Machine___init__ => k_is); (case l_Machine___init__ => k_is)
    (case c_Machine___init__ => k_is); (case k_Machine___init__ => k_is); (case a_Machine_stores => k_is); (case i_Machine_stores => k_is)
    (case l_Machine_stores => k_is); (case c_Machine_stores => k_is); (case k_Machine_stores => k_is); (case a_Machine_told => k_is)
    (case i_Machine_told => k_is); (case l_Machine_told => k_is); (case c_Machine_told => k_is); (case k_Machine_told => k_is)
    (case a_Machine_need => k_is); (case i_Machine_need => k_is); (case l_Machine_need => k_is); (case c_Machine_need => k_is)
    (case k_Machine_need => k_is); (case a_Machine_step => k_is); (case i_Machine_step => k_is); (case l_Machine_step => k_is)
    (case c_Machine_step => k_is); (case k_Machine_step => k_is); (case a_Machine_walk => k_is); (case i_Machine_walk => k_is)
    (case l_Machine_walk => k_is); (case c_Machine_walk => k_is); (case k_Machine_walk => k_is); (case a_Machine_after => k_is)
    (case i_Machine_after => k_is); (case l_Machine_after => k_is); (case d_Machine_after => k_is); (case c_Machine_after => k_is)
    (case k_Machine_after => k_is); (case a_need_state => k_is); (case l_need_state => k_is); (case c_need_state => k_is)
    (case k_need_state => k_is); (case a_closed => k_is); (case l_closed => k_is); (case c_closed => k_is)
    (case k_closed => k_is); (case a_first_bit => k_is); (case l_first_bit => k_is); (case c_first_bit => k_is)
    (case k_first_bit => k_is); (case a_told_apart => k_is); (case l_told_apart => k_is); (case c_told_apart => k_is)
    (case k_told_apart => k_is); (case a_told_apart_bad => k_is); (case l_told_apart_bad => k_is); (case c_told_apart_bad => k_is)
    (case k_told_apart_bad => k_is); (case a_cell => k_is); (case l_cell => k_is); (case c_cell => k_is)
    (case k_cell => k_is); (case a_mix => k_is); (case l_mix => k_is); (case c_mix => k_is)
    (case k_mix => k_is); (case a_masks => k_is); (case l_masks => k_is); (case c_masks => k_is)
    (case k_masks => k_is); (case a_thinned => k_is); (case l_thinned => k_is); (case c_thinned => k_is)
    (case k_thinned => k_is); (case a_machine => k_is); (case l_machine => k_is); (case c_machine => k_is)
    (case k_machine => k_is); (case a_rows => k_is); (case l_rows => k_is); (case c_rows => k_is)
    (case k_rows => k_is); (case a_odd => k_is); (case l_odd => k_is); (case c_odd => k_is)
    (case k_odd => k_is); (case a_bits => k_is); (case l_bits => k_is); (case c_bits => k_is)
    (case k_bits => k_is); (case a_Lis_mask => k_is); (case l_Lis_mask => k_is); (case c_Lis_mask => k_is)
    (case k_Lis_mask => k_is); (case a_is_list => k_is); (case l_is_list => k_is); (case c_is_list => k_is)
    (case k_is_list => k_is); (case a_sum_at => k_is); (case l_sum_at => k_is); (case c_sum_at => k_is)
    (case k_sum_at => k_is); (case a_answers => k_is); (case l_answers => k_is); (case c_answers => k_is)
    (case k_answers => k_is); (case a_apart => k_is); (case l_apart => k_is); (case c_apart => k_is)
    (case k_apart => k_is); (case a_alike => k_is); (case l_alike => k_is); (case c_alike => k_is)
    (case k_alike => k_is); (case a_right => k_is); (case l_right => k_is); (case c_right => k_is)
    (case k_right => k_is); (case a_refused => k_is); (case l_refused => k_is); (case c_refused => k_is)
    (case k_refused => k_is); (case a_law => k_is); (case l_law => k_is); (case c_law => k_is)
    (case k_law => k_is); (case z_bool => k_is); (case z_enumerate => k_is); (case z_int => k_is)
    (case z_isinstance => k_is); (case z_len => k_is); (case z_list => k_is); (case z_range => k_is)
    (case z_sorted => k_is); (case z_tuple => k_is); (case z_zip => k_is)
    (case e_told_apart => rfl)
    (case lk_told_apart => k_is)
    (case vp_told_apart => rfl)
    (case ch_told_apart => kernel_rfl)
    (case nt_told_apart => first | rfl | k_is | kernel_rfl)
    (case hT_told_apart => exact PySem.W.km_tabs_of Y _ (by decide))
