import PyProof.Rows.All
import Wide.All
import OpenK.AllK
import Wide.FinOn
import HandS.ForMost
import HandS.Wide
import HandS.WideBits
import HandS.IsInst
import HandS.Steps
import HandS.Exc
import HandS.ExcOwn
import HandS.TryOnly
import HandS.WordsExc
import HandS.EndBits
import HandS.Rev
import HandS.RevTup
import HandS.Walk
import HandS.Zip
import HandS.SortInts
import HandS.More
import HandS.SetFor
import KE.GoesMore
import KE.KDictZip
import HandS.Iter
import HandS.Keys
import HandS.Defaults
import HandS.ExcIs
import HandS.Text
import PyProof.EqKinds
import PyProof.NeKinds
import KE.KEqDict
import HandS.Style
import HandS.ClsMeth
import HandS.List
import HandS.ExcInit
import HandS.ExcField
import PyProof.StrOps2
import HandS.Deep
import HandS.TryMany
import HandS.NoneIn
import HandS.Lambda
import HandS.EndTab
import KE.KNestM
import HandS.TupSets
import PySem.Challenge.RW_sumwires_k12_nets_told
set_option Elab.async false
set_option linter.all false
set_option maxRecDepth 100000
set_option maxHeartbeats 4000000
set_option exponentiation.threshold 4000
namespace Wk
open PySem L2
abbrev Ex (H H' : Hp) : Prop := ∀ a o, H a = some o → H' a = some o
theorem Ex.rfl' {H : Hp} : Ex H H := fun _ _ h => h
theorem Ex.tr {H H1 H2 : Hp} (a : Ex H H1) (b : Ex H1 H2) : Ex H H2 := fun x o h => b x o (a x o h)
theorem Ex.new {H : Hp} {p : Addr} {o : HO} (h : H p = none) : Ex H (upd H p o) := fun a u e => by
  rw [upd_ne (ne_of_none e h)]; exact e
theorem Ex.non {H H' : Hp} (e : Ex H H') {p : Addr} (h : H' p = none) : H p = none := by
  cases q : H p with
  | none => rfl
  | some o => rw [e p o q] at h; cases h
/-- from (F0, H0) to (F, H): all is kept, and F has grown by nothing but what is new to H0 -/
structure Wf (F0 H0 F H : Hp) : Prop where
  h : Ex H0 H
  f : Ex F H
  g : Ex F0 F
  n : ∀ a o, F a = some o → F0 a = none → H0 a = none
theorem Wf.id {F H : Hp} (e : Ex F H) : Wf F H F H := ⟨Ex.rfl', e, Ex.rfl', fun a o h h' => by rw [h] at h'; cases h'⟩
theorem Wf.tr {F0 H0 F H F' H' : Hp} (a : Wf F0 H0 F H) (b : Wf F H F' H') : Wf F0 H0 F' H' := ⟨a.h.tr b.h, b.f, a.g.tr b.g, fun x o h h0 => by
  cases q : F x with
  | none => exact a.h.non (b.n x o h q)
  | some u => exact a.n x u q h0⟩
/-- a new object that stays as it is -/
theorem Wf.new {F H : Hp} {p : Addr} {o : HO} (e : Ex F H) (hp : H p = none) : Wf F H (upd F p o) (upd H p o) := ⟨Ex.new hp, fun a u h => by
    by_cases q : a = p
    · subst q; rw [upd_same] at h ⊢; exact h
    · rw [upd_ne q] at h ⊢; exact e a u h, Ex.new (e.non hp), fun a u h h0 => by
    by_cases q : a = p
    · subst q; exact hp
    · rw [upd_ne q, h0] at h; cases h⟩
/-- a new object that is still changed -/
theorem Wf.newX {F H : Hp} {p : Addr} {o : HO} (e : Ex F H) (hp : H p = none) : Wf F H F (upd H p o) := ⟨Ex.new hp, e.tr (Ex.new hp), Ex.rfl', fun a u h h0 => by rw [h] at h0; cases h0⟩
/-- F' has grown by nothing but p -/
abbrev Fz (F F' : Hp) (p : Addr) : Prop := ∀ q, q ≠ p → F q = none → F' q = none
/-- one's own object, not yet in F -/
structure Xc (H0 F H : Hp) (p : Addr) (o : HO) : Prop where
  z : H0 p = none
  n : F p = none
  h : H p = some o
section
variable {F0 H0 F H F' H' : Hp} {p q : Addr} {o u : HO}
theorem Xc.mk' (w : Wf F0 H0 F H) (hp : H p = none) : Xc H0 F (upd H p o) p o := ⟨w.h.non hp, w.f.non hp, upd_same⟩
theorem Xc.step (x : Xc H0 F H p o) (w : Wf F H F' H') : Xc H0 F' H' p o := ⟨x.z, (by
  cases q : F' p with
  | none => rfl
  | some u => have := w.n p u q x.n; rw [x.h] at this; cases this), w.h _ _ x.h⟩
theorem Xc.set (x : Xc H0 F H p o) : Xc H0 F (upd H p u) p u := ⟨x.z, x.n, upd_same⟩
theorem Wf.set (w : Wf F0 H0 F H) (x : Xc H0 F H p o) : Wf F0 H0 F (upd H p u) := ⟨fun a v e => by
    rw [upd_ne (ne_of_none e x.z)]; exact w.h a v e, fun a v e => by rw [upd_ne (ne_of_none e x.n)]; exact w.f a v e, w.g, w.n⟩
/-- it is changed no more -/
theorem Wf.freeze (w : Wf F0 H0 F H) (x : Xc H0 F H p o) : Wf F0 H0 (upd F p o) H := ⟨w.h, fun a v e => by
    by_cases q : a = p
    · subst q; rw [upd_same] at e; rw [← e]; exact x.h
    · rw [upd_ne q] at e; exact w.f a v e, w.g.tr (Ex.new x.n), fun a v e e0 => by
    by_cases q : a = p
    · subst q; exact x.z
    · rw [upd_ne q] at e; exact w.n a v e e0⟩
theorem Xc.frz (x : Xc H0 F H p o) (y : Xc H0 F H q u) (h : p ≠ q) : Xc H0 (upd F q u) H p o := ⟨x.z, by rw [upd_ne h]; exact x.n, x.h⟩
theorem Xc.ne (x : Xc H0 F H p o) (h : H q = none) : p ≠ q := ne_of_none x.h h
end
structure Rep (α : Type) where
  r : Hp → V → α → Prop
  mono : ∀ {F F' : Hp} {v : V} {x : α}, Ex F F' → r F v x → r F' v x
def pI : Rep Int := ⟨fun _ v x => v = .int x, fun _ h => h⟩
def pN : Rep Nat := ⟨fun _ v x => v = .int (x : Int), fun _ h => h⟩
def pB : Rep Bool := ⟨fun _ v x => v = .bl x, fun _ h => h⟩
def pS : Rep Str := ⟨fun _ v x => v = .str x, fun _ h => h⟩
def All {α : Type} (e : Rep α) (F : Hp) : List V → List α → Prop
  | [], [] => True
  | v :: vs, x :: xs => e.r F v x ∧ All e F vs xs
  | _, _ => False
section
variable {α β γ : Type} {e : Rep α} {F F' : Hp} {vs ws : List V} {xs ys : List α} {v : V} {x : α}
theorem All.mono (h : Ex F F') : ∀ {vs : List V} {xs : List α}, All e F vs xs → All e F' vs xs
  | [], [], _ => trivial
  | _ :: _, _ :: _, ⟨a, b⟩ => ⟨e.mono h a, All.mono h b⟩
  | [], _ :: _, q => q.elim
  | _ :: _, [], q => q.elim
theorem All.len : ∀ {vs : List V} {xs : List α}, All e F vs xs → vs.length = xs.length
  | [], [], _ => rfl
  | _ :: _, _ :: _, ⟨_, b⟩ => by rw [List.length_cons, List.length_cons, All.len b]
  | [], _ :: _, q => q.elim
  | _ :: _, [], q => q.elim
theorem All.get : ∀ {vs : List V} {xs : List α} {i : Nat} {x : α}, All e F vs xs → xs[i]? = some x → ∃ v, vs[i]? = some v ∧ e.r F v x
  | _ :: _, _ :: _, 0, _, ⟨a, _⟩, h => by simp at h; subst h; exact ⟨_, rfl, a⟩
  | _ :: _, _ :: _, i + 1, _, ⟨_, b⟩, h => by
    obtain ⟨v, h1, h2⟩ := All.get (i := i) b (by simpa using h)
    exact ⟨v, by simpa using h1, h2⟩
  | [], [], _, _, _, h => by simp at h
  | [], _ :: _, _, _, q, _ => q.elim
  | _ :: _, [], _, _, q, _ => q.elim
theorem All.got : ∀ {vs : List V} {xs : List α} {i : Nat} {v : V}, All e F vs xs → vs[i]? = some v → ∃ x, xs[i]? = some x ∧ e.r F v x
  | _ :: _, _ :: _, 0, _, ⟨a, _⟩, h => by simp at h; subst h; exact ⟨_, rfl, a⟩
  | _ :: _, _ :: _, i + 1, _, ⟨_, b⟩, h => by
    obtain ⟨v, h1, h2⟩ := All.got (i := i) b (by simpa using h)
    exact ⟨v, by simpa using h1, h2⟩
  | [], [], _, _, _, h => by simp at h
  | [], _ :: _, _, _, q, _ => q.elim
  | _ :: _, [], _, _, q, _ => q.elim
theorem All.app : ∀ {vs : List V} {xs : List α}, All e F vs xs → All e F ws ys → All e F (vs ++ ws) (xs ++ ys)
  | [], [], _, b => b
  | _ :: _, _ :: _, ⟨a, a'⟩, b => ⟨a, All.app a' b⟩
  | [], _ :: _, q, _ => q.elim
  | _ :: _, [], q, _ => q.elim
theorem All.snoc (a : All e F vs xs) (b : e.r F v x) : All e F (vs ++ [v]) (xs ++ [x]) := a.app ⟨b, trivial⟩
theorem All.set : ∀ {vs : List V} {xs : List α} (i : Nat), All e F vs xs → e.r F v x → All e F (vs.set i v) (xs.set i x)
  | [], [], _, _, _ => trivial
  | _ :: _, _ :: _, 0, ⟨_, b⟩, r => ⟨r, b⟩
  | _ :: _, _ :: _, i + 1, ⟨a, b⟩, r => ⟨a, All.set i b r⟩
  | [], _ :: _, _, q, _ => q.elim
  | _ :: _, [], _, q, _ => q.elim
theorem All.take : ∀ {vs : List V} {xs : List α} (i : Nat), All e F vs xs → All e F (vs.take i) (xs.take i)
  | [], [], i, _ => by simp [All]
  | _ :: _, _ :: _, 0, _ => trivial
  | _ :: _, _ :: _, i + 1, ⟨a, b⟩ => ⟨a, All.take i b⟩
  | [], _ :: _, _, q => q.elim
  | _ :: _, [], _, q => q.elim
theorem All.drop : ∀ {vs : List V} {xs : List α} (i : Nat), All e F vs xs → All e F (vs.drop i) (xs.drop i)
  | [], [], i, _ => by simp [All]
  | _ :: _, _ :: _, 0, h => h
  | _ :: _, _ :: _, i + 1, ⟨_, b⟩ => All.drop i b
  | [], _ :: _, _, q => q.elim
  | _ :: _, [], _, q => q.elim
end
/-- a list, a tuple of things of one kind, pairs, triples -/
def pL {α : Type} (e : Rep α) : Rep (List α) := ⟨fun F v xs => ∃ p vs, v = .ref p ∧ F p = some (.lst vs) ∧ All e F vs xs, fun h ⟨p, vs, a, b, c⟩ => ⟨p, vs, a, h _ _ b, c.mono h⟩⟩
def pTL {α : Type} (e : Rep α) : Rep (List α) := ⟨fun F v xs => ∃ p vs, v = .ref p ∧ F p = some (.tup vs) ∧ All e F vs xs, fun h ⟨p, vs, a, b, c⟩ => ⟨p, vs, a, h _ _ b, c.mono h⟩⟩
def pT2 {α β : Type} (e : Rep α) (f : Rep β) : Rep (α × β) := ⟨fun F v x => ∃ p u w, v = .ref p ∧ F p = some (.tup [u, w]) ∧ e.r F u x.1 ∧ f.r F w x.2, fun h ⟨p, u, w, a, b, c, d⟩ => ⟨p, u, w, a, h _ _ b, e.mono h c, f.mono h d⟩⟩
def pT3 {α β γ : Type} (e : Rep α) (f : Rep β) (g : Rep γ) : Rep (α × β × γ) := ⟨fun F v x => ∃ p u w y, v = .ref p ∧ F p = some (.tup [u, w, y]) ∧ e.r F u x.1 ∧ f.r F w x.2.1 ∧ g.r F y x.2.2, fun h ⟨p, u, w, y, a, b, c, d, k⟩ => ⟨p, u, w, y, a, h _ _ b, e.mono h c, f.mono h d, g.mono h k⟩⟩
def pO {α : Type} (e : Rep α) : Rep (Option α) := ⟨fun F v x => match x with | none => v = .non | some y => e.r F v y, fun {_ _ _ x} h q => by cases x with | none => exact q | some y => exact e.mono h q⟩
/-- the script: read only -/
def pScr (K : PySem.W.Frag) : Rep (List Int) := ⟨fun F v xs => ∃ a, v = .ref a ∧ SqL K F a (xs.map V.int), fun h ⟨a, e, q⟩ => ⟨a, e, by
  rcases q with (q | ⟨o, q⟩) | q
  · exact .inl (.inl (h _ _ q))
  · exact .inl (.inr ⟨o, h _ _ q⟩)
  · exact .inr q⟩⟩
/-- one's own list -/
structure XL {α : Type} (e : Rep α) (H0 F H : Hp) (p : Addr) (xs : List α) : Prop where
  x : ∃ vs, Xc H0 F H p (.lst vs) ∧ All e F vs xs
section
variable {α : Type} {e : Rep α} {F0 H0 F H F' H' : Hp} {p q : Addr} {o : HO} {xs : List α} {y : α} {v : V}
theorem XL.step (x : XL e H0 F H p xs) (w : Wf F H F' H') : XL e H0 F' H' p xs := let ⟨vs, a, b⟩ := x.x; ⟨vs, a.step w, b.mono w.g⟩
theorem XL.ne (x : XL e H0 F H p xs) (h : H q = none) : p ≠ q := let ⟨_, a, _⟩ := x.x; a.ne h
theorem XL.nil (w : Wf F0 H0 F H) (hp : H p = none) : XL e H0 F (upd H p (.lst [])) p [] := ⟨[], Xc.mk' w hp, trivial⟩
theorem XL.frz {u : HO} {β : Type} {e' : Rep β} {ys : List β} (x : XL e H0 F H p xs) (z : Xc H0 F H q u) (h : p ≠ q) : XL e H0 (upd F q u) H p xs := let ⟨vs, a, b⟩ := x.x; ⟨vs, a.frz z h, b.mono (Ex.new z.n)⟩
theorem XL.zero (x : XL e H0 F H p xs) : H0 p = none := let ⟨_, a, _⟩ := x.x; a.z
end
def forW {α S : Type} : List α → S → (α → S → (S → Prop) → (S → Prop) → Prop) → (S → Prop) → Prop
  | [], s, _, k => k s
  | x :: xs, s, b, k => b x s (fun s' => forW xs s' b k) k
def compG {α β : Type} : List α → List β → (α → (Option β → Prop) → Prop) → (List β → Prop) → Prop
  | [], acc, _, k => k acc
  | x :: xs, acc, b, k => b x fun o => compG xs (acc ++ o.toList) b k
def compW {α β : Type} (xs : List α) (b : α → (Option β → Prop) → Prop) (k : List β → Prop) : Prop := compG xs [] b k
def whileW {S : Type} (test : S → (Bool → Prop) → Prop) (body : S → (S → Prop) → (S → Prop) → Prop) (s : S) (k : S → Prop) : Prop :=
  ∃ I : Nat → S → Prop, (∃ m, I m s) ∧ ∀ m s, I m s → test s fun b => if b = true then body s (fun s' => ∃ m', m' < m ∧ I m' s') k else k s
section
variable {K : PySem.W.Frag} {σ σ1 : L2.St} {H H1 : Hp} {te ta tb tc : TE} {tt tu : TT} {tA tR : TA} {Q : VK} {v w x y z : V} {D : Ends} {t u : TS} {i j : Int} {a b m n : Nat} {p q : Prop}
theorem e_val (h : Val te σ H v) (q : Q v H) : te σ H Q := h Q q
theorem v_eq (h : Val te σ H v) (e : v = w) : Val te σ H w := e ▸ h
theorem vi_of (h : Val te σ H (.int i)) (e : i = j) : Val te σ H (.int j) := e ▸ h
theorem vb_of {b c : Bool} (h : Val te σ H (.bl b)) (e : b = c) : Val te σ H (.bl c) := e ▸ h
theorem v2 {r : R2} (ha : Val ta σ H x) (hb : Val tb σ H y) (hr : ∀ Q : VK, Q z H → r x y H Q) : Val (tOp r ta tb) σ H z := fun Q k => ha _ (hb _ (hr Q k))
theorem v1 {r : V → Hp → VK → Prop} (ha : Val ta σ H x) (hr : ∀ Q : VK, Q z H → r x H Q) : Val (tUn r ta) σ H z := fun Q k => ha _ (hr Q k)
theorem vi0 {g : Int → Int → V} (ha : Val ta σ H (.int i)) (hb : Val tb σ H (.int j)) : Val (tOp (rI0 g) ta tb) σ H (g i j) := fun _ k => ha _ (hb _ ⟨i, j, rfl, rfl, k⟩)
theorem viC {C : Int → Int → Prop} {g : Int → Int → V} (ha : Val ta σ H (.int i)) (hb : Val tb σ H (.int j)) (hc : C i j) : Val (tOp (rI C g) ta tb) σ H (g i j) := fun _ k => ha _ (hb _ ⟨i, j, rfl, rfl, hc, k⟩)
theorem vn_add (ha : Val ta σ H (.int (a : Int))) (hb : Val tb σ H (.int (b : Int))) : Val (tOp (rI0 fun i j => .int (i + j)) ta tb) σ H (.int ((a + b : Nat) : Int)) := vi_of (vi0 ha hb) (by omega)
theorem vn_sub (ha : Val ta σ H (.int (a : Int))) (hb : Val tb σ H (.int (b : Int))) (h : b ≤ a) : Val (tOp (rI0 fun i j => .int (i - j)) ta tb) σ H (.int ((a - b : Nat) : Int)) := vi_of (vi0 ha hb) (by omega)
def NMul (a b : Nat) : Prop := a < 2 ^ 64 ∨ b < 2 ^ 64
theorem vn_mul (ha : Val ta σ H (.int (a : Int))) (hb : Val tb σ H (.int (b : Int))) (h : NMul a b) : Val (tOp (rI CMul fun i j => .int (i * j)) ta tb) σ H (.int ((a * b : Nat) : Int)) := vi_of (viC ha hb (by
  rcases h with h | h
  · exact .inl ⟨by omega, by omega⟩
  · exact .inr ⟨by omega, by omega⟩)) (by rw [Int.natCast_mul])
def NDiv (b : Nat) : Prop := 0 < b ∧ b.log2 < 9000
theorem vn_div (ha : Val ta σ H (.int (a : Int))) (hb : Val tb σ H (.int (b : Int))) (h : NDiv b) : Val (tOp (rI CDivW fun i j => .int (i / j)) ta tb) σ H (.int ((a / b : Nat) : Int)) := vi_of (viC ha hb ⟨by have := h.1; omega, h.2⟩) (by rw [Int.natCast_ediv])
theorem vi_div (ha : Val ta σ H (.int i)) (hb : Val tb σ H (.int (b : Int))) (h : NDiv b) : Val (tOp (rI CDivW fun i j => .int (i / j)) ta tb) σ H (.int (i / (b : Int))) := viC ha hb ⟨by have := h.1; omega, h.2⟩
theorem vn_mod (ha : Val ta σ H (.int (a : Int))) (hb : Val tb σ H (.int (b : Int))) (h : 0 < b) : Val (tOp (rI (fun _ j => 0 < j) fun i j => .int (i % j)) ta tb) σ H (.int ((a % b : Nat) : Int)) := vi_of (viC (C := fun _ j => 0 < j) ha hb (by omega)) (by rw [Int.natCast_emod])
/-- i % m, as a whole number from 0 on -/
def modN (i : Int) (m : Nat) : Nat := (i % (m : Int)).toNat
theorem modN_cast {i : Int} {m : Nat} (h : 0 < m) : ((modN i m : Nat) : Int) = i % (m : Int) := Int.toNat_of_nonneg (Int.emod_nonneg _ (by omega))
theorem vm_mod (ha : Val ta σ H (.int i)) (hb : Val tb σ H (.int (b : Int))) (h : 0 < b) : Val (tOp (rI (fun _ j => 0 < j) fun i j => .int (i % j)) ta tb) σ H (.int ((modN i b : Nat) : Int)) := vi_of (viC (C := fun _ j => 0 < j) ha hb (by omega)) (modN_cast h).symm
theorem bitAnd_N (a b : Nat) : Builtin.bitAnd (a : Int) (b : Int) = ((a &&& b : Nat) : Int) := by
  unfold Builtin.bitAnd
  rw [decide_eq_true (Int.natCast_nonneg a), decide_eq_true (Int.natCast_nonneg b)]
  rfl
theorem bitXor_N (a b : Nat) : Builtin.bitXor (a : Int) (b : Int) = ((a ^^^ b : Nat) : Int) := by rw [Bits.bitXor_pp (Int.natCast_nonneg a) (Int.natCast_nonneg b)]; rfl
theorem vn_and (ha : Val ta σ H (.int (a : Int))) (hb : Val tb σ H (.int (b : Int))) : Val (tOp (rI0 fun i j => .int (Builtin.bitAnd i j)) ta tb) σ H (.int ((a &&& b : Nat) : Int)) := vi_of (vi0 ha hb) (bitAnd_N a b)
theorem vn_xor (ha : Val ta σ H (.int (a : Int))) (hb : Val tb σ H (.int (b : Int))) : Val (tOp (rI0 fun i j => .int (Builtin.bitXor i j)) ta tb) σ H (.int ((a ^^^ b : Nat) : Int)) := vi_of (vi0 ha hb) (bitXor_N a b)
def NShl (a k : Nat) : Prop := a.log2 + k < 100000000
theorem NShl.ok {a k : Nat} (h : NShl a k) : CShl (a : Int) (k : Int) := by
  have e : (2 : Int) ^ 27 = 134217728 := by decide
  refine ⟨Int.natCast_nonneg _, ?_⟩
  rw [e]
  have b : Builtin.Int.intBits (a : Int) ≤ a.log2 + 1 := by
    unfold Builtin.Int.intBits
    split
    · omega
    · exact Nat.le_refl _
  unfold NShl at h
  omega
theorem vn_shl (ha : Val ta σ H (.int (a : Int))) (hb : Val tb σ H (.int (b : Int))) (h : NShl a b) : Val (tOp (rI CShl fun i j => .int (i * 2 ^ j.toNat)) ta tb) σ H (.int ((a <<< b : Nat) : Int)) := vi_of (viC ha hb h.ok) (by
  rw [Int.toNat_natCast, Nat.shiftLeft_eq, Int.natCast_mul, Int.natCast_pow]; rfl)
theorem vn_one (ha : Val ta σ H (.int 1)) (hb : Val tb σ H (.int (b : Int))) (h : b < 100000000) : Val (tOp (rI CShl fun i j => .int (i * 2 ^ j.toNat)) ta tb) σ H (.int ((2 ^ b : Nat) : Int)) := vi_of (vn_shl (a := 1) ha hb (by
  unfold NShl
  have : Nat.log2 1 = 0 := by decide
  omega)) (by rw [Nat.shiftLeft_eq, Nat.one_mul])
theorem vi_shr (ha : Val ta σ H (.int i)) (hb : Val tb σ H (.int (b : Int))) : Val (tOp (rI (fun _ j => 0 ≤ j) fun i j => .int (i / 2 ^ j.toNat)) ta tb) σ H (.int (i / 2 ^ b)) := vi_of (viC (C := fun _ j => 0 ≤ j) ha hb (Int.natCast_nonneg _)) (by rw [Int.toNat_natCast])
theorem vn_shr (ha : Val ta σ H (.int (a : Int))) (hb : Val tb σ H (.int (b : Int))) : Val (tOp (rI (fun _ j => 0 ≤ j) fun i j => .int (i / 2 ^ j.toNat)) ta tb) σ H (.int ((a >>> b : Nat) : Int)) := vi_of (vi_shr ha hb) (by
  rw [Nat.shiftRight_eq_div_pow, Int.natCast_ediv, Int.natCast_pow]; rfl)
theorem v_neg (ha : Val ta σ H (.int i)) : Val (tUn (rU fun i => .int (-i)) ta) σ H (.int (-i)) := v1 ha fun _ k => ⟨i, rfl, k⟩
theorem vn_pow {c : Nat} (ha : Val ta σ H (.int (a : Int))) (hb : Val tb σ H (.int (b : Int))) (h : b ≤ 1000000 ∧ a < 2 ^ 64) (e : a ^ b = c) : Val (tOp (rI CPow fun i j => .int (i ^ j.toNat)) ta tb) σ H (.int (c : Int)) := vi_of (viC ha hb ⟨Int.natCast_nonneg _, by omega, by omega⟩) (by
  rw [Int.toNat_natCast, ← e, Int.natCast_pow])
theorem c_lt (ha : Val ta σ H (.int i)) (hb : Val tb σ H (.int j)) : Val (tOp (rI0 fun i j => .bl (decide (i < j))) ta tb) σ H (.bl (decide (i < j))) := vi0 ha hb
theorem c_le (ha : Val ta σ H (.int i)) (hb : Val tb σ H (.int j)) : Val (tOp (rI0 fun i j => .bl (decide (i ≤ j))) ta tb) σ H (.bl (decide (i ≤ j))) := vi0 ha hb
theorem c_gt (ha : Val ta σ H (.int i)) (hb : Val tb σ H (.int j)) : Val (tOp (rI0 fun i j => .bl (decide (j < i))) ta tb) σ H (.bl (decide (j < i))) := vi0 ha hb
theorem c_ge (ha : Val ta σ H (.int i)) (hb : Val tb σ H (.int j)) : Val (tOp (rI0 fun i j => .bl (decide (j ≤ i))) ta tb) σ H (.bl (decide (j ≤ i))) := vi0 ha hb
theorem dec_iff {p q : Prop} [Decidable p] [Decidable q] (h : p ↔ q) : decide p = decide q := by
  by_cases k : p
  · rw [decide_eq_true k, decide_eq_true (h.mp k)]
  · rw [decide_eq_false k, decide_eq_false (fun z => k (h.mpr z))]
theorem vb_dec [Decidable p] [Decidable q] (h : Val te σ H (.bl (decide p))) (e : p ↔ q) : Val te σ H (.bl (decide q)) := vb_of h (dec_iff e)
theorem c_eqI (ha : Val ta σ H (.int i)) (hb : Val tb σ H (.int j)) : Val (tOp rEq ta tb) σ H (.bl (decide (i = j))) := v2 ha hb fun Q k => ⟨rfl, by
  rw [dec_iff (show V.int i = V.int j ↔ i = j from ⟨fun h => V.int.inj h, fun h => by rw [h]⟩)]; exact k⟩
theorem c_eqS {s r : Str} (ha : Val ta σ H (.str s)) (hb : Val tb σ H (.str r)) : Val (tOp rEq ta tb) σ H (.bl (decide (s = r))) := v2 ha hb fun Q k => ⟨rfl, by
  rw [dec_iff (show V.str s = V.str r ↔ s = r from ⟨fun h => V.str.inj h, fun h => by rw [h]⟩)]; exact k⟩
/-- numbers from 0 on: the comparison without casts -/
theorem n_lt : ((a : Int) < (b : Int)) ↔ a < b := by omega
theorem n_le : ((a : Int) ≤ (b : Int)) ↔ a ≤ b := by omega
theorem n_eq : ((a : Int) = (b : Int)) ↔ a = b := by omega
/-- a < b < c -/
theorem v_chain {r r' : R2} {b1 b2 : Bool} (ha : Val ta σ H x) (hb : Val tb σ H y) (hc : Val tc σ H z) (h1 : ∀ Q : VK, Q (.bl b1) H → r x y H Q) (h2 : ∀ Q : VK, Q (.bl b2) H → r' y z H Q) : Val (tChain r r' ta tb tc) σ H (.bl (b1 && b2)) := fun Q k => ha _ (hb _ (h1 _ ⟨b1, rfl, by
  cases b1 with
  | true => rw [if_pos rfl]; exact hc _ (h2 _ (by simpa using k))
  | false => rw [if_neg (by simp)]; simpa using k⟩))
theorem t_of (h : Val te σ H (.bl b')) : Ans (tTest te) σ H b' := fun _ k => h _ ⟨_, rfl, k⟩
theorem t_ofB (h : Val te σ H (.bl b')) : Ans (tB te) σ H b' := fun _ k => h _ ⟨_, rfl, k⟩
theorem t_dec {b c : Bool} (h : Ans tt σ H b) (e : b = c) : Ans tt σ H c := e ▸ h
theorem t_iff [Decidable p] [Decidable q] (h : Ans tt σ H (decide p)) (e : p ↔ q) : Ans tt σ H (decide q) := t_dec h (dec_iff e)
theorem t_not [Decidable p] (h : Ans tt σ H (decide p)) : Ans (tNot tt) σ H (decide (¬ p)) := fun Q k => h _ (by rw [← decide_not]; exact k)
theorem t_and [Decidable p] [Decidable q] (h : Ans tt σ H (decide p)) (h2 : p → Ans tu σ H (decide q)) : Ans (tAnd tt tu) σ H (decide (p ∧ q)) := fun Q k => h _ (by
  by_cases hp : p
  · rw [decide_eq_true hp, if_pos rfl]
    exact h2 hp Q (by rw [dec_iff (show q ↔ p ∧ q from ⟨fun z => ⟨hp, z⟩, fun z => z.2⟩)]; exact k)
  · rw [decide_eq_false hp, if_neg (by simp)]
    rw [decide_eq_false (fun z => hp z.1)] at k
    exact k)
theorem t_or [Decidable p] [Decidable q] (h : Ans tt σ H (decide p)) (h2 : ¬ p → Ans tu σ H (decide q)) : Ans (tOr tt tu) σ H (decide (p ∨ q)) := fun Q k => h _ (by
  by_cases hp : p
  · rw [decide_eq_true hp, if_pos rfl]
    rw [decide_eq_true (Or.inl hp)] at k
    exact k
  · rw [decide_eq_false hp, if_neg (by simp)]
    exact h2 hp Q (by rw [dec_iff (show q ↔ p ∨ q from ⟨fun z => .inr z, fun z => z.resolve_left hp⟩)]; exact k))
theorem e_call {sp : Sp} {E : XK} (h : tA σ H fun vs H1 => sp vs H1 Q E) : tCall sp [] E tA σ H Q := by
  show tA σ H fun vs H1 => sp (vs ++ []) H1 Q E
  simpa only [List.append_nil] using h
theorem a_nil {R : List V → Hp → Prop} (h : R [] H) : tNil σ H R := h
theorem a_cons {R : List V → Hp → Prop} (h : te σ H fun x H1 => tR σ H1 fun xs H2 => R (x :: xs) H2) : tCons te tR σ H R := h
theorem a_val {R : List V → Hp → Prop} (h : Val te σ H v) (k : tR σ H fun xs H2 => R (v :: xs) H2) : tCons te tR σ H R := h _ k
theorem v_cb1 {r : List V → Hp → VK → Prop} (ha : Val ta σ H x) (hr : ∀ Q : VK, Q z H → r [x] H Q) : Val (tCB r (tCons ta tNil)) σ H z := fun Q k => ha _ (hr Q k)
theorem q_sq (h : ∀ N : L2.St → Hp → Prop, (∀ σ' H', u D σ' H' → N σ' H') → t { D with nx := N } σ H) : tSeq t u D σ H := h _ fun _ _ z => z
theorem a_asg {i : Nat} (h : Val te σ H v) (q : D.nx (σ.set i (some v)) H) : tAsg te (gName i) D σ H := h _ q
theorem a_asgE {i : Nat} (h : te σ H fun v H1 => D.nx (σ.set i (some v)) H1) : tAsg te (gName i) D σ H := h
theorem a_ret (h : Val te σ H v) (q : D.rt v H) : tRet te D σ H := h _ q
theorem a_retE (h : te σ H D.rt) : tRet te D σ H := h
theorem a_dropE (h : te σ H fun _ H1 => D.nx σ H1) : tDrop te D σ H := h
theorem a_ifE (h : tt σ H fun b H1 => if b = true then t D σ H1 else u D σ H1) : tIfS tt t u D σ H := h
theorem ifP [Decidable p] {A B : Prop} (h : if p then A else B) (hp : p) : A := by rw [if_pos hp] at h; exact h
theorem ifN [Decidable p] {A B : Prop} (h : if p then A else B) (hp : ¬ p) : B := by rw [if_neg hp] at h; exact h
end
end Wk
namespace Wk
open PySem L2
class Dat {α : Type} (e : Rep α) (lv : outParam Nat) where
  d : α → PyData
  dp : ∀ {K : PySem.W.Frag} {F : Hp} {v : V} {x : α}, e.r F v x → Dp K F v (d x)
  lay : ∀ x, (d x).canLay0 = true
  dep : ∀ x, (d x).depth ≤ lv
  inj : ∀ x y, PyData.eqv (d x) (d y) = true ↔ x = y
instance : Dat pI 0 := ⟨.int, fun h => by cases (show _ = V.int _ from h); exact .int _, fun _ => rfl, fun _ => Nat.le_refl _, fun x y => by
  show ((x == y) = true) ↔ _
  exact beq_iff_eq⟩
instance : Dat pN 0 := ⟨fun n => .int (n : Int), fun h => by cases (show _ = V.int _ from h); exact .int _, fun _ => rfl, fun _ => Nat.le_refl _, fun x y => by
  show (((x : Int) == (y : Int)) = true) ↔ _
  rw [beq_iff_eq]; omega⟩
instance : Dat pB 0 := ⟨.bool, fun h => by cases (show _ = V.bl _ from h); exact .bl _, fun _ => rfl, fun _ => Nat.le_refl _, fun x y => by
  show ((x == y) = true) ↔ _
  exact beq_iff_eq⟩
theorem lay_all {α : Type} {d : α → PyData} (h : ∀ x, (d x).canLay0 = true) : ∀ xs : List α, PyData.canLayAll0 (xs.map d) = true
  | [] => rfl
  | x :: xs => by show (PyData.canLay0 (d x) && PyData.canLayAll0 (xs.map d)) = true; rw [h x, lay_all h xs]; rfl
theorem dep_all {α : Type} {d : α → PyData} {n : Nat} (h : ∀ x, (d x).depth ≤ n) : ∀ xs : List α, PyData.depthAll (xs.map d) ≤ n
  | [] => Nat.zero_le _
  | x :: xs => by
    show PyData.depthAll (d x :: xs.map d) ≤ n
    have a := h x
    have b := dep_all h xs
    simp only [PyData.depthAll]
    omega
theorem eqv_all {α : Type} {d : α → PyData} (h : ∀ x y, PyData.eqv (d x) (d y) = true ↔ x = y) : ∀ xs ys : List α, PyData.eqvAll (xs.map d) (ys.map d) = true ↔ xs = ys
  | [], [] => ⟨fun _ => rfl, fun _ => rfl⟩
  | x :: xs, [] => ⟨fun q => (by cases q), fun q => (by cases q)⟩
  | [], y :: ys => ⟨fun q => (by cases q), fun q => (by cases q)⟩
  | x :: xs, y :: ys => by
    show (PyData.eqv (d x) (d y) && PyData.eqvAll (xs.map d) (ys.map d)) = true ↔ _
    rw [Bool.and_eq_true, h x y, eqv_all h xs ys, List.cons.injEq]
theorem dp_all {α : Type} {e : Rep α} {lv : Nat} [Dat e lv] {K : PySem.W.Frag} {F : Hp} : ∀ {vs : List V} {xs : List α}, All e F vs xs → DpAll K F vs (xs.map (Dat.d e))
  | [], [], _ => .nil
  | _ :: _, _ :: _, ⟨a, b⟩ => .cons (Dat.dp a) (dp_all b)
  | [], _ :: _, q => q.elim
  | _ :: _, [], q => q.elim
instance {α : Type} {e : Rep α} {n : Nat} [Dat e n] : Dat (pL e) (n + 1) := ⟨fun xs => .list (xs.map (Dat.d e)), fun {K F v xs} h => by
    obtain ⟨p, vs, rfl, hp, a⟩ := h
    exact .lst (SqL.of hp) (dp_all a), fun xs => lay_all (Dat.lay (e := e)) xs, fun xs => by
    have := dep_all (Dat.dep (e := e)) xs
    simp only [PyData.depth]
    omega, fun xs ys => by
    show PyData.eqvAll (xs.map (Dat.d e)) (ys.map (Dat.d e)) = true ↔ _
    exact eqv_all (Dat.inj (e := e)) xs ys⟩
instance {α : Type} {e : Rep α} {n : Nat} [Dat e n] : Dat (pTL e) (n + 1) := ⟨fun xs => .tuple (xs.map (Dat.d e)), fun {K F v xs} h => by
    obtain ⟨p, vs, rfl, hp, a⟩ := h
    exact .tup (SqT.of hp) (dp_all a), fun xs => lay_all (Dat.lay (e := e)) xs, fun xs => by
    have := dep_all (Dat.dep (e := e)) xs
    simp only [PyData.depth]
    omega, fun xs ys => by
    show PyData.eqvAll (xs.map (Dat.d e)) (ys.map (Dat.d e)) = true ↔ _
    exact eqv_all (Dat.inj (e := e)) xs ys⟩
instance {α β : Type} {e : Rep α} {f : Rep β} {n m : Nat} [Dat e n] [Dat f m] : Dat (pT2 e f) (max n m + 1) := ⟨fun x => .tuple [Dat.d e x.1, Dat.d f x.2], fun {K F v x} h => by
    obtain ⟨p, u, w, rfl, hp, a, b⟩ := h
    exact .tup (SqT.of hp) (.cons (Dat.dp a) (.cons (Dat.dp b) .nil)), fun x => by
    show (PyData.canLay0 (Dat.d e x.1) && (PyData.canLay0 (Dat.d f x.2) && PyData.canLayAll0 [])) = true
    rw [Dat.lay, Dat.lay]; rfl, fun x => by
    have a := Dat.dep (e := e) x.1
    have b := Dat.dep (e := f) x.2
    simp only [PyData.depth, PyData.depthAll]
    omega, fun x y => by
    show (PyData.eqv (Dat.d e x.1) (Dat.d e y.1) && (PyData.eqv (Dat.d f x.2) (Dat.d f y.2) && PyData.eqvAll [] [])) = true ↔ _
    have z : PyData.eqvAll [] [] = true := rfl
    rw [z, Bool.and_true, Bool.and_eq_true, Dat.inj, Dat.inj, Prod.ext_iff]⟩
section
variable {α β : Type} {e : Rep α} {f : Rep β} {K : PySem.W.Frag} {σ : L2.St} {F0 H0 F F' H H' : Hp} {te tl ta tb : TE} {tt : TT} {tA : TA} {Q : VK} {v w u : V} {xs ys : List α} {x y : α} {D : Ends} {tu : TS} {p q : Addr} {n : Nat} {i : Int}
theorem XL.rd (z : XL e H0 F H p xs) : ∃ vs, H p = some (.lst vs) ∧ All e F vs xs := let ⟨vs, a, b⟩ := z.x; ⟨vs, a.h, b⟩
theorem L_rd (r : (pL e).r F v xs) (f : Ex F H) : ∃ p vs, v = .ref p ∧ H p = some (.lst vs) ∧ All e F vs xs := let ⟨p, vs, a, b, c⟩ := r; ⟨p, vs, a, f _ _ b, c⟩
theorem ix_L (r : (pL e).r F v xs) (f : Ex F H) {i : Nat} (hx : xs[i]? = some x) : ∃ w, e.r F w x ∧ ∀ ⦃σ ta tb⦄, Val ta σ H v → Val tb σ H (.int (i : Int)) → Val (tOp (rIxL K) ta tb) σ H w := by
  obtain ⟨p, vs, rfl, hp, a⟩ := L_rd r f
  obtain ⟨w, h1, h2⟩ := a.get hx
  exact ⟨w, h2, fun _ _ _ ha hb => v2 ha hb fun Q k => ⟨p, vs, _, w, rfl, rfl, SqL.of hp, atI_nat h1, k⟩⟩
theorem ix_X (r : XL e H0 F H p xs) {i : Nat} (hx : xs[i]? = some x) : ∃ w, e.r F w x ∧ ∀ ⦃σ ta tb⦄, Val ta σ H (.ref p) → Val tb σ H (.int (i : Int)) → Val (tOp (rIxL K) ta tb) σ H w := by
  obtain ⟨vs, hp, a⟩ := r.rd
  obtain ⟨w, h1, h2⟩ := a.get hx
  exact ⟨w, h2, fun _ _ _ ha hb => v2 ha hb fun Q k => ⟨p, vs, _, w, rfl, rfl, SqL.of hp, atI_nat h1, k⟩⟩
theorem ix_S (f : Ex F H) {ys : List Int} {i : Nat} {x : Int} (r : (pScr K).r F v ys) (hx : ys[i]? = some x) : ∀ ⦃σ ta tb⦄, Val ta σ H v → Val tb σ H (.int (i : Int)) → Val (tOp (rIxL K) ta tb) σ H (.int x) := by
  obtain ⟨p, rfl, s⟩ := (pScr K).mono f r
  exact fun _ _ _ ha hb => v2 ha hb fun Q k => ⟨p, _, _, .int x, rfl, rfl, s, atI_nat (by rw [List.getElem?_map, hx]; rfl), k⟩
theorem ix_2a {e : Rep α} {f : Rep β} {x : α × β} (r : (pT2 e f).r F v x) (h : Ex F H) : ∃ w, e.r F w x.1 ∧ ∀ ⦃σ ta tb⦄, Val ta σ H v → Val tb σ H (.int 0) → Val (tOp (rIxT K) ta tb) σ H w := by
  obtain ⟨p, u, w, rfl, hp, a, b⟩ := r
  exact ⟨u, a, fun _ _ _ ha hb => v2 ha hb fun Q k => ⟨p, _, _, u, rfl, rfl, SqT.of (h _ _ hp), rfl, k⟩⟩
theorem ix_2b {e : Rep α} {f : Rep β} {x : α × β} (r : (pT2 e f).r F v x) (h : Ex F H) : ∃ w, f.r F w x.2 ∧ ∀ ⦃σ ta tb⦄, Val ta σ H v → Val tb σ H (.int 1) → Val (tOp (rIxT K) ta tb) σ H w := by
  obtain ⟨p, u, w, rfl, hp, a, b⟩ := r
  exact ⟨w, b, fun _ _ _ ha hb => v2 ha hb fun Q k => ⟨p, _, _, w, rfl, rfl, SqT.of (h _ _ hp), rfl, k⟩⟩
def rLen (K : PySem.W.Frag) : List V → Hp → VK → Prop := fun xs H Q => ∃ p ys, xs = [.ref p] ∧ (SqL K H p ys ∨ SqT K H p ys) ∧ Q (.int ys.length) H
theorem len_L (r : (pL e).r F v xs) (f : Ex F H) (ha : Val ta σ H v) : Val (tCB (rLen K) (tCons ta tNil)) σ H (.int ((xs.length : Nat) : Int)) := by
  obtain ⟨p, vs, rfl, hp, a⟩ := L_rd r f
  exact v_cb1 ha fun Q k => ⟨p, vs, rfl, .inl (SqL.of hp), by rw [a.len]; exact k⟩
theorem len_X (r : XL e H0 F H p xs) (ha : Val ta σ H (.ref p)) : Val (tCB (rLen K) (tCons ta tNil)) σ H (.int ((xs.length : Nat) : Int)) := by
  obtain ⟨vs, hp, a⟩ := r.rd
  exact v_cb1 ha fun Q k => ⟨p, vs, rfl, .inl (SqL.of hp), by rw [a.len]; exact k⟩
theorem len_S {ys : List Int} (r : (pScr K).r F v ys) (f : Ex F H) (ha : Val ta σ H v) : Val (tCB (rLen K) (tCons ta tNil)) σ H (.int ((ys.length : Nat) : Int)) := by
  obtain ⟨p, rfl, s⟩ := (pScr K).mono f r
  exact v_cb1 ha fun Q k => ⟨p, _, rfl, .inl s, by rw [List.length_map]; exact k⟩
def kLst (Q : VK) (xs : List V) (H : Hp) : Prop := xs.length ≤ sizeLine ∧ ∀ p, H p = none → Q (.ref p) (upd H p (.lst xs))
def kTup (Q : VK) (xs : List V) (H : Hp) : Prop := xs.length ≤ sizeLine ∧ ∀ p, H p = none → Q (.ref p) (upd H p (.tup xs))
theorem small_len {n : Nat} (h : n < 1000000) : n < sizeLine := by rw [sizeLine_eq]; omega
theorem n_lstX {vs : List V} (a : All e F vs xs) (hl : xs.length < 1000000) (w : Wf F0 H0 F H) (k : ∀ p H', H p = none → Wf F H F H' → XL e H0 F H' p xs → Q (.ref p) H') :
    kLst Q vs H := ⟨by rw [a.len]; exact Nat.le_of_lt (small_len hl), fun p hp => k p _ hp (Wf.newX w.f hp) ⟨vs, Xc.mk' w hp, a⟩⟩
theorem n_tup2 {e : Rep α} {f : Rep β} {x : α} {y : β} (a : e.r F v x) (b : f.r F w y) (h : Wf F0 H0 F H) (k : ∀ p F' H', Wf F H F' H' → (pT2 e f).r F' (.ref p) (x, y) → Q (.ref p) H') :
    kTup Q [v, w] H := ⟨Nat.le_of_lt (small_len (n := 2) (by decide)), fun p hp => k p _ _ (Wf.new h.f hp) ⟨p, v, w, rfl, upd_same, e.mono (Ex.new (h.f.non hp)) a, f.mono (Ex.new (h.f.non hp)) b⟩⟩
/-- one's own list is changed no more -/
theorem XL.frzE (x : XL e H0 F H p xs) (w : Wf F0 H0 F H) : ∃ F', Wf F0 H0 F' H ∧ Ex F F' ∧ (pL e).r F' (.ref p) xs ∧ Fz F F' p := by
  obtain ⟨vs, a, b⟩ := x.x
  exact ⟨_, w.freeze a, Ex.new a.n, ⟨p, vs, rfl, upd_same, b.mono (Ex.new a.n)⟩, fun q h z => by rw [upd_ne h]; exact z⟩
/-- for a while one's own list is read by others -/
theorem XL.lend (x : XL e H0 F H p xs) (w : Wf F0 H0 F H) : ∃ F', Ex F' H ∧ Ex F F' ∧ (pL e).r F' (.ref p) xs := let ⟨F', a, b, c, _⟩ := x.frzE w; ⟨F', a.f, b, c⟩
theorem a_app (x : XL e H0 F H p xs) (w : Wf F0 H0 F H) (hl : xs.length < 1000000) (r : e.r F v y) (k : ∀ H', Wf F0 H0 F H' → XL e H0 F H' p (xs ++ [y]) → (∀ q o, H q = some o → q ≠ p → H' q = some o) → Q .non H') : rAppend (.ref p) [v] H Q := by
  obtain ⟨vs, a, b⟩ := x.x
  exact ⟨p, vs, v, rfl, rfl, a.h, by rw [b.len]; exact small_len hl, k _ (w.set a) ⟨_, a.set, b.snoc r⟩ fun q o h hq => by rw [upd_ne hq]; exact h⟩
/-- another's place is as it was -/
theorem Xc.kept {o : HO} (x : Xc H0 F H q o) (h : ∀ q o, H q = some o → q ≠ p → H' q = some o) (hq : q ≠ p) : Xc H0 F H' q o := ⟨x.z, x.n, h _ _ x.h hq⟩
theorem XL.kept (x : XL e H0 F H q xs) (h : ∀ q o, H q = some o → q ≠ p → H' q = some o) (hq : q ≠ p) : XL e H0 F H' q xs := let ⟨vs, a, b⟩ := x.x; ⟨vs, a.kept h hq, b⟩
variable {S : Type} {R : Type} {g : TG} {tb : TS} {body : β → S → (S → Prop) → (S → Prop) → Prop} {s0 : S} {k : S → Prop} {vs : List V} {zs : List β} {b : Rep β}
/-- over a list that stays -/
theorem w_forL (Inv : S → L2.St → Hp → Hp → Prop) (r : (pL b).r F v zs) (hW : forW zs s0 body k) (h0 : Inv s0 σ F H)
    (ex : ∀ s σ' F' H', Inv s σ' F' H' → Ex F F' ∧ Ex F' H') (f : Ex F H)
    (turn : ∀ (N Bk : L2.St → Hp → Prop) x u s σ' F' H' (nx bk : S → Prop), Inv s σ' F' H' → x ∈ zs → b.r F' u x → body x s nx bk → (∀ s' σ2 F2 H2, Inv s' σ2 F2 H2 → nx s' → N σ2 H2) → (∀ s' σ2 F2 H2, Inv s' σ2 F2 H2 → bk s' → Bk σ2 H2) →
      g u σ' H' fun σ2 H2 => tb { D with nx := N, ct := N, bk := Bk } σ2 H2)
    (done : ∀ s σ' F' H', Inv s σ' F' H' → k s → D.nx σ' H') :
    ∃ a, v = .ref a ∧ (∃ xs, SqL K H a xs) ∧ (fun J H1 => ∃ W : Nat → Nat → L2.St → Hp → Prop, (∃ m, W 0 m σ H1) ∧ ∀ i m σ H, W i m σ H →
      (J.stop i H ∧ D.nx σ H) ∨ (J.go i H ∧ ∃ N : L2.St → Hp → Prop, (∀ σ' H', N σ' H' → ∃ m', m' < m ∧ W (i + 1) m' σ' H') ∧ ∀ x H', J.yld i H x H' → g x σ H' fun σ2 H2 => tb { D with nx := N, ct := N, bk := D.nx } σ2 H2)) (Itl K a) H := by
  obtain ⟨p, vs, rfl, hp, a⟩ := r
  refine ⟨p, rfl, ⟨_, SqL.of (f _ _ hp)⟩, for_list (xs := vs) (fun i σ' H' => ∃ s F', Inv s σ' F' H' ∧ forW (zs.drop i) s body k) ⟨s0, F, h0, hW⟩ (fun i σ' H' _ ⟨s, F', hI, _⟩ => SqL.of ((ex _ _ _ _ hI).2 _ _ ((ex _ _ _ _ hI).1 _ _ hp))) ?_ ?_⟩
  · rintro i u σ' H' hu ⟨s, F', hI, hw⟩
    obtain ⟨x, hx, rx⟩ := a.got hu
    have e : zs.drop i = x :: zs.drop (i + 1) := by
      obtain ⟨h1, h2⟩ := List.getElem?_eq_some_iff.mp hx
      rw [← h2]; exact List.drop_eq_getElem_cons h1
    rw [e] at hw
    exact turn _ _ x u s σ' F' H' _ _ hI (List.mem_of_getElem? hx) (b.mono (ex _ _ _ _ hI).1 rx) hw (fun s' σ2 F2 H2 q n => ⟨s', F2, q, n⟩) (fun s' σ2 F2 H2 q n => done s' σ2 F2 H2 q n)
  · rintro σ' H' ⟨s, F', hI, hw⟩
    rw [List.drop_of_length_le (by rw [a.len]; exact Nat.le_refl _)] at hw
    exact done _ _ _ _ hI hw
/-- over range(n) -/
theorem w_forR {n : Nat} {body : Nat → S → (S → Prop) → (S → Prop) → Prop} (Inv : S → L2.St → Hp → Hp → Prop) (hn : n < 1000000) (hW : forW (List.range n) s0 body k) (h0 : Inv s0 σ F H)
    (turn : ∀ (N Bk : L2.St → Hp → Prop) (x : Nat) s σ' F' H' (nx bk : S → Prop), Inv s σ' F' H' → x < n → body x s nx bk → (∀ s' σ2 F2 H2, Inv s' σ2 F2 H2 → nx s' → N σ2 H2) → (∀ s' σ2 F2 H2, Inv s' σ2 F2 H2 → bk s' → Bk σ2 H2) →
      g (.int (x : Int)) σ' H' fun σ2 H2 => tb { D with nx := N, ct := N, bk := Bk } σ2 H2)
    (done : ∀ s σ' F' H', Inv s σ' F' H' → k s → D.nx σ' H') :
    ∃ j : Int, [V.int (n : Int)] = [.int j] ∧ -(2 ^ 62) ≤ j ∧ j < 2 ^ 62 ∧ (fun J H1 => ∃ W : Nat → Nat → L2.St → Hp → Prop, (∃ m, W 0 m σ H1) ∧ ∀ i m σ H, W i m σ H →
      (J.stop i H ∧ D.nx σ H) ∨ (J.go i H ∧ ∃ N : L2.St → Hp → Prop, (∀ σ' H', N σ' H' → ∃ m', m' < m ∧ W (i + 1) m' σ' H') ∧ ∀ x H', J.yld i H x H' → g x σ H' fun σ2 H2 => tb { D with nx := N, ct := N, bk := D.nx } σ2 H2)) (Itr 0 j.toNat) H := by
  refine ⟨(n : Int), rfl, by omega, by omega, for_range (lo := 0) (n := n) (fun i σ' H' => ∃ s F', Inv s σ' F' H' ∧ forW ((List.range n).drop i) s body k) ⟨s0, F, h0, hW⟩ ?_ ?_⟩
  · rintro i σ' H' hi ⟨s, F', hI, hw⟩
    have e : (List.range n).drop i = i :: (List.range n).drop (i + 1) := by
      have h1 : i < (List.range n).length := by rw [List.length_range]; exact hi
      rw [List.drop_eq_getElem_cons h1, List.getElem_range]
    rw [e] at hw
    have z : (0 : Int) + (i : Int) = (i : Int) := Int.zero_add _
    rw [z]
    exact turn _ _ i s σ' F' H' _ _ hI hi hw (fun s' σ2 F2 H2 q n => ⟨s', F2, q, n⟩) (fun s' σ2 F2 H2 q n => done s' σ2 F2 H2 q n)
  · rintro σ' H' ⟨s, F', hI, hw⟩
    rw [List.drop_of_length_le (by rw [List.length_range]; exact Nat.le_refl _)] at hw
    exact done _ _ _ _ hI hw
/-- while -/
theorem w_while {test : S → (Bool → Prop) → Prop} {body : S → (S → Prop) → (S → Prop) → Prop} (Inv : S → L2.St → Hp → Hp → Prop) (hW : whileW test body s0 k) (h0 : Inv s0 σ F H)
    (cond : ∀ s σ' F' H' (T : Bool → Prop) (Qc : Bool → Hp → Prop), Inv s σ' F' H' → test s T → (∀ b F2 H2, Inv s σ' F2 H2 → T b → Qc b H2) → tt σ' H' Qc)
    (turn : ∀ (N Bk : L2.St → Hp → Prop) s σ' F' H' (nx bk : S → Prop), Inv s σ' F' H' → body s nx bk → (∀ s' σ2 F2 H2, Inv s' σ2 F2 H2 → nx s' → N σ2 H2) → (∀ s' σ2 F2 H2, Inv s' σ2 F2 H2 → bk s' → Bk σ2 H2) →
      tb { D with nx := N, ct := N, bk := Bk } σ' H')
    (done : ∀ s σ' F' H', Inv s σ' F' H' → k s → D.nx σ' H') : tWhile tt tb D σ H := by
  obtain ⟨I, ⟨m0, hm⟩, hs⟩ := hW
  refine ⟨fun m σ' H' => ∃ s F', Inv s σ' F' H' ∧ I m s, ⟨m0, s0, F, h0, hm⟩, ?_⟩
  rintro m σ' H' ⟨s, F', hI, im⟩
  refine cond s σ' F' H' _ _ hI (hs m s im) fun b F2 H2 hI2 hb => ?_
  cases b with
  | true =>
    rw [if_pos rfl] at hb ⊢
    exact ⟨_, fun _ _ q => q, turn (fun σ2 H2 => ∃ m', m' < m ∧ ∃ s' F', Inv s' σ2 F' H2 ∧ I m' s') _ s σ' F2 H2 _ _ hI2 hb (fun s' σ2 F3 H3 q ⟨m', l, i⟩ => ⟨m', l, s', F3, q, i⟩) (fun s' σ2 F3 H3 q n => done s' σ2 F3 H3 q n)⟩
  | false =>
    rw [if_neg (by simp)] at hb ⊢
    exact done s σ' F2 H2 hI2 hb
/-- ways that meet again -/
def jn {S : Type} (f : (S → Prop) → Prop) (k : S → Prop) : Prop := f k
theorem q_jn {f : (S → Prop) → Prop} {t u : TS} (hW : jn f k) (Inv : S → L2.St → Hp → Hp → Prop)
    (h1 : ∀ N : L2.St → Hp → Prop, (∀ s σ' F' H', Inv s σ' F' H' → k s → N σ' H') → f k → t { D with nx := N } σ H) (h2 : ∀ s σ' F' H', Inv s σ' F' H' → k s → u D σ' H') : tSeq t u D σ H :=
  h1 (u D) (fun s σ' F' H' q n => h2 s σ' F' H' q n) hW
/-- what a comprehension asks of its source's value -/
def kCpL (K : PySem.W.Frag) (g : TG) (tc : TT) (te : TE) (vs : List Nat) (σ : L2.St) (Q : VK) (v : V) (H : Hp) : Prop := ∃ a, v = .ref a ∧ (∃ xs, SqL K H a xs) ∧ (fun J H1 => ∀ D, H1 D = none → ∃ W : Nat → Nat → Hp → Prop, (∃ m, W 0 m (upd H1 D (.lst []))) ∧ ∀ i m H, W i m H →
      (J.stop i H ∧ Q (.ref D) H) ∨ (J.go i H ∧ ∃ Nx : Hp → Prop, (∀ H', Nx H' → ∃ m', m' < m ∧ W (i + 1) m' H') ∧ ∀ x H', J.yld i H x H' → g x (wipe σ vs) H' fun σ2 H2 => wipe σ2 vs = wipe σ vs ∧ tc σ2 H2 fun b H3 =>
        if b = true then te σ2 H3 fun y H4 => ∃ acc, H4 D = some (.lst acc) ∧ acc.length < sizeLine ∧ Nx (upd H4 D (.lst (acc ++ [y]))) else Nx H3)) (Itl K a) H
def kCpR (g : TG) (tc : TT) (te : TE) (vs : List Nat) (σ : L2.St) (Q : VK) (v : V) (H : Hp) : Prop := ∃ j : Int, [v] = [.int j] ∧ -(2 ^ 62) ≤ j ∧ j < 2 ^ 62 ∧ (fun J H1 => ∀ D, H1 D = none → ∃ W : Nat → Nat → Hp → Prop, (∃ m, W 0 m (upd H1 D (.lst []))) ∧ ∀ i m H, W i m H →
      (J.stop i H ∧ Q (.ref D) H) ∨ (J.go i H ∧ ∃ Nx : Hp → Prop, (∀ H', Nx H' → ∃ m', m' < m ∧ W (i + 1) m' H') ∧ ∀ x H', J.yld i H x H' → g x (wipe σ vs) H' fun σ2 H2 => wipe σ2 vs = wipe σ vs ∧ tc σ2 H2 fun b H3 =>
        if b = true then te σ2 H3 fun y H4 => ∃ acc, H4 D = some (.lst acc) ∧ acc.length < sizeLine ∧ Nx (upd H4 D (.lst (acc ++ [y]))) else Nx H3)) (Itr 0 j.toNat) H
theorem w_compC {ws : List V} {tc : TT} {vs : List Nat} {bd : β → (Option α → Prop) → Prop} {kk : List α → Prop} (hp : H p = some (.lst ws)) (a : All b F ws zs) (w : Wf F0 H0 F H) (hn : zs.length < 1000000) (hW : compW zs bd kk)
    (turn : ∀ (Qy : V → Hp → Prop) (Qn : Hp → Prop) x u F1 H1 (R : Option α → Prop), Wf F H F1 H1 → x ∈ zs → b.r F1 u x → bd x R → (∀ y z F2 H2, Wf F1 H1 F2 H2 → e.r F2 y z → R (some z) → Qy y H2) → (∀ F2 H2, Wf F1 H1 F2 H2 → R none → Qn H2) →
      g u (wipe σ vs) H1 fun σ2 H2 => wipe σ2 vs = wipe σ vs ∧ tc σ2 H2 fun b H3 => if b = true then te σ2 H3 Qy else Qn H3)
    (done : ∀ p ys F' H', H p = none → Wf F H F' H' → XL e H0 F' H' p ys → kk ys → Q (.ref p) H') :
    kCpL K g tc te vs σ Q (V.ref p) H := by
  unfold kCpL
  refine ⟨p, rfl, ⟨_, SqL.of hp⟩, fun D hD => lc_list (xs := ws) (fun i H' => ∃ F' ac ys, Wf F H F' H' ∧ Xc H F' H' D (.lst ac) ∧ All e F' ac ys ∧ ys.length ≤ i ∧ compG (zs.drop i) ys bd kk)
    ⟨F, [], [], Wf.newX w.f hD, Xc.mk' (Wf.id w.f) hD, trivial, Nat.le_refl _, hW⟩ (fun i H' _ ⟨F', ac, ys, q, _⟩ => SqL.of (q.h _ _ hp)) ?_ ?_⟩
  · rintro i u H' hu ⟨F', ac, ys, q, xc, al, hl, hw⟩
    obtain ⟨x, hx, rx⟩ := a.got hu
    obtain ⟨h1, h2⟩ := List.getElem?_eq_some_iff.mp hx
    have e' : zs.drop i = x :: zs.drop (i + 1) := by rw [← h2]; exact List.drop_eq_getElem_cons h1
    rw [e'] at hw
    refine turn _ _ x u F' H' _ q (List.mem_of_getElem? hx) (b.mono q.g rx) hw (fun y z F2 H2 s ry hR => ?_) (fun F2 H2 s hR => ?_)
    · have xc2 := xc.step s
      exact ⟨ac, xc2.h, by rw [al.len]; exact small_len (by omega), F2, ac ++ [y], ys ++ [z], (q.tr s).set xc2, xc2.set, (al.mono s.g).snoc ry, by rw [List.length_append]; exact Nat.succ_le_succ hl, hR⟩
    · exact ⟨F2, ac, ys, q.tr s, xc.step s, al.mono s.g, Nat.le_succ_of_le hl, by simpa using hR⟩
  · rintro H' ⟨F', ac, ys, q, xc, al, hl, hw⟩
    rw [List.drop_of_length_le (by rw [a.len]; exact Nat.le_refl _)] at hw
    exact done D ys F' H' hD q ⟨ac, ⟨w.h.non hD, xc.n, xc.h⟩, al⟩ hw
theorem w_compL {tc : TT} {vs : List Nat} {bd : β → (Option α → Prop) → Prop} {kk : List α → Prop} (r : (pL b).r F v zs) (w : Wf F0 H0 F H) (hn : zs.length < 1000000) (hW : compW zs bd kk)
    (turn : ∀ (Qy : V → Hp → Prop) (Qn : Hp → Prop) x u F1 H1 (R : Option α → Prop), Wf F H F1 H1 → x ∈ zs → b.r F1 u x → bd x R → (∀ y z F2 H2, Wf F1 H1 F2 H2 → e.r F2 y z → R (some z) → Qy y H2) → (∀ F2 H2, Wf F1 H1 F2 H2 → R none → Qn H2) →
      g u (wipe σ vs) H1 fun σ2 H2 => wipe σ2 vs = wipe σ vs ∧ tc σ2 H2 fun b H3 => if b = true then te σ2 H3 Qy else Qn H3)
    (done : ∀ p ys F' H', H p = none → Wf F H F' H' → XL e H0 F' H' p ys → kk ys → Q (.ref p) H') :
    kCpL K g tc te vs σ Q v H := by
  obtain ⟨p, ws, rfl, hp, a⟩ := r
  exact w_compC (w.f _ _ hp) a w hn hW turn done
theorem w_compR {tc : TT} {vs : List Nat} {n : Nat} {bd : Nat → (Option α → Prop) → Prop} {kk : List α → Prop} (w : Wf F0 H0 F H) (hn : n < 1000000) (hW : compW (List.range n) bd kk)
    (turn : ∀ (Qy : V → Hp → Prop) (Qn : Hp → Prop) (x : Nat) F1 H1 (R : Option α → Prop), Wf F H F1 H1 → x < n → bd x R → (∀ y z F2 H2, Wf F1 H1 F2 H2 → e.r F2 y z → R (some z) → Qy y H2) → (∀ F2 H2, Wf F1 H1 F2 H2 → R none → Qn H2) →
      g (.int (x : Int)) (wipe σ vs) H1 fun σ2 H2 => wipe σ2 vs = wipe σ vs ∧ tc σ2 H2 fun b H3 => if b = true then te σ2 H3 Qy else Qn H3)
    (done : ∀ p ys F' H', H p = none → Wf F H F' H' → XL e H0 F' H' p ys → kk ys → Q (.ref p) H') :
    kCpR g tc te vs σ Q (.int (n : Int)) H := by
  unfold kCpR
  refine ⟨(n : Int), rfl, by omega, by omega, fun D hD => lc_range (lo := 0) (n := n) (fun i H' => ∃ F' ac ys, Wf F H F' H' ∧ Xc H F' H' D (.lst ac) ∧ All e F' ac ys ∧ ys.length ≤ i ∧ compG ((List.range n).drop i) ys bd kk)
    ⟨F, [], [], Wf.newX w.f hD, Xc.mk' (Wf.id w.f) hD, trivial, Nat.le_refl _, hW⟩ ?_ ?_⟩
  · rintro i H' hi ⟨F', ac, ys, q, xc, al, hl, hw⟩
    have e' : (List.range n).drop i = i :: (List.range n).drop (i + 1) := by
      have h1 : i < (List.range n).length := by rw [List.length_range]; exact hi
      rw [List.drop_eq_getElem_cons h1, List.getElem_range]
    rw [e'] at hw
    have z : (0 : Int) + (i : Int) = (i : Int) := Int.zero_add _
    rw [z]
    refine turn _ _ i F' H' _ q hi hw (fun y z F2 H2 s ry hR => ?_) (fun F2 H2 s hR => ?_)
    · have xc2 := xc.step s
      exact ⟨ac, xc2.h, by rw [al.len]; exact small_len (by omega), F2, ac ++ [y], ys ++ [z], (q.tr s).set xc2, xc2.set, (al.mono s.g).snoc ry, by rw [List.length_append]; exact Nat.succ_le_succ hl, hR⟩
    · exact ⟨F2, ac, ys, q.tr s, xc.step s, al.mono s.g, Nat.le_succ_of_le hl, by simpa using hR⟩
  · rintro H' ⟨F', ac, ys, q, xc, al, hl, hw⟩
    rw [List.drop_of_length_le (by rw [List.length_range]; exact Nat.le_refl _)] at hw
    exact done D ys F' H' hD q ⟨ac, ⟨w.h.non hD, xc.n, xc.h⟩, al⟩ hw
end
end Wk
namespace Wk
open PySem L2
section
variable {X : Cx} {σ : L2.St} {H : Hp} {te tl ta tb : TE} {tt tc : TT} {tA : TA} {Q : VK} {v w x y z : V} {D : Ends} {tu : TS} {g : TG} {K : PySem.W.Frag} {p q : Prop}
theorem f_LE (h : tl σ H fun v H => ∃ a, v = .ref a ∧ (∃ xs, SqL K H a xs) ∧ (fun J H1 => ∃ W : Nat → Nat → L2.St → Hp → Prop, (∃ m, W 0 m σ H1) ∧ ∀ i m σ H, W i m σ H →
      (J.stop i H ∧ D.nx σ H) ∨ (J.go i H ∧ ∃ N : L2.St → Hp → Prop, (∀ σ' H', N σ' H' → ∃ m', m' < m ∧ W (i + 1) m' σ' H') ∧ ∀ x H', J.yld i H x H' → g x σ H' fun σ2 H2 => tu { D with nx := N, ct := N, bk := D.nx } σ2 H2)) (Itl K a) H) : tFor (iList K tl) g tu D σ H := h
theorem f_RE (h : te σ H fun v H => ∃ j : Int, [v] = [.int j] ∧ -(2 ^ 62) ≤ j ∧ j < 2 ^ 62 ∧ (fun J H1 => ∃ W : Nat → Nat → L2.St → Hp → Prop, (∃ m, W 0 m σ H1) ∧ ∀ i m σ H, W i m σ H →
      (J.stop i H ∧ D.nx σ H) ∨ (J.go i H ∧ ∃ N : L2.St → Hp → Prop, (∀ σ' H', N σ' H' → ∃ m', m' < m ∧ W (i + 1) m' σ' H') ∧ ∀ x H', J.yld i H x H' → g x σ H' fun σ2 H2 => tu { D with nx := N, ct := N, bk := D.nx } σ2 H2)) (Itr 0 j.toNat) H) : tFor (iRng1 (tCons te tNil)) g tu D σ H := h
theorem c_LE {vs : List Nat} (h : tl σ H (kCpL K g tc te vs σ Q)) : tLc (iList K tl) g tc te vs σ H Q := h
theorem c_RE {vs : List Nat} (h : ta σ H (kCpR g tc te vs σ Q)) : tLc (iRng1 (tCons ta tNil)) g tc te vs σ H Q := h
theorem c_yes {A B : Hp → Prop} (h : A H) : tYes σ H fun b H3 => if b = true then A H3 else B H3 := by show if true = true then A H else B H; rw [if_pos rfl]; exact h
theorem b_if {p : Prop} [Decidable p] {A B : Prop} (h1 : p → A) (h2 : ¬ p → B) : if decide p = true then A else B := by
  by_cases hp : p
  · rw [decide_eq_true hp, if_pos rfl]; exact h1 hp
  · rw [decide_eq_false hp, if_neg (by simp)]; exact h2 hp
theorem bb_if {b : Bool} {A B : Prop} (h1 : b = true → A) (h2 : ¬ b = true → B) : if b = true then A else B := by
  by_cases hp : b = true
  · rw [if_pos hp]; exact h1 hp
  · rw [if_neg hp]; exact h2 hp
theorem e_op {r : R2} (h : ta σ H fun x H1 => tb σ H1 fun y H2 => r x y H2 Q) : tOp r ta tb σ H Q := h
theorem rv2 {r : R2} (h : Val (tOp r (tC x) (tC y)) [] H z) (q : Q z H) : r x y H Q := h Q q
theorem rv2T {r : R2} {b : Bool} {Qt : Bool → Hp → Prop} (h : Val (tOp r (tC x) (tC y)) [] H (.bl b)) (q : Qt b H) : r x y H (fun x H' => ∃ k, x = .bl k ∧ Qt k H') := h _ ⟨b, rfl, q⟩
theorem rcb1 {r : List V → Hp → VK → Prop} (h : Val (tCB r (tCons (tC x) tNil)) [] H z) (q : Q z H) : r [x] H Q := h Q q
theorem e_cb {r : List V → Hp → VK → Prop} (h : tA σ H fun vs H1 => r vs H1 Q) : tCB r tA σ H Q := h
theorem e_tB {Qt : Bool → Hp → Prop} (h : te σ H fun x H1 => ∃ c, x = .bl c ∧ Qt c H1) : tB te σ H Qt := h
theorem e_tT {Qt : Bool → Hp → Prop} (h : te σ H fun x H1 => ∃ c, x = .bl c ∧ Qt c H1) : tTest te σ H Qt := h
theorem e_tNot {Qt : Bool → Hp → Prop} (h : tt σ H fun c H1 => Qt (!c) H1) : tNot tt σ H Qt := h
theorem e_ans {Qt : Bool → Hp → Prop} {b : Bool} (h : Ans tt σ H b) (q : Qt b H) : tt σ H Qt := h Qt q
theorem e_tup (h : tA σ H (kTup Q)) : tTup tA σ H Q := h
theorem e_lst (h : tA σ H (kLst Q)) : tLst tA σ H Q := h
theorem a_asgG (h : te σ H fun v H1 => g v σ H1 D.nx) : tAsg te g D σ H := h
theorem XL.base {α : Type} {e : Rep α} {F0 H0 F F' H' : Hp} {p : Addr} {xs : List α} (x : XL e H F' H' p xs) (w : Wf F0 H0 F H) : XL e H0 F' H' p xs := let ⟨vs, a, b⟩ := x.x; ⟨vs, ⟨w.h.non a.z, a.n, a.h⟩, b⟩
end
/-- a def that may be called -/
structure Fn (P : Program) (w : World) (K : PySem.W.Frag) (mg : Str → Option Value) (base : Heap) (CX : CXT) (k : Nat) (x : Str) (ps : List Str) (sp : Sp) : Prop where
  ex : ∃ f fd, FnOk P w K mg base CX k f fd ps sp ∧ mg x = some (.ref f) ∧ PySem.W.keepIn K (.ref f) = true ∧ Binds K fd ps []
theorem pe_fn {X : Cx} {k : Nat} {x : Str} {ps : List Str} {sp : Sp} {e : Expr} {es : List Expr} {p pos : Pos} {t : TA} (C : Fn X.prog X.w X.K X.mg X.base CX0 k x ps sp) (hr : Room k X.A) (hg : Gl X x) (ha : PA X (e :: es) t) (hdb : (x == ("__debug__" : Str)) = false := by decide)
    (he : starEach (e :: es) X.env = (false, eval e X.env) :: starEach es X.env := by rfl) (hpl : (backTo pos (starEach es X.env)).any (·.1) = false := by rfl) : PE X (.Call (.Name x p) (e :: es) [] pos) (tCall sp [] E0 t) := by
  obtain ⟨f, fd, F, hm, hk, hb⟩ := C.ex
  exact pe_call F hr hg hm hk hb .nil pass0 ha hdb he hpl
end Wk
namespace Wk
open PySem L2
theorem dec_and {p q : Prop} [Decidable p] [Decidable q] : (decide p && decide q) = decide (p ∧ q) := by
  by_cases hp : p
  · by_cases hq : q
    · rw [decide_eq_true hp, decide_eq_true hq, decide_eq_true (And.intro hp hq)]; rfl
    · rw [decide_eq_false hq, decide_eq_false (fun z : p ∧ q => hq z.2), Bool.and_false]
  · rw [decide_eq_false hp, decide_eq_false (fun z : p ∧ q => hp z.1), Bool.false_and]
theorem dec_tt {b : Bool} : b = decide (b = true) := by cases b <;> rfl
theorem dec_T : true = decide True := rfl
theorem dec_F : false = decide False := rfl
section
variable {α β : Type} {e : Rep α} {f : Rep β} {K : PySem.W.Frag} {σ : L2.St} {F0 H0 F F' H H' : Hp} {te ta tb : TE} {Q : VK} {v w u : V} {xs : List α} {p : Addr} {i : Int} {n : Nat} {x : V}
/-- bit_length -/
def bits (n : Nat) : Nat := if n = 0 then 0 else n.log2 + 1
theorem v_isi {b : Bool} {cn tn : String} (ha : Val ta σ H x) (ty : TyX K H x (.type tn)) (h : kitB tn cn = some b) : Val (tCB (rIsi K) (tCons ta (tCons (tC (.ty cn)) tNil))) σ H (.bl b) := fun Q k => ha _ ⟨x, .ty cn, _, _, b, rfl, .ty cn, ty, kit_ty h, k⟩
theorem ty_L (r : (pL e).r F v xs) (f : Ex F H) : TyX K H v (.type "list") := by obtain ⟨p, vs, rfl, hp, _⟩ := r; exact .base (.lst (f _ _ hp))
end
end Wk
namespace Wk
open PySem L2
abbrev kAdd : R2 := L2.rI0 fun i j => .int (i + j)
abbrev kSub : R2 := L2.rI0 fun i j => .int (i - j)
abbrev kMul : R2 := L2.rI CMul fun i j => .int (i * j)
abbrev kDiv : R2 := L2.rI CDivW fun i j => .int (i / j)
abbrev kMod : R2 := L2.rI (fun _ j => 0 < j) fun i j => .int (i % j)
abbrev kPow : R2 := L2.rI CPow fun i j => .int (i ^ j.toNat)
abbrev kShl : R2 := L2.rI CShl fun i j => .int (i * 2 ^ j.toNat)
abbrev kShr : R2 := L2.rI (fun _ j => 0 ≤ j) fun i j => .int (i / 2 ^ j.toNat)
abbrev kAnd : R2 := L2.rI0 fun i j => .int (Builtin.bitAnd i j)
abbrev kXor : R2 := L2.rI0 fun i j => .int (Builtin.bitXor i j)
abbrev kLt : R2 := L2.rI0 fun i j => .bl (decide (i < j))
abbrev kLe : R2 := L2.rI0 fun i j => .bl (decide (i ≤ j))
abbrev kGt : R2 := L2.rI0 fun i j => .bl (decide (j < i))
abbrev kGe : R2 := L2.rI0 fun i j => .bl (decide (j ≤ i))
abbrev kNeg : V → Hp → VK → Prop := L2.rU fun i => .int (-i)
def rLenS : List V → Hp → VK → Prop := fun xs H Q => ∃ z, xs = [.str z] ∧ z.length ≤ sizeLine ∧ Q (.int z.length) H
def rListOf (K : PySem.W.Frag) : List V → Hp → VK → Prop := fun xs H Q => ∃ p ys, xs = [.ref p] ∧ (SqL K H p ys ∨ SqT K H p ys) ∧ ∀ l, H l = none → Q (.ref l) (upd H l (.lst ys))
section
variable {α β : Type} {e : Rep α} {f : Rep β} {K : PySem.W.Frag} {σ : L2.St} {F0 H0 F F' H H' : Hp} {te ta tb : TE} {Q : VK} {v w u : V} {xs ys : List α} {p q : Addr} {i : Int} {n a b : Nat} {x : V} {tl th : TO}
theorem len_Str {s : Str} (h : s.length < 1000000) (ha : Val ta σ H (.str s)) : Val (tCB rLenS (tCons ta tNil)) σ H (.int ((s.length : Nat) : Int)) := fun _ k => ha _ ⟨s, rfl, Nat.le_of_lt (small_len h), k⟩
theorem XL.frzO (x : XL e H0 F H q xs) (h : Fz F F' p) (hq : q ≠ p) (g : Ex F F') : XL e H0 F' H q xs := let ⟨vs, a, b⟩ := x.x; ⟨vs, ⟨a.z, h _ hq a.n, a.h⟩, b.mono g⟩
/-- list(xs): a new one -/
theorem n_listX (r : (pL e).r F v xs) (w : Wf F0 H0 F H) (k : ∀ p H', H p = none → Wf F H F H' → XL e H0 F H' p xs → Q (.ref p) H') : rListOf K [v] H Q := by
  obtain ⟨p, vs, rfl, hp, a⟩ := r
  exact ⟨p, vs, rfl, .inl (SqL.of (w.f _ _ hp)), fun l hl => k l _ hl (Wf.newX w.f hl) ⟨vs, Xc.mk' w hl, a⟩⟩
theorem n_listXT (r : (pTL e).r F v xs) (w : Wf F0 H0 F H) (k : ∀ p H', H p = none → Wf F H F H' → XL e H0 F H' p xs → Q (.ref p) H') : rListOf K [v] H Q := by
  obtain ⟨p, vs, rfl, hp, a⟩ := r
  exact ⟨p, vs, rfl, .inr (SqT.of (w.f _ _ hp)), fun l hl => k l _ hl (Wf.newX w.f hl) ⟨vs, Xc.mk' w hl, a⟩⟩
/-- xs + ys -/
theorem n_cat (r : (pL e).r F v xs) (s : (pL e).r F u ys) (w : Wf F0 H0 F H) (hl : xs.length + ys.length < 1000000) (k : ∀ p H', H p = none → Wf F H F H' → XL e H0 F H' p (xs ++ ys) → Q (.ref p) H') : rCat v u H Q := by
  obtain ⟨p, vs, rfl, hp, a⟩ := r
  obtain ⟨q, us, rfl, hq, b⟩ := s
  exact ⟨p, q, vs, us, rfl, rfl, w.f _ _ hp, w.f _ _ hq, by rw [a.len, b.len]; exact Nat.le_of_lt (small_len hl), fun l hl => k l _ hl (Wf.newX w.f hl) ⟨_, Xc.mk' w hl, a.app b⟩⟩
def cutT (xs : List α) (lo hi : Option Nat) : List α := match lo, hi with
  | none, none => xs
  | none, some b => xs.take b
  | some a, none => xs.drop a
  | some a, some b => (xs.drop a).take (b - a)
theorem cutV_T {ws : List V} (lo hi : Option Nat) : cutV ws (lo.map Int.ofNat) (hi.map Int.ofNat) = cutT ws lo hi := by
  have tk : ∀ (n : Nat) (l : List V), l.take (min n l.length) = l.take n := fun n l => by
    by_cases h : n ≤ l.length
    · rw [Nat.min_eq_left h]
    · rw [Nat.min_eq_right (by omega), List.take_of_length_le (Nat.le_refl _), List.take_of_length_le (by omega)]
  unfold cutV cutT
  cases lo with
  | none =>
    cases hi with
    | none => simp only [Option.map_none, HT.sIx_none, List.drop_zero, Nat.sub_zero, List.take_length]
    | some b =>
      simp only [Option.map_none, Option.map_some, HT.sIx_none, List.drop_zero, Nat.sub_zero]
      rw [show HT.sIx ws.length ws.length (some (Int.ofNat b)) = min b ws.length from HT.sIx_nat _ _ _]
      exact tk b ws
  | some a =>
    have dr : ws.drop (min a ws.length) = ws.drop a := by
      by_cases h : a ≤ ws.length
      · rw [Nat.min_eq_left h]
      · rw [Nat.min_eq_right (by omega), List.drop_of_length_le (Nat.le_refl _), List.drop_of_length_le (by omega)]
    cases hi with
    | none =>
      simp only [Option.map_none, Option.map_some, HT.sIx_none]
      rw [show HT.sIx ws.length 0 (some (Int.ofNat a)) = min a ws.length from HT.sIx_nat _ _ _, dr]
      exact List.take_of_length_le (by rw [List.length_drop]; omega)
    | some b =>
      simp only [Option.map_some]
      rw [show HT.sIx ws.length 0 (some (Int.ofNat a)) = min a ws.length from HT.sIx_nat _ _ _, show HT.sIx ws.length ws.length (some (Int.ofNat b)) = min b ws.length from HT.sIx_nat _ _ _, dr]
      by_cases h : b ≤ ws.length
      · rw [Nat.min_eq_left h]
        by_cases h' : a ≤ ws.length
        · rw [Nat.min_eq_left h']
        · rw [List.drop_of_length_le (by omega), List.take_nil, List.take_nil]
      · rw [Nat.min_eq_right (by omega)]
        rw [List.take_of_length_le (by rw [List.length_drop]; omega), List.take_of_length_le (by rw [List.length_drop]; omega)]
theorem All.cut {ws : List V} (a : All e F ws xs) (lo hi : Option Nat) : All e F (cutT ws lo hi) (cutT xs lo hi) := by
  cases lo <;> cases hi
  · exact a
  · exact a.take _
  · exact a.drop _
  · exact (a.drop _).take _
/-- the two ends of a slice -/
def Part (tl : TO) (σ : L2.St) (H : Hp) (o : Option Nat) : Prop := ∀ Q : Option Int → Hp → Prop, Q (o.map Int.ofNat) H → tl σ H Q
theorem po_n : Part tNoPart σ H none := fun _ k => k
theorem po_s (h : Val te σ H (.int (n : Int))) : Part (tPart te) σ H (some n) := fun _ k => h _ ⟨_, rfl, k⟩
theorem n_cutX {lo hi : Option Nat} (r : (pL e).r F v xs) (hv : Val te σ H v) (h1 : Part tl σ H lo) (h2 : Part th σ H hi) (w : Wf F0 H0 F H) (k : ∀ p H', H p = none → Wf F H F H' → XL e H0 F H' p (cutT xs lo hi) → Q (.ref p) H') : tSl (rSlL K) te tl th σ H Q := by
  obtain ⟨p, vs, rfl, hp, a⟩ := r
  exact hv _ (h1 _ (h2 _ ⟨p, vs, rfl, SqL.of (w.f _ _ hp), fun l hl => by
    rw [cutV_T]
    exact k l _ hl (Wf.newX w.f hl) ⟨_, Xc.mk' w hl, a.cut lo hi⟩⟩))
end
end Wk
namespace Wk
open PySem L2
section
variable {α β γ : Type} {e : Rep α} {f : Rep β} {g : Rep γ} {K : PySem.W.Frag} {σ : L2.St} {F0 H0 F F' H H' : Hp} {te ta tb to : TE} {tt : TT} {tA : TA} {Q : VK} {v w u : V} {xs ys : List α} {p q : Addr} {i : Nat} {D : Ends} {pr : Prop} {ti : TIp} {x y : V}
theorem if_f {A B : Prop} (h : B) : if false = true then A else B := by rw [if_neg (by simp)]; exact h
theorem bb_ifn {b : Bool} {A B : Prop} (h1 : b = true → B) (h2 : ¬ b = true → A) : if (!b) = true then A else B := by
  cases b with
  | true => rw [if_neg (by simp)]; exact h1 rfl
  | false => rw [if_pos (by rfl)]; exact h2 (by simp)
theorem nx_set {P : L2.St → Hp → Prop} {σ : L2.St} {i : Nat} {H : Hp} (h : v = w) (q : P (σ.set i (some v)) H) : P (σ.set i (some w)) H := h ▸ q
theorem g_name {R : L2.St → Hp → Prop} (h : R (σ.set i (some v)) H) : gName i v σ H R := h
theorem n_tup3 {x : α} {y : β} {z : γ} (a : e.r F v x) (b : f.r F w y) (c : g.r F u z) (h : Wf F0 H0 F H) (k : ∀ p F' H', Wf F H F' H' → (pT3 e f g).r F' (.ref p) (x, y, z) → Q (.ref p) H') :
    kTup Q [v, w, u] H := ⟨Nat.le_of_lt (small_len (n := 3) (by decide)), fun p hp => k p _ _ (Wf.new h.f hp) ⟨p, v, w, u, rfl, upd_same, e.mono (Ex.new (h.f.non hp)) a, f.mono (Ex.new (h.f.non hp)) b, g.mono (Ex.new (h.f.non hp)) c⟩⟩
theorem m_list {r : V → List V → Hp → VK → Prop} (z : XL e H0 F H p xs) (ho : Val to σ H (.ref p)) (k : tA σ H fun vs H2 => r (.ref p) vs H2 Q) : tBM K "list" r to tA σ H Q := ho _ ⟨let ⟨_, a, _⟩ := z.x; Or.inl ⟨rfl, _, Or.inl (Or.inl a.h)⟩, k⟩
theorem a_clr (x : XL e H0 F H p xs) (w : Wf F0 H0 F H) (k : ∀ H', Wf F0 H0 F H' → XL e H0 F H' p [] → (∀ q o, H q = some o → q ≠ p → H' q = some o) → Q .non H') : rClear (.ref p) [] H Q := by
  obtain ⟨vs, a, b⟩ := x.x
  exact ⟨p, vs, rfl, rfl, a.h, k _ (w.set a) ⟨_, a.set, trivial⟩ fun q o h hq => by rw [upd_ne hq]; exact h⟩
theorem a_ext (x : XL e H0 F H p xs) (r : (pL e).r F v ys) (w : Wf F0 H0 F H) (hl : xs.length + ys.length < 1000000) (k : ∀ H', Wf F0 H0 F H' → XL e H0 F H' p (xs ++ ys) → (∀ q o, H q = some o → q ≠ p → H' q = some o) → Q .non H') : rExtend (.ref p) [v] H Q := by
  obtain ⟨vs, a, b⟩ := x.x
  obtain ⟨q, us, rfl, hq, c⟩ := r
  exact ⟨p, q, vs, us, rfl, rfl, a.h, w.f _ _ hq, by rw [b.len, c.len]; exact Nat.le_of_lt (small_len hl), k _ (w.set a) ⟨_, a.set, b.app c⟩ fun q o h hq => by rw [upd_ne hq]; exact h⟩
end
end Wk
namespace Wk
open PySem L2
class KeyT (κ : Type) where
  k : κ → Key
  inj : ∀ {a b : κ}, k a = k b → a = b
instance : KeyT Nat := ⟨fun n => .inl (n : Int), fun h => by have := Sum.inl.inj h; omega⟩
instance : KeyT Int := ⟨fun n => .inl n, fun h => Sum.inl.inj h⟩
instance : KeyT Str := ⟨fun n => .inr n, fun h => Sum.inr.inj h⟩
section
variable {κ α : Type} [DecidableEq κ] [KeyT κ]
def valT (m : List (κ × α)) (j : κ) : Option α := (m.find? fun q => decide (q.1 = j)).map (·.2)
def hasT (m : List (κ × α)) (j : κ) : Bool := (valT m j).isSome
def putT (m : List (κ × α)) (j : κ) (x : α) : List (κ × α) := if hasT m j = true then m.map (fun q => if q.1 = j then (q.1, x) else q) else m ++ [(j, x)]
def DA (e : Rep α) (F : Hp) : List (Key × V) → List (κ × α) → Prop
  | [], [] => True
  | p :: r, q :: s => p.1 = KeyT.k q.1 ∧ e.r F p.2 q.2 ∧ DA e F r s
  | _, _ => False
variable {e : Rep α} {F F' : Hp}
omit [DecidableEq κ] in
theorem DA.mono (h : Ex F F') : ∀ {kvs : List (Key × V)} {m : List (κ × α)}, DA e F kvs m → DA e F' kvs m
  | [], [], _ => trivial
  | _ :: _, _ :: _, ⟨a, b, c⟩ => ⟨a, e.mono h b, DA.mono h c⟩
  | [], _ :: _, q => q.elim
  | _ :: _, [], q => q.elim
theorem DA.len : ∀ {kvs : List (Key × V)} {m : List (κ × α)}, DA e F kvs m → kvs.length = m.length
  | [], [], _ => rfl
  | _ :: _, _ :: _, ⟨_, _, c⟩ => by rw [List.length_cons, List.length_cons, DA.len c]
  | [], _ :: _, q => q.elim
  | _ :: _, [], q => q.elim
theorem valT_cons {q : κ × α} {m : List (κ × α)} {j : κ} : valT (q :: m) j = if q.1 = j then some q.2 else valT m j := by
  unfold valT
  rw [List.find?_cons]
  by_cases h : q.1 = j
  · rw [if_pos h, decide_eq_true h]; rfl
  · rw [if_neg h, decide_eq_false h]
theorem DA.get : ∀ {kvs : List (Key × V)} {m : List (κ × α)} (j : κ), DA e F kvs m → (∀ x, valT m j = some x → ∃ v, valV kvs (KeyT.k j) = some v ∧ e.r F v x) ∧ (valT m j = none → valV kvs (KeyT.k j) = none)
  | [], [], _, _ => ⟨fun x h => (by cases h), fun _ => rfl⟩
  | p :: r, q :: s, j, ⟨a, b, c⟩ => by
    obtain ⟨ih1, ih2⟩ := DA.get j c
    rw [valT_cons]
    by_cases h : q.1 = j
    · rw [if_pos h]
      have e1 : p.1 = KeyT.k j := by rw [a, h]
      exact ⟨fun x hx => ⟨p.2, valV_pos e1, by cases hx; exact b⟩, fun z => by cases z⟩
    · rw [if_neg h]
      have e1 : ¬ p.1 = KeyT.k j := fun z => h (KeyT.inj (a.symm.trans z))
      rw [valV_neg e1]
      exact ⟨ih1, ih2⟩
  | [], _ :: _, _, q => q.elim
  | _ :: _, [], _, q => q.elim
theorem DA.has {kvs : List (Key × V)} {m : List (κ × α)} (j : κ) (d : DA e F kvs m) : (valV kvs (KeyT.k j)).isSome = hasT m j := by
  obtain ⟨h1, h2⟩ := d.get j
  unfold hasT
  cases q : valT m j with
  | none => rw [h2 q]; rfl
  | some x => obtain ⟨v, h, _⟩ := h1 x q; rw [h]; rfl
theorem DA.app : ∀ {kvs : List (Key × V)} {m : List (κ × α)} {kvs' : List (Key × V)} {m' : List (κ × α)}, DA e F kvs m → DA e F kvs' m' → DA e F (kvs ++ kvs') (m ++ m')
  | [], [], _, _, _, h => h
  | _ :: _, _ :: _, _, _, ⟨a, b, c⟩, h => ⟨a, b, DA.app c h⟩
  | [], _ :: _, _, _, q, _ => q.elim
  | _ :: _, [], _, _, q, _ => q.elim
theorem DA.upd {v : V} {x : α} {j : κ} (r : e.r F v x) : ∀ {kvs : List (Key × V)} {m : List (κ × α)}, DA e F kvs m → DA e F (kvs.map fun kv => if kv.1 = KeyT.k j then (kv.1, v) else kv) (m.map fun q => if q.1 = j then (q.1, x) else q)
  | [], [], _ => trivial
  | p :: _, q :: _, ⟨a, b, c⟩ => by
    rw [List.map_cons, List.map_cons]
    refine ⟨?_, ?_, DA.upd r c⟩
    · by_cases h : q.1 = j
      · rw [if_pos h, if_pos (by rw [a, h])]; exact a
      · rw [if_neg h, if_neg (fun z => h (KeyT.inj (a.symm.trans z)))]; exact a
    · by_cases h : q.1 = j
      · rw [if_pos h, if_pos (by rw [a, h])]; exact r
      · rw [if_neg h, if_neg (fun z => h (KeyT.inj (a.symm.trans z)))]; exact b
  | [], _ :: _, q => q.elim
  | _ :: _, [], q => q.elim
theorem DA.put {v : V} {x : α} {j : κ} {kvs : List (Key × V)} {m : List (κ × α)} (d : DA e F kvs m) (r : e.r F v x) : DA e F (putK kvs (KeyT.k j) v) (putT m j x) := by
  unfold putK putT
  rw [valV_any, d.has j]
  by_cases h : hasT m j = true
  · rw [if_pos h, if_pos h]; exact d.upd r
  · rw [if_neg h, if_neg h]; exact d.app ⟨rfl, r, trivial⟩
end
def pD {κ α : Type} [KeyT κ] (e : Rep α) : Rep (List (κ × α)) := ⟨fun F v m => ∃ p kvs, v = .ref p ∧ F p = some (.dK kvs) ∧ DA e F kvs m, fun h ⟨p, kvs, a, b, c⟩ => ⟨p, kvs, a, h _ _ b, c.mono h⟩⟩
structure XD {κ α : Type} [KeyT κ] (e : Rep α) (H0 F H : Hp) (p : Addr) (m : List (κ × α)) : Prop where
  x : ∃ kvs, Xc H0 F H p (.dK kvs) ∧ DA e F kvs m
section
variable {κ α : Type} [DecidableEq κ] [KeyT κ] {e : Rep α} {K : PySem.W.Frag} {σ : L2.St} {F0 H0 F F' H H' : Hp} {te td ty tx tv : TE} {Q : VK} {v w y z : V} {m : List (κ × α)} {p q : Addr} {j : κ} {x : α} {D : Ends}
theorem XD.step (x : XD e H0 F H p m) (w : Wf F H F' H') : XD e H0 F' H' p m := let ⟨vs, a, b⟩ := x.x; ⟨vs, a.step w, b.mono w.g⟩
theorem XD.ne (x : XD e H0 F H p m) (h : H q = none) : p ≠ q := let ⟨_, a, _⟩ := x.x; a.ne h
theorem XD.zero (x : XD e H0 F H p m) : H0 p = none := let ⟨_, a, _⟩ := x.x; a.z
theorem XD.base (x : XD e H F' H' p m) (w : Wf F0 H0 F H) : XD e H0 F' H' p m := let ⟨vs, a, b⟩ := x.x; ⟨vs, ⟨w.h.non a.z, a.n, a.h⟩, b⟩
theorem XD.kept (x : XD e H0 F H q m) (h : ∀ q o, H q = some o → q ≠ p → H' q = some o) (hq : q ≠ p) : XD e H0 F H' q m := let ⟨vs, a, b⟩ := x.x; ⟨vs, a.kept h hq, b⟩
theorem XD.frzO (x : XD e H0 F H q m) (h : Fz F F' p) (hq : q ≠ p) (g : Ex F F') : XD e H0 F' H q m := let ⟨vs, a, b⟩ := x.x; ⟨vs, ⟨a.z, h _ hq a.n, a.h⟩, b.mono g⟩
theorem XD.frzE (x : XD e H0 F H p m) (w : Wf F0 H0 F H) : ∃ F', Wf F0 H0 F' H ∧ Ex F F' ∧ (pD e).r F' (.ref p) m ∧ Fz F F' p := by
  obtain ⟨vs, a, b⟩ := x.x
  exact ⟨_, w.freeze a, Ex.new a.n, ⟨p, vs, rfl, upd_same, b.mono (Ex.new a.n)⟩, fun q h z => by rw [upd_ne h]; exact z⟩
theorem XD.lend (x : XD e H0 F H p m) (w : Wf F0 H0 F H) : ∃ F', Ex F' H ∧ Ex F F' ∧ (pD e).r F' (.ref p) m := let ⟨F', a, b, c, _⟩ := x.frzE w; ⟨F', a.f, b, c⟩
theorem XD.rd (x : XD e H0 F H p m) : ∃ kvs, H p = some (.dK kvs) ∧ DA e F kvs m := let ⟨vs, a, b⟩ := x.x; ⟨vs, a.h, b⟩
theorem D_rd (r : (pD e).r F v m) (f : Ex F H) : ∃ p kvs, v = .ref p ∧ H p = some (.dK kvs) ∧ DA e F kvs m := let ⟨p, vs, a, b, c⟩ := r; ⟨p, vs, a, f _ _ b, c⟩
/-- {} -/
theorem n_dict (w : Wf F0 H0 F H) (k : ∀ p H', H p = none → Wf F H F H' → XD e H0 F H' p ([] : List (κ × α)) → Q (.ref p) H') : tDNewK σ H Q := fun p hp => k p _ hp (Wf.newX w.f hp) ⟨[], Xc.mk' w hp, trivial⟩
theorem in_XD (r : XD e H0 F H p m) (hy : Val ty σ H (kV (KeyT.k j))) (hd : Val td σ H (.ref p)) : Val (tDIn ty td) σ H (.bl (hasT m j)) := by
  obtain ⟨kvs, hp, a⟩ := r.rd
  exact fun Q k => hy _ (hd _ ⟨p, _, rfl, DGet.k hp, by rw [a.has j]; exact k⟩)
theorem nin_XD (r : XD e H0 F H p m) (hy : Val ty σ H (kV (KeyT.k j))) (hd : Val td σ H (.ref p)) : Val (tDNotIn ty td) σ H (.bl (!hasT m j)) := by
  obtain ⟨kvs, hp, a⟩ := r.rd
  exact fun Q k => hy _ (hd _ ⟨p, _, rfl, DGet.k hp, by rw [a.has j]; exact k⟩)
theorem ix_D (r : (pD e).r F v m) (f : Ex F H) (hx : valT m j = some x) : ∃ w, e.r F w x ∧ ∀ ⦃σ td ty⦄, Val td σ H v → Val ty σ H (kV (KeyT.k j)) → Val (tDGet td ty) σ H w := by
  obtain ⟨p, kvs, rfl, hp, a⟩ := D_rd r f
  obtain ⟨w, h1, h2⟩ := (a.get j).1 x hx
  exact ⟨w, h2, fun _ _ _ hd hy Q k => hd _ (hy _ ⟨p, w, rfl, by rw [← h1]; exact DGet.k hp, k⟩)⟩
/-- d[k] = v, v evaluated -/
theorem d_put (r : XD e H0 F H p m) (w : Wf F0 H0 F H) (hl : m.length < 1000000) (rv : e.r F v x) (hd : Val td σ H (.ref p)) (hy : Val ty σ H (kV (KeyT.k j))) (k : ∀ H', Wf F0 H0 F H' → XD e H0 F H' p (putT m j x) → (∀ q o, H q = some o → q ≠ p → H' q = some o) → D.nx σ H') :
    (fun v H1 => td σ H1 fun x H2 => ty σ H2 fun y H3 => ∃ a H4, x = .ref a ∧ DPut H3 a y v H4 ∧ D.nx σ H4) v H := by
  obtain ⟨kvs, a, b⟩ := r.x
  exact hd _ (hy _ ⟨p, _, rfl, DPut.k a.h (by rw [b.len]; exact small_len hl), k _ (w.set a) ⟨_, a.set, b.put rv⟩ fun q o h hq => by rw [upd_ne hq]; exact h⟩)
theorem e_dput (h : tv σ H fun v H1 => td σ H1 fun x H2 => ty σ H2 fun y H3 => ∃ a H4, x = .ref a ∧ DPut H3 a y v H4 ∧ D.nx σ H4) : sDPut td ty tv D σ H := h
end
section
variable {S : Type} {σ : L2.St} {H : Hp} {te ta tb : TE} {tt tu : TT} {Q : VK} {k : Bool → Prop}
theorem e_jnT {f : (Bool → Prop) → Prop} {Qt : Bool → Hp → Prop} (hW : jn f k) (Inv : Bool → Hp → Hp → Prop)
    (h1 : ∀ N : Bool → Hp → Prop, (∀ b F' H', Inv b F' H' → k b → N b H') → f k → tt σ H N) (h2 : ∀ b F' H', Inv b F' H' → k b → Qt b H') : tt σ H Qt :=
  h1 Qt (fun b F' H' q n => h2 b F' H' q n) hW
theorem e_tAnd {Qt : Bool → Hp → Prop} (h : tt σ H fun c H1 => if c = true then tu σ H1 Qt else Qt false H1) : tAnd tt tu σ H Qt := h
theorem e_tOr {Qt : Bool → Hp → Prop} (h : tt σ H fun c H1 => if c = true then Qt true H1 else tu σ H1 Qt) : tOr tt tu σ H Qt := h
theorem bl_v {b : Bool} {A : Bool → Prop} (h : A b) : ∃ c, V.bl b = .bl c ∧ A c := ⟨b, rfl, h⟩
end
end Wk
namespace Wk
theorem dec_nt {b : Bool} : (!b) = decide (¬ (b = true)) := by cases b <;> rfl
end Wk
namespace Wk.LR
open PySem PyProof.Rows L2
section
variable {prog : Program} {w : World} {A : Around} {E : Value → Shared → Prop} {s : Shared}
theorem extend_rev {R : Result → Shared → Prop} {it l : Addr} {items : Array Value} (hh : A.handled = none) (hit : s.heap.IsRevIter it l ((items.size : Int) - 1)) (hl : s.heap.IsList l items) (hne : l ≠ it) (hn : items.size ≤ sizeLine) (S : Addr) (res : Value) {c₀ : Nat} (hS : s.heap.get? S = some { cls := .type "list", data := .seq #[] c₀ })
    (hSl : S ≠ l)
    (hR : ∀ h' tk acc' c', (∀ b o, b ≠ S → b ≠ it → s.heap.get? b = some o → h'.get? b = some o) → h'.get? S = some { cls := .type "list", dict := none, data := .seq acc' c', slots := #[] } →
      ItemsOf (fun i v => items[items.size - 1 - i]? = some v) acc' items.size → R (.ok (.ret res)) { s with heap := h', toks := tk }) :
    wpAny (model prog w) A.in1 (Builtin.List.listExtendWith (.ref S) (.ref it) res)
      (fun fin s' => match fin with | .done f => R (.ok f) s' | .again c' => c'.quiet = true ∧ codeAny (model prog w) A c' R s') (fun e s' => R (.error e) s') s := by
  have hT : s.TypeIs (.ref it) "list_reverseiterator" := Heap.IsRevIter.typeIs hit
  have hSi : S ≠ it := fun e => by
    obtain ⟨o, ho, hc⟩ := hT
    rw [← e, hS] at ho; cases ho
    simp at hc
  have W := (Walks.listRev (prog := prog) (w := w) (A := A.in1) hh it l hne items).toS
  have hSf : S ∉ [it, l] := fun hm => by
    rcases List.mem_cons.mp hm with e | hm
    · exact hSi e
    · exact hSl (List.mem_singleton.mp hm)
  have h1 : Builtin.List.listSameRef (.ref S) (.ref it) = false := by simp [Builtin.List.listSameRef, hSi]
  unfold Builtin.List.listExtendWith
  refine wpAny_bind (wpAny_typeOf hT ?_)
  rw [if_neg (by rw [h1]; decide)]
  refine wpAny_bind (wpAny_pyIter_revIter hit ?_)
  refine wpAny_bind (wpAny_holding ?_)
  unfold Builtin.List.listLengthHint
  refine wpAny_bind (wpAny_specialOf hT RT.nolen_lri ?_)
  show wpAny _ A.in1 (specialOf (Value.ref it) (Str.ofString "__length_hint__") >>= _) _ _ _
  refine wpAny_bind (wpAny_specialOf hT RT.hint_lri ?_)
  generalize hid : ("list_reverseiterator.__length_hint__" : String) = id0
  wp_delta
  rw [show splitId id0 = some ("list_reverseiterator", "__length_hint__") from by subst hid; decide +kernel]
  subst hid
  refine wpAny_bind (wpAny_isInstance (b := true) hT (by rw [isSubtype_type]; kernel_rfl) ?_)
  refine wpAny_pure ?_
  rw [if_neg (by decide)]
  have e0 : ((items.size : Nat) : Int) - 1 - ((0 : Nat) : Int) = (items.size : Int) - 1 := by omega
  refine wpAny_pure ⟨plainId_quiet F.plain_extend_loop _, codeAny_extend_loopS W hn _ hSf _ items.size 0 _ _ _ rfl (Nat.zero_le _) ⟨Nat.zero_le _, by rw [e0]; exact hit, hl⟩ hS (ItemsOf.nil _) fun s' acc' c' hm hS' hacc => ?_⟩
  rw [Moved.eq_with hm]
  refine hR s'.heap s'.toks acc' c' (fun b o hb hb2 e => hm.heap b o (fun hmem => ?_) e) hS' hacc
  rcases List.mem_cons.mp hmem with e' | hmem
  · exact hb e'
  · exact hb2 (List.mem_singleton.mp hmem)
theorem call_list_rev {Q : Value → Shared → Prop} {it l : Addr} {items : Array Value} (hh : A.handled = none) (hit : s.heap.IsRevIter it l ((items.size : Int) - 1)) (hl : s.heap.IsList l items) (hne : l ≠ it) (hn : items.size ≤ sizeLine)
    (hQ : ∀ h' tk acc' c', (∀ b o, b ≠ it → s.heap.get? b = some o → h'.get? b = some o) →
      h'.get? s.heap.objs.size = some { cls := .type "list", dict := none, data := .seq acc' c', slots := #[] } → ItemsOf (fun i v => items[items.size - 1 - i]? = some v) acc' items.size → Q (.ref s.heap.objs.size) { s with heap := h', toks := tk }) :
    wpAny (model prog w) A (call (.type "list") [.ref it]) Q E s := by
  refine callType_codes (Q₁ := fun obj s₁ => obj = .ref s.heap.objs.size ∧ s₁ = { s with heap := s.heap.push { cls := .type "list", data := .seq #[] } }) F.called_list (F.typeCall_list_1 _) F.entry_list_init
    (code_list_new _ ⟨rfl, rfl⟩) fun obj s₁ h₁ => ?_
  obtain ⟨rfl, rfl⟩ := h₁
  have hS : (s.heap.push { cls := .type "list", data := .seq #[] }).get? s.heap.objs.size = some { cls := .type "list", data := .seq #[] } := Heap.get?_push_size _ rfl
  have hlt : l < s.heap.objs.size := let ⟨o, e, _⟩ := hl; Heap.lt_size e
  have hSl : s.heap.objs.size ≠ l := fun e => by rw [← e] at hlt; exact Nat.lt_irrefl _ hlt
  refine ⟨⟨_, hS, rfl⟩, F.args_list_init_2 _ _, ?_⟩
  show wpAny _ _ (do let old ← Builtin.List.listItems (.ref s.heap.objs.size); Builtin.List.listUpdate (.ref s.heap.objs.size) (fun _ => #[]); letGo old.toList.reverse; Builtin.List.listExtendWith (.ref s.heap.objs.size) (.ref it) .none) _ _ _
  refine wpAny_bind ?_
  unfold Builtin.List.listItems
  refine wpAny_bind (wpAny_seqItems hS rfl (wpAny_pure ?_))
  show wpAny _ _ (updateSeq s.heap.objs.size (fun _ => #[]) >>= fun _ => letGo (#[] : Array Value).toList.reverse >>= fun _ => Builtin.List.listExtendWith (.ref s.heap.objs.size) (.ref it) .none) _ _ _
  refine wpAny_bind (wpAny_updateSeq hS rfl ?_)
  obtain ⟨c₂, hS₂⟩ : ∃ c, ((s.heap.push { cls := .type "list", data := .seq #[] }).update s.heap.objs.size (Obj.mapSeq (fun _ => (#[] : Array Value)))).get? s.heap.objs.size = some { cls := .type "list", data := .seq #[] c } := ⟨_, Heap.get?_update_self (Obj.mapSeq (fun _ => (#[] : Array Value))) hS rfl⟩
  have oth : ∀ b o, b ≠ s.heap.objs.size → s.heap.get? b = some o → ((s.heap.push { cls := .type "list", data := .seq #[] }).update s.heap.objs.size (Obj.mapSeq (fun _ => (#[] : Array Value)))).get? b = some o :=
    fun b o hb e => (Heap.get?_update_other _ _ (Ne.symm hb)).trans (Heap.get?_push_of_some _ e)
  have oth2 : ∀ b o, s.heap.get? b = some o → ((s.heap.push { cls := .type "list", data := .seq #[] }).update s.heap.objs.size (Obj.mapSeq (fun _ => (#[] : Array Value)))).get? b = some o := fun b o e => oth b o (Nat.ne_of_lt (Heap.lt_size e)) e
  refine wpAny_bind (wpAny_letGo ?_)
  refine extend_rev (A := A.in1) (prog := prog) (w := w) (R := wants (fun r s₂ => r = Value.none ∧ Q (Value.ref s.heap.objs.size) s₂) E) (s := { s with heap := (s.heap.push { cls := .type "list", data := .seq #[] }).update s.heap.objs.size (Obj.mapSeq (fun _ => (#[] : Array Value))) }) (c₀ := c₂) hh (hit.at fun o e => oth2 _ _ e) (hl.at fun o e => oth2 _ _ e) hne hn _ .none hS₂ hSl fun h' tk acc' c' hk hS' hacc => ?_
  exact ⟨rfl, hQ h' tk acc' c' (fun b o hb e => hk b o (Nat.ne_of_lt (Heap.lt_size e)) hb (oth2 b o e)) hS' hacc⟩
end
end Wk.LR
namespace Wk
open PySem L2 PyProof.Rows
def rLstRev (K : PySem.W.Frag) (Q : VK) (v : V) (H1 : Hp) : Prop := ∃ (a : Addr) (xs : List V), v = .ref a ∧ SqL K H1 a xs ∧ ∀ q, H1 q = none → Q (.ref q) (upd H1 q (.lst xs.reverse))
def tLstRev (K : PySem.W.Frag) (te : TE) : TE := fun σ H Q => te σ H (rLstRev K Q)
theorem All.rev {α : Type} {e : Rep α} {F : Hp} : ∀ {vs : List V} {xs : List α}, All e F vs xs → All e F vs.reverse xs.reverse
  | [], [], _ => trivial
  | _ :: _, _ :: _, ⟨a, b⟩ => by rw [List.reverse_cons, List.reverse_cons]; exact (All.rev b).snoc a
  | [], _ :: _, q => q.elim
  | _ :: _, [], q => q.elim
theorem e_lrev {K : PySem.W.Frag} {te : TE} {σ : L2.St} {H : Hp} {Q : VK} (h : te σ H (rLstRev K Q)) : tLstRev K te σ H Q := h
theorem n_lrevXX {α : Type} {e : Rep α} {K : PySem.W.Frag} {F0 H0 F H : Hp} {q : Addr} {xs : List α} {Q : VK} (r : XL e H0 F H q xs) (w : Wf F0 H0 F H) (k : ∀ p H', H p = none → Wf F H F H' → XL e H0 F H' p xs.reverse → Q (.ref p) H') : rLstRev K Q (.ref q) H := by
  obtain ⟨vs, hp, a⟩ := r.rd
  exact ⟨q, vs, rfl, SqL.of hp, fun l hl => k l _ hl (Wf.newX w.f hl) ⟨vs.reverse, Xc.mk' w hl, a.rev⟩⟩
section
variable {X : Cx}
theorem pe_lstRev {e : Expr} {te : TE} {p p2 pos pos2 : Pos} (hc : X.calm = true) (hg : Gl X "list") (hm : X.mg "list" = none) (hg2 : Gl X "reversed") (hm2 : X.mg "reversed" = none) (he : PE X e te)
    (hs : starEach [e] X.env = (false, eval e X.env) :: starEach [] X.env := by rfl)
    (hs2 : starEach [.Call (.Name "reversed" p2) [e] [] pos2] X.env = (false, eval (.Call (.Name "reversed" p2) [e] [] pos2) X.env) :: starEach [] X.env := by rfl) :
    PE X (.Call (.Name "list" p) [.Call (.Name "reversed" p2) [e] [] pos2] [] pos) (tLstRev X.K te) := by
  refine ⟨fun pins s σ H Q I h => ?_⟩
  refine Call_ (ld_blt I hg hm PyProof.Rows.boot_list (PyProof.Rows.callWith_type1 (args_cons (Call_ (ld_blt I hg2 hm2 PyProof.Rows.boot_reversed (PyProof.Rows.callWith_type1 (args_cons (thn (he.run pins s σ H _ I h) fun u s1 ⟨v, H1, I1, r1, q1⟩ => args_nil ?_) hs) hs rfl))) hs2) hs2 rfl))
  obtain ⟨a, xs, ev, hq, q⟩ := q1
  subst ev
  obtain rfl : u = Value.ref a := r1
  obtain ⟨its, rv, p', hz⟩ := I1.list hq
  refine call_reversed_list p'.isList (args_nil ?_)
  have k0 : ∀ b o, s1.heap.get? b = some o → (s1.heap.push (revObj a ((its.toArray.size : Int) - 1))).get? b = some o := fun b o e => Heap.get?_push_of_some _ e
  have hl := p'.isList
  obtain ⟨ol, hol, _⟩ := id hl
  have hne : a ≠ s1.heap.objs.size := Nat.ne_of_lt (Heap.lt_size hol)
  have hn : its.toArray.size ≤ sizeLine := by rw [List.size_toArray, ← rv.length]; exact hz
  refine LR.call_list_rev (s := { s1 with heap := s1.heap.push (revObj a ((its.toArray.size : Int) - 1)) }) (I1.ok.hd hc) ⟨_, Heap.get?_push_size _ rfl, rfl, rfl⟩ (hl.push _) hne hn fun h' tk acc c' hk hS hi => ?_
  have hsz : (s1.heap.push (revObj a ((its.toArray.size : Int) - 1))).objs.size = s1.heap.objs.size + 1 := Heap.size_push _ _
  rw [hsz] at hS
  exact ⟨.ref (s1.heap.objs.size + 1), upd H1 (s1.heap.objs.size + 1) (.lst xs.reverse), I1.laid (t' := tk) (fun b u e => hk b u (Nat.ne_of_lt (Heap.lt_size e)) (k0 b u e)) (Nat.le_succ _) (show ObjOk X.prog X.w _ _ _ (.lst xs.reverse) from
    ⟨by rw [List.length_reverse]; exact hz, acc.toList, c', RT.vals_rev rv hi, by rw [Array.toArray_toList]; exact hS⟩), congrArg Value.ref hsz, q _ (I1.hok.fresh (Nat.le_succ _))⟩
end
end Wk
namespace Wk
section
variable {α β S : Type}
theorem forW_ind {xs : List α} {s : S} {body : α → S → (S → Prop) → (S → Prop) → Prop} {k : S → Prop} (P : List α → S → Prop) (h0 : P [] s)
    (hb : ∀ pre x post s nx bk, xs = pre ++ x :: post → P pre s → (∀ s', P (pre ++ [x]) s' → nx s') → (∀ s', k s' → bk s') → body x s nx bk)
    (hk : ∀ s, P xs s → k s) : forW xs s body k := by
  suffices h : ∀ (post pre : List α) (s : S), xs = pre ++ post → P pre s → forW post s body k from h xs [] s rfl h0
  intro post
  induction post with
  | nil => intro pre s e p; rw [List.append_nil] at e; subst e; exact hk s p
  | cons x post ih => intro pre s e p; exact hb pre x post s _ _ e p (fun s' p' => ih (pre ++ [x]) s' (by rw [e, List.append_assoc]; rfl) p') (fun _ h => h)
theorem forW_foldI {xs : List α} {s : S} {body : α → S → (S → Prop) → (S → Prop) → Prop} {k : S → Prop} (f : S → α → S) (I : S → Prop) (h0 : I s)
    (hb : ∀ x ∈ xs, ∀ s nx bk, I s → (I (f s x) → nx (f s x)) → body x s nx bk) (hi : ∀ x ∈ xs, ∀ s, I s → I (f s x))
    (hk : I (xs.foldl f s) → k (xs.foldl f s)) : forW xs s body k := by
  induction xs generalizing s with
  | nil => exact hk h0
  | cons x xs ih =>
    refine hb x (List.mem_cons_self ..) s _ _ h0 fun h1 => ih (s := f s x) h1 (fun y hy => hb y (List.mem_cons_of_mem _ hy)) (fun y hy => hi y (List.mem_cons_of_mem _ hy)) hk
theorem forW_fold {xs : List α} {s : S} {body : α → S → (S → Prop) → (S → Prop) → Prop} {k : S → Prop} (f : S → α → S)
    (hb : ∀ x ∈ xs, ∀ s nx bk, nx (f s x) → body x s nx bk) (hk : k (xs.foldl f s)) : forW xs s body k :=
  forW_foldI f (fun _ => True) trivial (fun x hx s nx bk _ h => hb x hx s nx bk (h trivial)) (fun _ _ _ _ => trivial) fun _ => hk
theorem forW_unit {xs : List α} {body : α → Unit → (Unit → Prop) → (Unit → Prop) → Prop} {k : Unit → Prop}
    (hb : ∀ x ∈ xs, ∀ nx bk, nx () → body x () nx bk) (hk : k ()) : forW xs () body k :=
  forW_fold (fun s _ => s) (fun x hx _ nx bk h => hb x hx nx bk h) hk
theorem compG_fm {xs : List α} {acc : List β} {b : α → (Option β → Prop) → Prop} {k : List β → Prop} (f : α → Option β) (hb : ∀ x ∈ xs, ∀ kk, kk (f x) → b x kk) (hk : k (acc ++ xs.filterMap f)) : compG xs acc b k := by
  induction xs generalizing acc with
  | nil => simpa [compG] using hk
  | cons x xs ih =>
    refine hb x (List.mem_cons_self ..) _ (ih (fun y hy => hb y (List.mem_cons_of_mem _ hy)) ?_)
    rw [List.filterMap_cons] at hk
    cases h : f x with
    | none => rw [h] at hk; simpa using hk
    | some y => rw [h] at hk; simpa using hk
theorem compW_fm {xs : List α} {b : α → (Option β → Prop) → Prop} {k : List β → Prop} (f : α → Option β) (hb : ∀ x ∈ xs, ∀ kk, kk (f x) → b x kk) (hk : k (xs.filterMap f)) : compW xs b k :=
  compG_fm f hb (by simpa using hk)
theorem compW_map {xs : List α} {b : α → (Option β → Prop) → Prop} {k : List β → Prop} (f : α → β) (hb : ∀ x ∈ xs, ∀ kk, kk (some (f x)) → b x kk) (hk : k (xs.map f)) : compW xs b k :=
  compW_fm (fun x => some (f x)) hb (by rw [show (fun x => some (f x)) = some ∘ f from rfl, List.filterMap_eq_map]; exact hk)
theorem compW_filter {xs : List α} {b : α → (Option α → Prop) → Prop} {k : List α → Prop} (p : α → Bool) (hb : ∀ x ∈ xs, ∀ kk, (p x = true → kk (some x)) → (p x = false → kk none) → b x kk) (hk : k (xs.filter p)) : compW xs b k :=
  compW_fm (fun x => if p x = true then some x else none) (fun x hx kk h => hb x hx kk (fun e => by simpa [e] using h) (fun e => by simpa [e] using h)) (by
    have : (fun x => if p x = true then some x else none) = Option.guard (fun x => p x) := by funext x; by_cases h : p x = true <;> simp [Option.guard, h]
    rw [this, List.filterMap_eq_filter]; exact hk)
/-- a comprehension whose turns are told by what they may give -/
def CR (P : α → Option β → Prop) : List α → List β → Prop
  | [], ys => ys = []
  | x :: xs, ys => ∃ o ys', P x o ∧ ys = o.toList ++ ys' ∧ CR P xs ys'
theorem compG_rel {xs : List α} {acc : List β} {b : α → (Option β → Prop) → Prop} {k : List β → Prop} (P : α → Option β → Prop) (hb : ∀ x ∈ xs, ∀ kk, (∀ o, P x o → kk o) → b x kk) (hk : ∀ ys, CR P xs ys → k (acc ++ ys)) : compG xs acc b k := by
  induction xs generalizing acc with
  | nil => have := hk [] rfl; rwa [List.append_nil] at this
  | cons x xs ih =>
    refine hb x (List.mem_cons_self ..) _ fun o ho => ih (fun y hy => hb y (List.mem_cons_of_mem _ hy)) fun ys hy => ?_
    rw [List.append_assoc]
    exact hk _ ⟨o, ys, ho, rfl, hy⟩
theorem compW_rel {xs : List α} {b : α → (Option β → Prop) → Prop} {k : List β → Prop} (P : α → Option β → Prop) (hb : ∀ x ∈ xs, ∀ kk, (∀ o, P x o → kk o) → b x kk) (hk : ∀ ys, CR P xs ys → k ys) : compW xs b k := compG_rel P hb fun ys h => by rw [List.nil_append]; exact hk ys h
theorem jnI {f : (S → Prop) → Prop} {k : S → Prop} (h : f k) : jn f k := h
/-- a while loop without a measure that must be told -/
theorem whileW_ind {test : S → (Bool → Prop) → Prop} {body : S → (S → Prop) → (S → Prop) → Prop} {s : S} {k : S → Prop} (I : S → Prop) (μ : S → Nat) (h0 : I s)
    (hb : ∀ s (nx : S → Prop), I s → (∀ s', I s' → μ s' < μ s → nx s') → test s fun b => if b = true then body s nx k else k s) : whileW test body s k :=
  ⟨fun m s => m = μ s ∧ I s, ⟨_, rfl, h0⟩, fun m s ⟨e, h⟩ => hb s _ h fun s' h' hl => ⟨μ s', by rw [e]; exact hl, rfl, h'⟩⟩
end
end Wk
namespace Wk
theorem halfBit (n i : Nat) : (n / 2).testBit i = n.testBit (i + 1) := by rw [Nat.testBit_add_one]
theorem half_xor (a b : Nat) : (a ^^^ b) / 2 = a / 2 ^^^ b / 2 := Nat.eq_of_testBit_eq fun i => by rw [Nat.testBit_xor, halfBit, halfBit, halfBit, Nat.testBit_xor]
/-- is the number of bits odd? -/
def par (n : Nat) : Bool := if h : n = 0 then false else xor (n.testBit 0) (par (n / 2))
termination_by n
decreasing_by omega
/-- the places of the bits below k -/
def bl (k n : Nat) : List Nat := (List.range k).filter n.testBit
theorem testBit_big {n k j : Nat} (h : n < 2 ^ k) (hj : k ≤ j) : n.testBit j = false := Nat.testBit_lt_two_pow (Nat.lt_of_lt_of_le h (Nat.pow_le_pow_right (by decide) hj))
section
variable {κ α : Type} [DecidableEq κ] [KeyT κ]
theorem valT_app {m : List (κ × α)} {j i : κ} {x : α} (h : hasT m j = false) : valT (m ++ [(j, x)]) i = if j = i then some x else valT m i := by
  induction m with
  | nil => show valT [(j, x)] i = _; rw [valT_cons]
  | cons q m ih =>
    have h' : q.1 ≠ j ∧ hasT m j = false := by
      unfold hasT at h ⊢
      rw [valT_cons] at h
      by_cases e : q.1 = j
      · rw [if_pos e] at h; cases h
      · rw [if_neg e] at h; exact ⟨e, h⟩
    rw [List.cons_append, valT_cons, valT_cons, ih h'.2]
    by_cases e : q.1 = i
    · rw [if_pos e, if_pos e, if_neg]
      intro z; exact h'.1 (e.trans z.symm)
    · rw [if_neg e, if_neg e]
theorem valT_map {m : List (κ × α)} {j i : κ} {x : α} : valT (m.map fun q => if q.1 = j then (q.1, x) else q) i = if j = i ∧ hasT m j = true then some x else valT m i := by
  induction m with
  | nil => show none = _; rw [if_neg (fun z => by cases z.2)]; rfl
  | cons q m ih =>
    rw [List.map_cons, valT_cons, valT_cons, ih]
    have hh : hasT (q :: m) j = if q.1 = j then true else hasT m j := by
      unfold hasT; rw [valT_cons]
      by_cases e : q.1 = j
      · rw [if_pos e, if_pos e]; rfl
      · rw [if_neg e, if_neg e]
    rw [hh]
    by_cases e : q.1 = j
    · rw [if_pos e, if_pos e]
      by_cases f : q.1 = i
      · rw [if_pos f, if_pos ⟨e.symm.trans f, rfl⟩]
      · rw [if_neg f, if_neg (fun z => f (e.trans z.1)), if_neg (fun z => f (e.trans z.1)), if_neg f]
    · rw [if_neg e, if_neg e]
      by_cases f : q.1 = i
      · rw [if_pos f, if_neg (fun z => e (f.trans z.1.symm))]
        rw [if_pos f]
      · rw [if_neg f, if_neg f]
theorem valT_putT {m : List (κ × α)} {j i : κ} {x : α} : valT (putT m j x) i = if j = i then some x else valT m i := by
  unfold putT
  cases h : hasT m j with
  | true =>
    rw [if_pos rfl, valT_map]
    by_cases e : j = i
    · rw [if_pos ⟨e, h⟩, if_pos e]
    · rw [if_neg (fun z => e z.1), if_neg e]
  | false => rw [if_neg (by simp), valT_app h]
theorem hasT_putT {m : List (κ × α)} {j i : κ} {x : α} : hasT (putT m j x) i = (decide (j = i) || hasT m i) := by
  unfold hasT; rw [valT_putT]
  by_cases e : j = i
  · rw [if_pos e, decide_eq_true e]; rfl
  · rw [if_neg e, decide_eq_false e]; rfl
theorem hasT_iff {m : List (κ × α)} {j : κ} : hasT m j = true ↔ j ∈ m.map (·.1) := by
  induction m with
  | nil => exact ⟨fun h => (by cases h), fun h => (by cases h)⟩
  | cons q m ih =>
    unfold hasT at ih ⊢
    rw [valT_cons, List.map_cons, List.mem_cons]
    by_cases e : q.1 = j
    · rw [if_pos e]; exact ⟨fun _ => .inl e.symm, fun _ => rfl⟩
    · rw [if_neg e, ih]; exact ⟨.inr, fun h => h.resolve_left fun z => e z.symm⟩
theorem putT_len {m : List (κ × α)} {j : κ} {x : α} : (putT m j x).length ≤ m.length + 1 := by
  unfold putT
  by_cases h : hasT m j = true
  · rw [if_pos h, List.length_map]; omega
  · rw [if_neg h, List.length_append]; exact Nat.le_refl _
end
end Wk
namespace Wk
theorem bits_le {n k : Nat} : bits n ≤ k ↔ n < 2 ^ k := by
  unfold bits
  by_cases h : n = 0
  · subst h; simp [Nat.two_pow_pos]
  · rw [if_neg h]
    exact ⟨fun z => (Nat.log2_lt h).mp (Nat.lt_of_succ_le z), fun z => Nat.succ_le_of_lt ((Nat.log2_lt h).mpr z)⟩
theorem bits_pos {n : Nat} (h : n ≠ 0) : 0 < bits n := by unfold bits; rw [if_neg h]; exact Nat.succ_pos _
theorem xor0 {a b : Nat} (h : a ^^^ b = 0) : a = b := by
  have e : (a ^^^ b) ^^^ b = b := by rw [h, Nat.zero_xor]
  rw [Nat.xor_assoc, Nat.xor_self, Nat.xor_zero] at e; exact e
def comb : List Nat → Nat → Nat
  | [], _ => 0
  | r :: rs, S => (if S.testBit 0 = true then r else 0) ^^^ comb rs (S / 2)
theorem comb_xor : ∀ (rs : List Nat) (S T : Nat), comb rs (S ^^^ T) = comb rs S ^^^ comb rs T
  | [], _, _ => by simp [comb]
  | r :: rs, S, T => by
    show (if (S ^^^ T).testBit 0 = true then r else 0) ^^^ comb rs ((S ^^^ T) / 2) = _
    rw [half_xor, comb_xor rs, Nat.testBit_xor]
    show _ = ((if S.testBit 0 = true then r else 0) ^^^ comb rs (S / 2)) ^^^ ((if T.testBit 0 = true then r else 0) ^^^ comb rs (T / 2))
    generalize comb rs (S / 2) = a
    generalize comb rs (T / 2) = b
    cases S.testBit 0 <;> cases T.testBit 0
    · simp
    · simp only [Bool.false_xor, if_true, Bool.false_eq_true, if_false, Nat.zero_xor]
      rw [← Nat.xor_assoc, ← Nat.xor_assoc, Nat.xor_comm a r]
    · simp only [Bool.xor_false, if_true, Bool.false_eq_true, if_false, Nat.zero_xor]
      rw [Nat.xor_assoc]
    · simp only [Bool.xor_self, if_true, Bool.false_eq_true, if_false, Nat.zero_xor]
      rw [Nat.xor_comm r b, ← Nat.xor_assoc, Nat.xor_assoc (r ^^^ a), ]
      rw [Nat.xor_comm r a, Nat.xor_assoc a r, ← Nat.xor_assoc r b r, Nat.xor_comm r b, Nat.xor_assoc b r r, Nat.xor_self, Nat.xor_zero]
theorem comb_zero : ∀ rs : List Nat, comb rs 0 = 0
  | [] => rfl
  | r :: rs => by show (if Nat.testBit 0 0 = true then r else 0) ^^^ comb rs (0 / 2) = 0; rw [Nat.zero_div, comb_zero rs]; simp
theorem comb_ext : ∀ {rs : List Nat} {S T : Nat}, (∀ j, j < rs.length → S.testBit j = T.testBit j) → comb rs S = comb rs T
  | [], _, _, _ => rfl
  | r :: rs, S, T, h => by
    show (if S.testBit 0 = true then r else 0) ^^^ comb rs (S / 2) = (if T.testBit 0 = true then r else 0) ^^^ comb rs (T / 2)
    rw [h 0 (by simp), comb_ext (rs := rs) (S := S / 2) (T := T / 2) fun j hj => by
      rw [halfBit, halfBit]; exact h (j + 1) (by simpa using hj)]
theorem comb_snoc : ∀ (rs : List Nat) (r S : Nat), comb (rs ++ [r]) S = comb rs S ^^^ if S.testBit rs.length = true then r else 0
  | [], r, S => by simp [comb]
  | q :: rs, r, S => by
    show (if S.testBit 0 = true then q else 0) ^^^ comb (rs ++ [r]) (S / 2) = _
    rw [comb_snoc rs, halfBit]
    show _ = ((if S.testBit 0 = true then q else 0) ^^^ comb rs (S / 2)) ^^^ _
    rw [← Nat.xor_assoc]; rfl
theorem comb_lt : ∀ {rs : List Nat} {S k : Nat}, (∀ r ∈ rs, r < 2 ^ k) → comb rs S < 2 ^ k
  | [], _, _, _ => Nat.two_pow_pos _
  | r :: rs, S, k, h => by
    refine Nat.xor_lt_two_pow ?_ (comb_lt fun x hx => h x (List.mem_cons_of_mem _ hx))
    by_cases q : S.testBit 0 = true
    · rw [if_pos q]; exact h r (List.mem_cons_self ..)
    · rw [if_neg q]; exact Nat.two_pow_pos _
theorem comb_pow_len (rs : List Nat) : comb rs (2 ^ rs.length) = 0 := by
  rw [← comb_zero rs]
  refine comb_ext fun j hj => ?_
  rw [Nat.testBit_two_pow, Nat.zero_testBit, decide_eq_false (by omega)]
theorem comb_map (f : Nat → Nat) (h0 : f 0 = 0) (hf : ∀ a b, f (a ^^^ b) = f a ^^^ f b) : ∀ (vs : List Nat) (S : Nat), comb (vs.map f) S = f (comb vs S)
  | [], _ => h0.symm
  | v :: vs, S => by
    show (if S.testBit 0 = true then f v else 0) ^^^ comb (vs.map f) (S / 2) = f ((if S.testBit 0 = true then v else 0) ^^^ comb vs (S / 2))
    rw [comb_map f h0 hf vs, hf]
    by_cases q : S.testBit 0 = true
    · rw [if_pos q, if_pos q]
    · rw [if_neg q, if_neg q, h0]
/-- the sums of the rows -/
def Span (vs : List Nat) (v : Nat) : Prop := ∃ S, comb vs S = v
theorem Span.zero (vs : List Nat) : Span vs 0 := ⟨0, comb_zero vs⟩
theorem Span.low {vs : List Nat} {v : Nat} : Span vs v → ∃ S, S < 2 ^ vs.length ∧ comb vs S = v := fun ⟨S, a⟩ => ⟨S % 2 ^ vs.length, Nat.mod_lt _ (Nat.two_pow_pos _), by
  rw [← a]
  refine comb_ext fun j hj => ?_
  rw [Nat.testBit_mod_two_pow, decide_eq_true hj, Bool.true_and]⟩
theorem Span.snoc {vs : List Nat} {r v : Nat} : Span (vs ++ [r]) v ↔ Span vs v ∨ Span vs (v ^^^ r) := by
  constructor
  · rintro ⟨S, h⟩
    rw [comb_snoc] at h
    by_cases q : S.testBit vs.length = true
    · rw [if_pos q] at h
      exact .inr ⟨S, by rw [← h, Nat.xor_assoc, Nat.xor_self, Nat.xor_zero]⟩
    · rw [if_neg q, Nat.xor_zero] at h
      exact .inl ⟨S, h⟩
  · rintro (h | h)
    · obtain ⟨S, hl, e⟩ := h.low
      exact ⟨S, by rw [comb_snoc, testBit_big hl (Nat.le_refl _), e]; simp⟩
    · obtain ⟨S, hl, e⟩ := h.low
      refine ⟨S ^^^ 2 ^ vs.length, ?_⟩
      rw [comb_snoc, comb_xor, comb_pow_len, e, Nat.testBit_xor, testBit_big hl (Nat.le_refl _), Nat.testBit_two_pow, decide_eq_true rfl]
      simp [Nat.xor_assoc]
theorem Span.nil {v : Nat} : Span [] v ↔ v = 0 := ⟨fun ⟨_, h⟩ => h.symm, fun h => by subst h; exact Span.zero _⟩
theorem Span.inj {vs : List Nat} {k : Nat} (f : Nat → Nat) (h0 : f 0 = 0) (hf : ∀ a b, f (a ^^^ b) = f a ^^^ f b) (hi : ∀ a, a < 2 ^ k → f a = 0 → a = 0) (hv : ∀ v ∈ vs, v < 2 ^ k) {v : Nat} (hk : v < 2 ^ k) : Span (vs.map f) (f v) ↔ Span vs v := by
  constructor
  · rintro ⟨S, h⟩
    rw [comb_map f h0 hf] at h
    refine ⟨S, ?_⟩
    have : comb vs S ^^^ v = 0 := hi _ (Nat.xor_lt_two_pow (comb_lt hv) hk) (by rw [hf, h, Nat.xor_self])
    exact xor0 this
  · rintro ⟨S, h⟩
    exact ⟨S, by rw [comb_map f h0 hf, h]⟩
/-- masks with unlike highest bits, rising -/
def Incr (ws : List Nat) : Prop := ws.Pairwise (fun a b => bits a < bits b) ∧ ∀ w ∈ ws, w ≠ 0
theorem Incr.snoc {ws : List Nat} {w : Nat} (h : Incr ws) (hb : ∀ x ∈ ws, bits x < bits w) (h0 : w ≠ 0) : Incr (ws ++ [w]) := ⟨List.pairwise_append.mpr ⟨h.1, List.pairwise_singleton _ _, fun a ha b hb' => by rw [List.mem_singleton.mp hb']; exact hb a ha⟩, fun x hx => by
  rcases List.mem_append.mp hx with q | q
  · exact h.2 x q
  · rw [List.mem_singleton.mp q]; exact h0⟩
theorem comb_snoc_bits {ws : List Nat} {w S : Nat} (hb : ∀ x ∈ ws, bits x < bits w) : bits (comb ws S) < bits w ∨ w = 0 := by
  by_cases h : w = 0
  · exact .inr h
  · left
    have hp := bits_pos h
    refine Nat.lt_of_le_of_lt (bits_le.mpr (comb_lt (k := bits w - 1) fun x hx => ?_)) (by omega)
    have := hb x hx
    exact bits_le.mp (by omega)
theorem Incr.inj : ∀ {ws : List Nat} {S : Nat}, Incr ws → S < 2 ^ ws.length → comb ws S = 0 → S = 0 := by
  intro ws
  induction hn : ws.length generalizing ws with
  | zero => intro S _ hS _; simpa using hS
  | succ n ih =>
    intro S hI hS h
    obtain ⟨us, w, rfl⟩ : ∃ us w, ws = us ++ [w] := ⟨ws.dropLast, ws.getLast (by intro z; subst z; cases hn), (List.dropLast_concat_getLast _).symm⟩
    have hl : us.length = n := by rw [List.length_append] at hn; simpa using hn
    obtain ⟨hp, h0⟩ := hI
    rw [List.pairwise_append] at hp
    have hw : w ≠ 0 := h0 w (List.mem_append_right _ (List.mem_singleton_self _))
    have hb : ∀ x ∈ us, bits x < bits w := fun x hx => hp.2.2 x hx w (List.mem_singleton_self _)
    rw [comb_snoc, hl] at h
    by_cases q : S.testBit n = true
    · rw [if_pos q] at h
      have e := xor0 h
      rcases comb_snoc_bits (S := S) hb with z | z
      · rw [e] at z; exact absurd z (Nat.lt_irrefl _)
      · exact absurd z hw
    · rw [if_neg q, Nat.xor_zero] at h
      have hS' : S < 2 ^ n := by
        refine Nat.lt_pow_two_of_testBit _ fun j hj => ?_
        by_cases e : j = n
        · subst e; simpa using q
        · exact testBit_big hS (by omega)
      exact ih (ws := us) hl ⟨hp.1, fun x hx => h0 x (List.mem_append_left _ hx)⟩ hS' h
end Wk
namespace Wk
def pm (a b : Nat) : Nat := if h : b = 0 then 0 else (if b.testBit 0 = true then a else 0) ^^^ pm (2 * a) (b / 2)
termination_by b
decreasing_by omega
theorem pm_zero (a : Nat) : pm a 0 = 0 := by rw [pm]; simp
theorem pm_step (a b : Nat) : pm a b = (if b.testBit 0 = true then a else 0) ^^^ pm (2 * a) (b / 2) := by
  by_cases h : b = 0
  · subst h; simp [pm_zero]
  · rw [pm, dif_neg h]
theorem two_xor (a b : Nat) : 2 * (a ^^^ b) = 2 * a ^^^ 2 * b := Nat.eq_of_testBit_eq fun i => by
  rw [Nat.testBit_xor]
  cases i with
  | zero => simp [Nat.testBit_zero]
  | succ i => rw [Nat.testBit_add_one, Nat.testBit_add_one, Nat.testBit_add_one]; simp [Nat.testBit_xor]
theorem ifx {c : Bool} {a b : Nat} : (if c = true then a ^^^ b else 0) = (if c = true then a else 0) ^^^ (if c = true then b else 0) := by cases c <;> simp
theorem xor_swap (a b c d : Nat) : (a ^^^ b) ^^^ (c ^^^ d) = (a ^^^ c) ^^^ (b ^^^ d) := by
  rw [Nat.xor_assoc, ← Nat.xor_assoc b c d, Nat.xor_comm b c, Nat.xor_assoc c b d, ← Nat.xor_assoc]
theorem pm_xor_r (b : Nat) : ∀ a c : Nat, pm a (b ^^^ c) = pm a b ^^^ pm a c := by
  induction b using Nat.strongRecOn with
  | ind b ih =>
    intro a c
    by_cases h : b = 0
    · subst h; rw [Nat.zero_xor, pm_zero, Nat.zero_xor]
    · rw [pm_step a (b ^^^ c), pm_step a b, pm_step a c, half_xor, ih (b / 2) (by omega), Nat.testBit_xor, xor_swap]
      congr 1
      cases b.testBit 0 <;> cases c.testBit 0 <;> simp
theorem pm_xor_l (c : Nat) : ∀ a b : Nat, pm (a ^^^ b) c = pm a c ^^^ pm b c := by
  induction c using Nat.strongRecOn with
  | ind c ih =>
    intro a b
    by_cases h : c = 0
    · subst h; simp [pm_zero]
    · rw [pm_step (a ^^^ b), pm_step a c, pm_step b c, two_xor, ih (c / 2) (by omega), ifx, xor_swap]
theorem pm_dbl (b : Nat) : ∀ a, pm (2 * a) b = 2 * pm a b := by
  induction b using Nat.strongRecOn with
  | ind b ih =>
    intro a
    by_cases h : b = 0
    · subst h; simp [pm_zero]
    · rw [pm_step (2 * a), pm_step a, ih (b / 2) (by omega), two_xor]
      congr 1
      cases b.testBit 0 <;> simp
theorem pm_half (a b : Nat) : pm a b = (if b.testBit 0 = true then a else 0) ^^^ 2 * pm a (b / 2) := by rw [pm_step, pm_dbl]
theorem pm_zero_l (b : Nat) : pm 0 b = 0 := by
  induction b using Nat.strongRecOn with
  | ind b ih =>
    by_cases h : b = 0
    · subst h; exact pm_zero 0
    · rw [pm_half, ih (b / 2) (by omega)]; simp
theorem pm_one_l (b : Nat) : pm 1 b = b := by
  induction b using Nat.strongRecOn with
  | ind b ih =>
    by_cases h : b = 0
    · subst h; exact pm_zero 1
    · rw [pm_half, ih (b / 2) (by omega), Nat.testBit_zero]
      rcases Nat.mod_two_eq_zero_or_one b with e | e
      · rw [if_neg (by simp [e]), Nat.zero_xor]; omega
      · rw [if_pos (by simp [e])]
        have : 1 ^^^ 2 * (b / 2) = 2 * (b / 2) + 1 := Nat.eq_of_testBit_eq fun i => by
          rw [Nat.testBit_xor]
          cases i with
          | zero => simp [Nat.testBit_zero]
          | succ i =>
            rw [Nat.testBit_add_one, Nat.testBit_add_one, Nat.testBit_add_one]
            have a : (2 * (b / 2) + 1) / 2 = 2 * (b / 2) / 2 := by omega
            rw [a]; simp
        rw [this]; omega
theorem dbl_half (b : Nat) : b = (if b.testBit 0 = true then 1 else 0) ^^^ 2 * (b / 2) := by
  have := pm_half 1 b
  rw [pm_one_l, pm_one_l] at this; exact this
theorem pm_comm (b : Nat) : ∀ a, pm a b = pm b a := by
  induction b using Nat.strongRecOn with
  | ind b ih =>
    intro a
    by_cases h : b = 0
    · subst h; rw [pm_zero, pm_zero_l]
    · rw [pm_half a b, ih (b / 2) (by omega)]
      conv => rhs; rw [dbl_half b]
      rw [pm_xor_l, pm_dbl]
      congr 1
      cases b.testBit 0 <;> simp [pm_one_l, pm_zero_l]
theorem pm_assoc (c : Nat) : ∀ a b, pm (pm a b) c = pm a (pm b c) := by
  induction c using Nat.strongRecOn with
  | ind c ih =>
    intro a b
    by_cases h : c = 0
    · subst h; simp [pm_zero]
    · rw [pm_half (pm a b) c, pm_half b c, pm_xor_r, ih (c / 2) (by omega)]
      congr 1
      · cases c.testBit 0 <;> simp [pm_zero]
      · rw [pm_comm (2 * pm b (c / 2)), pm_dbl, pm_comm a]
/-- d goes into a -/
def Dv (d a : Nat) : Prop := ∃ q, pm q d = a
theorem Dv.zero (d : Nat) : Dv d 0 := ⟨0, pm_zero_l d⟩
theorem Dv.tr {a b c : Nat} : Dv a b → Dv b c → Dv a c := fun ⟨q, h⟩ ⟨r, k⟩ => ⟨pm r q, by rw [pm_assoc, h, k]⟩
end Wk
namespace Wk
open PySem L2
section
variable {α β S : Type} {K : PySem.W.Frag} {σ : L2.St} {F0 H0 F F' H H' : Hp} {te tl ta tb to : TE} {tt tc : TT} {tA : TA} {Q : VK} {v w u : V} {xs ys : List α} {x y : α} {D : Ends} {tu : TS} {p q : Addr} {n : Nat} {i : Int} {g : TG} {J : It} {e : Rep α} {b : Rep β} {zs : List β} {o : HO}
def kFor (g : TG) (tu : TS) (D : Ends) (σ : L2.St) (J : It) (H : Hp) : Prop := ∃ W : Nat → Nat → L2.St → Hp → Prop, (∃ m, W 0 m σ H) ∧ ∀ i m σ H, W i m σ H →
  (J.stop i H ∧ D.nx σ H) ∨ (J.go i H ∧ ∃ N : L2.St → Hp → Prop, (∀ σ' H', N σ' H' → ∃ m', m' < m ∧ W (i + 1) m' σ' H') ∧ ∀ x H', J.yld i H x H' → g x σ H' fun σ2 H2 => tu { D with nx := N, ct := N, bk := D.nx } σ2 H2)
def kCp (g : TG) (tc : TT) (te : TE) (vs : List Nat) (σ : L2.St) (Q : VK) (J : It) (H : Hp) : Prop := ∀ D, H D = none → ∃ W : Nat → Nat → Hp → Prop, (∃ m, W 0 m (upd H D (.lst []))) ∧ ∀ i m H, W i m H →
  (J.stop i H ∧ Q (.ref D) H) ∨ (J.go i H ∧ ∃ Nx : Hp → Prop, (∀ H', Nx H' → ∃ m', m' < m ∧ W (i + 1) m' H') ∧ ∀ x H', J.yld i H x H' → g x (wipe σ vs) H' fun σ2 H2 => wipe σ2 vs = wipe σ vs ∧ tc σ2 H2 fun b H3 =>
    if b = true then te σ2 H3 fun y H4 => ∃ acc, H4 D = some (.lst acc) ∧ acc.length < sizeLine ∧ Nx (upd H4 D (.lst (acc ++ [y]))) else Nx H3)
/-- a walk over frozen things: its turns give the items of zs -/
def TWk (J : It) (F : Hp) (b : Rep β) (zs : List β) : Prop := ∃ G Y, Walk J zs.length G Y ∧ (∀ F' H', Ex F F' → Ex F' H' → G H') ∧
  ∀ i H x H' F', i < zs.length → Ex F F' → Ex F' H → Y i H x H' → ∃ z F1, zs[i]? = some z ∧ Wf F' H F1 H' ∧ b.r F1 x z
theorem f_J {wi : TI} (h : wi σ H (kFor g tu D σ)) : tFor wi g tu D σ H := h
theorem c_J {wi : TI} {vs : List Nat} (h : wi σ H (kCp g tc te vs σ Q)) : tLc wi g tc te vs σ H Q := h
theorem w_forG {s0 : S} {k : S → Prop} {body : β → S → (S → Prop) → (S → Prop) → Prop} (T : TWk J F b zs) (Inv : S → L2.St → Hp → Hp → Prop) (hW : forW zs s0 body k) (h0 : Inv s0 σ F H)
    (ex : ∀ s σ' F' H', Inv s σ' F' H' → Ex F F' ∧ Ex F' H') (f : Ex F H)
    (turn : ∀ (N Bk : L2.St → Hp → Prop) x u s σ' F' H' F1 H1 (nx bk : S → Prop), Inv s σ' F' H' → x ∈ zs → Wf F' H' F1 H1 → b.r F1 u x → body x s nx bk → (∀ s' σ2 F2 H2, Inv s' σ2 F2 H2 → nx s' → N σ2 H2) → (∀ s' σ2 F2 H2, Inv s' σ2 F2 H2 → bk s' → Bk σ2 H2) →
      g u σ' H1 fun σ2 H2 => tu { D with nx := N, ct := N, bk := Bk } σ2 H2)
    (done : ∀ s σ' F' H', Inv s σ' F' H' → k s → D.nx σ' H') : kFor g tu D σ J H := by
  obtain ⟨G, Y, wk, hG, hY⟩ := T
  refine for_it wk (fun i σ' H' => ∃ s F', Inv s σ' F' H' ∧ forW (zs.drop i) s body k) ⟨s0, F, h0, hW⟩ (fun i σ' H' _ ⟨s, F', hI, _⟩ => hG F' H' (ex _ _ _ _ hI).1 (ex _ _ _ _ hI).2) ?_ ?_
  · rintro i u σ' H' H1 hi ⟨s, F', hI, hw⟩ hy
    obtain ⟨x, F1, hx, q, rx⟩ := hY i H' u H1 F' hi (ex _ _ _ _ hI).1 (ex _ _ _ _ hI).2 hy
    have e : zs.drop i = x :: zs.drop (i + 1) := by
      obtain ⟨h1, h2⟩ := List.getElem?_eq_some_iff.mp hx
      rw [← h2]; exact List.drop_eq_getElem_cons h1
    rw [e] at hw
    exact turn _ _ x u s σ' F' H' F1 H1 _ _ hI (List.mem_of_getElem? hx) q rx hw (fun s' σ2 F2 H2 q n => ⟨s', F2, q, n⟩) (fun s' σ2 F2 H2 q n => done s' σ2 F2 H2 q n)
  · rintro σ' H' ⟨s, F', hI, hw⟩
    rw [List.drop_of_length_le (Nat.le_refl _)] at hw
    exact done _ _ _ _ hI hw
theorem w_compG {vs : List Nat} {bd : β → (Option α → Prop) → Prop} {kk : List α → Prop} (T : TWk J F b zs) (w : Wf F0 H0 F H) (hn : zs.length < 1000000) (hW : compW zs bd kk)
    (turn : ∀ (Qy : V → Hp → Prop) (Qn : Hp → Prop) x u F1 H1 (R : Option α → Prop), Wf F H F1 H1 → x ∈ zs → b.r F1 u x → bd x R → (∀ y z F2 H2, Wf F1 H1 F2 H2 → e.r F2 y z → R (some z) → Qy y H2) → (∀ F2 H2, Wf F1 H1 F2 H2 → R none → Qn H2) →
      g u (wipe σ vs) H1 fun σ2 H2 => wipe σ2 vs = wipe σ vs ∧ tc σ2 H2 fun b H3 => if b = true then te σ2 H3 Qy else Qn H3)
    (done : ∀ p ys F' H', H p = none → Wf F H F' H' → XL e H0 F' H' p ys → kk ys → Q (.ref p) H') : kCp g tc te vs σ Q J H := by
  obtain ⟨G, Y, wk, hG, hY⟩ := T
  intro D hD
  refine lc_it wk (fun i H' => ∃ F' ac ys, Wf F H F' H' ∧ Xc H F' H' D (.lst ac) ∧ All e F' ac ys ∧ ys.length ≤ i ∧ compG (zs.drop i) ys bd kk)
    ⟨F, [], [], Wf.newX w.f hD, Xc.mk' (Wf.id w.f) hD, trivial, Nat.le_refl _, hW⟩ (fun i H' _ ⟨F', ac, ys, q, _⟩ => hG F' H' q.g q.f) ?_ ?_
  · rintro i u H' H1 hi ⟨F', ac, ys, q, xc, al, hl, hw⟩ hy
    obtain ⟨x, F1, hx, q1, rx⟩ := hY i H' u H1 F' hi q.g q.f hy
    have e' : zs.drop i = x :: zs.drop (i + 1) := by
      obtain ⟨h1, h2⟩ := List.getElem?_eq_some_iff.mp hx
      rw [← h2]; exact List.drop_eq_getElem_cons h1
    rw [e'] at hw
    have xc1 := xc.step q1
    have al1 := al.mono q1.g
    refine turn _ _ x u F1 H1 _ (q.tr q1) (List.mem_of_getElem? hx) rx hw (fun y z F2 H2 s ry hR => ?_) (fun F2 H2 s hR => ?_)
    · have xc2 := xc1.step s
      exact ⟨ac, xc2.h, by rw [al.len]; exact small_len (by omega), F2, ac ++ [y], ys ++ [z], ((q.tr q1).tr s).set xc2, xc2.set, (al1.mono s.g).snoc ry, by rw [List.length_append]; exact Nat.succ_le_succ hl, hR⟩
    · exact ⟨F2, ac, ys, (q.tr q1).tr s, xc1.step s, al1.mono s.g, Nat.le_succ_of_le hl, by simpa using hR⟩
  · rintro H' ⟨F', ac, ys, q, xc, al, hl, hw⟩
    rw [List.drop_of_length_le (Nat.le_refl _)] at hw
    exact done D ys F' H' hD q ⟨ac, ⟨w.h.non hD, xc.n, xc.h⟩, al⟩ hw
theorem TWk.pairs {γ δ : Type} {c : Rep γ} {d : Rep δ} {G : Hp → Prop} {X Y : Nat → Option V} {us : List (γ × δ)} (wk : Walk J us.length G (YPair X Y)) (hG : ∀ F' H', Ex F F' → Ex F' H' → G H')
    (hx : ∀ i F' x, Ex F F' → i < us.length → X i = some x → ∃ z, (us[i]?.map Prod.fst) = some z ∧ c.r F' x z) (hy : ∀ i F' x, Ex F F' → i < us.length → Y i = some x → ∃ z, (us[i]?.map Prod.snd) = some z ∧ d.r F' x z) : TWk J F (pT2 c d) us := by
  refine ⟨G, _, wk, hG, fun i H v H' F' hi f g hy' => ?_⟩
  obtain ⟨T, x, y, rfl, hT, rfl, h1, h2⟩ := hy'
  obtain ⟨z1, e1, r1⟩ := hx i F' x f hi h1
  obtain ⟨z2, e2, r2⟩ := hy i F' y f hi h2
  have e : us[i]? = some (z1, z2) := by
    cases q : us[i]? with
    | none => rw [q] at e1; cases e1
    | some t =>
      rw [q] at e1 e2
      have a : t.1 = z1 := Option.some.inj e1
      have b : t.2 = z2 := Option.some.inj e2
      rw [← a, ← b]
  exact ⟨(z1, z2), _, e, Wf.new g hT, ⟨T, x, y, rfl, upd_same, c.mono (Ex.new (g.non hT)) r1, d.mono (Ex.new (g.non hT)) r2⟩⟩
def enumT (xs : List α) : List (Nat × α) := (List.range xs.length).zip xs
theorem enumT_len (xs : List α) : (enumT xs).length = xs.length := by unfold enumT; rw [List.length_zip, List.length_range]; exact Nat.min_self _
theorem enumT_get (xs : List α) (i : Nat) : (enumT xs)[i]? = xs[i]?.map fun x => (i, x) := by
  show ((List.range xs.length).zip xs)[i]? = _
  by_cases h : i < xs.length
  · have h2 : i < ((List.range xs.length).zip xs).length := by rw [List.length_zip, List.length_range]; omega
    rw [List.getElem?_eq_getElem h2, List.getElem?_eq_getElem h, List.getElem_zip, List.getElem_range]; rfl
  · rw [List.getElem?_eq_none (by rw [List.length_zip, List.length_range]; omega), List.getElem?_eq_none (by omega)]; rfl
/-- enumerate(xs) -/
theorem src_enum {R : It → Hp → Prop} (r : (pL e).r F v xs) (f : Ex F H) (k : ∀ a, TWk (Ite K a) F (pT2 pN e) (enumT xs) → R (Ite K a) H) : ∃ a ws, [v] = [V.ref a] ∧ SqL K H a ws ∧ R (Ite K a) H := by
  obtain ⟨p, vs, rfl, hp, a⟩ := r
  refine ⟨p, vs, rfl, SqL.of (f _ _ hp), k p ?_⟩
  refine TWk.pairs (G := fun H => SqL K H p vs) (X := fun i => some (.int (i : Nat))) (Y := fun i => vs[i]?) (by rw [enumT_len, ← a.len]; exact walk_enum) (fun F' H' h1 h2 => SqL.of (h2 _ _ (h1 _ _ hp))) ?_ ?_
  · intro i F' x _ hi hx
    rw [enumT_len] at hi
    rw [enumT_get, List.getElem?_eq_getElem hi]
    exact ⟨i, rfl, (Option.some.inj hx).symm⟩
  · intro i F' x h1 hi hx
    obtain ⟨z, hz, rz⟩ := a.got hx
    rw [enumT_get, hz]
    exact ⟨z, rfl, e.mono h1 rz⟩
/-- a tuple -/
theorem src_tup {R : It → Hp → Prop} (r : (pTL e).r F v xs) (f : Ex F H) (k : ∀ a, TWk (Itt K a) F e xs → R (Itt K a) H) : ∃ a, v = .ref a ∧ (∃ ws, SqT K H a ws) ∧ R (Itt K a) H := by
  obtain ⟨p, vs, rfl, hp, a⟩ := r
  refine ⟨p, rfl, ⟨vs, SqT.of (f _ _ hp)⟩, k p ⟨_, _, by rw [← a.len]; exact walk_tup, fun F' H' h1 h2 => SqT.of (h2 _ _ (h1 _ _ hp)), fun i H v H' F' hi h1 h2 hy => ?_⟩⟩
  obtain ⟨rfl, hv⟩ := hy
  obtain ⟨z, hz, rz⟩ := a.got hv
  exact ⟨z, F', hz, Wf.id h2, e.mono h1 rz⟩
/-- range(i, j) -/
theorem src_range2 {R : It → Hp → Prop} {i j : Nat} (hj : j < 1000000) (hi : i < 1000000) (k : TWk (Itr (i : Int) ((j : Int) - (i : Int)).toNat) F pN (List.range' i (j - i)) → R (Itr (i : Int) ((j : Int) - (i : Int)).toNat) H) : ∃ i' j' : Int, [V.int (i : Int), V.int (j : Int)] = [.int i', .int j'] ∧ (-(2 ^ 62) ≤ i' ∧ i' < 2 ^ 62 ∧ -(2 ^ 62) ≤ j' ∧ j' < 2 ^ 62) ∧ R (Itr i' (j' - i').toNat) H := by
  refine ⟨i, j, rfl, ⟨by omega, by omega, by omega, by omega⟩, k ⟨fun _ => True, YFn fun m => .int ((i : Int) + (m : Nat)), ?_, fun _ _ _ _ => trivial, fun m H x H' F' hm h1 h2 hy => ?_⟩⟩
  · have : ((j : Int) - (i : Int)).toNat = (List.range' i (j - i)).length := by rw [List.length_range']; omega
    rw [this]; exact walk_range
  · obtain ⟨rfl, rfl⟩ := hy
    rw [List.length_range'] at hm
    exact ⟨i + m, F', by rw [List.getElem?_range' hm]; simp, Wf.id h2, by show V.int _ = V.int _; congr 1⟩
theorem lk_ne {k g : Str} {v : V} {r : List (Str × V)} (h : (k == g) = false) : List.lookup k ((g, v) :: r) = List.lookup k r := by simp only [List.lookup, h]
theorem lk_eq {k : Str} {v : V} {r : List (Str × V)} : List.lookup k ((k, v) :: r) = some v := by
  have e : (k == k) = true := beq_self_eq_true k
  simp only [List.lookup, e]
/-- an instance of C that stays as it is: its fields, all told by Fs -/
def pOb (C : Addr) (Fs : Hp → List (Str × V) → α → Prop) (mono : ∀ {F F' : Hp} {fs : List (Str × V)} {x : α}, Ex F F' → Fs F fs x → Fs F' fs x) : Rep α :=
  ⟨fun F v x => ∃ p dx fs, v = .ref p ∧ F p = some (.ins C dx fs) ∧ Fs F fs x, fun h ⟨p, dx, fs, a, b, c⟩ => ⟨p, dx, fs, a, h _ _ b, mono h c⟩⟩
def F1s {α : Type} (n : Str) (e : Rep α) (F : Hp) (fs : List (Str × V)) (x : α) : Prop := ∃ u, fs = [(n, u)] ∧ e.r F u x
def F2s {α β : Type} (n m : Str) (e : Rep α) (f : Rep β) (F : Hp) (fs : List (Str × V)) (x : α × β) : Prop := ∃ u w, fs = [(n, u), (m, w)] ∧ e.r F u x.1 ∧ f.r F w x.2
def F3s {α β γ : Type} (n m l : Str) (e : Rep α) (f : Rep β) (g : Rep γ) (F : Hp) (fs : List (Str × V)) (x : α × β × γ) : Prop := ∃ u w y, fs = [(n, u), (m, w), (l, y)] ∧ e.r F u x.1 ∧ f.r F w x.2.1 ∧ g.r F y x.2.2
theorem F1s.mono {α : Type} {n : Str} {e : Rep α} {F F' : Hp} {fs : List (Str × V)} {x : α} (h : Ex F F') : F1s n e F fs x → F1s n e F' fs x := fun ⟨u, a, b⟩ => ⟨u, a, e.mono h b⟩
theorem F2s.mono {α β : Type} {n m : Str} {e : Rep α} {f : Rep β} {F F' : Hp} {fs : List (Str × V)} {x : α × β} (h : Ex F F') : F2s n m e f F fs x → F2s n m e f F' fs x := fun ⟨u, w, a, b, c⟩ => ⟨u, w, a, e.mono h b, f.mono h c⟩
theorem F3s.mono {α β γ : Type} {n m l : Str} {e : Rep α} {f : Rep β} {g : Rep γ} {F F' : Hp} {fs : List (Str × V)} {x : α × β × γ} (h : Ex F F') : F3s n m l e f g F fs x → F3s n m l e f g F' fs x := fun ⟨u, w, y, a, b, c, d⟩ => ⟨u, w, y, a, e.mono h b, f.mono h c, g.mono h d⟩
def pO2 {α β : Type} (C : Addr) (n m : Str) (e : Rep α) (f : Rep β) : Rep (α × β) := pOb C (F2s n m e f) F2s.mono
def pO3 {α β γ : Type} (C : Addr) (n m l : Str) (e : Rep α) (f : Rep β) (g : Rep γ) : Rep (α × β × γ) := pOb C (F3s n m l e f g) F3s.mono
section
variable {γ : Type} {C : Addr} {a b c : Str} {f : Rep β} {g' : Rep γ} {s : α} {t : α × β} {z : α × β × γ}
theorem fl_21 (cl : Cls K C) (na : NoAttr K C a) (r : (pO2 C a b e f).r F v t) (h : Ex F H) : ∃ w, e.r F w t.1 ∧ ∀ ⦃σ ta⦄, Val ta σ H v → Val (tFld K ta a) σ H w := by
  obtain ⟨p, dx, fs, rfl, hp, u, w, rfl, r1, r2⟩ := r
  exact ⟨u, r1, fun _ _ ha Q k => ha _ ⟨p, C, dx, _, u, rfl, h _ _ hp, cl, na, lk_eq, k⟩⟩
theorem fl_22 (cl : Cls K C) (na : NoAttr K C b) (r : (pO2 C a b e f).r F v t) (h : Ex F H) (h1 : (b == a) = false := by decide +kernel) : ∃ w, f.r F w t.2 ∧ ∀ ⦃σ ta⦄, Val ta σ H v → Val (tFld K ta b) σ H w := by
  obtain ⟨p, dx, fs, rfl, hp, u, w, rfl, r1, r2⟩ := r
  exact ⟨w, r2, fun _ _ ha Q k => ha _ ⟨p, C, dx, _, w, rfl, h _ _ hp, cl, na, (lk_ne h1).trans lk_eq, k⟩⟩
theorem fl_31 (cl : Cls K C) (na : NoAttr K C a) (r : (pO3 C a b c e f g').r F v z) (h : Ex F H) : ∃ w, e.r F w z.1 ∧ ∀ ⦃σ ta⦄, Val ta σ H v → Val (tFld K ta a) σ H w := by
  obtain ⟨p, dx, fs, rfl, hp, u, w, y, rfl, r1, r2, r3⟩ := r
  exact ⟨u, r1, fun _ _ ha Q k => ha _ ⟨p, C, dx, _, u, rfl, h _ _ hp, cl, na, lk_eq, k⟩⟩
theorem fl_32 (cl : Cls K C) (na : NoAttr K C b) (r : (pO3 C a b c e f g').r F v z) (h : Ex F H) (h1 : (b == a) = false := by decide +kernel) : ∃ w, f.r F w z.2.1 ∧ ∀ ⦃σ ta⦄, Val ta σ H v → Val (tFld K ta b) σ H w := by
  obtain ⟨p, dx, fs, rfl, hp, u, w, y, rfl, r1, r2, r3⟩ := r
  exact ⟨w, r2, fun _ _ ha Q k => ha _ ⟨p, C, dx, _, w, rfl, h _ _ hp, cl, na, (lk_ne h1).trans lk_eq, k⟩⟩
theorem fl_33 (cl : Cls K C) (na : NoAttr K C c) (r : (pO3 C a b c e f g').r F v z) (h : Ex F H) (h1 : (c == a) = false := by decide +kernel) (h2 : (c == b) = false := by decide +kernel) : ∃ w, g'.r F w z.2.2 ∧ ∀ ⦃σ ta⦄, Val ta σ H v → Val (tFld K ta c) σ H w := by
  obtain ⟨p, dx, fs, rfl, hp, u, w, y, rfl, r1, r2, r3⟩ := r
  exact ⟨y, r3, fun _ _ ha Q k => ha _ ⟨p, C, dx, _, y, rfl, h _ _ hp, cl, na, (lk_ne h1).trans ((lk_ne h2).trans lk_eq), k⟩⟩
theorem me_2 {m : Str} (r : (pO2 C a b e f).r F v t) (h : Ex F H) (h1 : (m == a) = false := by decide +kernel) (h2 : (m == b) = false := by decide +kernel) : ∃ p dx fs, v = .ref p ∧ H p = some (.ins C dx fs) ∧ fs.lookup m = none := by
  obtain ⟨p, dx, fs, rfl, hp, u, w, rfl, _⟩ := r
  exact ⟨p, dx, _, rfl, h _ _ hp, (lk_ne h1).trans ((lk_ne h2).trans rfl)⟩
theorem me_3 {m : Str} (r : (pO3 C a b c e f g').r F v z) (h : Ex F H) (h1 : (m == a) = false := by decide +kernel) (h2 : (m == b) = false := by decide +kernel) (h3 : (m == c) = false := by decide +kernel) : ∃ p dx fs, v = .ref p ∧ H p = some (.ins C dx fs) ∧ fs.lookup m = none := by
  obtain ⟨p, dx, fs, rfl, hp, u, w, y, rfl, _⟩ := r
  exact ⟨p, dx, _, rfl, h _ _ hp, (lk_ne h1).trans ((lk_ne h2).trans ((lk_ne h3).trans rfl))⟩
end
/-- the heap without p -/
def wo (H : Hp) (p : Addr) : Hp := fun a => if a = p then none else H a
theorem wo_same {H : Hp} {p : Addr} : wo H p p = none := if_pos rfl
theorem wo_ne {H : Hp} {p q : Addr} (h : q ≠ p) : wo H p q = H q := if_neg h
theorem Wf.start (f : Ex F H) (n : F p = none) : Wf F (wo H p) F H := ⟨fun a o h => by
    by_cases q : a = p
    · subst q; rw [wo_same] at h; cases h
    · rw [wo_ne q] at h; exact h, f, Ex.rfl', fun a o h h0 => by rw [h] at h0; cases h0⟩
theorem Xc.start (n : F p = none) (h : H p = some o) : Xc (wo H p) F H p o := ⟨wo_same, n, h⟩
/-- behind the making of x -/
theorem Wf.made {x dx : Addr} {o u : HO} (nx : H x = none) (nd : H dx = none) (w : Wf F (wo (upd (upd H dx o) x u) x) F' H') : Wf F H F' H' := by
  have e : Ex H (wo (upd (upd H dx o) x u) x) := fun a v h => by
    have h1 : a ≠ x := ne_of_none h nx
    have h2 : a ≠ dx := ne_of_none h nd
    rw [wo_ne h1, upd_ne h1, upd_ne h2]; exact h
  exact ⟨e.tr w.h, w.f, w.g, fun a o h h0 => e.non (w.n a o h h0)⟩
theorem Ex.made {x dx : Addr} {o u : HO} (f : Ex F H) (nx : H x = none) (nd : H dx = none) : Ex F (upd (upd H dx o) x u) := fun a v h => by
  have h' := f a v h
  rw [upd_ne (ne_of_none h' nx), upd_ne (ne_of_none h' nd)]; exact h'
theorem Xc.frzO {u : HO} (x : Xc H0 F H q u) (h : Fz F F' p) (hq : q ≠ p) (g : Ex F F') : Xc H0 F' H q u := ⟨x.z, h _ hq x.n, x.h⟩
/-- self.f = v -/
theorem a_fld {C dx : Addr} {fs : List (Str × V)} {a : Str} (cl : Cls K C) (na : NoAttr K C a) (x : Xc H0 F H p (.ins C dx fs)) (w : Wf F0 H0 F H) (hl : fs.length < 1000) (ho : Val to σ H (.ref p))
    (k : ∀ H', Wf F0 H0 F H' → Xc H0 F H' p (.ins C dx (putF a v fs)) → (∀ q o, H q = some o → q ≠ p → H' q = some o) → D.nx σ H') :
    (fun y H1 => to σ H1 fun x H2 => ∃ a' C' dx' fs', x = .ref a' ∧ H2 a' = some (.ins C' dx' fs') ∧ Cls K C' ∧ NoAttr K C' a ∧ fs'.length < 1000 ∧ D.nx σ (upd H2 a' (.ins C' dx' (putF a y fs')))) v H :=
  ho _ ⟨p, C, dx, fs, rfl, x.h, cl, na, hl, k _ (w.set x) x.set fun q o h hq => by rw [upd_ne hq]; exact h⟩
theorem e_fld {tv : TE} {a : Str} (h : tv σ H fun y H1 => to σ H1 fun x H2 => ∃ a' C' dx' fs', x = .ref a' ∧ H2 a' = some (.ins C' dx' fs') ∧ Cls K C' ∧ NoAttr K C' a ∧ fs'.length < 1000 ∧ D.nx σ (upd H2 a' (.ins C' dx' (putF a y fs')))) : sFld K to tv a D σ H := h
/-- reading a field of one's own object -/
theorem fl_X {C dx : Addr} {fs : List (Str × V)} {a : Str} (cl : Cls K C) (na : NoAttr K C a) (x : Xc H0 F H p (.ins C dx fs)) (hl : fs.lookup a = some u) (ho : Val to σ H (.ref p)) : Val (tFld K to a) σ H u :=
  fun Q k => ho _ ⟨p, C, dx, fs, u, rfl, x.h, cl, na, hl, k⟩
/-- it is made: it changes no more -/
theorem Xc.frzE {o : HO} (x : Xc H0 F H p o) (w : Wf F0 H0 F H) : ∃ F', Wf F0 H0 F' H ∧ Ex F F' ∧ F' p = some o := ⟨_, w.freeze x, Ex.new x.n, upd_same⟩
structure BL {α : Type} (e : Rep α) (F H : Hp) (p : Addr) (xs : List α) : Prop where
  x : ∃ vs, H p = some (.lst vs) ∧ All e F vs xs
structure BD {κ α : Type} [KeyT κ] (e : Rep α) (F H : Hp) (p : Addr) (m : List (κ × α)) : Prop where
  x : ∃ kvs, H p = some (.dK kvs) ∧ DA e F kvs m
theorem BL.step (x : BL e F H p xs) (w : Wf F H F' H') : BL e F' H' p xs := let ⟨vs, a, b⟩ := x.x; ⟨vs, w.h _ _ a, b.mono w.g⟩
theorem BL.ne (x : BL e F H p xs) (h : H q = none) : p ≠ q := let ⟨_, a, _⟩ := x.x; ne_of_none a h
theorem BL.frzO {X : Prop} (x : BL e F H q xs) (h : X) (hq : q ≠ p) (g : Ex F F') : BL e F' H q xs := let ⟨vs, a, b⟩ := x.x; ⟨vs, a, b.mono g⟩
theorem BL.kept (x : BL e F H q xs) (h : ∀ q o, H q = some o → q ≠ p → H' q = some o) (hq : q ≠ p) : BL e F H' q xs := let ⟨vs, a, b⟩ := x.x; ⟨vs, h _ _ a hq, b⟩
theorem XL.bw (x : XL e H0 F H p xs) : BL e F H p xs := let ⟨vs, a, b⟩ := x.x; ⟨vs, a.h, b⟩
end
section
variable {κ α : Type} [DecidableEq κ] [KeyT κ] {e : Rep α} {K : PySem.W.Frag} {σ : L2.St} {F0 H0 F F' H H' : Hp} {te td ty tx tv : TE} {Q : VK} {v w y z : V} {m : List (κ × α)} {p q : Addr} {j : κ} {x : α} {D : Ends}
omit [DecidableEq κ] in
theorem BD.step (x : BD e F H p m) (w : Wf F H F' H') : BD e F' H' p m := let ⟨vs, a, b⟩ := x.x; ⟨vs, w.h _ _ a, b.mono w.g⟩
omit [DecidableEq κ] in
theorem BD.ne (x : BD e F H p m) (h : H q = none) : p ≠ q := let ⟨_, a, _⟩ := x.x; ne_of_none a h
omit [DecidableEq κ] in
theorem BD.frzO {X : Prop} (x : BD e F H q m) (h : X) (hq : q ≠ p) (g : Ex F F') : BD e F' H q m := let ⟨vs, a, b⟩ := x.x; ⟨vs, a, b.mono g⟩
omit [DecidableEq κ] in
theorem BD.kept (x : BD e F H q m) (h : ∀ q o, H q = some o → q ≠ p → H' q = some o) (hq : q ≠ p) : BD e F H' q m := let ⟨vs, a, b⟩ := x.x; ⟨vs, h _ _ a hq, b⟩
omit [DecidableEq κ] in
theorem XD.bw (x : XD e H0 F H p m) : BD e F H p m := let ⟨vs, a, b⟩ := x.x; ⟨vs, a.h, b⟩
omit [DecidableEq κ] in
theorem D_bw (r : (pD e).r F v m) (f : Ex F H) : ∃ p, v = .ref p ∧ BD e F H p m := let ⟨p, vs, a, b, c⟩ := r; ⟨p, a, ⟨vs, f _ _ b, c⟩⟩
theorem ix_BD (r : BD e F H p m) (hx : valT m j = some x) : ∃ w, e.r F w x ∧ ∀ ⦃σ td ty⦄, Val td σ H (.ref p) → Val ty σ H (kV (KeyT.k j)) → Val (tDGet td ty) σ H w := by
  obtain ⟨kvs, hp, a⟩ := r.x
  obtain ⟨w, h1, h2⟩ := (a.get j).1 x hx
  exact ⟨w, h2, fun _ _ _ hd hy Q k => hd _ (hy _ ⟨p, w, rfl, by rw [← h1]; exact DGet.k hp, k⟩)⟩
/-- list(d) -/
def keyC (κ : Type) [KeyT κ] (b : Rep κ) : Prop := ∀ (F : Hp) (k : κ), b.r F (kV (KeyT.k k)) k
theorem keyS : keyC Str pS := fun _ _ => rfl
omit [DecidableEq κ] in
theorem DA.keys {b : Rep κ} (hb : keyC κ b) : ∀ {kvs : List (Key × V)} {m : List (κ × α)}, DA e F kvs m → All b F (kvs.map fun kv => kV kv.1) (m.map (·.1))
  | [], [], _ => trivial
  | p :: r, q :: s, ⟨a, _, c⟩ => ⟨by show b.r F (kV p.1) q.1; rw [a]; exact hb F q.1, DA.keys hb c⟩
  | [], _ :: _, q => q.elim
  | _ :: _, [], q => q.elim
def rListD : List V → Hp → VK → Prop := fun xs H Q => ∃ (a : Addr) (kvs : List (Key × V)), xs = [.ref a] ∧ Rd H a (.dK kvs) ∧ ∀ p, H p = none → Q (.ref p) (upd H p (.lst (kvs.map fun kv => kV kv.1)))
omit [DecidableEq κ] in
theorem n_listD {b : Rep κ} (hb : keyC κ b) (r : (pD e).r F v m) (w : Wf F0 H0 F H) (k : ∀ p H', H p = none → Wf F H F H' → XL b H0 F H' p (m.map (·.1)) → Q (.ref p) H') : rListD [v] H Q := by
  obtain ⟨p, kvs, rfl, hp, a⟩ := r
  exact ⟨p, kvs, rfl, .inl (w.f _ _ hp), fun l hl => k l _ hl (Wf.newX w.f hl) ⟨_, Xc.mk' w hl, a.keys hb⟩⟩
end
/-- a method that may be called -/
structure Md (P : Program) (w : World) (K : PySem.W.Frag) (mg : Str → Option Value) (base : Heap) (CX : CXT) (k : Nat) (C : Addr) (m : Str) (ps : List Str) (sp : Sp) : Prop where
  ex : ∃ f fd, FnOk P w K mg base CX k f fd ps sp ∧ Meth K C m f ∧ Binds K fd ps []
/-- a class that makes -/
structure Nw (P : Program) (w : World) (K : PySem.W.Frag) (mg : Str → Option Value) (base : Heap) (CX : CXT) (k : Nat) (C : Addr) (x : Str) (ps : List Str) (sp : Sp) : Prop where
  ex : ∃ f fd, FnOk P w K mg base CX k f fd ps sp ∧ Mk K C f ∧ mg x = some (.ref C) ∧ Binds K fd ps []
section
variable {X : Cx} {k : Nat} {C : Addr} {x m : Str} {ps : List Str} {sp : Sp} {o e : Expr} {es : List Expr} {p pos apos : Pos} {ta : TE} {t : TA} {pl : Sem Bool}
theorem pe_md (M : Md X.prog X.w X.K X.mg X.base CX0 k C m ps sp) (cl : Cls X.K C) (hr : Room k X.A) (he : PE X o ta) (ha : PA X (e :: es) t)
    (hst : starEach (e :: es) X.env = (false, eval e X.env) :: starEach es X.env := by rfl) (hpl : (backTo pos (starEach es X.env)).any (·.1) = false := by rfl)
    (ht : eval (.Call (.Attribute o m apos) (e :: es) [] pos) X.env = (do
      let ov ← eval o X.env
      standAt apos.atName
      let (f, first) ← holding [ov] (getMethod ov m pl)
      callWith pos f first (backTo pos (starEach (e :: es) X.env)) (backToKw pos (keywordEach [] X.env))) := by rfl) :
    PE X (.Call (.Attribute o m apos) (e :: es) [] pos) (tMeth C m sp [] E0 ta t) := by
  obtain ⟨f, fd, F, hm, hb⟩ := M.ex
  exact pe_meth he cl hm F hr hb .nil pass0 ha hst hpl ht
theorem pe_md0 (M : Md X.prog X.w X.K X.mg X.base CX0 k C m ps sp) (cl : Cls X.K C) (hr : Room k X.A) (he : PE X o ta)
    (ht : eval (.Call (.Attribute o m apos) [] [] pos) X.env = (do
      let ov ← eval o X.env
      standAt apos.atName
      let (f, first) ← holding [ov] (getMethod ov m pl)
      callWith pos f first (backTo pos (starEach [] X.env)) (backToKw pos (keywordEach [] X.env))) := by rfl) :
    PE X (.Call (.Attribute o m apos) [] [] pos) (tMeth C m sp [] E0 ta tNil) := by
  obtain ⟨f, fd, F, hm, hb⟩ := M.ex
  exact pe_meth0 he cl hm F hr hb .nil pass0 ht
theorem pe_nw (M : Nw X.prog X.w X.K X.mg X.base CX0 k C x ps sp) (hr : Room (k + 1) X.A) (hg : Gl X x) (ha : PA X (e :: es) t) (hdb : (x == ("__debug__" : Str)) = false := by decide)
    (he : starEach (e :: es) X.env = (false, eval e X.env) :: starEach es X.env := by rfl) (hpl : (backTo pos (starEach es X.env)).any (·.1) = false := by rfl) : PE X (.Call (.Name x p) (e :: es) [] pos) (tMake C sp [] E0 t) := by
  obtain ⟨f, fd, F, hk, hm, hb⟩ := M.ex
  exact pe_make hk F hr hg hm hb .nil pass0 ha hdb he hpl
end
section
variable {σ : L2.St} {H : Hp} {C : Addr} {m : Str} {sp : Sp} {E : XK} {ta : TE} {t : TA} {Q : VK} {v : V} {p dx : Addr} {fs : List (Str × V)} {vs : List V}
theorem e_md (h : ta σ H fun x H1 => ∃ a dx fs, x = .ref a ∧ H1 a = some (.ins C dx fs) ∧ fs.lookup m = none ∧ t σ H1 fun vs H2 => sp (x :: vs) H2 Q E) : tMeth C m sp [] E ta t σ H Q := by
  show ta σ H fun x H1 => ∃ a dx fs, x = .ref a ∧ H1 a = some (.ins C dx fs) ∧ fs.lookup m = none ∧ t σ H1 fun vs H2 => sp (x :: (vs ++ [])) H2 Q E
  simpa only [List.append_nil] using h
theorem e_nw (h : t σ H fun vs H1 => ∀ x dx, H1 x = none → H1 dx = none → dx ≠ x → sp (.ref x :: vs) (upd (upd H1 dx (.own x)) x (.ins C dx [])) (fun v H2 => v = .non ∧ Q (.ref x) H2) E) : tMake C sp [] E t σ H Q := by
  show t σ H fun vs H1 => ∀ x dx, H1 x = none → H1 dx = none → dx ≠ x → sp (.ref x :: (vs ++ [])) (upd (upd H1 dx (.own x)) x (.ins C dx [])) (fun v H2 => v = .non ∧ Q (.ref x) H2) E
  simpa only [List.append_nil] using h
end
/-- an object of which only the fields are read -/
structure BO (C : Addr) (F H : Hp) (p dx : Addr) (fs : List (Str × V)) : Prop where
  h : H p = some (.ins C dx fs)
section
variable {α β γ : Type} {K : PySem.W.Frag} {σ : L2.St} {C p q dx : Addr} {fs : List (Str × V)} {H0 F F' H H' : Hp} {to ta : TE} {Q : VK} {a b c m : Str} {u v : V} {o : HO}
theorem BO.step (x : BO C F H p dx fs) (w : Wf F H F' H') : BO C F' H' p dx fs := ⟨w.h _ _ x.h⟩
theorem BO.ne (x : BO C F H p dx fs) (h : H q = none) : p ≠ q := ne_of_none x.h h
theorem BO.frzO {X : Prop} (x : BO C F H q dx fs) (h : X) (hq : q ≠ p) (g : Ex F F') : BO C F' H q dx fs := ⟨x.h⟩
theorem BO.kept (x : BO C F H q dx fs) (h : ∀ q o, H q = some o → q ≠ p → H' q = some o) (hq : q ≠ p) : BO C F H' q dx fs := ⟨h _ _ x.h hq⟩
theorem fl_B (na : NoAttr K C a) (cl : Cls K C) (x : BO C F H p dx fs) (hl : fs.lookup a = some u) (ho : Val to σ H (.ref p)) : Val (tFld K to a) σ H u :=
  fun Q k => ho _ ⟨p, C, dx, fs, u, rfl, x.h, cl, na, hl, k⟩
theorem put_ne {f g : Str} {v x : V} {r : List (Str × V)} (h : ¬ g = f) : putF f v ((g, x) :: r) = (g, x) :: putF f v r := if_neg h
theorem Xc.cast {fs' : List (Str × V)} (x : Xc H0 F H p (.ins C dx fs)) (e : fs = fs') : Xc H0 F H p (.ins C dx fs') := e ▸ x
end
theorem m_list0 {α : Type} {e : Rep α} {K : PySem.W.Frag} {σ : L2.St} {H0 F H : Hp} {p : Addr} {xs : List α} {to : TE} {Q : VK} {r : V → List V → Hp → VK → Prop} (z : XL e H0 F H p xs) (ho : Val to σ H (.ref p)) (k : r (.ref p) [] H Q) : tBM0 K "list" r to σ H Q := ho _ ⟨let ⟨_, a, _⟩ := z.x; Or.inl ⟨rfl, _, Or.inl (Or.inl a.h)⟩, k⟩
end Wk
namespace Wk
open PySem L2
end Wk
namespace Wk
open PySem L2
/-- one of two kinds -/
def pAlt {α β : Type} (e : Rep α) (f : Rep β) : Rep (Sum α β) := ⟨fun F v x => match x with | .inl a => e.r F v a | .inr b => f.r F v b, fun {_ _ _ x} h q => by cases x with | inl a => exact e.mono h q | inr b => exact f.mono h q⟩
def rLenD : List V → Hp → VK → Prop := fun xs H Q => ∃ (p : Addr) (kvs : List (Key × V)), xs = [.ref p] ∧ H p = some (.dK kvs) ∧ Q (.int kvs.length) H
end Wk
namespace Wk
open PySem PySem.Spec PyProof.Rows L2
end Wk
namespace Wk
open PySem L2
/-- what the walk asks of an exception's class -/
structure XC (K : PySem.W.Frag) (mg : Str → Option Value) (n : Str) (C : Addr) : Prop where
  x : PySem.W.excIn K C [.type "ValueError", .type "Exception", .type "BaseException", .type "object"] "ValueError.__new__" = true
  g : mg n = some (.ref C)
  k : PySem.W.keepIn K (.ref C) = true
  b : PySem.W.subIn K (.ref C) (.type "BaseException") = some true
  t : PySem.W.typeIn K (.ref C) = some (.type "type")
theorem exm_of {K : PySem.W.Frag} {S T : Addr} {b : Bool} (h1 : PySem.W.subIn K (.ref T) (.type "BaseException") = some true) (h2 : PySem.W.isClsIn K T = true) (h3 : PySem.W.typeIn K (.ref T) = some (.type "type")) (h4 : PySem.W.subIn K (.ref S) (.ref T) = some b) :
    PySem.W.exmOne K (.ref S) (.ref T) = some b := by
  have e1 : (PySem.W.subIn K (.ref T) (.type "BaseException") == some true) = true := by rw [h1]; rfl
  have e2 : ((PySem.W.clsIn K T).isSome && PySem.W.typeIn K (.ref T) == some (.type "type")) = true := by
    have h2' : (PySem.W.clsIn K T).isSome = true := h2
    rw [h2', h3]; rfl
  show (if (PySem.W.subIn K (.ref T) (.type "BaseException") == some true) = true then (if ((PySem.W.clsIn K T).isSome && PySem.W.typeIn K (.ref T) == some (.type "type")) = true then PySem.W.subIn K (.ref S) (.ref T) else none) else none) = some b
  rw [if_pos e1, if_pos e2]; exact h4
section
variable {X : Cx} {k : Nat} {C : Addr} {x m : Str} {ps : List Str} {sp : Sp} {W : WX} {o e : Expr} {es : List Expr} {p pos apos : Pos} {ta : TE} {t : TA} {pl : Sem Bool}
/-- methods -/
theorem pe_mdL (M : Md X.prog X.w X.K X.mg X.base (L2.CX X.prog X.w) k C m ps sp) (cl : Cls X.K C) (hr : Room k X.A) (he : PE X o ta) (ha : PA X (e :: es) t)
    (hst : starEach (e :: es) X.env = (false, eval e X.env) :: starEach es X.env := by rfl) (hpl : (backTo pos (starEach es X.env)).any (·.1) = false := by rfl)
    (ht : eval (.Call (.Attribute o m apos) (e :: es) [] pos) X.env = (do
      let ov ← eval o X.env
      standAt apos.atName
      let (f, first) ← holding [ov] (getMethod ov m pl)
      callWith pos f first (backTo pos (starEach (e :: es) X.env)) (backToKw pos (keywordEach [] X.env))) := by rfl) :
    PE X (.Call (.Attribute o m apos) (e :: es) [] pos) (tMeth C m sp [] E0 ta t) := by
  obtain ⟨f, fd, F, hm, hb⟩ := M.ex
  exact pe_meth he cl hm F hr hb .nil passL ha hst hpl ht
def tMdS (C : Addr) (m : Str) (sp : Sp) (E : L2.St → XK) (ta : TE) (t : TA) : TE := fun σ H Q => ta σ H fun x H1 => ∃ a dx fs, x = .ref a ∧ H1 a = some (.ins C dx fs) ∧ fs.lookup m = none ∧ t σ H1 fun vs H2 => sp (x :: vs) H2 Q (E σ)
theorem e_mdS {E : L2.St → XK} {σ : L2.St} {H : Hp} {Q : VK} (h : ta σ H fun x H1 => ∃ a dx fs, x = .ref a ∧ H1 a = some (.ins C dx fs) ∧ fs.lookup m = none ∧ t σ H1 fun vs H2 => sp (x :: vs) H2 Q (E σ)) : tMdS C m sp E ta t σ H Q := h
theorem pe_mdS (M : Md X.prog X.w X.K X.mg X.base (L2.CX X.prog X.w) k C m ps sp) (tk : Takes X W) (cl : Cls X.K C) (hr : Room k X.A) (he : PE X o ta) (ha : PA X (e :: es) t)
    (hst : starEach (e :: es) X.env = (false, eval e X.env) :: starEach es X.env := by rfl) (hpl : (backTo pos (starEach es X.env)).any (·.1) = false := by rfl)
    (ht : eval (.Call (.Attribute o m apos) (e :: es) [] pos) X.env = (do
      let ov ← eval o X.env
      standAt apos.atName
      let (f, first) ← holding [ov] (getMethod ov m pl)
      callWith pos f first (backTo pos (starEach (e :: es) X.env)) (backToKw pos (keywordEach [] X.env))) := by rfl) :
    PE X (.Call (.Attribute o m apos) (e :: es) [] pos) (tMdS C m sp (WE W) ta t) := by
  obtain ⟨f, fd, F, hm, hb⟩ := M.ex
  refine ⟨fun pins s σ H Q Iv hh => ?_⟩
  refine PySem.W.methodCall_KW (pl := pl) (thn (he.run pins s σ H _ Iv hh) fun u s1 ⟨x, H1, Iv1, rx, a, dx, fs, ex, ea, lk, qq⟩ => ?_) ht
  subst ex
  obtain rfl : u = Value.ref a := rx
  refine getmeth_ok Iv1 ea cl hm lk ?_
  refine PySem.W.callWith_K (first := [.ref a]) (h₀ := X.base) Iv1.ok.mod.kin hm.kp (thn (ha.run pos pins s1 σ H1 _ Iv1 qq) fun us s2 ⟨vs, H2, Iv2, rv, q2⟩ => ⟨Iv2.kIn, ?_⟩) hst hpl
  exact run_fnS (us := .ref a :: us) (vs := .ref a :: vs) F hr hb (passAt tk σ) Iv2 (.cons rfl rv) q2
end
end Wk
namespace Wk
open PySem L2
/-- a thing: a whole number, a truth, None, a text, or another one of a kind that is told -/
inductive An where
  | i (n : Int)
  | b (b : Bool)
  | n
  | s (x : Str)
  | o (T : String)
  | l (xs : List An)
  | t (xs : List An)
mutual
def anR (F : Hp) : An → V → Prop
  | .i n, v => v = .int n
  | .b b, v => v = .bl b
  | .n, v => v = .non
  | .s x, v => v = .str x
  | .o T, v => ∃ p, v = .ref p ∧ ((T = "list" ∧ ∃ vs, F p = some (.lst vs)) ∨ (T = "tuple" ∧ ∃ vs, F p = some (.tup vs)) ∨ (T = "dict" ∧ ∃ kvs, F p = some (.dK kvs)))
  | .l xs, v => ∃ p vs, v = .ref p ∧ F p = some (.lst vs) ∧ anRs F xs vs
  | .t xs, v => ∃ p vs, v = .ref p ∧ F p = some (.tup vs) ∧ anRs F xs vs
def anRs (F : Hp) : List An → List V → Prop
  | [], [] => True
  | x :: xs, v :: vs => anR F x v ∧ anRs F xs vs
  | _, _ => False
end
mutual
theorem anR_mono {F F' : Hp} (h : Ex F F') : ∀ {x : An} {v : V}, anR F x v → anR F' x v
  | .i _, _, r => r
  | .b _, _, r => r
  | .n, _, r => r
  | .s _, _, r => r
  | .o T, v, r => by
    obtain ⟨p, e, q⟩ := (show ∃ p, v = .ref p ∧ _ from r)
    refine ⟨p, e, ?_⟩
    rcases q with ⟨t, vs, q⟩ | ⟨t, vs, q⟩ | ⟨t, vs, q⟩
    · exact .inl ⟨t, vs, h _ _ q⟩
    · exact .inr (.inl ⟨t, vs, h _ _ q⟩)
    · exact .inr (.inr ⟨t, vs, h _ _ q⟩)
  | .l _, _, ⟨p, vs, a, b, c⟩ => ⟨p, vs, a, h _ _ b, anRs_mono h c⟩
  | .t _, _, ⟨p, vs, a, b, c⟩ => ⟨p, vs, a, h _ _ b, anRs_mono h c⟩
theorem anRs_mono {F F' : Hp} (h : Ex F F') : ∀ {xs : List An} {vs : List V}, anRs F xs vs → anRs F' xs vs
  | [], [], _ => trivial
  | _ :: _, _ :: _, ⟨a, b⟩ => ⟨anR_mono h a, anRs_mono h b⟩
  | [], _ :: _, r => r.elim
  | _ :: _, [], r => r.elim
end
def pA : Rep An := ⟨fun F v x => anR F x v, fun h r => anR_mono h r⟩
theorem anRs_all {F : Hp} : ∀ {xs : List An} {vs : List V}, anRs F xs vs ↔ All pA F vs xs
  | [], [] => Iff.rfl
  | x :: xs, v :: vs => ⟨fun ⟨a, b⟩ => ⟨a, anRs_all.mp b⟩, fun ⟨a, b⟩ => ⟨a, anRs_all.mpr b⟩⟩
  | [], _ :: _ => ⟨fun q => q.elim, fun q => q.elim⟩
  | _ :: _, [] => ⟨fun q => q.elim, fun q => q.elim⟩
theorem an_l {F : Hp} {v : V} {xs : List An} : pA.r F v (.l xs) ↔ (pL pA).r F v xs :=
  ⟨fun r => let ⟨p, vs, a, b, c⟩ := (show ∃ p vs, v = .ref p ∧ F p = some (.lst vs) ∧ anRs F xs vs from r); ⟨p, vs, a, b, anRs_all.mp c⟩, fun ⟨p, vs, a, b, c⟩ => (show ∃ p vs, v = .ref p ∧ F p = some (.lst vs) ∧ anRs F xs vs from ⟨p, vs, a, b, anRs_all.mpr c⟩)⟩
theorem an_t {F : Hp} {v : V} {xs : List An} : pA.r F v (.t xs) ↔ (pTL pA).r F v xs :=
  ⟨fun r => let ⟨p, vs, a, b, c⟩ := (show ∃ p vs, v = .ref p ∧ F p = some (.tup vs) ∧ anRs F xs vs from r); ⟨p, vs, a, b, anRs_all.mp c⟩, fun ⟨p, vs, a, b, c⟩ => (show ∃ p vs, v = .ref p ∧ F p = some (.tup vs) ∧ anRs F xs vs from ⟨p, vs, a, b, anRs_all.mpr c⟩)⟩
/-- readings as things of any kind -/
def Cv {α : Type} (e : Rep α) (f : α → An) : Prop := ∀ {F : Hp} {v : V} {x : α}, e.r F v x → pA.r F v (f x)
theorem cv_any : Cv pA (fun x => x) := fun r => r
theorem cv_all {α : Type} {e : Rep α} {f : α → An} (h : Cv e f) {F : Hp} : ∀ {vs : List V} {xs : List α}, All e F vs xs → All pA F vs (xs.map f)
  | [], [], _ => trivial
  | _ :: _, _ :: _, ⟨a, b⟩ => ⟨h a, cv_all h b⟩
  | [], _ :: _, q => q.elim
  | _ :: _, [], q => q.elim
theorem cv_L {α : Type} {e : Rep α} {f : α → An} (h : Cv e f) : Cv (pL e) (fun xs => .l (xs.map f)) := fun ⟨p, vs, a, b, c⟩ => an_l.mpr ⟨p, vs, a, b, cv_all h c⟩
def An.ty : An → String
  | .i _ => "int"
  | .b _ => "bool"
  | .n => "NoneType"
  | .s _ => "str"
  | .o T => T
  | .l _ => "list"
  | .t _ => "tuple"
/-- isinstance(x, T) for a built-in T -/
def isA (T : String) (x : An) : Bool := x.ty == T || (T == "int" && x.ty == "bool")
section
variable {α β : Type} {e : Rep α} {f : Rep β} {K : PySem.W.Frag} {σ : L2.St} {F F' H : Hp} {ta : TE} {v : V} {x : An} {xs : List α} {y : α × β}
theorem an_ty (r : pA.r F v x) (h : Ex F H) : TyX K H v (.type x.ty) := by
  cases x with
  | i n => cases (show v = V.int n from r); exact .base (.int _)
  | b b => cases (show v = V.bl b from r); exact .base (.bl _)
  | n => cases (show v = V.non from r); exact .base .non
  | s x => cases (show v = V.str x from r); exact .base (.str _)
  | o T =>
    obtain ⟨p, rfl, q⟩ := (show ∃ p, v = .ref p ∧ _ from r)
    rcases q with ⟨rfl, vs, q⟩ | ⟨rfl, vs, q⟩ | ⟨rfl, vs, q⟩
    · exact .base (.lst (h _ _ q))
    · exact .base (.tup (h _ _ q))
    · exact .base (.dK (h _ _ q))
  | l xs =>
    obtain ⟨p, vs, rfl, q, _⟩ := an_l.mp r
    exact .base (.lst (h _ _ q))
  | t xs =>
    obtain ⟨p, vs, rfl, q, _⟩ := an_t.mp r
    exact .base (.tup (h _ _ q))
theorem kit_isA (T : String) (r : pA.r F v x) (hT : ∀ u ∈ ["int", "bool", "NoneType", "str", "list", "tuple", "dict"], kitB u T = some (u == T || (T == "int" && u == "bool"))) : kitB x.ty T = some (isA T x) := by
  unfold isA
  cases x with
  | i n => exact hT "int" (by simp)
  | b b => exact hT "bool" (by simp)
  | n => exact hT "NoneType" (by simp)
  | s x => exact hT "str" (by simp)
  | o T' =>
    obtain ⟨p, _, q⟩ := (show ∃ p, v = .ref p ∧ _ from r)
    rcases q with ⟨e, _⟩ | ⟨e, _⟩ | ⟨e, _⟩ <;> subst e
    · exact hT "list" (by simp)
    · exact hT "tuple" (by simp)
    · exact hT "dict" (by simp)
  | l xs => exact hT "list" (by simp)
  | t xs => exact hT "tuple" (by simp)
theorem v_isiA (T : String) (ha : Val ta σ H v) (r : pA.r F v x) (h : Ex F H) (hT : ∀ u ∈ ["int", "bool", "NoneType", "str", "list", "tuple", "dict"], kitB u T = some (u == T || (T == "int" && u == "bool")) := by decide +kernel) : Val (tCB (rIsi K) (tCons ta (tCons (tC (.ty T)) tNil))) σ H (.bl (isA T x)) :=
  v_isi ha (an_ty r h) (kit_isA T r hT)
end
/-- a constant of the module -/
theorem pe_globE {X : Cx} {x : Str} {v : V} {pos : Pos} (h : ∃ u, X.mg x = some u ∧ RelV v u) (hg : Gl X x) (hd : (x == ("__debug__" : Str)) = false := by decide) : PE X (.Name x pos) (tC v) := by
  obtain ⟨u, h1, h2⟩ := h
  exact pe_glob hg h1 h2 hd
end Wk
namespace PySem
open Sem (wp)
open AutoSeq1 (wpAny_loadPart')
end PySem
namespace Wk
open PySem PySem.Spec PyProof.Rows L2
section
variable {α : Type} {e : Rep α} {K : PySem.W.Frag} {F H : Hp} {v : V} {xs : List α}
/-- tuple(a list) -/
def rTupOf (K : PySem.W.Frag) : List V → Hp → VK → Prop := fun xs H Q => ∃ p ys, xs = [.ref p] ∧ ((SqL K H p ys ∧ ∀ l, H l = none → Q (.ref l) (upd H l (.tup ys))) ∨ (SqT K H p ys ∧ Q (.ref p) H))
theorem n_tupOf {F0 H0 : Hp} {Q : VK} (r : (pL e).r F v xs) (w : Wf F0 H0 F H) (k : ∀ p F' H', Wf F H F' H' → (pTL e).r F' (.ref p) xs → Q (.ref p) H') : rTupOf K [v] H Q := by
  obtain ⟨p, vs, rfl, hp, a⟩ := r
  exact ⟨p, vs, rfl, .inl ⟨SqL.of (w.f _ _ hp), fun l hl => k l _ _ (Wf.new w.f hl) ⟨l, vs, rfl, upd_same, a.mono (Ex.new (w.f.non hl))⟩⟩⟩
end
end Wk
namespace Wk
open PySem PySem.Spec PyProof.Rows L2
/-- a list or a tuple of things of one kind -/
def pSq {α : Type} (e : Rep α) : Rep (List α) := ⟨fun F v xs => ∃ p vs, v = .ref p ∧ (F p = some (.lst vs) ∨ F p = some (.tup vs)) ∧ All e F vs xs, fun h ⟨p, vs, a, b, c⟩ => ⟨p, vs, a, b.imp (h _ _) (h _ _), c.mono h⟩⟩
end Wk
namespace Wk
open PySem L2
/-- xs[i] = v -/
theorem a_lset {α : Type} {e : Rep α} {σ : L2.St} {F0 H0 F H : Hp} {p : Addr} {xs : List α} {y : α} {i : Nat} {v : V} {to ti : TE} {Q : L2.St → Hp → Prop} (x : XL e H0 F H p xs) (w : Wf F0 H0 F H) (hi : i < xs.length) (r : e.r F v y) (ho : Val to σ H (.ref p)) (hx : Val ti σ H (.int (i : Int)))
    (k : ∀ H', Wf F0 H0 F H' → XL e H0 F H' p (xs.set i y) → (∀ q o, H q = some o → q ≠ p → H' q = some o) → Q σ H') : gSub to ti rSetL v σ H Q := by
  obtain ⟨vs, a, b⟩ := x.x
  refine ho _ (hx _ ⟨p, vs, _, i, rfl, rfl, a.h, ?_, k _ (w.set a) ⟨_, a.set, b.set i r⟩ fun q o h hq => by rw [upd_ne hq]; exact h⟩)
  unfold ixN
  rw [if_pos (by omega), if_pos (by rw [b.len]; omega)]; rfl
end Wk
namespace Wk
open PySem L2
end Wk
namespace Wk
end Wk
namespace Wk.LZ
open PySem PyProof.Rows L2
/-- the zip's own things at turn i; S: a list that is none of them -/
structure ZS (h : Heap) (z TI TO i1 i2 l1 l2 S : Addr) (i : Nat) (xs ys : Array Value) : Prop where
  ti : IsPair h TI (.ref i1) (.ref i2)
  to : ∃ x y, IsPair h TO x y
  h1 : h.IsListIter i1 l1 i
  h2 : h.IsListIter i2 l2 i
  a1 : h.IsList l1 xs
  a2 : h.IsList l2 ys
  zz : IsZip h z TI TO .none ∨ ∃ T f oT, IsZipHeld h z TI TO T f ∧ h.get? T = some oT ∧ T ≠ S ∧ T ≠ z ∧ T ≠ i1 ∧ T ≠ i2
section
variable {prog : Program} {w : World} {A : Around} {E : Value → Shared → Prop} {s : Shared} {z TI TO i1 i2 l1 l2 S : Addr} {i : Nat} {xs ys : Array Value}
theorem ZS.ty (h : ZS s.heap z TI TO i1 i2 l1 l2 S i xs ys) : s.TypeIs (.ref z) "zip" := by
  rcases h.zz with q | ⟨T, f, oT, q, _⟩
  · exact ⟨_, q, rfl⟩
  · exact ⟨_, q, rfl⟩
end
/-- one tuple after the other is made -/
def NewT : Hp → List (V × V) → List V → Hp → Prop
  | H, [], ts, H' => ts = [] ∧ H' = H
  | H, (x, y) :: r, ts, H' => ∃ T ts', ts = .ref T :: ts' ∧ H T = none ∧ NewT (upd H T (.tup [x, y])) r ts' H'
end Wk.LZ
namespace Wk
open PySem L2 PyProof.Rows
theorem LZ.len : ∀ {r : List (V × V)} {H : Hp} {ts : List V} {H2 : Hp}, LZ.NewT H r ts H2 → ts.length = r.length
  | [], _, _, _, ⟨a, _⟩ => by rw [a]; rfl
  | (x, y) :: r, _, _, _, ⟨T, ts', a, _, c⟩ => by rw [a, List.length_cons, List.length_cons, LZ.len c]
end Wk
namespace Wk
open PySem L2
/-- a raw value -/
def pV : Rep V := ⟨fun _ v x => v = x, fun _ h => h⟩
section
variable {α β γ : Type} {e : Rep α} {f : Rep β} {g : Rep γ} {K : PySem.W.Frag} {F H : Hp} {v : V} {x : α × β × γ}
instance {n m k : Nat} [Dat e n] [Dat f m] [Dat g k] : Dat (pT3 e f g) (max n (max m k) + 1) := ⟨fun x => .tuple [Dat.d e x.1, Dat.d f x.2.1, Dat.d g x.2.2], fun {K F v x} h => by
    obtain ⟨p, u, w, y, rfl, hp, a, b, c⟩ := h
    exact .tup (SqT.of hp) (.cons (Dat.dp a) (.cons (Dat.dp b) (.cons (Dat.dp c) .nil))), fun x => by
    show (PyData.canLay0 (Dat.d e x.1) && (PyData.canLay0 (Dat.d f x.2.1) && (PyData.canLay0 (Dat.d g x.2.2) && PyData.canLayAll0 []))) = true
    rw [Dat.lay, Dat.lay, Dat.lay]; rfl, fun x => by
    have a := Dat.dep (e := e) x.1
    have b := Dat.dep (e := f) x.2.1
    have c := Dat.dep (e := g) x.2.2
    simp only [PyData.depth, PyData.depthAll]
    omega, fun x y => by
    show (PyData.eqv (Dat.d e x.1) (Dat.d e y.1) && (PyData.eqv (Dat.d f x.2.1) (Dat.d f y.2.1) && (PyData.eqv (Dat.d g x.2.2) (Dat.d g y.2.2) && PyData.eqvAll [] []))) = true ↔ _
    have z : PyData.eqvAll [] [] = true := rfl
    rw [z, Bool.and_true, Bool.and_eq_true, Bool.and_eq_true, Dat.inj, Dat.inj, Dat.inj, Prod.ext_iff, Prod.ext_iff]⟩
end
def nw (H F : Hp) : Hp := fun a => if H a = none then F a else none
theorem nw_ex {H F F' : Hp} (h : Ex F F') : Ex (nw H F) (nw H F') := fun a o e => by
  unfold nw at e ⊢
  by_cases q : H a = none
  · rw [if_pos q] at e ⊢; exact h a o e
  · rw [if_neg q] at e; cases e
theorem nw_sub {H F : Hp} : Ex (nw H F) F := fun a o e => by
  unfold nw at e
  by_cases q : H a = none
  · rw [if_pos q] at e; exact e
  · rw [if_neg q] at e; cases e
def Fre {α : Type} (H : Hp) (e : Rep α) (F : Hp) (v : V) (x : α) : Prop := e.r (nw H F) v x
section
variable {α β : Type} {e : Rep α} {f : Rep β} {F0 H0 F F' Fl H H2 F2 : Hp} {v u : V} {x : α} {y : β} {p : Addr} {Q : VK}
theorem Fre.r (h : Fre H e F v x) : e.r F v x := e.mono nw_sub h
theorem Fre.mono (g : Ex F F') (h : Fre H e F v x) : Fre H e F' v x := e.mono (nw_ex g) h
end
end Wk
namespace Wk
section
variable {α : Type}
theorem enumT_snd (xs : List α) : (enumT xs).map (·.2) = xs := by
  unfold enumT
  exact List.map_snd_zip (by rw [List.length_range]; exact Nat.le_refl _)
theorem enumT_split {xs : List α} {pre post : List (Nat × α)} {x : Nat × α} (h : enumT xs = pre ++ x :: post) : x.1 = pre.length ∧ xs = pre.map (·.2) ++ x.2 :: post.map (·.2) := by
  constructor
  · have e := enumT_get xs pre.length
    rw [h, List.getElem?_append_right (Nat.le_refl _), Nat.sub_self] at e
    have e' : some x = xs[pre.length]?.map fun y => (pre.length, y) := e
    cases q : xs[pre.length]? with
    | none => rw [q] at e'; cases e'
    | some y => rw [q] at e'; cases e'; rfl
  · have e := enumT_snd xs
    rw [h, List.map_append, List.map_cons] at e
    exact e.symm
theorem forW_enum {S : Type} {ps : List α} {s : S} {body : Nat × α → S → (S → Prop) → (S → Prop) → Prop} {k : S → Prop} (P : List α → S → Prop) (h0 : P [] s)
    (hb : ∀ pre p post s nx bk, ps = pre ++ p :: post → P pre s → (∀ s', P (pre ++ [p]) s' → nx s') → body (pre.length, p) s nx bk) (hk : ∀ s, P ps s → k s) : forW (enumT ps) s body k := by
  refine forW_ind (fun pre s => P (pre.map (·.2)) s) h0 (fun pre x post s nx bk e hs hn _ => ?_) fun s hs => ?_
  · obtain ⟨e1, e2⟩ := enumT_split e
    obtain ⟨i, p⟩ := x
    have e1' : i = pre.length := e1
    subst e1'
    have := hb (pre.map (·.2)) p (post.map (·.2)) s nx bk e2 hs (fun s' h => hn s' (by rw [List.map_append]; exact h))
    rwa [List.length_map] at this
  · rw [enumT_snd] at hs; exact hk s hs
end
end Wk
namespace Wk
/-- v behind i turns -/
def itV (f : Nat → Nat) (v : Nat) : Nat → Nat
  | 0 => v
  | i + 1 => f (itV f v i)
structure Lin (f : Nat → Nat) : Prop where
  z : f 0 = 0
  x : ∀ a b, f (a ^^^ b) = f a ^^^ f b
theorem Lin.it {f : Nat → Nat} (h : Lin f) (i : Nat) : Lin (fun v => itV f v i) := by
  induction i with
  | zero => exact ⟨rfl, fun _ _ => rfl⟩
  | succ i ih => exact ⟨by show f (itV f 0 i) = 0; rw [show itV f 0 i = 0 from ih.z, h.z], fun a b => by show f (itV f (a ^^^ b) i) = f (itV f a i) ^^^ f (itV f b i); rw [show itV f (a ^^^ b) i = itV f a i ^^^ itV f b i from ih.x a b, h.x]⟩
end Wk
namespace Wk
open PySem L2
def tTryAs (K : PySem.W.Frag) (c : Value) (i : Nat) (tb : WX → TS) (ts : Addr → Value → Option Addr → TS) (Wout : WX) : TS := fun D σ H => tb (wAs K c i ts Wout D) D σ H
theorem a_tryAs {K : PySem.W.Frag} {c : Value} {i : Nat} {tb : WX → TS} {ts : Addr → Value → Option Addr → TS} {Wout : WX} {D : Ends} {σ : L2.St} {H : Hp} (h : tb (wAs K c i ts Wout D) D σ H) : tTryAs K c i tb ts Wout D σ H := h
theorem a_excAs {K : PySem.W.Frag} {c cls : Value} {i : Nat} {d : Option Addr} {ts : Addr → Value → Option Addr → TS} {Wout : WX} {D : Ends} {σ : L2.St} {H : Hp} (he : PySem.W.exmOne K cls c = some true)
    (h : ∀ a, H a = none → ts a cls d { nx := fun σ' H' => D.nx (σ'.set i none) H', rt := D.rt, bk := fun σ' H' => D.bk (σ'.set i none) H', ct := fun σ' H' => D.ct (σ'.set i none) H' } (σ.set i (some (.ref a))) H) : wAs K c i ts Wout D cls d σ H :=
  ⟨true, he, fun _ => h, fun q => Bool.noConfusion q⟩
theorem kit_own {K : PySem.W.Frag} {S T : Addr} {b : Bool} (h2 : PySem.W.isClsIn K T = true) (h3 : PySem.W.typeIn K (.ref T) = some (.type "type")) (h0 : PySem.W.subIn K (.ref S) (.ref S) = some true) (h4 : PySem.W.subIn K (.ref S) (.ref T) = some b) :
    PySem.W.kitOne K (.ref S) (.ref T) = some b := by
  have e2 : ((PySem.W.clsIn K T).isSome && PySem.W.typeIn K (.ref T) == some (.type "type")) = true := by
    have h2' : (PySem.W.clsIn K T).isSome = true := h2
    rw [h2', h3]; rfl
  show (if ((Value.ref S == Value.ref T) = true) then some true else (if ((PySem.W.clsIn K T).isSome && PySem.W.typeIn K (.ref T) == some (.type "type")) = true then PySem.W.subIn K (.ref S) (.ref T) else none)) = some b
  by_cases q : (Value.ref S == Value.ref T) = true
  · rw [if_pos q]
    have e : S = T := Value.ref.inj (beq_iff_eq.mp q)
    subst e
    rw [h0] at h4; exact h4
  · rw [if_neg q, if_pos e2]; exact h4
section
variable {α β γ : Type} {e : Rep α} {f : Rep β} {g : Rep γ} {K : PySem.W.Frag} {σ : L2.St} {F H : Hp} {v : V} {x : α × β × γ} {ta : TE} {C : Addr} {a b c : Str}
/-- what isinstance asks of an own class -/
structure ClsI (K : PySem.W.Frag) (mg : Str → Option Value) (n : Str) (C : Addr) : Prop where
  ha : PySem.W.findIn K (.ref C) "__class__" = some (some (.builtin "object.__class__"))
  hn : PySem.W.specialIn K (.builtin "object.__class__") "__get__" = some (some (.builtin "getset_descriptor.__get__"))
  ht : PySem.W.takesIn K (.builtin "object.__class__") = some true
  hm : PySem.W.mroIn K C (.type "object") = some true
  g : mg n = some (.ref C)
end
end Wk
namespace Wk
open PySem L2
/-- a text of one sign -/
def sg (c : Nat) : Str := ⟨#[c]⟩
def pG : Rep Nat := ⟨fun _ v c => v = .str (sg c), fun _ h => h⟩
def kAddS : R2 := fun x y H Q => ∃ i j, x = .str i ∧ y = .str j ∧ i.length + j.length ≤ sizeLine ∧ Q (.str (i ++ j)) H
def kInS : R2 := fun x y H Q => ∃ (c : Nat) (z : Str), x = .str ⟨#[c]⟩ ∧ y = .str z ∧ Q (.bl (decide (c ∈ z.cps.toList))) H
def kNotInS : R2 := fun x y H Q => ∃ (c : Nat) (z : Str), x = .str ⟨#[c]⟩ ∧ y = .str z ∧ Q (.bl (!decide (c ∈ z.cps.toList))) H
section
variable {X : Cx}
theorem op_addS : OpR X (binaryOp .Add) kAddS := op_add_str
theorem op_inSg : OpR X (compareOp .In) kInS := op_in_sign
theorem op_notInSg : OpR X (compareOp .NotIn) kNotInS := op_notIn_sign
end
theorem Str_len (x : Str) : x.cps.toList.length = x.length := rfl
section
variable {K : PySem.W.Frag} {σ : L2.St} {F0 H0 F H : Hp} {ta tb te : TE} {tl th : TO} {x y : Str} {v w : V} {i c : Nat} {Q : VK}
theorem v_addS (ha : Val ta σ H (.str x)) (hb : Val tb σ H (.str y)) (h : x.length + y.length < 1000000) : Val (tOp kAddS ta tb) σ H (.str (x ++ y)) :=
  v2 ha hb fun Q k => ⟨x, y, rfl, rfl, Nat.le_of_lt (small_len h), k⟩
theorem ix_Str (ha : Val ta σ H (.str x)) (hb : Val tb σ H (.int (i : Int))) (hl : x.length < 1000000) (hc : x.cps.toList[i]? = some c) : Val (tOp rIxS ta tb) σ H (.str (sg c)) :=
  v2 ha hb fun Q k => ⟨x, _, c, rfl, rfl, Nat.le_of_lt (small_len hl), atI_nat hc, k⟩
theorem v_inS (ha : Val ta σ H (.str (sg c))) (hb : Val tb σ H (.str y)) : Val (tOp kInS ta tb) σ H (.bl (decide (c ∈ y.cps.toList))) := v2 ha hb fun Q k => ⟨c, y, rfl, rfl, k⟩
theorem v_notInS (ha : Val ta σ H (.str (sg c))) (hb : Val tb σ H (.str y)) : Val (tOp kNotInS ta tb) σ H (.bl (decide (¬ c ∈ y.cps.toList))) := v2 ha hb fun Q k => ⟨c, y, rfl, rfl, by rw [← decide_not]; exact k⟩
theorem e_m1 {r : V → List V → Hp → VK → Prop} {to : TE} (h : to σ H fun v H1 => (∃ a, v = .str a) ∧ te σ H1 fun y H2 => r v [y] H2 Q) : tM1 r to te σ H Q := h
theorem all_str {ys : List Str} : ∀ {vs : List V} {ys : List Str}, All pS F vs ys → vs = ys.map V.str
  | [], [], _ => rfl
  | v :: vs, z :: ys, ⟨a, b⟩ => by rw [List.map_cons, ← all_str (ys := ys) b, show v = V.str z from a]
  | [], _ :: _, q => q.elim
  | _ :: _, [], q => q.elim
/-- the signs of a text -/
theorem src_str {R : It → Hp → Prop} (f : Ex F H) (k : TWk (Its x) F pG x.cps.toList → R (Its x) H) : ∃ y, V.str x = .str y ∧ R (Its y) H :=
  ⟨x, rfl, k ⟨_, _, by rw [Str_len]; exact walk_str, fun _ _ _ _ => trivial, fun i H v H' F' hi h1 h2 hy => by
    obtain ⟨rfl, c, hc, rfl⟩ := hy
    exact ⟨c, F', by rw [Array.getElem?_toList]; exact hc, Wf.id h2, rfl⟩⟩⟩
end
theorem an_str {F : Hp} {v : V} {x : An} {y : Str} (r : pA.r F v x) (h : x = An.s y) : v = .str y := by subst h; exact r
end Wk
namespace Wk
open PySem L2
/-- what a call has made -/
def NLst (o : HO) : Prop := ∀ vs, o ≠ .lst vs
/-- what stands in a region is new and not in F, or is in F and no list -/
abbrev NewOr (H0 F G : Hp) : Prop := ∀ a o, G a = some o → (H0 a = none ∧ F a = none) ∨ (F a = some o ∧ NLst o)
structure RG (H0 F H G : Hp) : Prop where
  z : NewOr H0 F G
  h : Ex G H
/-- the same, its lists changed: each has grown by at most k -/
structure RD (H0 F H G : Hp) (k : Nat) : Prop where
  z : NewOr H0 F G
  c : ∀ a o, G a = some o → ∃ o', H a = some o'
  l : ∀ a vs, G a = some (.lst vs) → ∃ ws, H a = some (.lst ws) ∧ ws.length ≤ vs.length + k
/-- but for its lists -/
def nl (G : Hp) : Hp := fun a => match G a with | some (.lst _) => none | o => o
theorem nl_tup {G : Hp} {p : Addr} {vs : List V} (h : G p = some (.tup vs)) : nl G p = some (.tup vs) := by unfold nl; rw [h]
section
variable {α β γ : Type} {e : Rep α} {f : Rep β} {k3 : Rep γ} {K : PySem.W.Frag} {σ : L2.St} {F0 H0 F F' F2 H H' H2 G : Hp} {p q : Addr} {v u : V} {x : α} {xs : List α} {Q : VK} {to : TE} {tA : TA} {vs : List V} {o : HO} {k : Nat}
theorem NewOr.lst (z : NewOr H0 F G) {vs : List V} (e : G p = some (.lst vs)) : H0 p = none ∧ F p = none := (z p _ e).resolve_right fun q => q.2 vs rfl
theorem NewOr.step (z : NewOr H0 F G) (c : ∀ a o, G a = some o → ∃ o', H a = some o') (w : Wf F H F' H') : NewOr H0 F' G := fun a o e => by
  rcases z a o e with ⟨h0, hn⟩ | ⟨h1, h2⟩
  · refine .inl ⟨h0, ?_⟩
    cases q : F' a with
    | none => rfl
    | some u =>
      obtain ⟨o', h⟩ := c a o e
      have := w.n a u q hn
      rw [h] at this
      cases this
  · exact .inr ⟨w.g _ _ h1, h2⟩
theorem NewOr.frzO (z : NewOr H0 F G) (fz : Fz F F' p) (hq : G p = none) (g : Ex F F') : NewOr H0 F' G := fun a o e => by
  rcases z a o e with ⟨h0, hn⟩ | ⟨h1, h2⟩
  · exact .inl ⟨h0, fz a (ne_of_none e hq) hn⟩
  · exact .inr ⟨g _ _ h1, h2⟩
theorem RG.step (g : RG H0 F H G) (w : Wf F H F' H') : RG H0 F' H' G := ⟨g.z.step (fun a o e => ⟨o, g.h a o e⟩) w, g.h.tr w.h⟩
theorem RG.ne (g : RG H0 F H G) (h : H q = none) : G q = none := g.h.non h
theorem RG.frzO (g : RG H0 F H G) (fz : Fz F F' p) (hq : G p = none) (x : Ex F F') : RG H0 F' H G := ⟨g.z.frzO fz hq x, g.h⟩
theorem RG.kept (g : RG H0 F H G) (h : ∀ q o, H q = some o → q ≠ p → H' q = some o) (hq : G p = none) : RG H0 F H' G := ⟨g.z, fun a o e => h a o (g.h a o e) (ne_of_none e hq)⟩
theorem RD.step (g : RD H0 F H G k) (w : Wf F H F' H') : RD H0 F' H' G k := by
  refine ⟨g.z.step g.c w, fun a o e => ?_, fun a vs e => ?_⟩
  · obtain ⟨o', h⟩ := g.c a o e
    exact ⟨o', w.h _ _ h⟩
  · obtain ⟨ws, h1, h2⟩ := g.l a vs e
    exact ⟨ws, w.h _ _ h1, h2⟩
theorem RD.ne (g : RD H0 F H G k) (h : H q = none) : G q = none := by
  cases e : G q with
  | none => rfl
  | some o => obtain ⟨o', z⟩ := g.c q o e; rw [h] at z; cases z
theorem RD.frzO (g : RD H0 F H G k) (fz : Fz F F' p) (hq : G p = none) (x : Ex F F') : RD H0 F' H G k := ⟨g.z.frzO fz hq x, g.c, g.l⟩
theorem RD.kept (g : RD H0 F H G k) (h : ∀ q o, H q = some o → q ≠ p → H' q = some o) (hq : G p = none) : RD H0 F H' G k := by
  refine ⟨g.z, fun a o e => ?_, fun a vs e => ?_⟩
  · obtain ⟨o', z⟩ := g.c a o e
    exact ⟨o', h a o' z (ne_of_none e hq)⟩
  · obtain ⟨ws, h1, h2⟩ := g.l a vs e
    exact ⟨ws, h _ _ h1 (ne_of_none e hq), h2⟩
theorem RG.rd (g : RG H0 F H G) : RD H0 F H G 0 := ⟨g.z, fun a o e => ⟨o, g.h a o e⟩, fun a vs e => ⟨vs, g.h a _ e, Nat.le_refl _⟩⟩
/-- both heaps together -/
def un (F G : Hp) : Hp := fun a => match F a with | some o => some o | none => G a
theorem un_l {F G : Hp} : Ex F (un F G) := fun a o e => by unfold un; rw [e]
theorem RG.un_r (g : RG H0 F H G) : Ex G (un F G) := fun a o e => by
  unfold un
  rcases g.z a o e with ⟨_, hn⟩ | ⟨h1, _⟩
  · rw [hn]; exact e
  · rw [h1]
theorem RG.frz (g : RG H0 F H G) (w : Wf F0 H0 F H) : Wf F0 H0 (un F G) H := ⟨w.h, fun a o e => by
    unfold un at e
    cases q : F a with
    | some u => rw [q] at e; cases e; exact w.f a _ q
    | none => rw [q] at e; exact g.h a o e, w.g.tr un_l, fun a o e e0 => by
    unfold un at e
    cases q : F a with
    | some u => exact w.n a u q e0
    | none => rw [q] at e; exact (g.z a o e).elim (fun y => y.1) fun y => by rw [y.1] at q; cases q⟩
theorem RG.frzE (g : RG H0 F H G) (w : Wf F0 H0 F H) : ∃ F', Wf F0 H0 F' H ∧ Ex F F' ∧ Ex G F' ∧ (∀ q, G q = none → F q = none → F' q = none) :=
  ⟨_, g.frz w, un_l, g.un_r, fun q h x => by unfold un; rw [x]; exact h⟩
theorem RG.lend (g : RG H0 F H G) (w : Wf F0 H0 F H) : ∃ Fl, Ex Fl H ∧ Ex F Fl ∧ Ex G Fl := ⟨_, (g.frz w).f, un_l, g.un_r⟩
/-- behind a call -/
theorem RG.of (w : Wf F0 H0 F H) (sf : Ex F2 H2) : RG H0 F H2 (nw H F2) := by
  have key : ∀ a o, nw H F2 a = some o → H a = none := fun a o e => by
    unfold nw at e
    by_cases c : H a = none
    · exact c
    · rw [if_neg c] at e; cases e
  exact ⟨fun a o e => .inl ⟨w.h.non (key a o e), w.f.non (key a o e)⟩, fun a o e => sf a o (nw_sub a o e)⟩
def NoL {α : Type} (e : Rep α) : Prop := ∀ {F : Hp} {v : V} {x : α}, e.r F v x → e.r (Wk.nl F) v x
theorem nl_o {o : HO} (h : G p = some o) (n : NLst o) : Wk.nl G p = some o := by
  unfold Wk.nl
  rw [h]
  cases o <;> first | rfl | exact absurd rfl (n _)
theorem NoL.N : NoL pN := fun r => r
theorem NoL.I : NoL pI := fun r => r
theorem NoL.B : NoL pB := fun r => r
theorem NoL.S : NoL pS := fun r => r
theorem NoL.all (h : NoL e) : ∀ {vs : List V} {xs : List α}, All e F vs xs → All e (Wk.nl F) vs xs
  | [], [], _ => trivial
  | _ :: _, _ :: _, ⟨a, b⟩ => ⟨h a, NoL.all h b⟩
  | [], _ :: _, q => q.elim
  | _ :: _, [], q => q.elim
theorem NoL.TL (h : NoL e) : NoL (pTL e) := fun ⟨p, vs, a, b, c⟩ => ⟨p, vs, a, nl_tup b, h.all c⟩
theorem NoL.O3 {C : Addr} {a b c : Str} (h : NoL e) (k : NoL f) (l : NoL k3) : NoL (pO3 C a b c e f k3) := fun {F v x} r => by
  obtain ⟨p, dx, fs, rfl, hp, u1, u2, u3, rfl, r1, r2, r3⟩ := r
  exact ⟨p, dx, _, rfl, nl_o hp (fun vs z => by cases z), u1, u2, u3, rfl, h r1, k r2, l r3⟩
theorem inV_str {x : Str} : ∀ {ys : List Str}, inV (.str x) (ys.map V.str) = decide (x ∈ ys)
  | [] => rfl
  | y :: ys => by
    have ih := inV_str (x := x) (ys := ys)
    unfold inV at ih ⊢
    rw [List.map_cons, List.any_cons, ih]
    have e : eqV (.str y) (.str x) = decide (x = y) := by
      show (y == x) = _
      by_cases h : x = y
      · subst h; simp
      · rw [decide_eq_false h]; exact beq_eq_false_iff_ne.mpr (fun z => h z.symm)
    rw [e, Bool.eq_iff_iff]
    simp
theorem flat_str : ∀ {ys : List Str}, (ys.map V.str).all flatV = true
  | [] => rfl
  | _ :: ys => by rw [List.map_cons, List.all_cons, flat_str (ys := ys)]; rfl
theorem v_inLS {ta tb : TE} {y : Str} {ys : List Str} (ha : Val ta σ H (.str y)) (hb : Val tb σ H v) (r : (pL pS).r F v ys) (f1 : Ex F H) : Val (tOp (rIn K false) ta tb) σ H (.bl (decide (y ∈ ys))) := v2 ha hb fun Q k => by
  obtain ⟨p, vs, rfl, hp, a⟩ := r
  have e := all_str (ys := ys) a
  subst e
  exact ⟨p, _, rfl, .inl (SqL.of (f1 _ _ hp)), rfl, flat_str, by rw [if_neg (by decide), inV_str]; exact k⟩
end
class Dao {α : Type} (e : Rep α) (lv : outParam Nat) where
  ok : α → Prop
  d : α → PyData
  dp : ∀ {K : PySem.W.Frag} {F : Hp} {v : V} {x : α}, e.r F v x → Dp K F v (d x)
  lay : ∀ x, ok x → (d x).canLay0 = true
  dep : ∀ x, (d x).depth ≤ lv
  inj : ∀ x y, PyData.eqv (d x) (d y) = true ↔ x = y
def okV {α : Type} (e : Rep α) {n : Nat} [Dao e n] (x : α) : Prop := Dao.ok e x
def okS (x : Str) : Prop := PyData.canLay0 (.str x) = true
instance : Dao pI 0 := ⟨fun _ => True, Dat.d pI, Dat.dp, fun x _ => Dat.lay (e := pI) x, Dat.dep, Dat.inj⟩
instance : Dao pN 0 := ⟨fun _ => True, Dat.d pN, Dat.dp, fun x _ => Dat.lay (e := pN) x, Dat.dep, Dat.inj⟩
instance : Dao pB 0 := ⟨fun _ => True, Dat.d pB, Dat.dp, fun x _ => Dat.lay (e := pB) x, Dat.dep, Dat.inj⟩
instance : Dao pS 0 := ⟨okS, .str, fun h => by cases (show _ = V.str _ from h); exact .str _, fun _ h => h, fun _ => Nat.le_refl _, fun x y => by
  show ((x == y) = true) ↔ _
  exact beq_iff_eq⟩
theorem lay_allO {α : Type} {d : α → PyData} {ok : α → Prop} (h : ∀ x, ok x → (d x).canLay0 = true) : ∀ xs : List α, (∀ x ∈ xs, ok x) → PyData.canLayAll0 (xs.map d) = true
  | [], _ => rfl
  | x :: xs, q => by
    show (PyData.canLay0 (d x) && PyData.canLayAll0 (xs.map d)) = true
    rw [h x (q x (List.mem_cons_self ..)), lay_allO h xs fun y hy => q y (List.mem_cons_of_mem _ hy)]; rfl
theorem dp_allO {α : Type} {e : Rep α} {lv : Nat} [Dao e lv] {K : PySem.W.Frag} {F : Hp} : ∀ {vs : List V} {xs : List α}, All e F vs xs → DpAll K F vs (xs.map (Dao.d e))
  | [], [], _ => .nil
  | _ :: _, _ :: _, ⟨a, b⟩ => .cons (Dao.dp a) (dp_allO b)
  | [], _ :: _, q => q.elim
  | _ :: _, [], q => q.elim
instance {α : Type} {e : Rep α} {n : Nat} [Dao e n] : Dao (pL e) (n + 1) := ⟨fun xs => ∀ x ∈ xs, Dao.ok e x, fun xs => .list (xs.map (Dao.d e)), fun {K F v xs} h => by
    obtain ⟨p, vs, rfl, hp, a⟩ := h
    exact .lst (SqL.of hp) (dp_allO a), fun xs => lay_allO (Dao.lay (e := e)) xs, fun xs => by
    have := dep_all (Dao.dep (e := e)) xs
    simp only [PyData.depth]
    omega, fun xs ys => by
    show PyData.eqvAll (xs.map (Dao.d e)) (ys.map (Dao.d e)) = true ↔ _
    exact eqv_all (Dao.inj (e := e)) xs ys⟩
instance {α : Type} {e : Rep α} {n : Nat} [Dao e n] : Dao (pTL e) (n + 1) := ⟨fun xs => ∀ x ∈ xs, Dao.ok e x, fun xs => .tuple (xs.map (Dao.d e)), fun {K F v xs} h => by
    obtain ⟨p, vs, rfl, hp, a⟩ := h
    exact .tup (SqT.of hp) (dp_allO a), fun xs => lay_allO (Dao.lay (e := e)) xs, fun xs => by
    have := dep_all (Dao.dep (e := e)) xs
    simp only [PyData.depth]
    omega, fun xs ys => by
    show PyData.eqvAll (xs.map (Dao.d e)) (ys.map (Dao.d e)) = true ↔ _
    exact eqv_all (Dao.inj (e := e)) xs ys⟩
instance {α β : Type} {e : Rep α} {f : Rep β} {n m : Nat} [Dao e n] [Dao f m] : Dao (pT2 e f) (max n m + 1) := ⟨fun x => Dao.ok e x.1 ∧ Dao.ok f x.2, fun x => .tuple [Dao.d e x.1, Dao.d f x.2], fun {K F v x} h => by
    obtain ⟨p, u, w, rfl, hp, a, b⟩ := h
    exact .tup (SqT.of hp) (.cons (Dao.dp a) (.cons (Dao.dp b) .nil)), fun x h => by
    show (PyData.canLay0 (Dao.d e x.1) && (PyData.canLay0 (Dao.d f x.2) && PyData.canLayAll0 [])) = true
    rw [Dao.lay _ h.1, Dao.lay _ h.2]; rfl, fun x => by
    have a := Dao.dep (e := e) x.1
    have b := Dao.dep (e := f) x.2
    simp only [PyData.depth, PyData.depthAll]
    omega, fun x y => by
    show (PyData.eqv (Dao.d e x.1) (Dao.d e y.1) && (PyData.eqv (Dao.d f x.2) (Dao.d f y.2) && PyData.eqvAll [] [])) = true ↔ _
    have z : PyData.eqvAll [] [] = true := rfl
    rw [z, Bool.and_true, Bool.and_eq_true, Dao.inj, Dao.inj, Prod.ext_iff]⟩
instance {α β γ : Type} {e : Rep α} {f : Rep β} {g : Rep γ} {n m k : Nat} [Dao e n] [Dao f m] [Dao g k] : Dao (pT3 e f g) (max n (max m k) + 1) := ⟨fun x => Dao.ok e x.1 ∧ Dao.ok f x.2.1 ∧ Dao.ok g x.2.2, fun x => .tuple [Dao.d e x.1, Dao.d f x.2.1, Dao.d g x.2.2], fun {K F v x} h => by
    obtain ⟨p, u, w, y, rfl, hp, a, b, c⟩ := h
    exact .tup (SqT.of hp) (.cons (Dao.dp a) (.cons (Dao.dp b) (.cons (Dao.dp c) .nil))), fun x h => by
    show (PyData.canLay0 (Dao.d e x.1) && (PyData.canLay0 (Dao.d f x.2.1) && (PyData.canLay0 (Dao.d g x.2.2) && PyData.canLayAll0 []))) = true
    rw [Dao.lay _ h.1, Dao.lay _ h.2.1, Dao.lay _ h.2.2]; rfl, fun x => by
    have a := Dao.dep (e := e) x.1
    have b := Dao.dep (e := f) x.2.1
    have c := Dao.dep (e := g) x.2.2
    simp only [PyData.depth, PyData.depthAll]
    omega, fun x y => by
    show (PyData.eqv (Dao.d e x.1) (Dao.d e y.1) && (PyData.eqv (Dao.d f x.2.1) (Dao.d f y.2.1) && (PyData.eqv (Dao.d g x.2.2) (Dao.d g y.2.2) && PyData.eqvAll [] []))) = true ↔ _
    have z : PyData.eqvAll [] [] = true := rfl
    rw [z, Bool.and_true, Bool.and_eq_true, Bool.and_eq_true, Dao.inj, Dao.inj, Dao.inj, Prod.ext_iff, Prod.ext_iff]⟩
instance {α : Type} {e : Rep α} {n : Nat} [Dao e n] : Dao (pAlt (pL e) pN) (n + 1) := ⟨fun x => match x with | .inl xs => ∀ y ∈ xs, Dao.ok e y | .inr _ => True, fun x => match x with | .inl xs => .list (xs.map (Dao.d e)) | .inr m => .int (m : Int), fun {K F v x} h => by
    cases x with
    | inl xs =>
      obtain ⟨p, vs, rfl, hp, a⟩ := (show (pL e).r F v xs from h)
      exact .lst (SqL.of hp) (dp_allO a)
    | inr m => cases (show v = V.int _ from h); exact .int _, fun x h => by
    cases x with
    | inl xs => exact lay_allO (Dao.lay (e := e)) xs h
    | inr m => rfl, fun x => by
    cases x with
    | inl xs =>
      have := dep_all (Dao.dep (e := e)) xs
      simp only [PyData.depth]
      omega
    | inr m => simp only [PyData.depth]; omega, fun x y => by
    cases x with
    | inl xs =>
      cases y with
      | inl ys =>
        show PyData.eqvAll (xs.map (Dao.d e)) (ys.map (Dao.d e)) = true ↔ _
        rw [eqv_all (Dao.inj (e := e)) xs ys]
        exact ⟨fun h => by rw [h], fun h => Sum.inl.inj h⟩
      | inr m => exact ⟨fun h => absurd (show false = true from h) (by decide), fun h => nomatch h⟩
    | inr m =>
      cases y with
      | inl ys => exact ⟨fun h => absurd (show false = true from h) (by decide), fun h => nomatch h⟩
      | inr k =>
        show (((m : Int) == (k : Int)) = true) ↔ _
        rw [beq_iff_eq]
        exact ⟨fun h => by rw [show m = k by omega], fun h => by rw [Sum.inr.inj h]⟩⟩
theorem Dao.shp {α : Type} {e : Rep α} {n : Nat} [Dao e n] (h : n ≤ 64) {x : α} (o : okV e x) : SeqAt.shaped (Dao.d e x) = true := by
  unfold SeqAt.shaped
  rw [Dao.lay x o, decide_eq_true (Nat.le_trans (Dao.dep x) h)]; rfl
section
variable {α : Type} {e : Rep α} {K : PySem.W.Frag} {σ : L2.St} {F F' H : Hp} {ta tb : TE} {v w : V} {x y : α} {n : Nat}
theorem c_eqO [DecidableEq α] [Dao e n] (ha : Val ta σ H v) (hb : Val tb σ H w) (f : Ex F H) (r : e.r F v x) (g : Ex F' H) (s : e.r F' w y) (o : okV e x ∧ okV e y) (h : n ≤ 64 := by decide) : Val (tOp (rEqD K) ta tb) σ H (.bl (decide (x = y))) :=
  v2 ha hb fun Q k => ⟨_, _, Dao.dp (e.mono f r), Dao.dp (e.mono g s), Dao.shp h o.1, Dao.shp h o.2, by
    have z : PyData.eqv (Dao.d e x) (Dao.d e y) = decide (x = y) := Bool.eq_iff_iff.mpr (by rw [Dao.inj, decide_eq_true_iff])
    rw [z]; exact k⟩
theorem c_neO [DecidableEq α] [Dao e n] (ha : Val ta σ H v) (hb : Val tb σ H w) (f : Ex F H) (r : e.r F v x) (g : Ex F' H) (s : e.r F' w y) (o : okV e x ∧ okV e y) (h : n ≤ 64 := by decide) : Val (tOp (rNeD K) ta tb) σ H (.bl (decide (x ≠ y))) :=
  v2 ha hb fun Q k => ⟨_, _, Dao.dp (e.mono f r), Dao.dp (e.mono g s), Dao.shp h o.1, Dao.shp h o.2, by
    have z : PyData.eqv (Dao.d e x) (Dao.d e y) = decide (x = y) := Bool.eq_iff_iff.mpr (by rw [Dao.inj, decide_eq_true_iff])
    rw [z, ← decide_not]; exact k⟩
end
end Wk
namespace Wk
class Ctx (C : Type) where
  Out : Type
  at_ : Out → C → Prop
instance {α : Type} : Ctx (α → Prop) := ⟨α, fun z c => c z⟩
instance {C E : Type} [Ctx C] [Ctx E] : Ctx (C × E) := ⟨Sum (Ctx.Out C) (Ctx.Out E), fun o d => match o with | .inl o => Ctx.at_ o d.1 | .inr o => Ctx.at_ o d.2⟩
def Det {C : Type} [Ctx C] (W : C → Prop) : Prop := ∀ c, W c → (∀ c', W c') ∨ ∃ o : Ctx.Out C, Ctx.at_ o c ∧ ∀ c', Ctx.at_ o c' → W c'
section
variable {C α S β : Type} [Ctx C]
theorem Det.ex {W : α → C → Prop} (h : ∀ x, Det (W x)) : Det (fun c => ∃ x, W x c) := fun c ⟨a, b⟩ => (h a c b).imp (fun q c' => ⟨a, q c'⟩) fun ⟨o, x, y⟩ => ⟨o, x, fun c' q => ⟨a, y c' q⟩⟩
/-- a call -/
theorem Det.call {W : (S → Prop) → Prop} {K : S → C → Prop} (hW : Det W) (hK : ∀ x, Det (K x)) : Det (fun c => W (fun x => K x c)) := fun c h => by
  rcases hW (fun x => K x c) h with h1 | ⟨x, h2, h3⟩
  · exact .inl fun c' => h1 _
  · rcases hK x c h2 with a | ⟨o, a, b⟩
    · exact .inl fun c' => h3 (fun x => K x c') (a c')
    · exact .inr ⟨o, a, fun c' q => h3 (fun x => K x c') (b c' q)⟩
theorem Det.mono {W : C → Prop} (h : Det W) {c c' : C} (hc : ∀ o : Ctx.Out C, Ctx.at_ o c → Ctx.at_ o c') (hw : W c) : W c' := by
  rcases h c hw with a | ⟨o, a, b⟩
  · exact a c'
  · exact b c' (hc o a)
/-- the way out of a loop goes on with K -/
theorem Det.sub {B : C → (S → Prop) → (S → Prop) → Prop} {K : S → C → Prop} (hB : Det (fun d : C × ((S → Prop) × (S → Prop)) => B d.1 d.2.1 d.2.2)) (hK : ∀ s, Det (K s)) : Det (fun d : C × (S → Prop) => B d.1 d.2 (fun s => K s d.1)) := fun d h => by
  rcases hB (d.1, d.2, fun s => K s d.1) h with h1 | ⟨o, h2, h3⟩
  · exact .inl fun d' => h1 (d'.1, d'.2, _)
  · cases o with
    | inl o => exact .inr ⟨.inl o, h2, fun d' q => h3 (d'.1, d'.2, _) q⟩
    | inr o =>
      cases o with
      | inl s' => exact .inr ⟨.inr s', h2, fun d' q => h3 (d'.1, d'.2, _) q⟩
      | inr s' =>
        rcases hK s' d.1 h2 with a | ⟨o, a, b⟩
        · exact .inl fun d' => h3 (d'.1, d'.2, fun s => K s d'.1) (a d'.1)
        · exact .inr ⟨.inl o, a, fun d' q => h3 (d'.1, d'.2, fun s => K s d'.1) (b d'.1 q)⟩
theorem Det.fst {E : Type} [Ctx E] {W : C → Prop} (h : Det W) : Det (fun d : C × E => W d.1) := fun d k => by
  rcases h d.1 k with a | ⟨o, a, b⟩
  · exact .inl fun d' => a d'.1
  · exact .inr ⟨.inl o, a, fun d' q => b d'.1 q⟩
end
end Wk
namespace Wk
open PySem L2
end Wk
namespace Wk
open PySem L2 ClX
/-- a def of a class, called as C.m(x, ..) -/
structure Cf (P : Program) (w : World) (K : PySem.W.Frag) (mg : Str → Option Value) (base : Heap) (CX : CXT) (k : Nat) (C : Addr) (m : Str) (ps : List Str) (sp : Sp) : Prop where
  ex : ∃ f fd, FnOk P w K mg base CX k f fd ps sp ∧ (CVal K C (.type "type") m (.ref f) (.ref f) ∧ PySem.W.keepIn K (.ref f) = true) ∧ Binds K fd ps []
def tCf (C : Addr) (sp : Sp) (E : XK) (ta : TE) (t : TA) : TE := fun σ H Q => ta σ H fun x H1 => x = .ref C ∧ t σ H1 fun vs H2 => sp vs H2 Q E
/-- an object of one of some classes -/
def IsC (H : Hp) (x : V) (C : Addr) : Prop := ∃ a dx fs, x = .ref a ∧ H a = some (.ins C dx fs)
def tMethU (L : List (Addr × Sp)) (m : Str) (E : XK) (ta : TE) (t : TA) : TE := fun σ H Q => ta σ H fun x H1 => (∃ C, C ∈ L.map (·.1) ∧ ∃ a dx fs, x = .ref a ∧ H1 a = some (.ins C dx fs) ∧ fs.lookup m = none) ∧ t σ H1 fun vs H2 => ∀ C, IsC H1 x C → ∃ sp, (C, sp) ∈ L ∧ sp (x :: vs) H2 Q E
section
variable {X : Cx} {k : Nat} {C : Addr} {x m : Str} {ps : List Str} {sp : Sp} {o e : Expr} {es : List Expr} {p pos apos : Pos} {ta : TE} {t : TA} {pl : Sem Bool} {L : List (Addr × Sp)}
theorem pe_cf (M : Cf X.prog X.w X.K X.mg X.base CX0 k C m ps sp) (r : CRead X.K C (.type "type")) (hr : Room k X.A) (he : PE X o ta) (ha : PA X (e :: es) t)
    (hst : starEach (e :: es) X.env = (false, eval e X.env) :: starEach es X.env := by rfl) (hpl : (backTo pos (starEach es X.env)).any (·.1) = false := by rfl)
    (ht : eval (.Call (.Attribute o m apos) (e :: es) [] pos) X.env = (do
      let ov ← eval o X.env
      standAt apos.atName
      let (f, first) ← holding [ov] (getMethod ov m pl)
      callWith pos f first (backTo pos (starEach (e :: es) X.env)) (backToKw pos (keywordEach [] X.env))) := by rfl) :
    PE X (.Call (.Attribute o m apos) (e :: es) [] pos) (tCf C sp E0 ta t) := by
  obtain ⟨f, fd, F, ⟨cv, kp⟩, hb⟩ := M.ex
  refine ⟨fun pins s σ H Q I h => ?_⟩
  refine PySem.W.methodCall_KW (pl := pl) (thn (he.run pins s σ H _ I h) fun u s1 ⟨x, H1, I1, rx, ex, q⟩ => ?_) ht
  subst ex
  obtain rfl : u = Value.ref C := rx
  refine PySem.W.method_cls I1.kIn r.ga (getcval_ok I1 r cv fun s2 I2 => ?_)
  refine PySem.W.callWith_K (first := []) (h₀ := X.base) I.ok.mod.kin kp (thn (ha.run pos pins s2 σ H1 _ I2 q) fun us s3 ⟨vs, H2, I3, r3, q2⟩ => ⟨I3.kIn, ?_⟩) hst hpl
  exact run_fn (us := us) (vs := vs) F hr hb .nil pass0 I3 r3 (by rw [List.append_nil]; exact q2)
theorem pe_mdU0 (M : ∀ q ∈ L, Md X.prog X.w X.K X.mg X.base CX0 k q.1 m ps q.2 ∧ Cls X.K q.1) (hr : Room k X.A) (he : PE X o ta)
    (ht : eval (.Call (.Attribute o m apos) [] [] pos) X.env = (do
      let ov ← eval o X.env
      standAt apos.atName
      let (f, first) ← holding [ov] (getMethod ov m pl)
      callWith pos f first (backTo pos (starEach [] X.env)) (backToKw pos (keywordEach [] X.env))) := by rfl) :
    PE X (.Call (.Attribute o m apos) [] [] pos) (tMethU L m E0 ta tNil) := by
  refine ⟨fun pins s σ H Q I h => ?_⟩
  refine PySem.W.methodCall_KW (pl := pl) (thn (he.run pins s σ H _ I h) fun u s1 ⟨x, H1, I1, rx, ⟨C, hC, a, dx, fs, ex, ea, l⟩, q⟩ => ?_) ht
  subst ex
  obtain rfl : u = Value.ref a := rx
  obtain ⟨sp, hsp, q3⟩ := q C ⟨a, dx, fs, rfl, ea⟩
  obtain ⟨M1, c⟩ := M _ hsp
  obtain ⟨f, fd, F, hm, hb⟩ := M1.ex
  refine getmeth_ok I1 ea c hm l ?_
  exact PySem.W.callWith_K0 (first := [.ref a]) I1.kIn hm.kp (run_fn (us := [.ref a]) (vs := [.ref a]) F hr hb .nil pass0 I1 (.cons rfl .nil) q3)
end
section
variable {σ : L2.St} {H : Hp} {C : Addr} {m : Str} {sp : Sp} {E : XK} {ta : TE} {t : TA} {Q : VK} {L : List (Addr × Sp)}
theorem e_cf (h : ta σ H fun x H1 => x = .ref C ∧ t σ H1 fun vs H2 => sp vs H2 Q E) : tCf C sp E ta t σ H Q := h
theorem e_mdU (h : ta σ H fun x H1 => (∃ C, C ∈ L.map (·.1) ∧ ∃ a dx fs, x = .ref a ∧ H1 a = some (.ins C dx fs) ∧ fs.lookup m = none) ∧ t σ H1 fun vs H2 => ∀ C, IsC H1 x C → ∃ sp, (C, sp) ∈ L ∧ sp (x :: vs) H2 Q E) : tMethU L m E ta t σ H Q := h
end
abbrev WireV := Sum (Str × Nat) (Sum (Str × List Str) (Str × Str × Nat))
def pW (I S T : Addr) : Rep WireV := pAlt (pO2 I "name" "number" pS pN) (pAlt (pO2 S "name" "wires" pS (pTL pS)) (pO3 T "name" "wire" "number" pS pS pN))
def wName : WireV → Str
  | .inl x => x.1
  | .inr (.inl x) => x.1
  | .inr (.inr x) => x.1
def wTag : WireV → Nat
  | .inl _ => 0
  | .inr (.inl _) => 1
  | .inr (.inr _) => 2
def wNum : WireV → Option Nat
  | .inl x => some x.2
  | .inr (.inl _) => none
  | .inr (.inr x) => some x.2.2
def wWires : WireV → Option (List Str)
  | .inr (.inl x) => some x.2
  | _ => none
def wWire : WireV → Option Str
  | .inr (.inr x) => some x.2.1
  | _ => none
section
variable {I S T : Addr}
/-- the class of a wire -/
def wCls (I S T : Addr) : WireV → Addr
  | .inl _ => I
  | .inr (.inl _) => S
  | .inr (.inr _) => T
theorem wCls_mem (x : WireV) : wCls I S T x ∈ [I, S, T] := match x with
  | .inl _ => List.mem_cons_self ..
  | .inr (.inl _) => List.mem_cons_of_mem _ (List.mem_cons_self ..)
  | .inr (.inr _) => List.mem_cons_of_mem _ (List.mem_cons_of_mem _ (List.mem_cons_self ..))
end
/-- all that is asked of the classes -/
structure TW (K : PySem.W.Frag) (mg : Str → Option Value) (I S T B : Addr) : Prop where
  ci : Cls K I
  cs : Cls K S
  ct : Cls K T
  ni : NoAttr K I "name"
  ns : NoAttr K S "name"
  nt : NoAttr K T "name"
  mi : NoAttr K I "number"
  mt : NoAttr K T "number"
  ws : NoAttr K S "wires"
  wt : NoAttr K T "wire"
  ii : ClsI K mg "InWire" I
  is : ClsI K mg "SumWire" S
  it : ClsI K mg "StoreWire" T
  kI : ∀ x : WireV, PySem.W.kitOne K (.ref (wCls I S T x)) (.ref I) = some (decide (wTag x = 0))
  kS : ∀ x : WireV, PySem.W.kitOne K (.ref (wCls I S T x)) (.ref S) = some (decide (wTag x = 1))
  kT : ∀ x : WireV, PySem.W.kitOne K (.ref (wCls I S T x)) (.ref T) = some (decide (wTag x = 2))
  kB : ∀ x : WireV, PySem.W.kitOne K (.ref (wCls I S T x)) (.ref B) = some true
section
variable {K : PySem.W.Frag} {mg : Str → Option Value} {σ : L2.St} {F0 H0 F H : Hp} {v : V} {x : WireV} {I S T B : Addr} {Q : VK} {ta : TE}
theorem fl_Wname (tw : TW K mg I S T B) (r : (pW I S T).r F v x) (h : Ex F H) : ∀ ⦃σ ta⦄, Val ta σ H v → Val (tFld K ta "name") σ H (.str (wName x)) := by
  match x, r with
  | .inl y, r => obtain ⟨w, e, k⟩ := fl_21 (K := K) tw.ci tw.ni r h; cases (show w = .str _ from e); exact k
  | .inr (.inl y), r => obtain ⟨w, e, k⟩ := fl_21 (K := K) tw.cs tw.ns r h; cases (show w = .str _ from e); exact k
  | .inr (.inr y), r => obtain ⟨w, e, k⟩ := fl_31 (K := K) tw.ct tw.nt r h; cases (show w = .str _ from e); exact k
theorem fl_Wnum {n : Nat} (tw : TW K mg I S T B) (r : (pW I S T).r F v x) (h : Ex F H) (hn : wNum x = some n) : ∀ ⦃σ ta⦄, Val ta σ H v → Val (tFld K ta "number") σ H (.int (n : Int)) := by
  match x, r with
  | .inl y, r => obtain ⟨w, e, k⟩ := fl_22 (K := K) tw.ci tw.mi r h; cases (show w = .int _ from e); cases hn; exact k
  | .inr (.inl y), r => cases hn
  | .inr (.inr y), r => obtain ⟨w, e, k⟩ := fl_33 (K := K) tw.ct tw.mt r h; cases (show w = .int _ from e); cases hn; exact k
theorem fl_Wwires {ws : List Str} (tw : TW K mg I S T B) (r : (pW I S T).r F v x) (h : Ex F H) (hn : wWires x = some ws) : ∃ w, (pTL pS).r F w ws ∧ ∀ ⦃σ ta⦄, Val ta σ H v → Val (tFld K ta "wires") σ H w := by
  match x, r with
  | .inl y, r => cases hn
  | .inr (.inl y), r => obtain ⟨w, e, k⟩ := fl_22 (K := K) tw.cs tw.ws r h; cases hn; exact ⟨w, e, k⟩
  | .inr (.inr y), r => cases hn
theorem fl_Wwire {n : Str} (tw : TW K mg I S T B) (r : (pW I S T).r F v x) (h : Ex F H) (hn : wWire x = some n) : ∀ ⦃σ ta⦄, Val ta σ H v → Val (tFld K ta "wire") σ H (.str n) := by
  match x, r with
  | .inl y, r => cases hn
  | .inr (.inl y), r => cases hn
  | .inr (.inr y), r => obtain ⟨w, e, k⟩ := fl_32 (K := K) tw.ct tw.wt r h; cases (show w = .str _ from e); cases hn; exact k
theorem W_at {m : Str} (r : (pW I S T).r F v x) (h : Ex F H) (h1 : (m == ("name" : Str)) = false := by decide +kernel) (h2 : (m == ("number" : Str)) = false := by decide +kernel) (h3 : (m == ("wires" : Str)) = false := by decide +kernel) (h4 : (m == ("wire" : Str)) = false := by decide +kernel) :
    ∃ p dx fs, v = .ref p ∧ H p = some (.ins (wCls I S T x) dx fs) ∧ fs.lookup m = none := by
  match x, r with
  | .inl y, r => exact me_2 r h h1 h2
  | .inr (.inl y), r => exact me_2 r h h1 h3
  | .inr (.inr y), r => exact me_3 r h h1 h4 h2
theorem IsC.eq (r : (pW I S T).r F v x) (h : Ex F H) {C : Addr} (c : IsC H v C) : C = wCls I S T x := by
  obtain ⟨p, dx, fs, e, hp, _⟩ := W_at (m := "zz") r h
  obtain ⟨a, dx', fs', e', ha⟩ := c
  rw [e] at e'
  cases e'
  rw [hp] at ha
  cases ha; rfl
theorem ty_W (tw : TW K mg I S T B) (r : (pW I S T).r F v x) (h : Ex F H) : TyX K H v (.ref (wCls I S T x)) := by
  obtain ⟨p, dx, fs, e, hp, _⟩ := W_at (m := "zz") r h
  subst e
  match x, hp with
  | .inl y, hp => exact .base (.ins hp tw.ci tw.ii.ha tw.ii.hn tw.ii.ht tw.ii.hm)
  | .inr (.inl y), hp => exact .base (.ins hp tw.cs tw.is.ha tw.is.hn tw.is.ht tw.is.hm)
  | .inr (.inr y), hp => exact .base (.ins hp tw.ct tw.it.ha tw.it.hn tw.it.ht tw.it.hm)
theorem v_isD {C D : Addr} {b : Bool} (ha : Val ta σ H v) (t : TyX K H v (.ref C)) (hk : PySem.W.kitOne K (.ref C) (.ref D) = some b) : Val (tCB (rIsi K) (tCons ta (tCons (tC (.ref D)) tNil))) σ H (.bl b) := fun Q k => ha _ ⟨v, .ref D, .ref C, .ref D, b, rfl, .own D, t, hk, k⟩
end
theorem Md.mono {P : Program} {w : World} {K : PySem.W.Frag} {mg : Str → Option Value} {base : Heap} {CX : CXT} {j k : Nat} {C : Addr} {m : Str} {ps : List Str} {sp : Sp} (M : Md P w K mg base CX j C m ps sp) (h : j ≤ k) : Md P w K mg base CX k C m ps sp := let ⟨f, fd, F, a, b⟩ := M.ex; ⟨f, fd, F.mono h, a, b⟩
def MdU (P : Program) (w : World) (K : PySem.W.Frag) (mg : Str → Option Value) (base : Heap) (CX : CXT) (k : Nat) (L : List (Addr × Sp)) (m : Str) (ps : List Str) : Prop := ∀ q ∈ L, Md P w K mg base CX k q.1 m ps q.2 ∧ Cls K q.1
theorem MdU.three {P : Program} {w : World} {K : PySem.W.Frag} {mg : Str → Option Value} {base : Heap} {CX : CXT} {k : Nat} {m : Str} {ps : List Str} {A B C : Addr} {s1 s2 s3 : Sp} (h1 : Md P w K mg base CX k A m ps s1) (c1 : Cls K A) (h2 : Md P w K mg base CX k B m ps s2) (c2 : Cls K B) (h3 : Md P w K mg base CX k C m ps s3) (c3 : Cls K C) : MdU P w K mg base CX k [(A, s1), (B, s2), (C, s3)] m ps := fun q hq => by
  rcases List.mem_cons.mp hq with e | hq
  · subst e; exact ⟨h1, c1⟩
  · rcases List.mem_cons.mp hq with e | hq
    · subst e; exact ⟨h2, c2⟩
    · rw [List.mem_singleton.mp hq]; exact ⟨h3, c3⟩
/-- Base.__init__: one field -/
def sp_base1 (K : PySem.W.Frag) (a : Str) : Sp := fun vs H Q _ => ∃ (C dx ob : Addr) (v : V), vs = [.ref ob, v] ∧ Cls K C ∧ NoAttr K C a ∧ H ob = some (.ins C dx []) ∧ Q .non (upd H ob (.ins C dx [(a, v)]))
section
variable {K : PySem.W.Frag} {H0 F0 F H : Hp} {p : Addr} {v : V} {Q : VK} {E : XK}
/-- .. of one's own object -/
theorem n_base1 {C dx : Addr} {a : Str} (cl : Cls K C) (na : NoAttr K C a) (x : Xc H0 F H p (.ins C dx [])) (w : Wf F0 H0 F H) (k : ∀ H', Wf F0 H0 F H' → Xc H0 F H' p (.ins C dx [(a, v)]) → (∀ q o, H q = some o → q ≠ p → H' q = some o) → Q .non H') : sp_base1 K a [.ref p, v] H Q E :=
  ⟨C, dx, p, v, rfl, cl, na, x.h, k _ (w.set x) x.set fun q o h hq => by rw [upd_ne hq]; exact h⟩
end
def pT4 {α β γ δ : Type} (e : Rep α) (f : Rep β) (g : Rep γ) (h : Rep δ) : Rep (α × β × γ × δ) := ⟨fun F v x => ∃ p u w y z, v = .ref p ∧ F p = some (.tup [u, w, y, z]) ∧ e.r F u x.1 ∧ f.r F w x.2.1 ∧ g.r F y x.2.2.1 ∧ h.r F z x.2.2.2, fun ex ⟨p, u, w, y, z, a, b, c, d, k, l⟩ => ⟨p, u, w, y, z, a, ex _ _ b, e.mono ex c, f.mono ex d, g.mono ex k, h.mono ex l⟩⟩
section
variable {α β γ δ : Type} {e : Rep α} {f : Rep β} {g : Rep γ} {i : Rep δ} {K : PySem.W.Frag} {σ : L2.St} {F0 H0 F H : Hp} {v u w y : V} {x : α} {x2 : β} {x3 : γ} {x4 : δ} {Q : VK} {z : α × β × γ × δ}
theorem n_tup4 (a : e.r F v x) (b : f.r F w x2) (c : g.r F u x3) (d : i.r F y x4) (h : Wf F0 H0 F H) (k : ∀ p F' H', Wf F H F' H' → (pT4 e f g i).r F' (.ref p) (x, x2, x3, x4) → Q (.ref p) H') : kTup Q [v, w, u, y] H :=
  ⟨Nat.le_of_lt (small_len (n := 4) (by decide)), fun p hp => k p _ _ (Wf.new h.f hp) ⟨p, v, w, u, y, rfl, upd_same, e.mono (Ex.new (h.f.non hp)) a, f.mono (Ex.new (h.f.non hp)) b, g.mono (Ex.new (h.f.non hp)) c, i.mono (Ex.new (h.f.non hp)) d⟩⟩
end
end Wk
namespace Wk
open PySem L2
section
variable {α : Type} {e : Rep α} {K : PySem.W.Frag} {σ : L2.St} {F0 H0 F H F' H' : Hp} {v : V} {xs : List α} {p q : Addr} {Q : VK} {ta : TE}
def rSplit : V → List V → Hp → VK → Prop := fun x xs H Q => ∃ a b, x = .str a ∧ xs = [.str b] ∧ (b.length == 0) = false ∧ a.length + 2 ≤ sizeLine ∧ rNewStrs (Txt.split a b) H Q
theorem all_strs : ∀ {ys : List Str}, All pS F (ys.map V.str) ys
  | [] => trivial
  | _ :: _ => ⟨rfl, all_strs⟩
theorem n_split {a b : Str} (hb : (b.length == 0) = false) (hl : a.length + 2 < 1000000) (w : Wf F0 H0 F H) (k : ∀ p H', H p = none → Wf F H F H' → XL pS H0 F H' p (Txt.split a b) → Q (.ref p) H') : rSplit (.str a) [.str b] H Q :=
  ⟨a, b, rfl, rfl, hb, Nat.le_of_lt (small_len hl), fun p hp => k p _ hp (Wf.newX w.f hp) ⟨_, Xc.mk' w hp, all_strs⟩⟩
def rStrI : List V → Hp → VK → Prop := fun xs H Q => ∃ i, xs = [.int i] ∧ i.natAbs.log2 < 1920 ∧ Q (.str (toString i)) H
def strN (n : Nat) : Str := toString ((n : Nat) : Int)
theorem vn_str {n : Nat} (hn : n.log2 < 1920) (ha : Val ta σ H (.int (n : Int))) : Val (tCB rStrI (tCons ta tNil)) σ H (.str (strN n)) := v_cb1 ha fun Q k => ⟨n, rfl, by rw [Int.natAbs_natCast]; exact hn, k⟩
theorem BL.neI (b : BL e F H p xs) {C dx : Addr} {fs : List (Str × V)} (h : H q = some (.ins C dx fs)) : p ≠ q := fun z => by
  obtain ⟨vs, hp, _⟩ := b.x
  rw [z, h] at hp; cases hp
end
end Wk
namespace Wk
open PySem L2
/-- the heap without some places -/
def woL (H : Hp) (L : List Addr) : Hp := fun a => if a ∈ L then none else H a
section
variable {α β κ : Type} [KeyT κ] {e : Rep α} {F0 H0 F F' H H' : Hp} {L : List Addr} {p d : Addr} {o : HO} {xs : List α} {m : List (κ × α)} {C dx : Addr} {fs : List (Str × V)}
theorem woL_in (h : d ∈ L) : woL H L d = none := if_pos h
theorem woL_out (h : d ∉ L) : woL H L d = H d := if_neg h
theorem woL_sub : Ex (woL H L) H := fun a u q => by
  by_cases c : a ∈ L
  · rw [woL_in c] at q; cases q
  · rw [woL_out c] at q; exact q
theorem Wf.startL (f : Ex F H) (n : ∀ d ∈ L, F d = none) : Wf F (woL H L) F H := ⟨woL_sub, f, Ex.rfl', fun a u h h0 => by rw [h] at h0; cases h0⟩
theorem Xc.toL (x : Xc H0 F H p o) (hp : p ∈ L) : Xc (woL H L) F H p o := ⟨woL_in hp, x.n, x.h⟩
theorem XL.toL (x : XL e H0 F H p xs) (hp : p ∈ L) : XL e (woL H L) F H p xs := let ⟨vs, a, b⟩ := x.x; ⟨vs, a.toL hp, b⟩
theorem XD.toL (x : XD e H0 F H p m) (hp : p ∈ L) : XD e (woL H L) F H p m := let ⟨vs, a, b⟩ := x.x; ⟨vs, a.toL hp, b⟩
theorem Xc.fromL {H1 : Hp} (x : Xc H1 F' H' p o) (z : H0 p = none) : Xc H0 F' H' p o := ⟨z, x.n, x.h⟩
theorem XL.fromL {H1 : Hp} (x : XL e H1 F' H' p xs) (z : H0 p = none) : XL e H0 F' H' p xs := let ⟨vs, a, b⟩ := x.x; ⟨vs, a.fromL z, b⟩
theorem XD.fromL {H1 : Hp} (x : XD e H1 F' H' p m) (z : H0 p = none) : XD e H0 F' H' p m := let ⟨vs, a, b⟩ := x.x; ⟨vs, a.fromL z, b⟩
theorem XL.nF (x : XL e H0 F H p xs) : F p = none := let ⟨_, a, _⟩ := x.x; a.n
theorem XD.nF (x : XD e H0 F H p m) : F p = none := let ⟨_, a, _⟩ := x.x; a.n
/-- behind a method that has changed what stands at L -/
theorem Wf.mcall (w : Wf F0 H0 F H) (hz : ∀ d ∈ L, H0 d = none) (s : Wf F (woL H L) F' H') (hn : ∀ d ∈ L, F' d = none) : Wf F0 H0 F' H' := by
  refine ⟨fun a u h => ?_, s.f, w.g.tr s.g, fun a u h h0 => ?_⟩
  · have hL : a ∉ L := fun q => by rw [hz a q] at h; cases h
    exact s.h a u (by rw [woL_out hL]; exact w.h a u h)
  · cases q : F a with
    | some y => exact w.n a y q h0
    | none =>
      have hL : a ∉ L := fun z => by rw [hn a z] at h; cases h
      have := s.n a u h q
      rw [woL_out hL] at this
      exact w.h.non this
theorem away_h (hp : p ∉ L) (s : Wf F (woL H L) F' H') (h : H p = some o) : H' p = some o := s.h p o (by rw [woL_out hp]; exact h)
theorem Xc.away (x : Xc H0 F H p o) (hp : p ∉ L) (s : Wf F (woL H L) F' H') : Xc H0 F' H' p o := by
  refine ⟨x.z, ?_, away_h hp s x.h⟩
  cases q : F' p with
  | none => rfl
  | some y =>
    have := s.n p y q x.n
    rw [woL_out hp, x.h] at this; cases this
theorem XL.away (x : XL e H0 F H p xs) (hp : p ∉ L) (s : Wf F (woL H L) F' H') : XL e H0 F' H' p xs := let ⟨vs, a, b⟩ := x.x; ⟨vs, a.away hp s, b.mono s.g⟩
theorem XD.away (x : XD e H0 F H p m) (hp : p ∉ L) (s : Wf F (woL H L) F' H') : XD e H0 F' H' p m := let ⟨vs, a, b⟩ := x.x; ⟨vs, a.away hp s, b.mono s.g⟩
theorem BL.away (x : BL e F H p xs) (hp : p ∉ L) (s : Wf F (woL H L) F' H') : BL e F' H' p xs := let ⟨vs, a, b⟩ := x.x; ⟨vs, away_h hp s a, b.mono s.g⟩
theorem BD.away (x : BD e F H p m) (hp : p ∉ L) (s : Wf F (woL H L) F' H') : BD e F' H' p m := let ⟨vs, a, b⟩ := x.x; ⟨vs, away_h hp s a, b.mono s.g⟩
theorem BO.away (x : BO C F H p dx fs) (hp : p ∉ L) (s : Wf F (woL H L) F' H') : BO C F' H' p dx fs := ⟨away_h hp s x.h⟩
theorem nin1 (h : p ≠ d) : p ∉ [d] := fun q => h (List.mem_singleton.mp q)
theorem nin2 {d2 : Addr} (h : p ≠ d) (h2 : p ≠ d2) : p ∉ [d, d2] := fun q => (List.mem_cons.mp q).elim h fun z => h2 (List.mem_singleton.mp z)
theorem allL1 {P : Addr → Prop} (h : P d) : ∀ x ∈ [d], P x := fun x hx => by rw [List.mem_singleton.mp hx]; exact h
theorem allL2 {P : Addr → Prop} {d2 : Addr} (h : P d) (h2 : P d2) : ∀ x ∈ [d, d2], P x := fun x hx => (List.mem_cons.mp hx).elim (fun z => by rw [z]; exact h) fun z => by rw [List.mem_singleton.mp z]; exact h2
theorem BD.neO (b : BD e F H p m) {q C dx : Addr} {fs : List (Str × V)} (h : H q = some (.ins C dx fs)) : p ≠ q := fun z => by
  obtain ⟨vs, hp, _⟩ := b.x
  rw [z, h] at hp; cases hp
end
section
variable {α β κ : Type} [DecidableEq κ] [KeyT κ] {e : Rep α} {b : Rep β} {K : PySem.W.Frag} {σ : L2.St} {F0 H0 F H : Hp} {d ob C dx : Addr} {fs : List (Str × V)} {m : List (κ × β)} {Q : VK} {g : TG} {te to : TE} {tc : TT} {vs : List Nat}
theorem DA.got : ∀ {kvs : List (Key × V)} {m : List (κ × β)} {i : Nat} {k : Key} {v : V}, DA b F kvs m → kvs[i]? = some (k, v) → ∃ q, m[i]? = some q ∧ b.r F v q.2
  | [], [], _, _, _, _, h => by simp at h
  | p :: r, q :: s, 0, k, v, ⟨_, c, _⟩, h => by
    simp at h
    subst h
    exact ⟨q, rfl, c⟩
  | p :: r, q :: s, i + 1, k, v, ⟨_, _, c⟩, h => by
    obtain ⟨z, h1, h2⟩ := DA.got (i := i) c (by simpa using h)
    exact ⟨z, by simpa using h1, h2⟩
  | [], _ :: _, _, _, _, q, _ => q.elim
  | _ :: _, [], _, _, _, q, _ => q.elim
theorem DA.cv {F' : Hp} (h : ∀ {v x}, b.r F v x → b.r F' v x) : ∀ {kvs : List (Key × V)} {m : List (κ × β)}, DA b F kvs m → DA b F' kvs m
  | [], [], _ => trivial
  | _ :: _, _ :: _, ⟨a, x, c⟩ => ⟨a, h x, DA.cv h c⟩
  | [], _ :: _, q => q.elim
  | _ :: _, [], q => q.elim
/-- things that hold nothing but objects and tuples -/
def NoD {α : Type} (e : Rep α) : Prop := ∀ (F G : Hp) (d : Addr) (v : V) (x : α), (∀ a o, a ≠ d → F a = some o → G a = some o) → (∀ C dx fs, F d ≠ some (.ins C dx fs)) → (∀ us, F d ≠ some (.tup us)) → e.r F v x → e.r G v x
theorem NoD.S : NoD pS := fun _ _ _ _ _ _ _ _ h => h
theorem NoD.N : NoD pN := fun _ _ _ _ _ _ _ _ h => h
theorem NoD.all (n : NoD e) {F G : Hp} {d : Addr} (h : ∀ a o, a ≠ d → F a = some o → G a = some o) (h1 : ∀ C dx fs, F d ≠ some (.ins C dx fs)) (h2 : ∀ us, F d ≠ some (.tup us)) : ∀ {us : List V} {xs : List α}, All e F us xs → All e G us xs
  | [], [], _ => trivial
  | _ :: _, _ :: _, ⟨a, c⟩ => ⟨n F G d _ _ h h1 h2 a, NoD.all n h h1 h2 c⟩
  | [], _ :: _, q => q.elim
  | _ :: _, [], q => q.elim
theorem NoD.TL (n : NoD e) : NoD (pTL e) := fun F G d v x h h1 h2 ⟨p, us, a, b, c⟩ => ⟨p, us, a, h p _ (fun z => h2 us (by rw [← z]; exact b)) b, n.all h h1 h2 c⟩
theorem NoD.O2 {γ : Type} {f : Rep γ} {C : Addr} {a c : Str} (n : NoD e) (k : NoD f) : NoD (pO2 C a c e f) := fun F G d v x h h1 h2 ⟨p, dx, fs, a, b, u, w, q, r1, r2⟩ => ⟨p, dx, fs, a, h p _ (fun z => h1 C dx fs (by rw [← z]; exact b)) b, u, w, q, n F G d _ _ h h1 h2 r1, k F G d _ _ h h1 h2 r2⟩
theorem NoD.O3 {γ δ : Type} {f : Rep γ} {i : Rep δ} {C : Addr} {a c l : Str} (n : NoD e) (k : NoD f) (j : NoD i) : NoD (pO3 C a c l e f i) := fun F G d v x h h1 h2 ⟨p, dx, fs, a, b, u, w, y, q, r1, r2, r3⟩ => ⟨p, dx, fs, a, h p _ (fun z => h1 C dx fs (by rw [← z]; exact b)) b, u, w, y, q, n F G d _ _ h h1 h2 r1, k F G d _ _ h h1 h2 r2, j F G d _ _ h h1 h2 r3⟩
theorem NoD.W {I S T : Addr} : NoD (pW I S T) := fun F G d v x h h1 h2 r => match x, r with
  | .inl _, r => NoD.O2 NoD.S NoD.N F G d v _ h h1 h2 r
  | .inr (.inl _), r => NoD.O2 NoD.S (NoD.TL NoD.S) F G d v _ h h1 h2 r
  | .inr (.inr _), r => NoD.O3 NoD.S NoD.S NoD.N F G d v _ h h1 h2 r
/-- a comprehension over the values of a field of one's own object; the dict's things do not need the dict -/
theorem w_compV {a : Str} {bd : β → (Option α → Prop) → Prop} {kk : List α → Prop} (cl : Cls K C) (na : NoAttr K C a) (bo : BO C F H ob dx fs) (lk : fs.lookup a = some (.ref d)) (r : BD b F H d m)
    (nb : NoD b) (ne : NoD e) (w : Wf F0 H0 F H) (hn : m.length < 1000000) (ho : ∀ H', Val to σ H' (.ref ob)) (hW : compW (m.map (·.2)) bd kk)
    (turn : ∀ (Qy : V → Hp → Prop) (Qn : Hp → Prop) x u F1 H1 (R : Option α → Prop), Ex F1 H1 → b.r F1 u x → bd x R → (∀ y z F2 H2, Wf F1 H1 F2 H2 → e.r F2 y z → R (some z) → Qy y H2) → (∀ F2 H2, Wf F1 H1 F2 H2 → R none → Qn H2) →
      g u (wipe σ vs) H1 fun σ2 H2 => wipe σ2 vs = wipe σ vs ∧ tc σ2 H2 fun b H3 => if b = true then te σ2 H3 Qy else Qn H3)
    (done : ∀ p ys F' H', H p = none → Wf F H F' H' → XL e H0 F' H' p ys → kk ys → Q (.ref p) H') :
    tLockE (tLc (iVals (tFld K to a)) g tc te vs) σ H Q := by
  obtain ⟨kvs, hd, da⟩ := r.x
  have hne : ob ≠ d := fun z => by
    have := bo.h
    rw [z, hd] at this; cases this
  have nI : ∀ C dx fs, F d ≠ some (.ins C dx fs) := fun C dx fs z => by
    have := w.f _ _ z
    rw [hd] at this; cases this
  have nT : ∀ us, F d ≠ some (.tup us) := fun us z => by
    have := w.f _ _ z
    rw [hd] at this; cases this
  refine ⟨d, .dK kvs, hd, trivial, fun od => ?_⟩
  have hob : upd H d (.frz od (.dK kvs)) ob = some (.ins C dx fs) := by rw [upd_ne hne]; exact bo.h
  have f1 : Ex (upd F d (.frz od (.dK kvs))) (upd H d (.frz od (.dK kvs))) := fun q u h => by
    by_cases c : q = d
    · subst c; rw [upd_same] at h ⊢; exact h
    · rw [upd_ne c] at h ⊢; exact w.f q u h
  have da1 : DA b (upd F d (.frz od (.dK kvs))) kvs m := da.cv fun {v x} h => nb F _ d v x (fun a o c q => by rw [upd_ne c]; exact q) nI nT h
  have len := da.len
  refine c_J ?_
  refine ho _ _ ⟨ob, C, dx, fs, _, rfl, hob, cl, na, lk, d, od, kvs, rfl, upd_same, ?_⟩
  have T : TWk (Itd d od kvs) (upd F d (.frz od (.dK kvs))) b (m.map (·.2)) := by
    refine ⟨fun H' => H' d = some (.frz od (.dK kvs)), _, by rw [List.length_map, ← len]; exact walk_values, fun F' H' h1 h2 => h2 _ _ (h1 _ _ upd_same), fun i H1 v H2 F' hi h1 h2 hy => ?_⟩
    obtain ⟨rfl, k, hk⟩ := hy
    obtain ⟨q, hq, rq⟩ := da1.got hk
    exact ⟨q.2, F', by rw [List.getElem?_map, hq]; rfl, Wf.id h2, b.mono h1 rq⟩
  refine w_compG (e := e) T (Wf.id f1) (by rw [List.length_map]; exact hn) hW (fun Qy Qn x u F1 H1 R q _ ru hb hy hq => turn Qy Qn x u F1 H1 R q.f ru hb hy hq) fun p ys F' H' hp s x hk => ?_
  have hdd : H' d = some (.frz od (.dK kvs)) := s.h _ _ upd_same
  have pd : p ≠ d := fun z => by rw [z, upd_same] at hp; cases hp
  have fd : F' d = some (.frz od (.dK kvs)) := s.g _ _ upd_same
  refine ⟨hdd, done p ys (fun a => if a = d then F d else F' a) (upd H' d (.dK kvs)) (by rw [upd_ne pd] at hp; exact hp) ⟨fun a o h => ?_, fun a o h => ?_, fun a o h => ?_, fun a o h h0 => ?_⟩ ?_ hk⟩
  · by_cases c : a = d
    · subst c; rw [hd] at h; cases h; exact upd_same
    · rw [upd_ne c]; exact s.h a o (by rw [upd_ne c]; exact h)
  · by_cases c : a = d
    · subst c
      rw [if_pos rfl] at h
      have := w.f _ _ h
      rw [hd] at this; cases this; exact upd_same
    · rw [if_neg c] at h; rw [upd_ne c]; exact s.f a o h
  · by_cases c : a = d
    · subst c; rw [if_pos rfl]; exact h
    · rw [if_neg c]; exact s.g a o (by rw [upd_ne c]; exact h)
  · by_cases c : a = d
    · subst c; rw [if_pos rfl, h0] at h; cases h
    · rw [if_neg c] at h
      have := s.n a o h (by rw [upd_ne c]; exact h0)
      rw [upd_ne c] at this; exact this
  · obtain ⟨us, xc, al⟩ := x.x
    have z := xc.z
    rw [upd_ne pd] at z
    refine ⟨us, ⟨w.h.non z, (if_neg pd).trans xc.n, by rw [upd_ne pd]; exact xc.h⟩, ?_⟩
    exact ne.all (d := d) (fun a o c q => (if_neg c).trans q) (fun C dx fs q => by rw [fd] at q; cases q) (fun us q => by rw [fd] at q; cases q) al
end
def F4s {α β γ δ : Type} (n m l k : Str) (e : Rep α) (f : Rep β) (g : Rep γ) (i : Rep δ) (F : Hp) (fs : List (Str × V)) (x : α × β × γ × δ) : Prop := ∃ u w y t, fs = [(n, u), (m, w), (l, y), (k, t)] ∧ e.r F u x.1 ∧ f.r F w x.2.1 ∧ g.r F y x.2.2.1 ∧ i.r F t x.2.2.2
theorem F4s.mono {α β γ δ : Type} {n m l k : Str} {e : Rep α} {f : Rep β} {g : Rep γ} {i : Rep δ} {F F' : Hp} {fs : List (Str × V)} {x : α × β × γ × δ} (h : Ex F F') : F4s n m l k e f g i F fs x → F4s n m l k e f g i F' fs x := fun ⟨u, w, y, t, a, b, c, d, j⟩ => ⟨u, w, y, t, a, e.mono h b, f.mono h c, g.mono h d, i.mono h j⟩
def pO4 {α β γ δ : Type} (C : Addr) (n m l k : Str) (e : Rep α) (f : Rep β) (g : Rep γ) (i : Rep δ) : Rep (α × β × γ × δ) := pOb C (F4s n m l k e f g i) F4s.mono
section
variable {α β γ δ : Type} {e : Rep α} {f : Rep β} {g : Rep γ} {i : Rep δ} {K : PySem.W.Frag} {F H : Hp} {C : Addr} {a b c d m : Str} {v : V} {z : α × β × γ × δ}
theorem fl_41 (cl : Cls K C) (na : NoAttr K C a) (r : (pO4 C a b c d e f g i).r F v z) (h : Ex F H)  : ∃ w, e.r F w z.1 ∧ ∀ ⦃σ ta⦄, Val ta σ H v → Val (tFld K ta a) σ H w := by
  obtain ⟨p, dx, fs, rfl, hp, u, w, y, t, rfl, r1, r2, r3, r4⟩ := r
  exact ⟨u, r1, fun _ _ ha Q k => ha _ ⟨p, C, dx, _, u, rfl, h _ _ hp, cl, na, lk_eq, k⟩⟩
theorem fl_42 (cl : Cls K C) (na : NoAttr K C b) (r : (pO4 C a b c d e f g i).r F v z) (h : Ex F H) (h1 : (b == a) = false := by decide +kernel) : ∃ w, f.r F w z.2.1 ∧ ∀ ⦃σ ta⦄, Val ta σ H v → Val (tFld K ta b) σ H w := by
  obtain ⟨p, dx, fs, rfl, hp, u, w, y, t, rfl, r1, r2, r3, r4⟩ := r
  exact ⟨w, r2, fun _ _ ha Q k => ha _ ⟨p, C, dx, _, w, rfl, h _ _ hp, cl, na, ((lk_ne h1).trans lk_eq), k⟩⟩
theorem fl_43 (cl : Cls K C) (na : NoAttr K C c) (r : (pO4 C a b c d e f g i).r F v z) (h : Ex F H) (h1 : (c == a) = false := by decide +kernel) (h2 : (c == b) = false := by decide +kernel) : ∃ w, g.r F w z.2.2.1 ∧ ∀ ⦃σ ta⦄, Val ta σ H v → Val (tFld K ta c) σ H w := by
  obtain ⟨p, dx, fs, rfl, hp, u, w, y, t, rfl, r1, r2, r3, r4⟩ := r
  exact ⟨y, r3, fun _ _ ha Q k => ha _ ⟨p, C, dx, _, y, rfl, h _ _ hp, cl, na, ((lk_ne h1).trans ((lk_ne h2).trans lk_eq)), k⟩⟩
theorem me_4 (r : (pO4 C a b c d e f g i).r F v z) (h : Ex F H) (h1 : (m == a) = false := by decide +kernel) (h2 : (m == b) = false := by decide +kernel) (h3 : (m == c) = false := by decide +kernel) (h4 : (m == d) = false := by decide +kernel) : ∃ p dx fs, v = .ref p ∧ H p = some (.ins C dx fs) ∧ fs.lookup m = none := by
  obtain ⟨p, dx, fs, rfl, hp, u, w, y, t, rfl, _⟩ := r
  exact ⟨p, dx, _, rfl, h _ _ hp, (lk_ne h1).trans ((lk_ne h2).trans ((lk_ne h3).trans ((lk_ne h4).trans rfl)))⟩
/-- all that stands in it -/
theorem st_O4 (r : (pO4 C a b c d e f g i).r F v z) (h : Ex F H) (h1 : (b == a) = false := by decide +kernel) (h2 : (c == a) = false := by decide +kernel) (h3 : (c == b) = false := by decide +kernel) (h4 : (d == a) = false := by decide +kernel) (h5 : (d == b) = false := by decide +kernel) (h6 : (d == c) = false := by decide +kernel) :
    ∃ p dx fs u w y t, v = .ref p ∧ H p = some (.ins C dx fs) ∧ fs.lookup a = some u ∧ fs.lookup b = some w ∧ fs.lookup c = some y ∧ fs.lookup d = some t ∧ e.r F u z.1 ∧ f.r F w z.2.1 ∧ g.r F y z.2.2.1 ∧ i.r F t z.2.2.2 ∧ ∀ m : Str, (m == a) = false → (m == b) = false → (m == c) = false → (m == d) = false → fs.lookup m = none := by
  obtain ⟨p, dx, fs, rfl, hp, u, w, y, t, rfl, r1, r2, r3, r4⟩ := r
  exact ⟨p, dx, _, u, w, y, t, rfl, h _ _ hp, lk_eq, (lk_ne h1).trans lk_eq, (lk_ne h2).trans ((lk_ne h3).trans lk_eq), (lk_ne h4).trans ((lk_ne h5).trans ((lk_ne h6).trans lk_eq)), r1, r2, r3, r4, fun m a1 a2 a3 a4 => (lk_ne a1).trans ((lk_ne a2).trans ((lk_ne a3).trans ((lk_ne a4).trans rfl)))⟩
end
section
variable {α : Type} {e : Rep α} {F0 H0 F H : Hp} {p : Addr} {xs : List α} {Q : VK}
/-- xs.pop(), what it tells let go -/
theorem a_pop (x : XL e H0 F H p xs) (w : Wf F0 H0 F H) (hne : xs ≠ []) (k : ∀ v H', Wf F0 H0 F H' → XL e H0 F H' p xs.dropLast → (∀ q o, H q = some o → q ≠ p → H' q = some o) → Q v H') : rPop (.ref p) [] H Q := by
  obtain ⟨vs, a, b⟩ := x.x
  have hl : 0 < vs.length := by rw [b.len]; exact List.length_pos_iff.mpr hne
  refine ⟨p, vs, vs[vs.length - 1]'(by omega), rfl, rfl, a.h, List.getElem?_eq_getElem _, k _ _ (w.set a) ⟨vs.dropLast, a.set, ?_⟩ fun q o h hq => by rw [upd_ne hq]; exact h⟩
  rw [List.dropLast_eq_take, List.dropLast_eq_take, ← b.len]
  exact b.take _
end
section
variable {α κ : Type} [DecidableEq κ] [KeyT κ] {e : Rep α} {σ : L2.St} {H0 F H : Hp} {p : Addr} {m : List (κ × α)} {ta ty td : TE} {j : κ}
theorem nin_BD (r : BD e F H p m) (hy : Val ty σ H (kV (KeyT.k j))) (hd : Val td σ H (.ref p)) : Val (tDNotIn ty td) σ H (.bl (!hasT m j)) := by
  obtain ⟨kvs, hp, a⟩ := r.x
  exact fun Q k => hy _ (hd _ ⟨p, _, rfl, DGet.k hp, by rw [a.has j]; exact k⟩)
theorem len_XD (r : XD e H0 F H p m) (ha : Val ta σ H (.ref p)) : Val (tCB rLenD (tCons ta tNil)) σ H (.int ((m.length : Nat) : Int)) := by
  obtain ⟨kvs, hp, a⟩ := r.rd
  exact v_cb1 ha fun Q k => ⟨p, kvs, rfl, hp, by rw [a.len]; exact k⟩
end
end Wk
namespace Wk
open PySem L2
end Wk
namespace Wk
open PySem L2
end Wk
namespace Wk
open PySem L2
section
variable {K : PySem.W.Frag} {α : Type} {e : Rep α} {F0 H0 F H : Hp} {v : V} {x : α} {xs : List α} {vs : List V} {p : Addr}
theorem All.gl (a : All e F vs xs) (hx : xs.getLast? = some x) : ∃ w ys, vs = ys ++ [w] ∧ e.r F w x := by
  rw [List.getLast?_eq_getElem?] at hx
  obtain ⟨w, h1, h2⟩ := a.get hx
  rw [← a.len, ← List.getLast?_eq_getElem?] at h1
  obtain ⟨ys, hy⟩ := List.getLast?_eq_some_iff.mp h1
  exact ⟨w, ys, hy, h2⟩
theorem ix_Xm (r : XL e H0 F H p xs) (hx : xs.getLast? = some x) : ∃ w, e.r F w x ∧ ∀ ⦃σ ta tb⦄, Val ta σ H (.ref p) → Val tb σ H (.int (-1)) → Val (tOp (rIxL K) ta tb) σ H w := by
  obtain ⟨vs, hp, a⟩ := r.rd
  obtain ⟨w, ys, rfl, h2⟩ := a.gl hx
  exact ⟨w, h2, fun _ _ _ ha hb => v2 ha hb fun Q k => ⟨p, _, _, w, rfl, rfl, SqL.of hp, atI_last ys w, k⟩⟩
end
end Wk
namespace Wk
open PySem L2
instance {α β γ δ : Type} {e : Rep α} {f : Rep β} {g : Rep γ} {i : Rep δ} {n m k l : Nat} [Dao e n] [Dao f m] [Dao g k] [Dao i l] : Dao (pT4 e f g i) (max n (max m (max k l)) + 1) := ⟨fun x => Dao.ok e x.1 ∧ Dao.ok f x.2.1 ∧ Dao.ok g x.2.2.1 ∧ Dao.ok i x.2.2.2, fun x => .tuple [Dao.d e x.1, Dao.d f x.2.1, Dao.d g x.2.2.1, Dao.d i x.2.2.2], fun {K F v x} h => by
    obtain ⟨p, u, w, y, z, rfl, hp, a, b, c, d⟩ := h
    exact .tup (SqT.of hp) (.cons (Dao.dp a) (.cons (Dao.dp b) (.cons (Dao.dp c) (.cons (Dao.dp d) .nil)))), fun x h => by
    show (PyData.canLay0 (Dao.d e x.1) && (PyData.canLay0 (Dao.d f x.2.1) && (PyData.canLay0 (Dao.d g x.2.2.1) && (PyData.canLay0 (Dao.d i x.2.2.2) && PyData.canLayAll0 [])))) = true
    rw [Dao.lay _ h.1, Dao.lay _ h.2.1, Dao.lay _ h.2.2.1, Dao.lay _ h.2.2.2]; rfl, fun x => by
    have a := Dao.dep (e := e) x.1
    have b := Dao.dep (e := f) x.2.1
    have c := Dao.dep (e := g) x.2.2.1
    have d := Dao.dep (e := i) x.2.2.2
    simp only [PyData.depth, PyData.depthAll]
    omega, fun x y => by
    show (PyData.eqv (Dao.d e x.1) (Dao.d e y.1) && (PyData.eqv (Dao.d f x.2.1) (Dao.d f y.2.1) && (PyData.eqv (Dao.d g x.2.2.1) (Dao.d g y.2.2.1) && (PyData.eqv (Dao.d i x.2.2.2) (Dao.d i y.2.2.2) && PyData.eqvAll [] [])))) = true ↔ _
    have z : PyData.eqvAll [] [] = true := rfl
    rw [z, Bool.and_true, Bool.and_eq_true, Bool.and_eq_true, Bool.and_eq_true, Dao.inj, Dao.inj, Dao.inj, Dao.inj, Prod.ext_iff, Prod.ext_iff, Prod.ext_iff]⟩
end Wk
namespace Wk
open PySem L2
end Wk
namespace Wk
open PySem L2
section
variable {α κ : Type} [DecidableEq κ] [KeyT κ] {e : Rep α} {K : PySem.W.Frag} {σ : L2.St} {F0 H0 F H F' H' : Hp} {d p : Addr} {od : Obj} {kvs : List (Key × V)} {m : List (κ × α)} {td ty : TE} {g : TG} {tb : TS} {D : Ends} {v : V} {x : α} {j : κ}
abbrev lk1 (F : Hp) (d : Addr) (od : Obj) (kvs : List (Key × V)) : Hp := upd F d (.frz od (.dK kvs))
end
end Wk
namespace Wk
open PySem L2
theorem BL.lend {α : Type} {e : Rep α} {F0 H0 F H : Hp} {p : Addr} {xs : List α} (b : BL e F H p xs) (w : Wf F0 H0 F H) : ∃ Fl, Ex Fl H ∧ Ex F Fl ∧ (pL e).r Fl (.ref p) xs := by
  obtain ⟨vs, h, a⟩ := b.x
  have g : Ex F (upd F p (.lst vs)) := fun q u hq => by
    by_cases c : q = p
    · subst c
      have := w.f _ _ hq
      rw [h] at this; cases this; exact upd_same
    · rw [upd_ne c]; exact hq
  exact ⟨upd F p (.lst vs), fun q u hq => by
    by_cases c : q = p
    · subst c; rw [upd_same] at hq; cases hq; exact h
    · rw [upd_ne c] at hq; exact w.f q u hq, g, p, vs, rfl, upd_same, a.mono g⟩
end Wk
namespace Wk
open PySem L2
end Wk
namespace Wk
open PySem L2 ClX
/-- B.__init__(self, ..), B an own class over ValueError without an __init__ of its own -/
def tWeI (K : PySem.W.Frag) (B : Addr) (to : TE) (ta : TA) : TE := fun σ H Q => to σ H fun x H1 => x = .ref B ∧ ta σ H1 fun vs H2 => ∃ (a C : Addr) (ws : List V), vs = .ref a :: ws ∧ ws.length ≤ 1000 ∧ OexC K C ∧ H2 a = some (exo a C none) ∧ Q .non H2
section
variable {X : Cx} {o e : Expr} {es : List Expr} {to te : TE} {ta : TA} {B : Addr} {p p' apos pos : Pos} {pl : Sem Bool}
theorem pe_weinit (r : CRead X.K B (.type "type")) (vB : PySem.W.findCls X.K (.ref B) (.type "type") "__init__" = some (.val (.builtin "ValueError.__init__"))) (ho : PE X o to) (ha : PA X (e :: es) ta)
    (hst : starEach (e :: es) X.env = (false, eval e X.env) :: starEach es X.env := by rfl) (hpl : (backTo pos (starEach es X.env)).any (·.1) = false := by rfl)
    (ht : eval (.Call (.Attribute o "__init__" apos) (e :: es) [] pos) X.env = (do
      let ov ← eval o X.env
      standAt apos.atName
      let (f, first) ← holding [ov] (getMethod ov "__init__" pl)
      callWith pos f first (backTo pos (starEach (e :: es) X.env)) (backToKw pos (keywordEach [] X.env))) := by rfl) :
    PE X (.Call (.Attribute o "__init__" apos) (e :: es) [] pos) (tWeI X.K B to ta) := by
  refine ⟨fun pins s σ H Q I h => ?_⟩
  refine PySem.W.methodCall_KW (pl := pl) (thn (ho.run pins s σ H _ I h) fun u s1 ⟨x, H1, I1, rx, ex, q⟩ => ?_) ht
  subst ex
  obtain rfl : u = Value.ref B := rx
  refine PySem.W.method_cls I1.kIn r.ga (PySem.W.cls_value I1.kIn r.rd vB rfl ?_)
  show wpAny _ _ (callWith pos (Value.builtin "ValueError.__init__") [] (backTo pos (starEach (e :: es) X.env)) []) _ _ _
  refine PyProof.Rows.callWith_method1 (thn (ha.run pos pins _ σ H1 _ (I1.tok _) q) fun us s2 ⟨vs, H2, I2, r2, a, C, ws, ev, hl, T, ea, q2⟩ => ?_) hst hpl
  subst ev
  cases r2 with
  | @cons _ u0 _ ur ra rw' =>
    obtain rfl : u0 = Value.ref a := ra
    have hlen : ur.length ≤ sizeLine := by
      rw [← Paired.length rw', sizeLine_eq]
      omega
    exact oinit_ok T I2 ea hlen fun s' J => ⟨.non, H2, J, rfl, q2⟩
end
/-- C.__init__(self, x): B.__init__(self, text); self.f = x -/
def sp_xi (f : Str) (C : Addr) : Sp := fun vs H Q _ => ∃ (a : Addr) (v : V), vs = [.ref a, v] ∧ H a = some (exo a C none) ∧ ∀ d, H d = none → d ≠ a → Q .non (upd (upd H d (exd d [(f, v)])) a (exo a C (some d)))
/-- raise C(x) -/
def tRaiseX (W : WX) (C : Addr) (f : Str) (ta : TA) : TS := fun _ σ H => tMkO C (sp_xi f C) [] ta σ H fun cls d H' => W cls d σ H'
section
variable {W : WX} {C : Addr} {f : Str} {ta : TA} {D : Ends} {σ : L2.St} {H : Hp} {v : V}
theorem a_raiseX {t : TE} (hv : Val t σ H v) (h : ∀ d, H d = none → W (.ref C) (some d) σ (upd H d (.xd [(f, v)]))) : tRaiseX W C f (tCons t tNil) D σ H := by
  unfold tRaiseX tMkO
  refine a_val hv (a_nil ?_)
  refine ⟨(show (1 : Nat) ≤ 1000 by decide), fun a ha => ⟨a, v, rfl, upd_same, fun d hd hda => ⟨rfl, d, [(f, v)], upd_same, ?_, ?_, ?_⟩⟩⟩
  · rw [upd_ne hda, upd_same]
  · rw [upd_ne hda] at hd; exact hd
  · have e : upd (del (upd (upd (upd H a (exo a C none)) d (exd d [(f, v)])) a (exo a C (some d))) a) d (.xd [(f, v)]) = upd H d (.xd [(f, v)]) := by
      funext b
      by_cases h1 : b = d
      · rw [h1, upd_same, upd_same]
      · rw [upd_ne h1, upd_ne h1]
        by_cases h2 : b = a
        · rw [h2, del_same, ha]
        · rw [del_ne h2, upd_ne h2, upd_ne h1, upd_ne h2]
    rw [e]
    rw [upd_ne hda] at hd
    exact h d hd
end
end Wk
namespace Wk
open PySem L2 ClX
/-- the __init__ of an exception class of the program -/
structure Xi (P : Program) (w : World) (K : PySem.W.Frag) (mg : Str → Option Value) (base : Heap) (CX : CXT) (k : Nat) (C : Addr) (ps : List Str) (sp : Sp) : Prop where
  ex : ∃ f fd, FnOk P w K mg base CX k f fd ps sp ∧ (PySem.W.findIn K (.ref C) "__init__" = some (some (.ref f)) ∧ PySem.W.typeIn K (.ref f) = some (.type "function")) ∧ Binds K fd ps []
section
variable {X : Cx} {k : Nat} {C : Addr} {x f : Str} {ps : List Str} {W : WX} {e : Expr} {te : TE} {p pos rpos : Pos}
theorem ps_raiseX (M : Xi X.prog X.w X.K X.mg X.base CX0 k C ps (sp_xi f C)) (T : OexC X.K C) (hc : X.calm = true) (tk : Takes X W) (hr : Room (k + 1) X.A) (hg : Gl X x) (hm : X.mg x = some (.ref C)) (he : PE X e te)
    (hdb : (x == ("__debug__" : Str)) = false := by decide) (hs : starEach [e] X.env = (false, eval e X.env) :: starEach [] X.env := by rfl) (hpl : (backTo pos (starEach [] X.env)).any (·.1) = false := by rfl) :
    PS X (.Raise (some (.Call (.Name x p) [e] [] pos)) none rpos) (tRaiseX W C f (tCons te tNil)) := by
  obtain ⟨f1, fd, F, ⟨iC, tI⟩, hb⟩ := M.ex
  exact ps_raise hc tk (pmk_oex T iC tI F hr hb .nil pass0 hg hm (pa_cons he pa_nil hs) hdb hs hpl)
end
end Wk
namespace Wk
open PySem L2 ClX
/-- the dict of an exception with one field -/
def pXd {α : Type} (f : Str) (e : Rep α) : Rep α := ⟨fun F v z => ∃ d w, v = .ref d ∧ F d = some (.xd [(f, w)]) ∧ e.r F w z, fun h q => by
  obtain ⟨d, w, rfl, hd, r⟩ := q
  exact ⟨d, w, rfl, h _ _ hd, e.mono h r⟩⟩
section
variable {α : Type} {f : Str} {e : Rep α} {F H : Hp} {d a C : Addr} {v w : V} {z : α} {K : PySem.W.Frag} {i : Nat} {σ : L2.St}
theorem pXd.get (r : (pXd f e).r F (.ref d) z) : ∃ w, F d = some (.xd [(f, w)]) ∧ e.r F w z := by
  obtain ⟨d', w, q, hd, r⟩ := r
  cases q
  exact ⟨w, hd, r⟩
theorem pXd.mk (hf : Ex F H) (n : H d = none) (r : e.r F v z) : (pXd f e).r (upd F d (.xd [(f, v)])) (.ref d) z :=
  ⟨d, v, rfl, upd_same, e.mono (Wf.new hf n).g r⟩
theorem v_xf (hs : σ[i]? = some (some (.ref a))) (hd : H d = some (.xd [(f, w)])) : Val (tXf a (.ref C) (some d) C f (tVar i)) σ H w := fun Q k =>
  ⟨_, hs, rfl, rfl, d, [(f, w)], w, rfl, hd, by simp [List.lookup], k⟩
end
/-- what the walk asks of an exception's class with a field -/
structure XF (K : PySem.W.Frag) (mg : Str → Option Value) (n : Str) (C : Addr) (f : Str) : Prop where
  g : mg n = some (.ref C)
  ox : OexC K C
  xf : XfC K C
  no : PySem.W.findIn K (.ref C) f = some none
end Wk
namespace Wk
open PySem PySem.Spec PySem.Calls PyProof.Rows L2 PySem.W
end Wk
namespace Wk
open PySem PySem.Spec PyProof.Rows L2
end Wk
namespace Wk
open PySem L2 ClX
section
variable {α : Type} {e : Rep α} {W : WX} {C B : Addr} {f : Str} {ta : TA} {D : Ends} {σ : L2.St} {F H : Hp} {v : V} {z : α} {K : PySem.W.Frag}
theorem a_raiseX2 {t : TE} (hv : Val t σ H v) (w : Ex F H) (r : e.r F v z) (h : ∀ d F' H', Wf F H F' H' → (pXd f e).r F' (.ref d) z → W (.ref C) (some d) σ H') : tRaiseX W C f (tCons t tNil) D σ H :=
  a_raiseX hv fun d hd => h d _ _ (Wf.new w hd) (pXd.mk w hd r)
/-- C.__init__(self, x), walked -/
theorem x_init {tm : TE} {m : Str} (T : OexC K C) (no : PySem.W.findIn K (.ref C) f = some none) {a : Addr} (h0 : σ[0]? = some (some (.ref a))) (h1 : σ[1]? = some (some v)) (ho : H a = some (exo a C none)) (hm : Val tm σ H (.str m))
    (hQ : ∀ d, H d = none → d ≠ a → D.nx σ (upd (upd H d (exd d [(f, v)])) a (exo a C (some d)))) :
    tSeq (tDrop (tWeI K B (tC (.ref B)) (tCons (tVar 0) (tCons tm tNil)))) (tOst K f (tVar 0) (tVar 1)) D σ H := by
  show tWeI K B (tC (.ref B)) (tCons (tVar 0) (tCons tm tNil)) σ H fun _ H1 => tOst K f (tVar 0) (tVar 1) D σ H1
  unfold tWeI
  show (V.ref B = .ref B) ∧ _
  refine ⟨rfl, ?_⟩
  refine a_val (val_var h0) (a_val hm (a_nil ?_))
  refine ⟨a, C, [.str m], rfl, (show (1 : Nat) ≤ 1000 by decide), T, ho, ?_⟩
  exact val_var h1 _ (val_var h0 _ ⟨a, C, rfl, T, no, .inl ⟨ho, hQ⟩⟩)
end
end Wk
namespace Wk
open PySem L2
mutual
/-- as data (what is only of a told kind: nothing) -/
def dA : An → PyData
  | .i n => .int n
  | .b b => .bool b
  | .n => .none
  | .s x => .str x
  | .o _ => .none
  | .l xs => .list (dAs xs)
  | .t xs => .tuple (dAs xs)
def dAs : List An → List PyData
  | [] => []
  | x :: xs => dA x :: dAs xs
end
mutual
def anP : An → Bool
  | .o _ => false
  | .l xs => anPs xs
  | .t xs => anPs xs
  | .i _ => true
  | .b _ => true
  | .n => true
  | .s _ => true
def anPs : List An → Bool
  | [] => true
  | x :: xs => anP x && anPs xs
end
/-- can be compared -/
def aok (x : An) : Bool := anP x && SeqAt.shaped (dA x)
/-- compared -/
def aeq (x y : An) : Bool := PyData.eqv (dA x) (dA y)
mutual
theorem dp_A {K : PySem.W.Frag} {F : Hp} : ∀ {x : An} {v : V}, pA.r F v x → anP x = true → Dp K F v (dA x)
  | .i n, v, r, _ => by cases (show v = V.int n from r); exact .int _
  | .b b, v, r, _ => by cases (show v = V.bl b from r); exact .bl _
  | .n, v, r, _ => by cases (show v = V.non from r); exact .non
  | .s x, v, r, _ => by cases (show v = V.str x from r); exact .str _
  | .o T, _, _, h => by cases h
  | .l xs, v, r, h => by
    obtain ⟨p, vs, rfl, hp, a⟩ := (show ∃ p vs, v = .ref p ∧ F p = some (.lst vs) ∧ anRs F xs vs from r)
    exact .lst (SqL.of hp) (dp_As a h)
  | .t xs, v, r, h => by
    obtain ⟨p, vs, rfl, hp, a⟩ := (show ∃ p vs, v = .ref p ∧ F p = some (.tup vs) ∧ anRs F xs vs from r)
    exact .tup (SqT.of hp) (dp_As a h)
theorem dp_As {K : PySem.W.Frag} {F : Hp} : ∀ {xs : List An} {vs : List V}, anRs F xs vs → anPs xs = true → DpAll K F vs (dAs xs)
  | [], [], _, _ => .nil
  | x :: xs, v :: vs, ⟨a, b⟩, h => by
    obtain ⟨h1, h2⟩ := Bool.and_eq_true_iff.mp h
    exact .cons (dp_A a h1) (dp_As b h2)
  | [], _ :: _, r, _ => r.elim
  | _ :: _, [], r, _ => r.elim
end
section
variable {K : PySem.W.Frag} {σ : L2.St} {F F' H : Hp} {ta tb : TE} {v w : V} {x y : An}
theorem c_eqA (ha : Val ta σ H v) (hb : Val tb σ H w) (f : Ex F H) (r : pA.r F v x) (g : Ex F' H) (s : pA.r F' w y) (h : aok x = true ∧ aok y = true) : Val (tOp (rEqD K) ta tb) σ H (.bl (decide (aeq x y = true))) := by
  obtain ⟨a1, a2⟩ := Bool.and_eq_true_iff.mp h.1
  obtain ⟨b1, b2⟩ := Bool.and_eq_true_iff.mp h.2
  exact v2 ha hb fun Q k => ⟨_, _, dp_A (pA.mono f r) a1, dp_A (pA.mono g s) b1, a2, b2, by
    have z : PyData.eqv (dA x) (dA y) = decide (aeq x y = true) := by
      unfold aeq
      cases PyData.eqv (dA x) (dA y) <;> rfl
    rw [z]; exact k⟩
end
end Wk
namespace Wk
open PySem L2
/-- a list of two, of three things of unlike kinds -/
def pH2 {α β : Type} (e : Rep α) (f : Rep β) : Rep (α × β) := ⟨fun F v x => ∃ p u w, v = .ref p ∧ F p = some (.lst [u, w]) ∧ e.r F u x.1 ∧ f.r F w x.2, fun h ⟨p, u, w, a, b, c, d⟩ => ⟨p, u, w, a, h _ _ b, e.mono h c, f.mono h d⟩⟩
def pH3 {α β γ : Type} (e : Rep α) (f : Rep β) (g : Rep γ) : Rep (α × β × γ) := ⟨fun F v x => ∃ p u w y, v = .ref p ∧ F p = some (.lst [u, w, y]) ∧ e.r F u x.1 ∧ f.r F w x.2.1 ∧ g.r F y x.2.2, fun h ⟨p, u, w, y, a, b, c, d, k⟩ => ⟨p, u, w, y, a, h _ _ b, e.mono h c, f.mono h d, g.mono h k⟩⟩
section
variable {α β γ : Type} {e : Rep α} {f : Rep β} {g : Rep γ} {K : PySem.W.Frag} {F0 H0 F H : Hp} {v w u : V} {x : α} {y : β} {z : γ} {Q : VK} {n m k : Nat}
instance [Dat e n] [Dat f m] : Dat (pH2 e f) (max n m + 1) := ⟨fun x => .list [Dat.d e x.1, Dat.d f x.2], fun {K F v x} h => by
    obtain ⟨p, u, w, rfl, hp, a, b⟩ := h
    exact .lst (SqL.of hp) (.cons (Dat.dp a) (.cons (Dat.dp b) .nil)), fun x => by
    show (PyData.canLay0 (Dat.d e x.1) && (PyData.canLay0 (Dat.d f x.2) && PyData.canLayAll0 [])) = true
    rw [Dat.lay, Dat.lay]; rfl, fun x => by
    have a := Dat.dep (e := e) x.1
    have b := Dat.dep (e := f) x.2
    simp only [PyData.depth, PyData.depthAll]
    omega, fun x y => by
    show (PyData.eqv (Dat.d e x.1) (Dat.d e y.1) && (PyData.eqv (Dat.d f x.2) (Dat.d f y.2) && PyData.eqvAll [] [])) = true ↔ _
    have z : PyData.eqvAll [] [] = true := rfl
    rw [z, Bool.and_true, Bool.and_eq_true, Dat.inj, Dat.inj, Prod.ext_iff]⟩
instance [Dat e n] [Dat f m] [Dat g k] : Dat (pH3 e f g) (max n (max m k) + 1) := ⟨fun x => .list [Dat.d e x.1, Dat.d f x.2.1, Dat.d g x.2.2], fun {K F v x} h => by
    obtain ⟨p, u, w, y, rfl, hp, a, b, c⟩ := h
    exact .lst (SqL.of hp) (.cons (Dat.dp a) (.cons (Dat.dp b) (.cons (Dat.dp c) .nil))), fun x => by
    show (PyData.canLay0 (Dat.d e x.1) && (PyData.canLay0 (Dat.d f x.2.1) && (PyData.canLay0 (Dat.d g x.2.2) && PyData.canLayAll0 []))) = true
    rw [Dat.lay, Dat.lay, Dat.lay]; rfl, fun x => by
    have a := Dat.dep (e := e) x.1
    have b := Dat.dep (e := f) x.2.1
    have c := Dat.dep (e := g) x.2.2
    simp only [PyData.depth, PyData.depthAll]
    omega, fun x y => by
    show (PyData.eqv (Dat.d e x.1) (Dat.d e y.1) && (PyData.eqv (Dat.d f x.2.1) (Dat.d f y.2.1) && (PyData.eqv (Dat.d g x.2.2) (Dat.d g y.2.2) && PyData.eqvAll [] []))) = true ↔ _
    have z : PyData.eqvAll [] [] = true := rfl
    rw [z, Bool.and_true, Bool.and_eq_true, Bool.and_eq_true, Dat.inj, Dat.inj, Dat.inj, Prod.ext_iff, Prod.ext_iff]⟩
end
end Wk
namespace Wk
open PySem L2
end Wk
namespace Wk
open PySem L2
end Wk
namespace Wk
open PySem L2
end Wk
namespace Wk
open PySem PySem.Spec PyProof.Rows L2
end Wk
namespace Wk
open PySem PySem.Spec PyProof.Rows L2
/-- reversed(x), the next place i -/
def IsRv (h : Heap) (a : Addr) (x : Str) (t : Tok) (i : Int) : Prop := ∃ ob, h.get? a = some ob ∧ ob.cls = .type "reversed" ∧ ob.data = .fields #[.str x t, rawInt i]
section
variable {prog : Program} {w : World} {A : Around} {E : Value → Shared → Prop} {s : Shared}
theorem IsRv.ty {a : Addr} {x : Str} {t : Tok} {i : Int} (q : IsRv s.heap a x t i) : s.TypeIs (.ref a) "reversed" := let ⟨ob, ho, hc, _⟩ := q; ⟨ob, ho, hc⟩
end
end Wk
namespace Wk
open PySem PySem.Spec PyProof.Rows L2
theorem kit_ty {K : PySem.W.Frag} {S : Addr} {T : String} {b : Bool} (hT : PySem.W.kitMeta T = true) (h : PySem.W.subIn K (.ref S) (.type T) = some b) : PySem.W.kitOne K (.ref S) (.type T) = some b := by
  show (if ((Value.ref S == Value.type T) = true) then some true else (if PySem.W.kitMeta T = true then PySem.W.subIn K (.ref S) (.type T) else none)) = some b
  rw [if_neg (by intro z; cases beq_iff_eq.mp z), if_pos hT]; exact h
end Wk
namespace Wk
open PySem PySem.Spec PyProof.Rows L2
end Wk
namespace Wk
open PySem L2
/-- what is read so is read so, too -/
def Cy {α : Type} (e f : Rep α) : Prop := ∀ {F : Hp} {v : V} {x : α}, e.r F v x → f.r F v x
theorem cy_id {α : Type} {e : Rep α} : Cy e e := fun r => r
theorem cy_all {α : Type} {e f : Rep α} (h : Cy e f) {F : Hp} : ∀ {vs : List V} {xs : List α}, All e F vs xs → All f F vs xs
  | [], [], _ => trivial
  | _ :: _, _ :: _, ⟨a, b⟩ => ⟨h a, cy_all h b⟩
  | [], _ :: _, q => q.elim
  | _ :: _, [], q => q.elim
theorem cy_L {α : Type} {e f : Rep α} (h : Cy e f) : Cy (pL e) (pL f) := fun ⟨p, vs, a, b, c⟩ => ⟨p, vs, a, b, cy_all h c⟩
theorem cy_LS {α : Type} {e f : Rep α} (h : Cy e f) : Cy (pL e) (pSq f) := fun ⟨p, vs, a, b, c⟩ => ⟨p, vs, a, .inl b, cy_all h c⟩
theorem cy_TS {α : Type} {e f : Rep α} (h : Cy e f) : Cy (pTL e) (pSq f) := fun ⟨p, vs, a, b, c⟩ => ⟨p, vs, a, .inr b, cy_all h c⟩
theorem cy_T2 {α β : Type} {e f : Rep α} {g k : Rep β} (h : Cy e f) (h2 : Cy g k) : Cy (pT2 e g) (pT2 f k) := fun ⟨p, u, w, a, b, c, d⟩ => ⟨p, u, w, a, b, h c, h2 d⟩
section
variable {α : Type} {e : Rep α} {K : PySem.W.Frag} {σ : L2.St} {F F' H : Hp} {ta tb : TE} {v w : V} {x : An} {ys : List An}
theorem len_Sq {xs : List α} (r : (pSq e).r F v xs) (h : Ex F H) (ha : Val ta σ H v) : Val (tCB (rLen K) (tCons ta tNil)) σ H (.int ((xs.length : Nat) : Int)) := by
  obtain ⟨p, vs, rfl, hp, a⟩ := r
  rw [← a.len]
  rcases hp with hp | hp
  · exact v_cb1 ha fun Q k => ⟨p, vs, rfl, .inl (SqL.of (h _ _ hp)), k⟩
  · exact v_cb1 ha fun Q k => ⟨p, vs, rfl, .inr (SqT.of (h _ _ hp)), k⟩
theorem n_tupSq {F0 H0 : Hp} {Q : VK} {xs : List α} (r : (pSq e).r F v xs) (w : Wf F0 H0 F H) (k : ∀ p F' H', Wf F H F' H' → (pTL e).r F' (.ref p) xs → Q (.ref p) H') : rTupOf K [v] H Q := by
  obtain ⟨p, vs, rfl, hp | hp, a⟩ := r
  · exact n_tupOf ⟨p, vs, rfl, hp, a⟩ w k
  · exact ⟨p, vs, rfl, .inr ⟨SqT.of (w.f _ _ hp), k p _ _ (Wf.id w.f) ⟨p, vs, rfl, hp, a⟩⟩⟩
end
section
variable {α β γ δ : Type} {e : Rep α} {f : Rep β} {g : Rep γ} {k4 : Rep δ} {K : PySem.W.Frag} {σ : L2.St} {F0 H0 F H : Hp} {te tl th ta : TE} {tp tq : TO} {Q : VK} {v : V}
theorem ty_T4 {x : α × β × γ × δ} (r : (pT4 e f g k4).r F v x) (h : Ex F H) : TyX K H v (.type "tuple") := by
  obtain ⟨p, u, w, y, z, rfl, hp, _⟩ := r
  exact .base (.tup (h _ _ hp))
end
end Wk
namespace Wk
open PySem PySem.Spec PyProof.Rows L2
end Wk
namespace Wk
open PySem L2
instance {α β γ δ : Type} {e : Rep α} {f : Rep β} {g : Rep γ} {i : Rep δ} {n m k l : Nat} [Dao e n] [Dao f m] [Dao g k] [Dao i l] : Dao (pT4 e f g i) (max n (max m (max k l)) + 1) := ⟨fun x => Dao.ok e x.1 ∧ Dao.ok f x.2.1 ∧ Dao.ok g x.2.2.1 ∧ Dao.ok i x.2.2.2, fun x => .tuple [Dao.d e x.1, Dao.d f x.2.1, Dao.d g x.2.2.1, Dao.d i x.2.2.2], fun {K F v x} h => by
    obtain ⟨p, u, w, y, z, rfl, hp, a, b, c, d⟩ := h
    exact .tup (SqT.of hp) (.cons (Dao.dp a) (.cons (Dao.dp b) (.cons (Dao.dp c) (.cons (Dao.dp d) .nil)))), fun x h => by
    show (PyData.canLay0 (Dao.d e x.1) && (PyData.canLay0 (Dao.d f x.2.1) && (PyData.canLay0 (Dao.d g x.2.2.1) && (PyData.canLay0 (Dao.d i x.2.2.2) && PyData.canLayAll0 [])))) = true
    rw [Dao.lay _ h.1, Dao.lay _ h.2.1, Dao.lay _ h.2.2.1, Dao.lay _ h.2.2.2]; rfl, fun x => by
    have a := Dao.dep (e := e) x.1
    have b := Dao.dep (e := f) x.2.1
    have c := Dao.dep (e := g) x.2.2.1
    have d := Dao.dep (e := i) x.2.2.2
    simp only [PyData.depth, PyData.depthAll]
    omega, fun x y => by
    show (PyData.eqv (Dao.d e x.1) (Dao.d e y.1) && (PyData.eqv (Dao.d f x.2.1) (Dao.d f y.2.1) && (PyData.eqv (Dao.d g x.2.2.1) (Dao.d g y.2.2.1) && (PyData.eqv (Dao.d i x.2.2.2) (Dao.d i y.2.2.2) && PyData.eqvAll [] [])))) = true ↔ _
    have z : PyData.eqvAll [] [] = true := rfl
    rw [z, Bool.and_true, Bool.and_eq_true, Bool.and_eq_true, Bool.and_eq_true, Dao.inj, Dao.inj, Dao.inj, Dao.inj, Prod.ext_iff, Prod.ext_iff, Prod.ext_iff]⟩
instance decSum {α β : Type} [DecidableEq α] [DecidableEq β] : DecidableEq (Sum α β) := instDecidableEqSum
/-- never alike -/
class Dsj {α β : Type} (e : Rep α) (f : Rep β) (n m : outParam Nat) [Dao e n] [Dao f m] : Prop where
  l : ∀ x y, PyData.eqv (Dao.d e x) (Dao.d f y) = false
  r : ∀ x y, PyData.eqv (Dao.d f y) (Dao.d e x) = false
instance {α β γ α' β' γ' δ' : Type} {e : Rep α} {f : Rep β} {g : Rep γ} {e' : Rep α'} {f' : Rep β'} {g' : Rep γ'} {i' : Rep δ'} {n m k n' m' k' l' : Nat} [Dao e n] [Dao f m] [Dao g k] [Dao e' n'] [Dao f' m'] [Dao g' k'] [Dao i' l'] :
    Dsj (pT3 e f g) (pT4 e' f' g' i') (max n (max m k) + 1) (max n' (max m' (max k' l')) + 1) := ⟨fun x y => by
    show (PyData.eqv _ _ && (PyData.eqv _ _ && (PyData.eqv _ _ && false))) = false
    rw [Bool.and_false, Bool.and_false, Bool.and_false], fun x y => by
    show (PyData.eqv _ _ && (PyData.eqv _ _ && (PyData.eqv _ _ && false))) = false
    rw [Bool.and_false, Bool.and_false, Bool.and_false]⟩
instance {α β : Type} {e : Rep α} {f : Rep β} {n m : Nat} [Dao e n] [Dao f m] [D : Dsj e f n m] : Dao (pAlt e f) (max n m) := ⟨fun x => match x with | .inl y => Dao.ok e y | .inr y => Dao.ok f y, fun x => match x with | .inl y => Dao.d e y | .inr y => Dao.d f y, fun {K F v x} h => match x, h with
    | .inl y, h => Dao.dp (e := e) h
    | .inr y, h => Dao.dp (e := f) h, fun x h => match x, h with
    | .inl y, h => Dao.lay (e := e) y h
    | .inr y, h => Dao.lay (e := f) y h, fun x => match x with
    | .inl y => Nat.le_trans (Dao.dep (e := e) y) (Nat.le_max_left ..)
    | .inr y => Nat.le_trans (Dao.dep (e := f) y) (Nat.le_max_right ..), fun x y => match x, y with
    | .inl a, .inl b => (Dao.inj (e := e) a b).trans ⟨fun h => by rw [h], fun h => Sum.inl.inj h⟩
    | .inr a, .inr b => (Dao.inj (e := f) a b).trans ⟨fun h => by rw [h], fun h => Sum.inr.inj h⟩
    | .inl a, .inr b => ⟨fun h => absurd ((D.l a b).symm.trans h) (by decide), fun h => nomatch h⟩
    | .inr a, .inl b => ⟨fun h => absurd ((D.r b a).symm.trans h) (by decide), fun h => nomatch h⟩⟩
end Wk
namespace Wk
open PySem L2
def pT6 {α β γ δ ε ζ : Type} (e : Rep α) (f : Rep β) (g : Rep γ) (h : Rep δ) (i : Rep ε) (j : Rep ζ) : Rep (α × β × γ × δ × ε × ζ) := ⟨fun F v x => ∃ p u1 u2 u3 u4 u5 u6, v = .ref p ∧ F p = some (.tup [u1, u2, u3, u4, u5, u6]) ∧ e.r F u1 x.1 ∧ f.r F u2 x.2.1 ∧ g.r F u3 x.2.2.1 ∧ h.r F u4 x.2.2.2.1 ∧ i.r F u5 x.2.2.2.2.1 ∧ j.r F u6 x.2.2.2.2.2, fun ex ⟨p, u1, u2, u3, u4, u5, u6, a, b, c1, c2, c3, c4, c5, c6⟩ => ⟨p, u1, u2, u3, u4, u5, u6, a, ex _ _ b, e.mono ex c1, f.mono ex c2, g.mono ex c3, h.mono ex c4, i.mono ex c5, j.mono ex c6⟩⟩
section
variable {α β γ δ ε ζ : Type} {e : Rep α} {f : Rep β} {g : Rep γ} {h : Rep δ} {i : Rep ε} {j : Rep ζ} {K : PySem.W.Frag} {σ : L2.St} {F0 H0 F H : Hp} {ta tb : TE} {Q : VK} {v u1 u2 u3 u4 u5 u6 : V} {x : α × β × γ × δ × ε × ζ} {x1 : α} {x2 : β} {x3 : γ} {x4 : δ} {x5 : ε} {x6 : ζ}
def rMax2 : List V → Hp → VK → Prop := fun xs H Q => ∃ i j, xs = [.int i, .int j] ∧ Q (.int (if i < j then j else i)) H
theorem vi_max2 {a b : Int} (ha : Val ta σ H (.int a)) (hb : Val tb σ H (.int b)) : Val (tCB rMax2 (tCons ta (tCons tb tNil))) σ H (.int (max a b)) := fun Q k =>
  ha _ (hb _ ⟨_, _, rfl, by
    have e : (if a < b then b else a) = max a b := by
      by_cases h : a < b
      · rw [if_pos (by omega)]; omega
      · rw [if_neg (by omega)]; omega
    rw [e]; exact k⟩)
end
end Wk
namespace Wk
open PySem PySem.Spec PyProof.Rows L2 LamX
structure LamS1 (sc scope : Scope) (a : Str) : Prop where
  kind : scope.kind = .function
  co : scope.isCoroutine = false
  gen : scope.isGenerator = false
  par : scope.names.lookup a = some .local
  own : ∀ y ∈ scope.names, y.2 = .local → y.1 = a
  cel : ∀ y ∈ scope.names, y.2 ≠ .cell
  free : ∀ y ∈ scope.names, y.2 = .free → sc.names.lookup y.1 = some .cell ∨ sc.names.lookup y.1 = some .free
theorem LamS1.has {X : Cx} {scope : Scope} {a : Str} (L : LamS1 X.env.scope scope a) (ok : X.Ok) : ∀ y ∈ scope.names, y.2 = .free → ∃ c, X.env.cells.lookup y.1 = some c := fun y hy e => (L.free y hy e).elim (fun k => ok.has _ (.inl k)) fun k => ok.has _ (.inr k)
structure XT (H0 F H : Hp) (P : Addr) (q : Str) : Prop where
  z : H0 P = none
  nF : F P = none
  t : ∃ ps : Array Value, H P = some (.tbl ps) ∧ TriplesOk ps.toList ∧ ∀ x u, codeAmong x ps.toList = some u → ∃ c, u = .ref c ∧ F c = some (CodeO c q)
section
variable {F0 H0 F H F' H' H1 : Hp} {P p : Addr} {q : Str} {L : List Addr} {o : HO}
theorem XT.zero (x : XT H0 F H P q) : H0 P = none := x.z
theorem XT.ne (x : XT H0 F H P q) (h : H p = none) : P ≠ p := let ⟨_, a, _⟩ := x.t; ne_of_none a h
theorem XT.step (x : XT H0 F H P q) (w : Wf F H F' H') : XT H0 F' H' P q := by
  obtain ⟨ps, a, b, c⟩ := x.t
  refine ⟨x.z, ?_, ps, w.h _ _ a, b, fun y u e => let ⟨d, e1, e2⟩ := c y u e; ⟨d, e1, w.g _ _ e2⟩⟩
  cases h : F' P with
  | none => rfl
  | some y => have := w.n P y h x.nF; rw [a] at this; cases this
theorem XT.kept (x : XT H0 F H P q) (h : ∀ r o, H r = some o → r ≠ p → H' r = some o) (hq : P ≠ p) : XT H0 F H' P q := let ⟨ps, a, b⟩ := x.t; ⟨x.z, x.nF, ps, h _ _ a hq, b⟩
theorem XT.frzO (x : XT H0 F H P q) (h : Fz F F' p) (hq : P ≠ p) (g : Ex F F') : XT H0 F' H P q := let ⟨ps, a, b, c⟩ := x.t; ⟨x.z, h _ hq x.nF, ps, a, b, fun y u e => let ⟨d, e1, e2⟩ := c y u e; ⟨d, e1, g _ _ e2⟩⟩
theorem XT.away (x : XT H0 F H P q) (hp : P ∉ L) (s : Wf F (woL H L) F' H') : XT H0 F' H' P q := by
  obtain ⟨ps, a, b, c⟩ := x.t
  refine ⟨x.z, ?_, ps, away_h hp s a, b, fun y u e => let ⟨d, e1, e2⟩ := c y u e; ⟨d, e1, s.g _ _ e2⟩⟩
  cases h : F' P with
  | none => rfl
  | some y => have := s.n P y h x.nF; rw [woL_out hp, a] at this; cases this
theorem XT.toL (x : XT H0 F H P q) (hp : P ∈ L) : XT (woL H L) F H P q := ⟨woL_in hp, x.nF, x.t⟩
theorem XT.fromL (x : XT H1 F H P q) (z : H0 P = none) : XT H0 F H P q := ⟨z, x.nF, x.t⟩
end
end Wk
namespace Wk
open PySem PySem.Spec PyProof.Rows L2 LamX
end Wk
namespace Wk
open PySem L2 LamX
section
variable {α κ : Type} [KeyT κ] {e : Rep α} {F0 H0 F H F' H' G H2 F3 H1 : Hp} {P p : Addr} {q : Str} {L : List Addr} {xs : List α} {k : Nat}
theorem NewOr.away (z : NewOr H0 F G) (c : ∀ a o, G a = some o → ∃ o', H a = some o') (hp : ∀ d ∈ L, G d = none) (w : Wf F (woL H L) F' H') : NewOr H0 F' G := fun a o e => by
  rcases z a o e with ⟨h0, hn⟩ | ⟨h1, h2⟩
  · refine .inl ⟨h0, ?_⟩
    cases q : F' a with
    | none => rfl
    | some u =>
      obtain ⟨o', h⟩ := c a o e
      have := w.n a u q hn
      rw [woL_out (fun z => by rw [hp a z] at e; cases e), h] at this
      cases this
  · exact .inr ⟨w.g _ _ h1, h2⟩
theorem RG.away (g : RG H0 F H G) (hp : ∀ d ∈ L, G d = none) (w : Wf F (woL H L) F' H') : RG H0 F' H' G :=
  ⟨g.z.away (fun a o e => ⟨o, g.h a o e⟩) hp w, fun a o e => w.h a o (by rw [woL_out (fun z => by rw [hp a z] at e; cases e)]; exact g.h a o e)⟩
theorem RD.away (g : RD H0 F H G k) (hp : ∀ d ∈ L, G d = none) (w : Wf F (woL H L) F' H') : RD H0 F' H' G k := by
  have out : ∀ {a o}, G a = some o → a ∉ L := fun e z => by rw [hp _ z] at e; cases e
  refine ⟨g.z.away g.c hp w, fun a o e => ?_, fun a vs e => ?_⟩
  · obtain ⟨o', h⟩ := g.c a o e
    exact ⟨o', w.h _ _ (by rw [woL_out (out e)]; exact h)⟩
  · obtain ⟨ws, h1, h2⟩ := g.l a vs e
    exact ⟨ws, w.h _ _ (by rw [woL_out (out e)]; exact h1), h2⟩
end
end Wk
namespace Wk
end Wk
namespace Wk
open PySem L2
end Wk
namespace Wk
open PySem L2
end Wk
namespace Wk
open PySem L2
instance {α : Type} {e : Rep α} {n : Nat} [Dao e n] : Dsj pN (pL e) 0 (n + 1) := ⟨fun x y => rfl, fun x y => rfl⟩
end Wk
namespace Wk
open PySem L2
instance {α β γ α' β' γ' : Type} {e : Rep α} {f : Rep β} {g : Rep γ} {e' : Rep α'} {f' : Rep β'} {g' : Rep γ'} {n m k n' m' k' : Nat} [Dao e n] [Dao f m] [Dao g k] [Dao e' n'] [Dao f' m'] [Dao g' k'] [D : Dsj f f' m m'] :
    Dsj (pT3 e f g) (pT3 e' f' g') (max n (max m k) + 1) (max n' (max m' k') + 1) := ⟨fun x y => by
    show (PyData.eqv _ _ && (PyData.eqv _ _ && (PyData.eqv _ _ && PyData.eqvAll [] []))) = false
    rw [D.l, Bool.false_and, Bool.and_false], fun x y => by
    show (PyData.eqv _ _ && (PyData.eqv _ _ && (PyData.eqv _ _ && PyData.eqvAll [] []))) = false
    rw [D.r, Bool.false_and, Bool.and_false]⟩
end Wk
namespace Wk
open PySem L2
end Wk
namespace Wk
open PySem PySem.Spec PyProof.Rows L2
end Wk
namespace Wk
open PySem L2
def pT0 : Rep Unit := ⟨fun F v _ => ∃ p, v = .ref p ∧ F p = some (.tup []), fun ex ⟨p, a, b⟩ => ⟨p, a, ex _ _ b⟩⟩
end Wk
namespace Wk
open PySem L2
instance : Dao pT0 1 := ⟨fun _ => True, fun _ => .tuple [], fun {K F v x} h => by
    obtain ⟨p, rfl, hp⟩ := h
    exact .tup (SqT.of hp) .nil, fun _ _ => rfl, fun _ => by simp [PyData.depth, PyData.depthAll], fun x y => ⟨fun _ => rfl, fun _ => rfl⟩⟩
instance {α β γ α' β' : Type} {e : Rep α} {f : Rep β} {g : Rep γ} {e' : Rep α'} {f' : Rep β'} {n m k n' m' : Nat} [Dao e n] [Dao f m] [Dao g k] [Dao e' n'] [Dao f' m'] :
    Dsj (pT3 e f g) (pT2 e' f') (max n (max m k) + 1) (max n' m' + 1) := ⟨fun x y => by
    show (PyData.eqv _ _ && (PyData.eqv _ _ && false)) = false
    rw [Bool.and_false, Bool.and_false], fun x y => by
    show (PyData.eqv _ _ && (PyData.eqv _ _ && false)) = false
    rw [Bool.and_false, Bool.and_false]⟩
instance {α β γ : Type} {e : Rep α} {f : Rep β} {g : Rep γ} {n m k : Nat} [Dao e n] [Dao f m] [Dao g k] : Dsj (pT3 e f g) pT0 (max n (max m k) + 1) 1 := ⟨fun _ _ => rfl, fun _ _ => rfl⟩
instance {α β : Type} {e : Rep α} {f : Rep β} {n m : Nat} [Dao e n] [Dao f m] : Dsj (pT2 e f) pT0 (max n m + 1) 1 := ⟨fun _ _ => rfl, fun _ _ => rfl⟩
instance dsjAlt {α β γ : Type} {e : Rep α} {f : Rep β} {g : Rep γ} {n m k : Nat} [Dao e n] [Dao f m] [Dao g k] [Dsj e f n m] [D1 : Dsj e g n k] [D2 : Dsj f g m k] : Dsj (pAlt e f) g (max n m) k := ⟨fun x y => match x with
    | .inl a => D1.l a y
    | .inr a => D2.l a y, fun x y => match x with
    | .inl a => D1.r a y
    | .inr a => D2.r a y⟩
end Wk
namespace Wk
open PySem L2
end Wk
namespace Wk
open PySem L2
end Wk
namespace Wk
open PySem L2
instance {α β γ δ ε ζ : Type} {e : Rep α} {f : Rep β} {g : Rep γ} {i : Rep δ} {j : Rep ε} {k6 : Rep ζ} {n m k l o q : Nat} [Dao e n] [Dao f m] [Dao g k] [Dao i l] [Dao j o] [Dao k6 q] : Dao (pT6 e f g i j k6) (max n (max m (max k (max l (max o q)))) + 1) := ⟨fun x => Dao.ok e x.1 ∧ Dao.ok f x.2.1 ∧ Dao.ok g x.2.2.1 ∧ Dao.ok i x.2.2.2.1 ∧ Dao.ok j x.2.2.2.2.1 ∧ Dao.ok k6 x.2.2.2.2.2, fun x => .tuple [Dao.d e x.1, Dao.d f x.2.1, Dao.d g x.2.2.1, Dao.d i x.2.2.2.1, Dao.d j x.2.2.2.2.1, Dao.d k6 x.2.2.2.2.2], fun {K F v x} h => by
    obtain ⟨p, u1, u2, u3, u4, u5, u6, rfl, hp, a, b, c, d, m, n⟩ := h
    exact .tup (SqT.of hp) (.cons (Dao.dp a) (.cons (Dao.dp b) (.cons (Dao.dp c) (.cons (Dao.dp d) (.cons (Dao.dp m) (.cons (Dao.dp n) .nil)))))), fun x h => by
    show (PyData.canLay0 (Dao.d e x.1) && (PyData.canLay0 (Dao.d f x.2.1) && (PyData.canLay0 (Dao.d g x.2.2.1) && (PyData.canLay0 (Dao.d i x.2.2.2.1) && (PyData.canLay0 (Dao.d j x.2.2.2.2.1) && (PyData.canLay0 (Dao.d k6 x.2.2.2.2.2) && PyData.canLayAll0 [])))))) = true
    rw [Dao.lay _ h.1, Dao.lay _ h.2.1, Dao.lay _ h.2.2.1, Dao.lay _ h.2.2.2.1, Dao.lay _ h.2.2.2.2.1, Dao.lay _ h.2.2.2.2.2]; rfl, fun x => by
    have a := Dao.dep (e := e) x.1
    have b := Dao.dep (e := f) x.2.1
    have c := Dao.dep (e := g) x.2.2.1
    have d := Dao.dep (e := i) x.2.2.2.1
    have m' := Dao.dep (e := j) x.2.2.2.2.1
    have n' := Dao.dep (e := k6) x.2.2.2.2.2
    simp only [PyData.depth, PyData.depthAll]
    omega, fun x y => by
    show (PyData.eqv (Dao.d e x.1) (Dao.d e y.1) && (PyData.eqv (Dao.d f x.2.1) (Dao.d f y.2.1) && (PyData.eqv (Dao.d g x.2.2.1) (Dao.d g y.2.2.1) && (PyData.eqv (Dao.d i x.2.2.2.1) (Dao.d i y.2.2.2.1) && (PyData.eqv (Dao.d j x.2.2.2.2.1) (Dao.d j y.2.2.2.2.1) && (PyData.eqv (Dao.d k6 x.2.2.2.2.2) (Dao.d k6 y.2.2.2.2.2) && PyData.eqvAll [] [])))))) = true ↔ _
    have z : PyData.eqvAll [] [] = true := rfl
    rw [z, Bool.and_true, Bool.and_eq_true, Bool.and_eq_true, Bool.and_eq_true, Bool.and_eq_true, Bool.and_eq_true, Dao.inj, Dao.inj, Dao.inj, Dao.inj, Dao.inj, Dao.inj, Prod.ext_iff, Prod.ext_iff, Prod.ext_iff, Prod.ext_iff, Prod.ext_iff]⟩
structure XA {α : Type} (e : Rep α) (H0 F H : Hp) (p : Addr) (xs : List α) (n : Nat) : Prop where
  x : ∃ vs, Xc H0 F H p (.lst (vs ++ [.int (n : Int)])) ∧ All e F vs xs
section
variable {α : Type} {e : Rep α} {F0 H0 F F' H H' : Hp} {p q : Addr} {xs : List α} {n : Nat} {Q : VK} {K : PySem.W.Frag} {σ : L2.St} {te tp tq : TE}
theorem XA.step (x : XA e H0 F H p xs n) (w : Wf F H F' H') : XA e H0 F' H' p xs n := let ⟨vs, a, b⟩ := x.x; ⟨vs, a.step w, b.mono w.g⟩
theorem XA.ne (x : XA e H0 F H p xs n) (h : H q = none) : p ≠ q := let ⟨_, a, _⟩ := x.x; a.ne h
theorem XA.kept (x : XA e H0 F H q xs n) (h : ∀ q o, H q = some o → q ≠ p → H' q = some o) (hq : q ≠ p) : XA e H0 F H' q xs n := let ⟨vs, a, b⟩ := x.x; ⟨vs, a.kept h hq, b⟩
theorem XA.frzO (x : XA e H0 F H q xs n) (h : Fz F F' p) (hq : q ≠ p) (g : Ex F F') : XA e H0 F' H q xs n := let ⟨vs, a, b⟩ := x.x; ⟨vs, ⟨a.z, h _ hq a.n, a.h⟩, b.mono g⟩
end
end Wk
namespace Wk
instance dec6 {α β γ δ ε ζ : Type} [DecidableEq α] [DecidableEq β] [DecidableEq γ] [DecidableEq δ] [DecidableEq ε] [DecidableEq ζ] : DecidableEq (α × β × γ × δ × ε × ζ) := fun a b => instDecidableEqProd a b
end Wk
namespace Wk
open PySem PySem.Spec PyProof.Rows L2
end Wk
namespace Wk
open PySem L2
end Wk
namespace Wk
open PySem L2
end Wk
namespace Wk
open PySem L2
section
variable {α β γ : Type} {e : Rep α} {f : Rep β} {g : Rep γ} {F0 H0 F F2 F' H H' : Hp} {p q : Addr} {v : V} {xs : List α} {ys : List β} {m : γ}
theorem fz2 {F1 : Hp} (a : Fz F F1 p) (b : Fz F1 F2 q) : ∀ c, c ≠ p → c ≠ q → F c = none → F2 c = none := fun c h1 h2 h => b c h2 (a c h1 h)
end
end Wk
namespace Wk
open PySem L2
end Wk
namespace Wk
open PySem L2
/-- None or a list -/
instance {α : Type} {e : Rep α} {n : Nat} [D : Dat e n] : Dat (pO (pL e)) (n + 1) := ⟨fun x => match x with | none => .none | some y => Dat.d (pL e) y, fun {K F v x} h => by
    cases x with
    | none => cases (show v = V.non from h); exact .non
    | some y => exact Dat.dp (show (pL e).r F v y from h), fun x => by
    cases x with
    | none => rfl
    | some y => exact Dat.lay (e := pL e) y, fun x => by
    cases x with
    | none => exact Nat.zero_le _
    | some y => exact Dat.dep (e := pL e) y, fun x y => by
    cases x with
    | none =>
      cases y with
      | none => exact ⟨fun _ => rfl, fun _ => rfl⟩
      | some y => exact ⟨fun h => absurd (show false = true from h) (by simp), fun h => by cases h⟩
    | some x =>
      cases y with
      | none => exact ⟨fun h => absurd (show false = true from h) (by simp), fun h => by cases h⟩
      | some y => exact (Dat.inj (e := pL e) x y).trans ⟨fun h => by rw [h], fun h => by cases h; rfl⟩⟩
end Wk
namespace Wk
open PySem L2
section
variable {α : Type} {e : Rep α} {F0 H0 F H : Hp} {p : Addr} {xs : List α} {Q : VK}
/-- xs.reverse() -/
theorem a_rev (x : XL e H0 F H p xs) (w : Wf F0 H0 F H) (k : ∀ H', Wf F0 H0 F H' → XL e H0 F H' p xs.reverse → (∀ q o, H q = some o → q ≠ p → H' q = some o) → Q .non H') : rReverse (.ref p) [] H Q := by
  obtain ⟨vs, a, b⟩ := x.x
  exact ⟨p, vs, rfl, rfl, a.h, k _ (w.set a) ⟨_, a.set, b.rev⟩ fun q o h hq => by rw [upd_ne hq]; exact h⟩
end
end Wk
namespace Wk
open PySem L2
theorem str_all {F : Hp} : ∀ {ys : List Str}, All pS F (ys.map V.str) ys
  | [] => trivial
  | _ :: _ => ⟨rfl, str_all⟩
/-- sorted(xs), xs fewer than 64 texts -/
theorem n_sortS {F0 H0 F H : Hp} {K : PySem.W.Frag} {Q : VK} {v : V} {xs : List Str} (r : (pL pS).r F v xs) (w : Wf F0 H0 F H) (hl : xs.length < 64)
    (k : ∀ (ys : List Str) p H', ys.Perm xs → PyProof.Rows.sortedS ys = true → H p = none → Wf F H F H' → XL pS H0 F H' p ys → Q (.ref p) H') : rSortedS K [v] H Q := by
  obtain ⟨p, vs, rfl, hp, a⟩ := r
  rw [all_str (ys := xs) a] at hp
  exact ⟨p, xs, rfl, SqL.of (w.f _ _ hp), hl, fun ys q h1 h2 hq => k ys q _ h1 h2 hq (Wf.newX w.f hq) ⟨_, Xc.mk' w hq, str_all⟩⟩
end Wk
namespace Wk
open PySem L2
/-- xs.index(x), texts -/
theorem v_indexS {F H : Hp} {K : PySem.W.Frag} {σ : L2.St} {to ta : TE} {v : V} {xs : List Str} {x : Str} (ho : Val to σ H v) (ha : Val ta σ H (.str x)) (r : (pL pS).r F v xs) (f : Ex F H) (h : x ∈ xs) :
    Val (tBM K "list" (rIndex K) to (tCons ta tNil)) σ H (.int ((xs.idxOf x : Nat) : Int)) := fun Q k => by
  obtain ⟨p, vs, rfl, hp, a⟩ := r
  rw [all_str (ys := xs) a] at hp
  have hlt : xs.idxOf x < xs.length := List.idxOf_lt_length_of_mem h
  have hget : xs[xs.idxOf x]? = some x := by rw [List.getElem?_eq_getElem hlt, List.getElem_idxOf hlt]
  refine ho _ ⟨Or.inl ⟨rfl, _, Or.inl (Or.inl (f _ _ hp))⟩, ha _ ⟨p, xs.map V.str, .str x, xs.idxOf x, .str x, rfl, rfl, SqL.of (f _ _ hp), rfl, ?_, by rw [List.getElem?_map, hget]; rfl, ?_, fun m z hm hz => ?_, k⟩⟩
  · rw [List.all_eq_true]
    intro z hz
    obtain ⟨y, _, rfl⟩ := List.mem_map.mp hz
    rfl
  · show (x == x) = true
    exact beq_self_eq_true x
  · rw [List.getElem?_map] at hz
    obtain ⟨y, hy, rfl⟩ := Option.map_eq_some_iff.mp hz
    show (y == x) = false
    have := List.not_of_lt_findIdx (p := fun b => b == x) (show m < xs.findIdx (fun b => b == x) from hm)
    obtain ⟨hl, e⟩ := List.getElem?_eq_some_iff.mp hy
    rw [← e]
    simpa using this
end Wk
namespace Wk
open PySem L2
end Wk
namespace Wk
open PySem L2
/-- places that are new to H0 and to Fa, and hold lists in Fb -/
def Nws (H0 Fa Fb : Hp) (ps : List Addr) : Prop := ∀ p ∈ ps, H0 p = none ∧ Fa p = none ∧ ∃ vs, Fb p = some (.lst vs)
/-- lists of one's own, whatever they hold -/
structure Lks (H0 F H : Hp) (ps : List Addr) : Prop where
  x : ∀ p ∈ ps, ∃ vs, Xc H0 F H p (.lst vs)
/-- new to H0 and Fa -/
def Nw1 (H0 Fa : Hp) (p : Addr) : Prop := H0 p = none ∧ Fa p = none
/-- a new thing of a kind -/
def pFr {α : Type} (H0 Fa : Hp) (e : Rep α) : Rep α := ⟨fun F v x => e.r F v x ∧ ∃ p, v = .ref p ∧ Nw1 H0 Fa p, fun h q => ⟨e.mono h q.1, q.2⟩⟩
section
variable {α β γ δ : Type} {e : Rep α} {f : Rep β} {g : Rep γ} {i : Rep δ} {F0 H0 F H Fa Fb F' H' H1 : Hp} {p q : Addr} {ps qs : List Addr} {xs : List α} {v : V} {D : List Addr}
theorem Nws.app (a : Nws H0 Fa Fb ps) (b : Nws H0 Fa Fb qs) : Nws H0 Fa Fb (ps ++ qs) := fun p hp => (List.mem_append.mp hp).elim (a p) (b p)
theorem Nws.nil : Nws H0 Fa Fb [] := fun p hp => by cases hp
theorem Nws.cons (a : Nw1 H0 Fa p) (r : (pL e).r Fb (.ref p) xs) (b : Nws H0 Fa Fb ps) : Nws H0 Fa Fb (p :: ps) := fun q hq => by
  rcases List.mem_cons.mp hq with h | h
  · subst h
    obtain ⟨p', vs, e1, h1, _⟩ := r
    cases e1
    exact ⟨a.1, a.2, vs, h1⟩
  · exact b q h
theorem Nws.mono (h : Ex Fb F) (a : Nws H0 Fa Fb ps) : Nws H0 Fa F ps := fun p hp => let ⟨x, y, vs, z⟩ := a p hp; ⟨x, y, vs, h _ _ z⟩
theorem XL.nw1 (x : XL e H0 F H p xs) (g : Ex Fa F) : Nw1 H0 Fa p := let ⟨_, a, _⟩ := x.x; ⟨a.z, g.non a.n⟩
theorem XL.nw1c {F1 H1 F2 H2 : Hp} (x : XL e H1 F2 H2 p xs) (wb : Wf F0 H0 F H) (q : Wf F H F1 H1) (g : Ex Fa F) : Nw1 H0 Fa p := by
  have z : H p = none := q.h.non x.zero
  exact ⟨wb.h.non z, g.non (wb.f.non z)⟩
theorem raw_len (r : (pL pV).r F v (ps.map V.ref)) (r2 : (pL e).r F v xs) : ps.length = xs.length := by
  obtain ⟨p, vs, rfl, hp, a⟩ := r
  obtain ⟨q, us, e1, hq, b⟩ := r2
  cases e1
  rw [hp] at hq
  cases hq
  have h1 := a.len; have h2 := b.len
  rw [List.length_map] at h1
  omega
/-- a list of new lists, by its places -/
theorem fr_raw (r : (pL (pFr H0 Fa (pL e))).r F v ys) : ∃ ps : List Addr, (pL pV).r F v (ps.map V.ref) ∧ Nws H0 Fa F ps := by
  obtain ⟨p, vs, rfl, hp, a⟩ := r
  have key : ∀ {vs : List V} {ys : List (List α)}, All (pFr H0 Fa (pL e)) F vs ys → ∃ ps : List Addr, vs = ps.map V.ref ∧ Nws H0 Fa F ps := by
    intro vs
    induction vs with
    | nil => intro ys _; exact ⟨[], rfl, Nws.nil⟩
    | cons u vs ih =>
      intro ys h
      cases ys with
      | nil => exact h.elim
      | cons y ys =>
        obtain ⟨⟨r1, q, e1, n1⟩, t⟩ := h
        obtain ⟨ps, e2, n2⟩ := ih t
        subst e1
        exact ⟨q :: ps, by rw [e2]; rfl, Nws.cons n1 r1 n2⟩
  obtain ⟨ps, e1, n1⟩ := key a
  have al : ∀ us : List V, All pV F us us := fun us => by
    induction us with
    | nil => exact trivial
    | cons u us ih => exact ⟨rfl, ih⟩
  exact ⟨ps, ⟨p, vs, rfl, hp, by rw [e1]; exact al _⟩, n1⟩
theorem Wf.drop (w : Wf F0 H0 F H) (n : ∀ p ∈ D, F0 p = none) : Wf F0 H0 (woL F D) H := ⟨w.h, fun a o h => w.f a o (woL_sub a o h), fun a o h => by
    have z : a ∉ D := fun q => by rw [n a q] at h; cases h
    rw [woL_out z]; exact w.g a o h, fun a o h h0 => w.n a o (woL_sub a o h) h0⟩
theorem drop_ex (g : Ex Fa F) (n : Nws H0 Fa Fb D) : Ex Fa (woL F D) := fun a o h => by
  have z : a ∉ D := fun q => by rw [(n a q).2.1] at h; cases h
  rw [woL_out z]; exact g a o h
theorem drop_one (h : F p = some o) (z : p ∉ D) : woL F D p = some o := by rw [woL_out z]; exact h
theorem Lks.start (n : Nws H0 Fa Fb D) (b : Ex Fb H) : Lks H0 (woL F D) H D := ⟨fun p hp => let ⟨x, _, vs, z⟩ := n p hp; ⟨vs, x, woL_in hp, b _ _ z⟩⟩
theorem Lks.step (l : Lks H0 F H D) (w : Wf F H F' H') : Lks H0 F' H' D := ⟨fun p hp => let ⟨vs, a⟩ := l.x p hp; ⟨vs, a.step w⟩⟩
theorem Lks.clr (l : Lks H0 F H D) (hp : p ∈ D) (x : XL pV H0 F H' p ([] : List V)) (k : ∀ q o, H q = some o → q ≠ p → H' q = some o) : Lks H0 F H' D := ⟨fun q hq => by
  by_cases z : q = p
  · subst z; let ⟨vs, a, _⟩ := x.x; exact ⟨vs, a⟩
  · let ⟨vs, a⟩ := l.x q hq; exact ⟨vs, a.z, a.n, k _ _ a.h z⟩⟩
theorem all_raw : ∀ us : List V, All pV F us us
  | [] => trivial
  | _ :: us => ⟨rfl, all_raw us⟩
theorem Lks.one (l : Lks H0 F H D) (hp : p ∈ D) : ∃ vs, XL pV H0 F H p vs := let ⟨vs, a⟩ := l.x p hp; ⟨vs, vs, a, all_raw vs⟩
theorem forW_skip {S : Type} {xs : List α} {K : Prop} (h : K) : forW xs () (fun _ _ nx _ => nx ()) (fun _ => K) := by
  induction xs with
  | nil => exact h
  | cons x xs ih => exact ih
/-- the new list that is walked over is none of those that are cleared -/
theorem raw_drop {us : List V} (r : (pL pV).r F (.ref p) us) (z : p ∉ D) : (pL pV).r (woL F D) (.ref p) us := by
  obtain ⟨q, vs, e1, h1, a⟩ := r
  cases e1
  refine ⟨p, vs, rfl, drop_one h1 z, ?_⟩
  have key : ∀ {vs us : List V}, All pV F vs us → All pV (woL F D) vs us := by
    intro vs
    induction vs with
    | nil => intro us h; cases us with
      | nil => exact trivial
      | cons y ys => exact h.elim
    | cons u vs ih => intro us h; cases us with
      | nil => exact h.elim
      | cons y ys => exact ⟨h.1, ih h.2⟩
  exact key a
theorem new_notin (h : H p = none) (n : Nws H0 Fa Fb D) (b : Ex Fb H) : p ∉ D := fun q => by
  obtain ⟨_, _, vs, z⟩ := n p q
  rw [b _ _ z] at h; cases h
def nlh (H F : Hp) : Hp := fun a => match H a with
  | some (.lst _) => none
  | _ => F a
theorem nlh_sub : Ex (nlh H F) F := fun a o h => by
  unfold nlh at h
  split at h
  · cases h
  · exact h
theorem nlh_drop (g : Ex F F') (n : Nws H0 Fa Fb D) (b : Ex Fb H) : Ex (nlh H F) (woL F' D) := fun a o h => by
  have z : a ∉ D := fun q => by
    obtain ⟨_, _, vs, z⟩ := n a q
    unfold nlh at h
    rw [b _ _ z] at h; cases h
  rw [woL_out z]; exact g _ _ (nlh_sub _ _ h)
theorem nlh_at (h : F p = some o) (n : ∀ vs, H p ≠ some (.lst vs)) : nlh H F p = some o := by
  unfold nlh
  split
  · rename_i vs e1; exact absurd e1 (n vs)
  · exact h
theorem nol_nlh (h : Ex H H') (f : Ex F H') : Ex (Wk.nl F) (nlh H F) := fun a o q => by
  unfold Wk.nl at q
  cases z : F a with
  | none => rw [z] at q; cases q
  | some o' =>
    rw [z] at q
    cases o' with
    | lst vs => cases q
    | _ =>
      cases q
      exact nlh_at z fun vs e1 => by have := (h _ _ e1).symm.trans (f _ _ z); cases this
theorem nlh_N (N : NoL e) (h : Ex H H') (f : Ex F H') {v : V} {x : α} (r : e.r F v x) : e.r (nlh H F) v x := e.mono (nol_nlh h f) (N r)
theorem nlh_L (N : NoL e) (h : Ex H H') (f : Ex F H') (z : H p = none) (r : (pL e).r F (.ref p) xs) : (pL e).r (nlh H F) (.ref p) xs := by
  obtain ⟨q, vs, e1, h1, a⟩ := r
  cases e1
  exact ⟨p, vs, rfl, nlh_at h1 (fun us e2 => by rw [z] at e2; cases e2), All.mono (nol_nlh h f) (NoL.all N a)⟩
theorem NoL.Alt (h : NoL e) (k : NoL f) : NoL (pAlt e f) := fun {F v x} r => by
  cases x with
  | inl a => exact h r
  | inr b => exact k r
theorem NoL.O2 {C : Addr} {a b : Str} (h : NoL e) (k : NoL f) : NoL (pO2 C a b e f) := fun {F v x} r => by
  obtain ⟨p, dx, fs, rfl, hp, u1, u2, rfl, r1, r2⟩ := r
  exact ⟨p, dx, _, rfl, nl_o hp (fun vs z => by cases z), u1, u2, rfl, h r1, k r2⟩
theorem NoL.W {I S T : Addr} : NoL (pW I S T) := NoL.Alt (NoL.O2 NoL.S NoL.N) (NoL.Alt (NoL.O2 NoL.S (NoL.TL NoL.S)) (NoL.O3 NoL.S NoL.S NoL.N))
theorem NoL.DK {κ : Type} [KeyT κ] (h : NoL e) : NoL (pD (κ := κ) e) := fun {F v m} r => by
  obtain ⟨p, kvs, rfl, hp, a⟩ := r
  refine ⟨p, kvs, rfl, nl_o hp (fun vs z => by cases z), ?_⟩
  have key : ∀ {kvs : List (Key × V)} {m : List (κ × α)}, DA e F kvs m → DA e (Wk.nl F) kvs m := by
    intro kvs
    induction kvs with
    | nil => intro m q; cases m with
      | nil => exact trivial
      | cons y ys => exact q.elim
    | cons u us ih => intro m q; cases m with
      | nil => exact q.elim
      | cons y ys => exact ⟨q.1, h q.2.1, ih q.2.2⟩
  exact key a
/-- an object at its place -/
theorem nlh_ob {C dx : Addr} {fs : List (Str × V)} (z : H p = none) (h : F p = some (.ins C dx fs)) : nlh H F p = some (.ins C dx fs) := nlh_at h fun vs e1 => by rw [z] at e1; cases e1
theorem nlh_call {C dx : Addr} (nx : H p = none) (nd : H dx = none) (hne : dx ≠ p) : nlh (wo (upd (upd H dx (.own p)) p (.ins C dx [])) p) F = nlh H F := by
  funext a
  unfold nlh
  by_cases z : a = p
  · subst z; rw [nx, show wo _ a a = none from if_pos rfl]
  · rw [show wo (upd (upd H dx (.own p)) p (.ins C dx [])) p a = upd (upd H dx (.own p)) p (.ins C dx []) a from if_neg z, upd_ne z]
    by_cases y : a = dx
    · subst y; rw [upd_same, nd]
    · rw [upd_ne y]
def pH4 (e : Rep α) (f : Rep β) (g : Rep γ) (i : Rep δ) : Rep (α × β × γ × δ) := ⟨fun F v x => ∃ p u w y t, v = .ref p ∧ F p = some (.lst [u, w, y, t]) ∧ e.r F u x.1 ∧ f.r F w x.2.1 ∧ g.r F y x.2.2.1 ∧ i.r F t x.2.2.2, fun h ⟨p, u, w, y, t, a, b, c, d, k, l⟩ => ⟨p, u, w, y, t, a, h _ _ b, e.mono h c, f.mono h d, g.mono h k, i.mono h l⟩⟩
variable {x : α} {y : β} {z : γ} {t : δ} {v1 v2 v3 v4 : V} {K : PySem.W.Frag} {Q : VK}
theorem H4_up (r : (pL pV).r F v [v1, v2, v3, v4]) (a : e.r F v1 x) (b : f.r F v2 y) (c : g.r F v3 z) (d : i.r F v4 t) : (pH4 e f g i).r F v (x, y, z, t) := by
  obtain ⟨p, vs, rfl, hp, al⟩ := r
  have : vs = [v1, v2, v3, v4] := by
    match vs, al with
    | [u1, u2, u3, u4], ⟨e1, e2, e3, e4, _⟩ => cases e1; cases e2; cases e3; cases e4; rfl
  subst this
  exact ⟨p, _, _, _, _, rfl, hp, a, b, c, d⟩
theorem T4_up (r : (pT4 pV pV pV pV).r F v (v1, v2, v3, v4)) (a : e.r F v1 x) (b : f.r F v2 y) (c : g.r F v3 z) (d : i.r F v4 t) : (pT4 e f g i).r F v (x, y, z, t) := by
  obtain ⟨p, u1, u2, u3, u4, rfl, hp, e1, e2, e3, e4⟩ := r
  cases e1; cases e2; cases e3; cases e4
  exact ⟨p, _, _, _, _, rfl, hp, a, b, c, d⟩
/-- list(x) of four -/
theorem n_listH4 {q : α × β × γ × δ} (r : (pT4 e f g i).r F v q) (w : Wf F0 H0 F H) (k : ∀ p F' H', Wf F H F' H' → (pH4 e f g i).r F' (.ref p) q → Q (.ref p) H') : rListOf K [v] H Q := by
  obtain ⟨p, a, b, c, d, rfl, hp, ra, rb, rc, rd⟩ := r
  exact ⟨p, [a, b, c, d], rfl, .inr (SqT.of (w.f _ _ hp)), fun l hl => k l _ _ (Wf.new w.f hl) (by
    have m := Ex.new (o := .lst [a, b, c, d]) (w.f.non hl)
    exact ⟨l, a, b, c, d, rfl, upd_same, e.mono m ra, f.mono m rb, g.mono m rc, i.mono m rd⟩)⟩
theorem n_listR4 (r : (pT4 pV pV pV pV).r F v (v1, v2, v3, v4)) (w : Wf F0 H0 F H) (k : ∀ p F' H', H p = none → Wf F H F' H' → (pL pV).r F' (.ref p) [v1, v2, v3, v4] → Q (.ref p) H') : rListOf K [v] H Q := by
  obtain ⟨p, a, b, c, d, rfl, hp, e1, e2, e3, e4⟩ := r
  cases e1; cases e2; cases e3; cases e4
  exact ⟨p, _, rfl, .inr (SqT.of (w.f _ _ hp)), fun l hl => k l _ _ hl (Wf.new w.f hl) ⟨l, _, rfl, upd_same, all_raw _⟩⟩
end
instance {α β γ δ : Type} {e : Rep α} {f : Rep β} {g : Rep γ} {i : Rep δ} {n m k l : Nat} [Dao e n] [Dao f m] [Dao g k] [Dao i l] : Dao (pH4 e f g i) (max n (max m (max k l)) + 1) := ⟨fun x => Dao.ok e x.1 ∧ Dao.ok f x.2.1 ∧ Dao.ok g x.2.2.1 ∧ Dao.ok i x.2.2.2, fun x => .list [Dao.d e x.1, Dao.d f x.2.1, Dao.d g x.2.2.1, Dao.d i x.2.2.2], fun {K F v x} h => by
    obtain ⟨p, u, w, y, z, rfl, hp, a, b, c, d⟩ := h
    exact .lst (SqL.of hp) (.cons (Dao.dp a) (.cons (Dao.dp b) (.cons (Dao.dp c) (.cons (Dao.dp d) .nil)))), fun x h => by
    show (PyData.canLay0 (Dao.d e x.1) && (PyData.canLay0 (Dao.d f x.2.1) && (PyData.canLay0 (Dao.d g x.2.2.1) && (PyData.canLay0 (Dao.d i x.2.2.2) && PyData.canLayAll0 [])))) = true
    rw [Dao.lay _ h.1, Dao.lay _ h.2.1, Dao.lay _ h.2.2.1, Dao.lay _ h.2.2.2]; rfl, fun x => by
    have a := Dao.dep (e := e) x.1
    have b := Dao.dep (e := f) x.2.1
    have c := Dao.dep (e := g) x.2.2.1
    have d := Dao.dep (e := i) x.2.2.2
    simp only [PyData.depth, PyData.depthAll]
    omega, fun x y => by
    show (PyData.eqv (Dao.d e x.1) (Dao.d e y.1) && (PyData.eqv (Dao.d f x.2.1) (Dao.d f y.2.1) && (PyData.eqv (Dao.d g x.2.2.1) (Dao.d g y.2.2.1) && (PyData.eqv (Dao.d i x.2.2.2) (Dao.d i y.2.2.2) && PyData.eqvAll [] [])))) = true ↔ _
    have z : PyData.eqvAll [] [] = true := rfl
    rw [z, Bool.and_true, Bool.and_eq_true, Bool.and_eq_true, Bool.and_eq_true, Dao.inj, Dao.inj, Dao.inj, Dao.inj, Prod.ext_iff, Prod.ext_iff, Prod.ext_iff]⟩
end Wk
namespace My
open PySem L2 Wk
def topS (i : Nat) : Stmt := PySem.Challenge.pw_sumwires_k12_nets_told.main.body.getD i (.Pass ⟨0, 0, 0, 0⟩)
structure Cz where
  InWire : Addr
  SumWire : Addr
  StoreWire : Addr
  Net : Addr
  WireError : Addr
  NoWire : Addr
  Wire : Addr
structure Tz (K : PySem.W.Frag) (mg : Str → Option Value) (cc : Cz) : Prop where
  cl_InWire : Cls K cc.InWire
  na_InWire_name : NoAttr K cc.InWire "name"
  na_InWire_number : NoAttr K cc.InWire "number"
  cl_SumWire : Cls K cc.SumWire
  na_SumWire_name : NoAttr K cc.SumWire "name"
  na_SumWire_wires : NoAttr K cc.SumWire "wires"
  cl_StoreWire : Cls K cc.StoreWire
  na_StoreWire_name : NoAttr K cc.StoreWire "name"
  na_StoreWire_wire : NoAttr K cc.StoreWire "wire"
  na_StoreWire_number : NoAttr K cc.StoreWire "number"
  cl_Net : Cls K cc.Net
  na_Net_all : NoAttr K cc.Net "all"
  na_Net_ends : NoAttr K cc.Net "ends"
  na_Net_line_up : NoAttr K cc.Net "line_up"
  na_Net_laid : NoAttr K cc.Net "laid"
  xc_WireError : XC K mg "WireError" cc.WireError
  xc_NoWire : XF K mg "NoWire" cc.NoWire "name"
  xw : ClX.CRead K cc.WireError (.type "type")
  xwv : PySem.W.findCls K (.ref cc.WireError) (.type "type") "__init__" = some (.val (.builtin "ValueError.__init__"))
  gl_MOST_INS : ∃ u, mg "MOST_INS" = some u ∧ RelV (.int 6) u
  gl_MOST_OUTS : ∃ u, mg "MOST_OUTS" = some u ∧ RelV (.int 6) u
  gl_MOST_STORES : ∃ u, mg "MOST_STORES" = some u ∧ RelV (.int 16) u
  gl_MOST_SUMS : ∃ u, mg "MOST_SUMS" = some u ∧ RelV (.int 40) u
  gl_MOST_WIRES : ∃ u, mg "MOST_WIRES" = some u ∧ RelV (.int 24) u
  gl_FIGURES : ∃ u, mg "FIGURES" = some u ∧ RelV (.str (PySem.Str.ofString "0123456789")) u
  gl_LETTERS : ∃ u, mg "LETTERS" = some u ∧ RelV (.str (PySem.Str.ofString "abcdefghijklmnopqrstuvwxyz")) u
  ci_InWire : ClsI K mg "InWire" cc.InWire
  ci_StoreWire : ClsI K mg "StoreWire" cc.StoreWire
  ci_SumWire : ClsI K mg "SumWire" cc.SumWire
  xi_InWire_InWire : PySem.W.kitOne K (.ref cc.InWire) (.ref cc.InWire) = some true
  xi_InWire_StoreWire : PySem.W.kitOne K (.ref cc.InWire) (.ref cc.StoreWire) = some false
  xi_InWire_SumWire : PySem.W.kitOne K (.ref cc.InWire) (.ref cc.SumWire) = some false
  xi_InWire_Wire : PySem.W.kitOne K (.ref cc.InWire) (.ref cc.Wire) = some true
  xi_StoreWire_InWire : PySem.W.kitOne K (.ref cc.StoreWire) (.ref cc.InWire) = some false
  xi_StoreWire_StoreWire : PySem.W.kitOne K (.ref cc.StoreWire) (.ref cc.StoreWire) = some true
  xi_StoreWire_SumWire : PySem.W.kitOne K (.ref cc.StoreWire) (.ref cc.SumWire) = some false
  xi_StoreWire_Wire : PySem.W.kitOne K (.ref cc.StoreWire) (.ref cc.Wire) = some true
  xi_SumWire_InWire : PySem.W.kitOne K (.ref cc.SumWire) (.ref cc.InWire) = some false
  xi_SumWire_StoreWire : PySem.W.kitOne K (.ref cc.SumWire) (.ref cc.StoreWire) = some false
  xi_SumWire_SumWire : PySem.W.kitOne K (.ref cc.SumWire) (.ref cc.SumWire) = some true
  xi_SumWire_Wire : PySem.W.kitOne K (.ref cc.SumWire) (.ref cc.Wire) = some true
  xm_NoWire_NoWire : PySem.W.exmOne K (.ref cc.NoWire) (.ref cc.NoWire) = some true
  cr_Wire : ClX.CRead K cc.Wire (.type "type")
  g_Wire : mg "Wire" = some (.ref cc.Wire)
theorem tw_of {K : PySem.W.Frag} {mg : Str → Option Value} {cc : Cz} (T : Tz K mg cc) : TW K mg cc.InWire cc.SumWire cc.StoreWire cc.Wire :=
  ⟨T.cl_InWire, T.cl_SumWire, T.cl_StoreWire, T.na_InWire_name, T.na_SumWire_name, T.na_StoreWire_name, T.na_InWire_number, T.na_StoreWire_number, T.na_SumWire_wires, T.na_StoreWire_wire, T.ci_InWire, T.ci_SumWire, T.ci_StoreWire,
    fun x => match x with | .inl _ => T.xi_InWire_InWire | .inr (.inl _) => T.xi_SumWire_InWire | .inr (.inr _) => T.xi_StoreWire_InWire,
    fun x => match x with | .inl _ => T.xi_InWire_SumWire | .inr (.inl _) => T.xi_SumWire_SumWire | .inr (.inr _) => T.xi_StoreWire_SumWire,
    fun x => match x with | .inl _ => T.xi_InWire_StoreWire | .inr (.inl _) => T.xi_SumWire_StoreWire | .inr (.inr _) => T.xi_StoreWire_StoreWire,
    fun x => match x with | .inl _ => T.xi_InWire_Wire | .inr (.inl _) => T.xi_SumWire_Wire | .inr (.inr _) => T.xi_StoreWire_Wire⟩
abbrev s_Wire___init__ : Stmt := inClass (topS 8) 0
abbrev N_Wire___init__ : List Str := ["self", "name"]
theorem sc_Wire___init__ : FnScope N_Wire___init__ ["self", "name"] (defScope s_Wire___init__) := ⟨rfl, rfl, rfl, by decide +kernel, rfl, by decide +kernel, by decide +kernel⟩
theorem ok_Wire___init__ {P : Program} {w0 : World} {K : PySem.W.Frag} {mg : Str → Option Value} {base : Heap} {f : Addr} {fd : FuncData} {cc : Cz} (T : Tz K mg cc) (FU : Fun K "__init__" "Wire.__init__" s_Wire___init__ f fd) (hc : ClX.CVal K cc.Wire (.type "type") "__init__" (.ref f) (.ref f)) (kp : PySem.W.keepIn K (.ref f) = true) (hb : Binds K fd ["self", "name"] []) : Cf P w0 K mg base CX0 1 cc.Wire "__init__" ["self", "name"] (sp_base1 K "name") := by
  refine ⟨f, fd, FU.ok sc_Wire___init__ (fun vs H Q E h => ?_) (fun cdv A outer s H0 vs Q E hr h => ?_), ⟨hc, kp⟩, hb⟩
  · obtain ⟨_, _, _, _, rfl, _⟩ := h; rfl
  · obtain ⟨C, dx, ob, v, rfl, cl, na, ho, hQ⟩ := h
    have nd := sc_Wire___init__.nd
    refine ⟨(sFld K (tVar 0) (tVar 1) "name"), (pss_one (ps_fld (pv 0) (pv 1) rfl)), ?_⟩
    refine e_fld ?_
    refine e_val (v := v) (val_var rfl) ?_
    exact val_var rfl _ ⟨ob, C, dx, [], rfl, ho, cl, na, (by decide), hQ⟩
abbrev s_Wire_needs : Stmt := inClass (topS 8) 2
def W_Wire_needs (self1 : WireV) (R : (List Str) → Prop) : Prop := R ([] : List Str)
def sp_Wire_needs (K : PySem.W.Frag) (cc : Cz) : Sp := fun vs H Q _ => ∃ (F : Hp) (v1 : V) (self1 : WireV) (R : (List Str) → Prop), vs = [v1] ∧ Ex F H ∧ (pW cc.InWire cc.SumWire cc.StoreWire).r F v1 self1 ∧ W_Wire_needs self1 R ∧ ∀ z, R z → ∀ p F' H', Wf F H F' H' → XL pS H F' H' p z → Q (.ref p) H'
abbrev N_Wire_needs : List Str := ["self"]
theorem sc_Wire_needs : FnScope N_Wire_needs ["self"] (defScope s_Wire_needs) := ⟨rfl, rfl, rfl, by decide +kernel, rfl, by decide +kernel, by decide +kernel⟩
theorem ok_Wire_needs {P : Program} {w0 : World} {K : PySem.W.Frag} {mg : Str → Option Value} {base : Heap} {f : Addr} {fd : FuncData} {cc : Cz} (T : Tz K mg cc) (FU : Fun K "needs" "Wire.needs" s_Wire_needs f fd) {cX : Addr} (hm : Meth K cX "needs" f) (hb : Binds K fd ["self"] []) : Md P w0 K mg base CX0 1 cX "needs" ["self"] (sp_Wire_needs K cc) := by
  refine ⟨f, fd, FU.ok sc_Wire_needs (fun vs H Q E h => ?_) (fun cdv A outer s H0 vs Q E hr h => ?_), hm, hb⟩
  · obtain ⟨_, _, _, _, rfl, _⟩ := h; rfl
  · obtain ⟨F0, v1, self1, R, rfl, wf, r1, hW, hQ⟩ := h
    have nd := sc_Wire_needs.nd
    refine ⟨(tRet (tLst tNil)), (pss_one (ps_ret (pe_lst pa_nil))), ?_⟩
    have w := Wf.id wf
    refine a_retE ?_
    refine e_lst ?_
    refine a_nil ?_
    refine n_lstX (e := pS) (xs := []) (vs := []) (show All pS _ [] [] from trivial) (show 0 < 1000000 from by decide) w ?_
    intro p1 H1 hp1 s1 x1
    replace r1 := Rep.mono _ s1.g r1
    replace w := w.tr s1
    exact hQ _ hW _ _ _ w x1
abbrev s_InWire___init__ : Stmt := inClass (topS 9) 0
def W_InWire___init__ (name1 : Str) (number1 : Nat) (R : (Str × Nat) → Prop) : Prop := R (name1, number1)
def sp_InWire___init__ (K : PySem.W.Frag) (cc : Cz) : Sp := fun vs H Q _ => ∃ (F : Hp) (ob dx : Addr) (name1 : Str) (number1 : Nat) (R : (Str × Nat) → Prop), vs = [(.ref ob), (.str (name1)), (.int ((number1 : Nat) : Int))] ∧ H ob = some (.ins cc.InWire dx []) ∧ F ob = none ∧ Ex F H ∧ W_InWire___init__ name1 number1 R ∧ ∀ z, R z → ∀ F' H', Wf F (wo H ob) F' H' → (pO2 cc.InWire "name" "number" pS pN).r F' (.ref ob) z → Q .non H'
abbrev N_InWire___init__ : List Str := ["self", "name", "number"]
theorem sc_InWire___init__ : FnScope N_InWire___init__ ["self", "name", "number"] (defScope s_InWire___init__) := ⟨rfl, rfl, rfl, by decide +kernel, rfl, by decide +kernel, by decide +kernel⟩
theorem ok_InWire___init__ {P : Program} {w0 : World} {K : PySem.W.Frag} {mg : Str → Option Value} {base : Heap} {f : Addr} {fd : FuncData} {cc : Cz} (T : Tz K mg cc) (FU : Fun K "__init__" "InWire.__init__" s_InWire___init__ f fd) (hm : Mk K cc.InWire f) (hg : mg "InWire" = some (.ref cc.InWire)) (hb : Binds K fd ["self", "name", "number"] []) (c_Wire___init__ : Cf P w0 K mg base CX0 1 cc.Wire "__init__" ["self", "name"] (sp_base1 K "name")) : Nw P w0 K mg base CX0 3 cc.InWire "InWire" ["self", "name", "number"] (sp_InWire___init__ K cc) := by
  refine ⟨f, fd, FU.ok sc_InWire___init__ (fun vs H Q E h => ?_) (fun cdv A outer s H0 vs Q E hr h => ?_), hm, hg, hb⟩
  · obtain ⟨_, _, _, _, _, _, rfl, _⟩ := h; rfl
  · obtain ⟨F0, ob, dx, name1, number1, R, rfl, hob, nob, wf, hW, hQ⟩ := h
    have nd := sc_InWire___init__.nd
    refine ⟨(tSeq (tDrop (tCf cc.Wire (sp_base1 K "name") E0 (tC (.ref cc.Wire)) (tCons (tVar 0) (tCons (tVar 1) tNil)))) (sFld K (tVar 0) (tVar 2) "number")), (pss_cons (ps_expr (pe_cf c_Wire___init__ T.cr_Wire (hr.mono (by decide)) (pe_glob (by rfl) T.g_Wire rfl) (pa_cons (pv 0) (pa_cons (pv 1) pa_nil)))) (pss_one (ps_fld (pv 0) (pv 2) rfl))), ?_⟩
    have xs := Xc.start nob hob
    have w := Wf.start wf nob
    generalize hH0 : wo H0 ob = Hb at xs w hQ
    refine q_sq fun N1 hN1 => ?_
    refine a_dropE ?_
    refine e_cf ?_
    refine e_val (v := .ref cc.Wire) val_c ?_
    refine ⟨rfl, ?_⟩
    refine a_val (v := (.ref ob)) (val_var rfl) ?_
    refine a_val (v := (.str (name1))) (val_var rfl) ?_
    refine a_nil ?_
    refine n_base1 T.cl_InWire T.na_InWire_name xs w (fun H1 w1 x1 kp1 => ?_)
    replace w := w1
    refine hN1 _ _ ?_
    refine e_fld ?_
    refine e_val (v := (.int ((number1 : Nat) : Int))) (val_var rfl) ?_
    refine a_fld T.cl_InWire T.na_InWire_number x1 w (show 1 < 1000 from by decide) (val_var rfl) (fun H2 w2 x2 kp2 => ?_)
    replace w := w2
    replace x2 : Xc Hb F0 H2 ob (.ins cc.InWire dx [("name", (.str (name1))), ("number", (.int ((number1 : Nat) : Int)))]) := Xc.cast x2 ((put_ne (by decide +kernel)).trans (congrArg _ rfl))
    obtain ⟨F1, w3, g1, h1⟩ := x2.frzE w
    exact hQ _ hW _ _ w3 ⟨ob, dx, _, rfl, h1, _, _, rfl, rfl, rfl⟩
abbrev s_InWire_kind : Stmt := inClass (topS 9) 1
def W_InWire_kind (self1 : Str × Nat) (R : Str → Prop) : Prop := R (PySem.Str.ofString "in")
def sp_InWire_kind (K : PySem.W.Frag) (cc : Cz) : Sp := fun vs H Q _ => ∃ (F : Hp) (v1 : V) (self1 : Str × Nat) (R : Str → Prop), vs = [v1] ∧ Ex F H ∧ (pO2 cc.InWire "name" "number" pS pN).r F v1 self1 ∧ W_InWire_kind self1 R ∧ ∀ z, R z → ∀ F' H', Wf F H F' H' → Q (.str (z)) H'
abbrev N_InWire_kind : List Str := ["self"]
theorem sc_InWire_kind : FnScope N_InWire_kind ["self"] (defScope s_InWire_kind) := ⟨rfl, rfl, rfl, by decide +kernel, rfl, by decide +kernel, by decide +kernel⟩
theorem ok_InWire_kind {P : Program} {w0 : World} {K : PySem.W.Frag} {mg : Str → Option Value} {base : Heap} {f : Addr} {fd : FuncData} {cc : Cz} (T : Tz K mg cc) (FU : Fun K "kind" "InWire.kind" s_InWire_kind f fd) (hm : Meth K cc.InWire "kind" f) (hb : Binds K fd ["self"] []) : Md P w0 K mg base CX0 1 cc.InWire "kind" ["self"] (sp_InWire_kind K cc) := by
  refine ⟨f, fd, FU.ok sc_InWire_kind (fun vs H Q E h => ?_) (fun cdv A outer s H0 vs Q E hr h => ?_), hm, hb⟩
  · obtain ⟨_, _, _, _, rfl, _⟩ := h; rfl
  · obtain ⟨F0, v1, self1, R, rfl, wf, r1, hW, hQ⟩ := h
    have nd := sc_InWire_kind.nd
    refine ⟨(tRet (tC (.str (PySem.Str.ofString "in")))), (pss_one (ps_ret pe_str)), ?_⟩
    have w := Wf.id wf
    refine a_ret (v := (.str ((PySem.Str.ofString "in")))) val_c ?_
    exact hQ _ hW _ _ w
abbrev s_InWire_bit : Stmt := inClass (topS 9) 2
def W_InWire_bit (self1 : Str × Nat) (known1 : List (Str × Nat)) (row1 : Nat) (state1 : Nat) (R : Nat → Prop) : Prop := R ((row1 >>> self1.2) &&& 1)
def sp_InWire_bit (K : PySem.W.Frag) (cc : Cz) : Sp := fun vs H Q _ => ∃ (F : Hp) (v1 : V) (self1 : Str × Nat) (v2 : V) (known1 : List (Str × Nat)) (row1 : Nat) (state1 : Nat) (R : Nat → Prop), vs = [v1, v2, (.int ((row1 : Nat) : Int)), (.int ((state1 : Nat) : Int))] ∧ Ex F H ∧ (pO2 cc.InWire "name" "number" pS pN).r F v1 self1 ∧ (pD (κ := Str) pN).r F v2 known1 ∧ W_InWire_bit self1 known1 row1 state1 R ∧ ∀ z, R z → ∀ F' H', Wf F H F' H' → Q (.int ((z : Nat) : Int)) H'
abbrev N_InWire_bit : List Str := ["self", "known", "row", "state"]
theorem sc_InWire_bit : FnScope N_InWire_bit ["self", "known", "row", "state"] (defScope s_InWire_bit) := ⟨rfl, rfl, rfl, by decide +kernel, rfl, by decide +kernel, by decide +kernel⟩
theorem ok_InWire_bit {P : Program} {w0 : World} {K : PySem.W.Frag} {mg : Str → Option Value} {base : Heap} {f : Addr} {fd : FuncData} {cc : Cz} (T : Tz K mg cc) (FU : Fun K "bit" "InWire.bit" s_InWire_bit f fd) (hm : Meth K cc.InWire "bit" f) (hb : Binds K fd ["self", "known", "row", "state"] []) : Md P w0 K mg base CX0 1 cc.InWire "bit" ["self", "known", "row", "state"] (sp_InWire_bit K cc) := by
  refine ⟨f, fd, FU.ok sc_InWire_bit (fun vs H Q E h => ?_) (fun cdv A outer s H0 vs Q E hr h => ?_), hm, hb⟩
  · obtain ⟨_, _, _, _, _, _, _, _, rfl, _⟩ := h; rfl
  · obtain ⟨F0, v1, self1, v2, known1, row1, state1, R, rfl, wf, r1, r2, hW, hQ⟩ := h
    have nd := sc_InWire_bit.nd
    refine ⟨(tRet (tOp kAnd (tOp kShr (tVar 2) (tFld K (tVar 0) "number")) (tC (.int 1)))), (pss_one (ps_ret (pe_op op_and (pe_op op_shr (pv 2) (pe_fld (pv 0) rfl)) pe_int))), ?_⟩
    have w := Wf.id wf
    obtain ⟨_, rfl, fl1⟩ := fl_22 (K := K) T.cl_InWire T.na_InWire_number r1 w.f
    refine a_ret (v := (.int (((row1 >>> self1.2) &&& 1 : Nat) : Int))) (vn_and (vn_shr (val_var rfl) (fl1 (val_var rfl))) val_c) ?_
    exact hQ _ hW _ _ w
abbrev s_InWire_hang : Stmt := inClass (topS 9) 3
def W_InWire_hang (self1 : Str × Nat) (known1 : List (Str × (Nat × Nat))) (R : (Nat × Nat) → Prop) : Prop := (self1.2 < 100000000) ∧ R (0, 2 ^ self1.2)
def sp_InWire_hang (K : PySem.W.Frag) (cc : Cz) : Sp := fun vs H Q _ => ∃ (F : Hp) (v1 : V) (self1 : Str × Nat) (v2 : V) (known1 : List (Str × (Nat × Nat))) (R : (Nat × Nat) → Prop), vs = [v1, v2] ∧ Ex F H ∧ (pO2 cc.InWire "name" "number" pS pN).r F v1 self1 ∧ (pD (κ := Str) (pT2 pN pN)).r F v2 known1 ∧ W_InWire_hang self1 known1 R ∧ ∀ z, R z → ∀ v F' H', Wf F H F' H' → (pT2 pN pN).r F' v z → Q v H'
abbrev N_InWire_hang : List Str := ["self", "known"]
theorem sc_InWire_hang : FnScope N_InWire_hang ["self", "known"] (defScope s_InWire_hang) := ⟨rfl, rfl, rfl, by decide +kernel, rfl, by decide +kernel, by decide +kernel⟩
theorem ok_InWire_hang {P : Program} {w0 : World} {K : PySem.W.Frag} {mg : Str → Option Value} {base : Heap} {f : Addr} {fd : FuncData} {cc : Cz} (T : Tz K mg cc) (FU : Fun K "hang" "InWire.hang" s_InWire_hang f fd) (hm : Meth K cc.InWire "hang" f) (hb : Binds K fd ["self", "known"] []) : Md P w0 K mg base CX0 1 cc.InWire "hang" ["self", "known"] (sp_InWire_hang K cc) := by
  refine ⟨f, fd, FU.ok sc_InWire_hang (fun vs H Q E h => ?_) (fun cdv A outer s H0 vs Q E hr h => ?_), hm, hb⟩
  · obtain ⟨_, _, _, _, _, _, rfl, _⟩ := h; rfl
  · obtain ⟨F0, v1, self1, v2, known1, R, rfl, wf, r1, r2, hW, hQ⟩ := h
    have nd := sc_InWire_hang.nd
    refine ⟨(tRet (tTup (tCons (tC (.int 0)) (tCons (tOp kShl (tC (.int 1)) (tFld K (tVar 0) "number")) tNil)))), (pss_one (ps_ret (pe_tup (pa_cons pe_int (pa_cons (pe_op op_shlW pe_int (pe_fld (pv 0) rfl)) pa_nil))))), ?_⟩
    have w := Wf.id wf
    refine a_retE ?_
    refine e_tup ?_
    refine a_val (v := (.int ((0 : Nat) : Int))) val_c ?_
    obtain ⟨_, rfl, fl1⟩ := fl_22 (K := K) T.cl_InWire T.na_InWire_number r1 w.f
    obtain ⟨c1, hW⟩ := hW
    refine a_val (v := (.int ((2 ^ self1.2 : Nat) : Int))) (vn_one val_c (fl1 (val_var rfl)) c1) ?_
    refine a_nil ?_
    refine n_tup2 (e := pN) (f := pN) (x := 0) (y := 2 ^ self1.2) rfl rfl w ?_
    intro p1 F1 H1 s1 r4
    replace r1 := Rep.mono _ s1.g r1
    replace r2 := Rep.mono _ s1.g r2
    replace w := w.tr s1
    exact hQ _ hW _ _ _ w r4
abbrev s_SumWire___init__ : Stmt := inClass (topS 10) 0
def W_SumWire___init__ (name1 : Str) (wires1 : List Str) (R : (Str × List Str) → Prop) : Prop := R (name1, wires1)
def sp_SumWire___init__ (K : PySem.W.Frag) (cc : Cz) : Sp := fun vs H Q _ => ∃ (F : Hp) (ob dx : Addr) (name1 : Str) (v1 : V) (wires1 : List Str) (R : (Str × List Str) → Prop), vs = [(.ref ob), (.str (name1)), v1] ∧ H ob = some (.ins cc.SumWire dx []) ∧ F ob = none ∧ Ex F H ∧ (pSq pS).r F v1 wires1 ∧ W_SumWire___init__ name1 wires1 R ∧ ∀ z, R z → ∀ F' H', Wf F (wo H ob) F' H' → (pO2 cc.SumWire "name" "wires" pS (pTL pS)).r F' (.ref ob) z → Q .non H'
abbrev N_SumWire___init__ : List Str := ["self", "name", "wires"]
theorem sc_SumWire___init__ : FnScope N_SumWire___init__ ["self", "name", "wires"] (defScope s_SumWire___init__) := ⟨rfl, rfl, rfl, by decide +kernel, rfl, by decide +kernel, by decide +kernel⟩
theorem ok_SumWire___init__ {P : Program} {w0 : World} {K : PySem.W.Frag} {mg : Str → Option Value} {base : Heap} {f : Addr} {fd : FuncData} {cc : Cz} (T : Tz K mg cc) (FU : Fun K "__init__" "SumWire.__init__" s_SumWire___init__ f fd) (hm : Mk K cc.SumWire f) (hg : mg "SumWire" = some (.ref cc.SumWire)) (hb : Binds K fd ["self", "name", "wires"] []) (c_Wire___init__ : Cf P w0 K mg base CX0 1 cc.Wire "__init__" ["self", "name"] (sp_base1 K "name")) (n_tuple : mg "tuple" = none) : Nw P w0 K mg base CX0 3 cc.SumWire "SumWire" ["self", "name", "wires"] (sp_SumWire___init__ K cc) := by
  refine ⟨f, fd, FU.ok sc_SumWire___init__ (fun vs H Q E h => ?_) (fun cdv A outer s H0 vs Q E hr h => ?_), hm, hg, hb⟩
  · obtain ⟨_, _, _, _, _, _, _, rfl, _⟩ := h; rfl
  · obtain ⟨F0, ob, dx, name1, v1, wires1, R, rfl, hob, nob, wf, r1, hW, hQ⟩ := h
    have nd := sc_SumWire___init__.nd
    refine ⟨(tSeq (tDrop (tCf cc.Wire (sp_base1 K "name") E0 (tC (.ref cc.Wire)) (tCons (tVar 0) (tCons (tVar 1) tNil)))) (sFld K (tVar 0) (tCB (rTupOf K) (tCons (tVar 2) tNil)) "wires")), (pss_cons (ps_expr (pe_cf c_Wire___init__ T.cr_Wire (hr.mono (by decide)) (pe_glob (by rfl) T.g_Wire rfl) (pa_cons (pv 0) (pa_cons (pv 1) pa_nil)))) (pss_one (ps_fld (pv 0) (pe_callTy call_tuple_of (by rfl) n_tuple PyProof.Rows.boot_tuple (pa_cons (pv 2) pa_nil)) rfl))), ?_⟩
    have xs := Xc.start nob hob
    have w := Wf.start wf nob
    generalize hH0 : wo H0 ob = Hb at xs w hQ
    refine q_sq fun N1 hN1 => ?_
    refine a_dropE ?_
    refine e_cf ?_
    refine e_val (v := .ref cc.Wire) val_c ?_
    refine ⟨rfl, ?_⟩
    refine a_val (v := (.ref ob)) (val_var rfl) ?_
    refine a_val (v := (.str (name1))) (val_var rfl) ?_
    refine a_nil ?_
    refine n_base1 T.cl_SumWire T.na_SumWire_name xs w (fun H1 w1 x1 kp1 => ?_)
    replace w := w1
    refine hN1 _ _ ?_
    refine e_fld ?_
    refine e_cb ?_
    refine a_val (v := v1) (val_var rfl) ?_
    refine a_nil ?_
    refine n_tupSq r1 w ?_
    intro p1 F1 H2 s1 r2
    replace r1 := Rep.mono _ s1.g r1
    replace x1 := x1.step s1
    replace w := w.tr s1
    refine a_fld T.cl_SumWire T.na_SumWire_wires x1 w (show 1 < 1000 from by decide) (val_var rfl) (fun H3 w2 x2 kp2 => ?_)
    replace w := w2
    replace x2 : Xc Hb F1 H3 ob (.ins cc.SumWire dx [("name", (.str (name1))), ("wires", (.ref p1))]) := Xc.cast x2 ((put_ne (by decide +kernel)).trans (congrArg _ rfl))
    obtain ⟨F2, w3, g1, h1⟩ := x2.frzE w
    exact hQ _ hW _ _ w3 ⟨ob, dx, _, rfl, h1, _, _, rfl, rfl, (Rep.mono _ g1 r2)⟩
abbrev s_SumWire_kind : Stmt := inClass (topS 10) 1
def W_SumWire_kind (self1 : Str × List Str) (R : Str → Prop) : Prop := R (PySem.Str.ofString "sum")
def sp_SumWire_kind (K : PySem.W.Frag) (cc : Cz) : Sp := fun vs H Q _ => ∃ (F : Hp) (v1 : V) (self1 : Str × List Str) (R : Str → Prop), vs = [v1] ∧ Ex F H ∧ (pO2 cc.SumWire "name" "wires" pS (pTL pS)).r F v1 self1 ∧ W_SumWire_kind self1 R ∧ ∀ z, R z → ∀ F' H', Wf F H F' H' → Q (.str (z)) H'
abbrev N_SumWire_kind : List Str := ["self"]
theorem sc_SumWire_kind : FnScope N_SumWire_kind ["self"] (defScope s_SumWire_kind) := ⟨rfl, rfl, rfl, by decide +kernel, rfl, by decide +kernel, by decide +kernel⟩
theorem ok_SumWire_kind {P : Program} {w0 : World} {K : PySem.W.Frag} {mg : Str → Option Value} {base : Heap} {f : Addr} {fd : FuncData} {cc : Cz} (T : Tz K mg cc) (FU : Fun K "kind" "SumWire.kind" s_SumWire_kind f fd) (hm : Meth K cc.SumWire "kind" f) (hb : Binds K fd ["self"] []) : Md P w0 K mg base CX0 1 cc.SumWire "kind" ["self"] (sp_SumWire_kind K cc) := by
  refine ⟨f, fd, FU.ok sc_SumWire_kind (fun vs H Q E h => ?_) (fun cdv A outer s H0 vs Q E hr h => ?_), hm, hb⟩
  · obtain ⟨_, _, _, _, rfl, _⟩ := h; rfl
  · obtain ⟨F0, v1, self1, R, rfl, wf, r1, hW, hQ⟩ := h
    have nd := sc_SumWire_kind.nd
    refine ⟨(tRet (tC (.str (PySem.Str.ofString "sum")))), (pss_one (ps_ret pe_str)), ?_⟩
    have w := Wf.id wf
    refine a_ret (v := (.str ((PySem.Str.ofString "sum")))) val_c ?_
    exact hQ _ hW _ _ w
abbrev s_SumWire_needs : Stmt := inClass (topS 10) 2
def W_SumWire_needs (self1 : Str × List Str) (R : (List Str) → Prop) : Prop := R self1.2
def sp_SumWire_needs (K : PySem.W.Frag) (cc : Cz) : Sp := fun vs H Q _ => ∃ (F : Hp) (v1 : V) (self1 : Str × List Str) (R : (List Str) → Prop), vs = [v1] ∧ Ex F H ∧ (pO2 cc.SumWire "name" "wires" pS (pTL pS)).r F v1 self1 ∧ W_SumWire_needs self1 R ∧ ∀ z, R z → ∀ p F' H', Wf F H F' H' → XL pS H F' H' p z → Q (.ref p) H'
abbrev N_SumWire_needs : List Str := ["self"]
theorem sc_SumWire_needs : FnScope N_SumWire_needs ["self"] (defScope s_SumWire_needs) := ⟨rfl, rfl, rfl, by decide +kernel, rfl, by decide +kernel, by decide +kernel⟩
theorem ok_SumWire_needs {P : Program} {w0 : World} {K : PySem.W.Frag} {mg : Str → Option Value} {base : Heap} {f : Addr} {fd : FuncData} {cc : Cz} (T : Tz K mg cc) (FU : Fun K "needs" "SumWire.needs" s_SumWire_needs f fd) (hm : Meth K cc.SumWire "needs" f) (hb : Binds K fd ["self"] []) (n_list : mg "list" = none) : Md P w0 K mg base CX0 1 cc.SumWire "needs" ["self"] (sp_SumWire_needs K cc) := by
  refine ⟨f, fd, FU.ok sc_SumWire_needs (fun vs H Q E h => ?_) (fun cdv A outer s H0 vs Q E hr h => ?_), hm, hb⟩
  · obtain ⟨_, _, _, _, rfl, _⟩ := h; rfl
  · obtain ⟨F0, v1, self1, R, rfl, wf, r1, hW, hQ⟩ := h
    have nd := sc_SumWire_needs.nd
    refine ⟨(tRet (tCB (rListOf K) (tCons (tFld K (tVar 0) "wires") tNil))), (pss_one (ps_ret (pe_callTy call_list_of (by rfl) n_list PyProof.Rows.boot_list (pa_cons (pe_fld (pv 0) rfl) pa_nil)))), ?_⟩
    have w := Wf.id wf
    refine a_retE ?_
    refine e_cb ?_
    obtain ⟨v2, r2, fl1⟩ := fl_22 (K := K) T.cl_SumWire T.na_SumWire_wires r1 w.f
    refine a_val (v := v2) (fl1 (val_var rfl)) ?_
    refine a_nil ?_
    refine n_listXT r2 w ?_
    intro p1 H1 hp1 s1 x1
    replace r1 := Rep.mono _ s1.g r1
    replace r2 := Rep.mono _ s1.g r2
    replace w := w.tr s1
    exact hQ _ hW _ _ _ w x1
abbrev s_SumWire_bit : Stmt := inClass (topS 10) 3
def W_SumWire_bit (self1 : Str × List Str) (known1 : List (Str × Nat)) (row1 : Nat) (state1 : Nat) (R : Nat → Prop) : Prop := forW self1.2 0 (fun name1 found1 nx1 bk1 => ∃ x1, valT known1 name1 = some x1 ∧ ∀ found2 : Nat, found2 = found1 ^^^ x1 → nx1 found2) fun found1 => R found1
def sp_SumWire_bit (K : PySem.W.Frag) (cc : Cz) : Sp := fun vs H Q _ => ∃ (F : Hp) (v1 : V) (self1 : Str × List Str) (v2 : V) (known1 : List (Str × Nat)) (row1 : Nat) (state1 : Nat) (R : Nat → Prop), vs = [v1, v2, (.int ((row1 : Nat) : Int)), (.int ((state1 : Nat) : Int))] ∧ Ex F H ∧ (pO2 cc.SumWire "name" "wires" pS (pTL pS)).r F v1 self1 ∧ (pD (κ := Str) pN).r F v2 known1 ∧ W_SumWire_bit self1 known1 row1 state1 R ∧ ∀ z, R z → ∀ F' H', Wf F H F' H' → Q (.int ((z : Nat) : Int)) H'
abbrev N_SumWire_bit : List Str := ["self", "known", "row", "state", "found", "name"]
theorem sc_SumWire_bit : FnScope N_SumWire_bit ["self", "known", "row", "state"] (defScope s_SumWire_bit) := ⟨rfl, rfl, rfl, by decide +kernel, rfl, by decide +kernel, by decide +kernel⟩
theorem ok_SumWire_bit {P : Program} {w0 : World} {K : PySem.W.Frag} {mg : Str → Option Value} {base : Heap} {f : Addr} {fd : FuncData} {cc : Cz} (T : Tz K mg cc) (FU : Fun K "bit" "SumWire.bit" s_SumWire_bit f fd) (hm : Meth K cc.SumWire "bit" f) (hb : Binds K fd ["self", "known", "row", "state"] []) : Md P w0 K mg base CX0 1 cc.SumWire "bit" ["self", "known", "row", "state"] (sp_SumWire_bit K cc) := by
  refine ⟨f, fd, FU.ok sc_SumWire_bit (fun vs H Q E h => ?_) (fun cdv A outer s H0 vs Q E hr h => ?_), hm, hb⟩
  · obtain ⟨_, _, _, _, _, _, _, _, rfl, _⟩ := h; rfl
  · obtain ⟨F0, v1, self1, v2, known1, row1, state1, R, rfl, wf, r1, r2, hW, hQ⟩ := h
    have nd := sc_SumWire_bit.nd
    refine ⟨(tSeq (tAsg (tC (.int 0)) (gName 4)) (tSeq (tFor (iTup K (tFld K (tVar 0) "wires")) (gName 5) (tAsg (tOp kXor (tVar 4) (tDGet (tVar 1) (tVar 5))) (gName 4))) (tRet (tVar 4)))), (pss_cons (ps_set (i := 4) nd rfl (Or.inl rfl) pe_int) (pss_cons (ps_for PassesOwn.never rfl (pi_tup (pe_fld (pv 0) rfl)) (pg_name (i := 5) nd rfl (Or.inl rfl)) (pss_one (ps_set (i := 4) nd rfl (Or.inl rfl) (pe_op op_xor (pv 4) (pe_dget (hu_of hr) (pv 1) (pv 5) (fun _ _ => rfl)))))) (pss_one (ps_ret (pv 4))))), ?_⟩
    have w := Wf.id wf
    refine q_sq fun N1 hN1 => ?_
    refine a_asg (v := (.int ((0 : Nat) : Int))) val_c ?_
    refine hN1 _ _ ?_
    refine q_sq fun N2 hN2 => ?_
    refine f_J ?_
    obtain ⟨v3, r3, fl1⟩ := fl_22 (K := K) T.cl_SumWire T.na_SumWire_wires r1 w.f
    refine e_val (v := v3) (fl1 (val_var rfl)) ?_
    refine src_tup r3 w.f (fun a1 T1 => ?_)
    refine w_forG (S := Nat) T1 (fun found1 σ' F' H' => ∃ (o1 : Option V), Wf F0 H0 F' H' ∧ Ex F0 F' ∧ σ' = [some v1, some v2, some (.int ((row1 : Nat) : Int)), some (.int ((state1 : Nat) : Int)), some (.int ((found1 : Nat) : Int)), o1]) hW ⟨_, w, Ex.rfl', rfl⟩ (fun s σ' F' H' hI => by obtain ⟨_, w', gx', _⟩ := hI; exact ⟨gx', w'.f⟩) w.f ?_ ?_
    · intro N3 Bk1 name1 u1 found1 σ' F1 H1 F2 H2 nx1 bk1 hI1 hx1 s2 ru1 hW hN3 hB1
      obtain ⟨o1, w, gx1, rfl⟩ := hI1
      have r1 := Rep.mono _ gx1 r1
      have r2 := Rep.mono _ gx1 r2
      have r3 := Rep.mono _ gx1 r3
      replace r1 := Rep.mono _ s2.g r1
      replace r2 := Rep.mono _ s2.g r2
      replace r3 := Rep.mono _ s2.g r3
      replace w := w.tr s2
      replace gx1 := Ex.tr gx1 s2.g
      obtain rfl : u1 = (.str (name1)) := ru1
      refine g_name ?_
      obtain ⟨x1, hx2, hW⟩ := hW
      obtain ⟨_, rfl, ix1⟩ := ix_D r2 w.f hx2
      obtain ⟨found2, efound1⟩ : ∃ found2 : Nat, found2 = found1 ^^^ x1 := ⟨_, rfl⟩
      replace hW := hW found2 efound1
      refine a_asg (v := (.int ((found2 : Nat) : Int))) (v_eq (vn_xor (val_var rfl) (ix1 (val_var rfl) (val_var rfl))) (by rw [efound1])) ?_
      exact hN3 found2 _ _ _ ⟨_, w, gx1, rfl⟩ hW
    · intro found1 σ' F3 H3 hI2 hW
      obtain ⟨o1, w, gx2, rfl⟩ := hI2
      have r1 := Rep.mono _ gx2 r1
      have r2 := Rep.mono _ gx2 r2
      have r3 := Rep.mono _ gx2 r3
      refine hN2 _ _ ?_
      refine a_ret (v := (.int ((found1 : Nat) : Int))) (val_var rfl) ?_
      exact hQ _ hW _ _ w
abbrev s_SumWire_hang : Stmt := inClass (topS 10) 4
def W_SumWire_hang (self1 : Str × List Str) (known1 : List (Str × (Nat × Nat))) (R : (Nat × Nat) → Prop) : Prop := forW self1.2 (0, 0) (fun name1 (stores1, inputs1) nx1 bk1 => ∃ x1, valT known1 name1 = some x1 ∧ ∃ x2, valT known1 name1 = some x2 ∧ ∀ stores2 : Nat, stores2 = stores1 ^^^ x2.1 → ∃ x3, valT known1 name1 = some x3 ∧ ∃ x4, valT known1 name1 = some x4 ∧ ∀ inputs2 : Nat, inputs2 = inputs1 ^^^ x4.2 → nx1 (stores2, inputs2)) fun (stores1, inputs1) => R (stores1, inputs1)
def sp_SumWire_hang (K : PySem.W.Frag) (cc : Cz) : Sp := fun vs H Q _ => ∃ (F : Hp) (v1 : V) (self1 : Str × List Str) (v2 : V) (known1 : List (Str × (Nat × Nat))) (R : (Nat × Nat) → Prop), vs = [v1, v2] ∧ Ex F H ∧ (pO2 cc.SumWire "name" "wires" pS (pTL pS)).r F v1 self1 ∧ (pD (κ := Str) (pT2 pN pN)).r F v2 known1 ∧ W_SumWire_hang self1 known1 R ∧ ∀ z, R z → ∀ v F' H', Wf F H F' H' → (pT2 pN pN).r F' v z → Q v H'
abbrev N_SumWire_hang : List Str := ["self", "known", "stores", "inputs", "name"]
theorem sc_SumWire_hang : FnScope N_SumWire_hang ["self", "known"] (defScope s_SumWire_hang) := ⟨rfl, rfl, rfl, by decide +kernel, rfl, by decide +kernel, by decide +kernel⟩
theorem ok_SumWire_hang {P : Program} {w0 : World} {K : PySem.W.Frag} {mg : Str → Option Value} {base : Heap} {f : Addr} {fd : FuncData} {cc : Cz} (T : Tz K mg cc) (FU : Fun K "hang" "SumWire.hang" s_SumWire_hang f fd) (hm : Meth K cc.SumWire "hang" f) (hb : Binds K fd ["self", "known"] []) : Md P w0 K mg base CX0 1 cc.SumWire "hang" ["self", "known"] (sp_SumWire_hang K cc) := by
  refine ⟨f, fd, FU.ok sc_SumWire_hang (fun vs H Q E h => ?_) (fun cdv A outer s H0 vs Q E hr h => ?_), hm, hb⟩
  · obtain ⟨_, _, _, _, _, _, rfl, _⟩ := h; rfl
  · obtain ⟨F0, v1, self1, v2, known1, R, rfl, wf, r1, r2, hW, hQ⟩ := h
    have nd := sc_SumWire_hang.nd
    refine ⟨(tSeq (tAsg (tC (.int 0)) (gName 2)) (tSeq (tAsg (tC (.int 0)) (gName 3)) (tSeq (tFor (iTup K (tFld K (tVar 0) "wires")) (gName 4) (tSeq (tAsg (tOp kXor (tVar 2) (tOp (L2.rIxT K) (tDGet (tVar 1) (tVar 4)) (tC (.int 0)))) (gName 2)) (tAsg (tOp kXor (tVar 3) (tOp (L2.rIxT K) (tDGet (tVar 1) (tVar 4)) (tC (.int 1)))) (gName 3)))) (tRet (tTup (tCons (tVar 2) (tCons (tVar 3) tNil))))))), (pss_cons (ps_set (i := 2) nd rfl (Or.inl rfl) pe_int) (pss_cons (ps_set (i := 3) nd rfl (Or.inl rfl) pe_int) (pss_cons (ps_for PassesOwn.never rfl (pi_tup (pe_fld (pv 0) rfl)) (pg_name (i := 4) nd rfl (Or.inl rfl)) (pss_cons (ps_set (i := 2) nd rfl (Or.inl rfl) (pe_op op_xor (pv 2) (pe_ix ix_tup (pe_dget (hu_of hr) (pv 1) (pv 4) (fun _ _ => rfl)) pe_int (fun _ _ => rfl)))) (pss_one (ps_set (i := 3) nd rfl (Or.inl rfl) (pe_op op_xor (pv 3) (pe_ix ix_tup (pe_dget (hu_of hr) (pv 1) (pv 4) (fun _ _ => rfl)) pe_int (fun _ _ => rfl))))))) (pss_one (ps_ret (pe_tup (pa_cons (pv 2) (pa_cons (pv 3) pa_nil)))))))), ?_⟩
    have w := Wf.id wf
    refine q_sq fun N1 hN1 => ?_
    refine a_asg (v := (.int ((0 : Nat) : Int))) val_c ?_
    refine hN1 _ _ ?_
    refine q_sq fun N2 hN2 => ?_
    refine a_asg (v := (.int ((0 : Nat) : Int))) val_c ?_
    refine hN2 _ _ ?_
    refine q_sq fun N3 hN3 => ?_
    refine f_J ?_
    obtain ⟨v3, r3, fl1⟩ := fl_22 (K := K) T.cl_SumWire T.na_SumWire_wires r1 w.f
    refine e_val (v := v3) (fl1 (val_var rfl)) ?_
    refine src_tup r3 w.f (fun a1 T1 => ?_)
    refine w_forG (S := Nat × Nat) T1 (fun s σ' F' H' => match s with | (stores1, inputs1) => ∃ (o1 : Option V), Wf F0 H0 F' H' ∧ Ex F0 F' ∧ σ' = [some v1, some v2, some (.int ((stores1 : Nat) : Int)), some (.int ((inputs1 : Nat) : Int)), o1]) hW ⟨_, w, Ex.rfl', rfl⟩ (fun s σ' F' H' hI => by obtain ⟨stores1, inputs1⟩ := s; obtain ⟨_, w', gx', _⟩ := hI; exact ⟨gx', w'.f⟩) w.f ?_ ?_
    · intro N4 Bk1 name1 u1 s1 σ' F1 H1 F2 H2 nx1 bk1 hI1 hx1 s2 ru1 hW hN4 hB1
      obtain ⟨stores1, inputs1⟩ := s1
      obtain ⟨o1, w, gx1, rfl⟩ := hI1
      have r1 := Rep.mono _ gx1 r1
      have r2 := Rep.mono _ gx1 r2
      have r3 := Rep.mono _ gx1 r3
      replace r1 := Rep.mono _ s2.g r1
      replace r2 := Rep.mono _ s2.g r2
      replace r3 := Rep.mono _ s2.g r3
      replace w := w.tr s2
      replace gx1 := Ex.tr gx1 s2.g
      obtain rfl : u1 = (.str (name1)) := ru1
      refine g_name ?_
      refine q_sq fun N5 hN5 => ?_
      obtain ⟨x1, hx2, hW⟩ := hW
      obtain ⟨v4, r4, ix1⟩ := ix_D r2 w.f hx2
      obtain ⟨x2, hx3, hW⟩ := hW
      obtain ⟨v5, r5, ix2⟩ := ix_D r2 w.f hx3
      obtain ⟨_, rfl, ix3⟩ := ix_2a (K := K) r5 w.f
      obtain ⟨stores2, estores1⟩ : ∃ stores2 : Nat, stores2 = stores1 ^^^ x2.1 := ⟨_, rfl⟩
      replace hW := hW stores2 estores1
      refine a_asg (v := (.int ((stores2 : Nat) : Int))) (v_eq (vn_xor (val_var rfl) (ix3 (ix2 (val_var rfl) (val_var rfl)) val_c)) (by rw [estores1])) ?_
      refine hN5 _ _ ?_
      obtain ⟨x3, hx4, hW⟩ := hW
      obtain ⟨v7, r7, ix4⟩ := ix_D r2 w.f hx4
      obtain ⟨x4, hx5, hW⟩ := hW
      obtain ⟨v8, r8, ix5⟩ := ix_D r2 w.f hx5
      obtain ⟨_, rfl, ix6⟩ := ix_2b (K := K) r8 w.f
      obtain ⟨inputs2, einputs1⟩ : ∃ inputs2 : Nat, inputs2 = inputs1 ^^^ x4.2 := ⟨_, rfl⟩
      replace hW := hW inputs2 einputs1
      refine a_asg (v := (.int ((inputs2 : Nat) : Int))) (v_eq (vn_xor (val_var rfl) (ix6 (ix5 (val_var rfl) (val_var rfl)) val_c)) (by rw [einputs1])) ?_
      exact hN4 (stores2, inputs2) _ _ _ ⟨_, w, gx1, rfl⟩ hW
    · intro s3 σ' F3 H3 hI2 hW
      obtain ⟨stores1, inputs1⟩ := s3
      obtain ⟨o1, w, gx2, rfl⟩ := hI2
      have r1 := Rep.mono _ gx2 r1
      have r2 := Rep.mono _ gx2 r2
      have r3 := Rep.mono _ gx2 r3
      refine hN3 _ _ ?_
      refine a_retE ?_
      refine e_tup ?_
      refine a_val (v := (.int ((stores1 : Nat) : Int))) (val_var rfl) ?_
      refine a_val (v := (.int ((inputs1 : Nat) : Int))) (val_var rfl) ?_
      refine a_nil ?_
      refine n_tup2 (e := pN) (f := pN) (x := stores1) (y := inputs1) rfl rfl w ?_
      intro p1 F4 H4 s4 r10
      replace r1 := Rep.mono _ s4.g r1
      replace r2 := Rep.mono _ s4.g r2
      replace w := w.tr s4
      replace gx2 := Ex.tr gx2 s4.g
      exact hQ _ hW _ _ _ w r10
abbrev s_StoreWire___init__ : Stmt := inClass (topS 11) 0
def W_StoreWire___init__ (name1 : Str) (wire1 : Str) (number1 : Nat) (R : (Str × Str × Nat) → Prop) : Prop := R (name1, wire1, number1)
def sp_StoreWire___init__ (K : PySem.W.Frag) (cc : Cz) : Sp := fun vs H Q _ => ∃ (F : Hp) (ob dx : Addr) (name1 : Str) (wire1 : Str) (number1 : Nat) (R : (Str × Str × Nat) → Prop), vs = [(.ref ob), (.str (name1)), (.str (wire1)), (.int ((number1 : Nat) : Int))] ∧ H ob = some (.ins cc.StoreWire dx []) ∧ F ob = none ∧ Ex F H ∧ W_StoreWire___init__ name1 wire1 number1 R ∧ ∀ z, R z → ∀ F' H', Wf F (wo H ob) F' H' → (pO3 cc.StoreWire "name" "wire" "number" pS pS pN).r F' (.ref ob) z → Q .non H'
abbrev N_StoreWire___init__ : List Str := ["self", "name", "wire", "number"]
theorem sc_StoreWire___init__ : FnScope N_StoreWire___init__ ["self", "name", "wire", "number"] (defScope s_StoreWire___init__) := ⟨rfl, rfl, rfl, by decide +kernel, rfl, by decide +kernel, by decide +kernel⟩
theorem ok_StoreWire___init__ {P : Program} {w0 : World} {K : PySem.W.Frag} {mg : Str → Option Value} {base : Heap} {f : Addr} {fd : FuncData} {cc : Cz} (T : Tz K mg cc) (FU : Fun K "__init__" "StoreWire.__init__" s_StoreWire___init__ f fd) (hm : Mk K cc.StoreWire f) (hg : mg "StoreWire" = some (.ref cc.StoreWire)) (hb : Binds K fd ["self", "name", "wire", "number"] []) (c_Wire___init__ : Cf P w0 K mg base CX0 1 cc.Wire "__init__" ["self", "name"] (sp_base1 K "name")) : Nw P w0 K mg base CX0 3 cc.StoreWire "StoreWire" ["self", "name", "wire", "number"] (sp_StoreWire___init__ K cc) := by
  refine ⟨f, fd, FU.ok sc_StoreWire___init__ (fun vs H Q E h => ?_) (fun cdv A outer s H0 vs Q E hr h => ?_), hm, hg, hb⟩
  · obtain ⟨_, _, _, _, _, _, _, rfl, _⟩ := h; rfl
  · obtain ⟨F0, ob, dx, name1, wire1, number1, R, rfl, hob, nob, wf, hW, hQ⟩ := h
    have nd := sc_StoreWire___init__.nd
    refine ⟨(tSeq (tDrop (tCf cc.Wire (sp_base1 K "name") E0 (tC (.ref cc.Wire)) (tCons (tVar 0) (tCons (tVar 1) tNil)))) (tSeq (sFld K (tVar 0) (tVar 2) "wire") (sFld K (tVar 0) (tVar 3) "number"))), (pss_cons (ps_expr (pe_cf c_Wire___init__ T.cr_Wire (hr.mono (by decide)) (pe_glob (by rfl) T.g_Wire rfl) (pa_cons (pv 0) (pa_cons (pv 1) pa_nil)))) (pss_cons (ps_fld (pv 0) (pv 2) rfl) (pss_one (ps_fld (pv 0) (pv 3) rfl)))), ?_⟩
    have xs := Xc.start nob hob
    have w := Wf.start wf nob
    generalize hH0 : wo H0 ob = Hb at xs w hQ
    refine q_sq fun N1 hN1 => ?_
    refine a_dropE ?_
    refine e_cf ?_
    refine e_val (v := .ref cc.Wire) val_c ?_
    refine ⟨rfl, ?_⟩
    refine a_val (v := (.ref ob)) (val_var rfl) ?_
    refine a_val (v := (.str (name1))) (val_var rfl) ?_
    refine a_nil ?_
    refine n_base1 T.cl_StoreWire T.na_StoreWire_name xs w (fun H1 w1 x1 kp1 => ?_)
    replace w := w1
    refine hN1 _ _ ?_
    refine q_sq fun N2 hN2 => ?_
    refine e_fld ?_
    refine e_val (v := (.str (wire1))) (val_var rfl) ?_
    refine a_fld T.cl_StoreWire T.na_StoreWire_wire x1 w (show 1 < 1000 from by decide) (val_var rfl) (fun H2 w2 x2 kp2 => ?_)
    replace w := w2
    replace x2 : Xc Hb F0 H2 ob (.ins cc.StoreWire dx [("name", (.str (name1))), ("wire", (.str (wire1)))]) := Xc.cast x2 ((put_ne (by decide +kernel)).trans (congrArg _ rfl))
    refine hN2 _ _ ?_
    refine e_fld ?_
    refine e_val (v := (.int ((number1 : Nat) : Int))) (val_var rfl) ?_
    refine a_fld T.cl_StoreWire T.na_StoreWire_number x2 w (show 2 < 1000 from by decide) (val_var rfl) (fun H3 w3 x3 kp3 => ?_)
    replace w := w3
    replace x3 : Xc Hb F0 H3 ob (.ins cc.StoreWire dx [("name", (.str (name1))), ("wire", (.str (wire1))), ("number", (.int ((number1 : Nat) : Int)))]) := Xc.cast x3 ((put_ne (by decide +kernel)).trans (congrArg _ ((put_ne (by decide +kernel)).trans (congrArg _ rfl))))
    obtain ⟨F1, w4, g1, h1⟩ := x3.frzE w
    exact hQ _ hW _ _ w4 ⟨ob, dx, _, rfl, h1, _, _, _, rfl, rfl, rfl, rfl⟩
abbrev s_StoreWire_kind : Stmt := inClass (topS 11) 1
def W_StoreWire_kind (self1 : Str × Str × Nat) (R : Str → Prop) : Prop := R (PySem.Str.ofString "store")
def sp_StoreWire_kind (K : PySem.W.Frag) (cc : Cz) : Sp := fun vs H Q _ => ∃ (F : Hp) (v1 : V) (self1 : Str × Str × Nat) (R : Str → Prop), vs = [v1] ∧ Ex F H ∧ (pO3 cc.StoreWire "name" "wire" "number" pS pS pN).r F v1 self1 ∧ W_StoreWire_kind self1 R ∧ ∀ z, R z → ∀ F' H', Wf F H F' H' → Q (.str (z)) H'
abbrev N_StoreWire_kind : List Str := ["self"]
theorem sc_StoreWire_kind : FnScope N_StoreWire_kind ["self"] (defScope s_StoreWire_kind) := ⟨rfl, rfl, rfl, by decide +kernel, rfl, by decide +kernel, by decide +kernel⟩
theorem ok_StoreWire_kind {P : Program} {w0 : World} {K : PySem.W.Frag} {mg : Str → Option Value} {base : Heap} {f : Addr} {fd : FuncData} {cc : Cz} (T : Tz K mg cc) (FU : Fun K "kind" "StoreWire.kind" s_StoreWire_kind f fd) (hm : Meth K cc.StoreWire "kind" f) (hb : Binds K fd ["self"] []) : Md P w0 K mg base CX0 1 cc.StoreWire "kind" ["self"] (sp_StoreWire_kind K cc) := by
  refine ⟨f, fd, FU.ok sc_StoreWire_kind (fun vs H Q E h => ?_) (fun cdv A outer s H0 vs Q E hr h => ?_), hm, hb⟩
  · obtain ⟨_, _, _, _, rfl, _⟩ := h; rfl
  · obtain ⟨F0, v1, self1, R, rfl, wf, r1, hW, hQ⟩ := h
    have nd := sc_StoreWire_kind.nd
    refine ⟨(tRet (tC (.str (PySem.Str.ofString "store")))), (pss_one (ps_ret pe_str)), ?_⟩
    have w := Wf.id wf
    refine a_ret (v := (.str ((PySem.Str.ofString "store")))) val_c ?_
    exact hQ _ hW _ _ w
abbrev s_StoreWire_bit : Stmt := inClass (topS 11) 2
def W_StoreWire_bit (self1 : Str × Str × Nat) (known1 : List (Str × Nat)) (row1 : Nat) (state1 : Nat) (R : Nat → Prop) : Prop := R ((state1 >>> self1.2.2) &&& 1)
def sp_StoreWire_bit (K : PySem.W.Frag) (cc : Cz) : Sp := fun vs H Q _ => ∃ (F : Hp) (v1 : V) (self1 : Str × Str × Nat) (v2 : V) (known1 : List (Str × Nat)) (row1 : Nat) (state1 : Nat) (R : Nat → Prop), vs = [v1, v2, (.int ((row1 : Nat) : Int)), (.int ((state1 : Nat) : Int))] ∧ Ex F H ∧ (pO3 cc.StoreWire "name" "wire" "number" pS pS pN).r F v1 self1 ∧ (pD (κ := Str) pN).r F v2 known1 ∧ W_StoreWire_bit self1 known1 row1 state1 R ∧ ∀ z, R z → ∀ F' H', Wf F H F' H' → Q (.int ((z : Nat) : Int)) H'
abbrev N_StoreWire_bit : List Str := ["self", "known", "row", "state"]
theorem sc_StoreWire_bit : FnScope N_StoreWire_bit ["self", "known", "row", "state"] (defScope s_StoreWire_bit) := ⟨rfl, rfl, rfl, by decide +kernel, rfl, by decide +kernel, by decide +kernel⟩
theorem ok_StoreWire_bit {P : Program} {w0 : World} {K : PySem.W.Frag} {mg : Str → Option Value} {base : Heap} {f : Addr} {fd : FuncData} {cc : Cz} (T : Tz K mg cc) (FU : Fun K "bit" "StoreWire.bit" s_StoreWire_bit f fd) (hm : Meth K cc.StoreWire "bit" f) (hb : Binds K fd ["self", "known", "row", "state"] []) : Md P w0 K mg base CX0 1 cc.StoreWire "bit" ["self", "known", "row", "state"] (sp_StoreWire_bit K cc) := by
  refine ⟨f, fd, FU.ok sc_StoreWire_bit (fun vs H Q E h => ?_) (fun cdv A outer s H0 vs Q E hr h => ?_), hm, hb⟩
  · obtain ⟨_, _, _, _, _, _, _, _, rfl, _⟩ := h; rfl
  · obtain ⟨F0, v1, self1, v2, known1, row1, state1, R, rfl, wf, r1, r2, hW, hQ⟩ := h
    have nd := sc_StoreWire_bit.nd
    refine ⟨(tRet (tOp kAnd (tOp kShr (tVar 3) (tFld K (tVar 0) "number")) (tC (.int 1)))), (pss_one (ps_ret (pe_op op_and (pe_op op_shr (pv 3) (pe_fld (pv 0) rfl)) pe_int))), ?_⟩
    have w := Wf.id wf
    obtain ⟨_, rfl, fl1⟩ := fl_33 (K := K) T.cl_StoreWire T.na_StoreWire_number r1 w.f
    refine a_ret (v := (.int (((state1 >>> self1.2.2) &&& 1 : Nat) : Int))) (vn_and (vn_shr (val_var rfl) (fl1 (val_var rfl))) val_c) ?_
    exact hQ _ hW _ _ w
abbrev s_StoreWire_hang : Stmt := inClass (topS 11) 3
def W_StoreWire_hang (self1 : Str × Str × Nat) (known1 : List (Str × (Nat × Nat))) (R : (Nat × Nat) → Prop) : Prop := (self1.2.2 < 100000000) ∧ R (2 ^ self1.2.2, 0)
def sp_StoreWire_hang (K : PySem.W.Frag) (cc : Cz) : Sp := fun vs H Q _ => ∃ (F : Hp) (v1 : V) (self1 : Str × Str × Nat) (v2 : V) (known1 : List (Str × (Nat × Nat))) (R : (Nat × Nat) → Prop), vs = [v1, v2] ∧ Ex F H ∧ (pO3 cc.StoreWire "name" "wire" "number" pS pS pN).r F v1 self1 ∧ (pD (κ := Str) (pT2 pN pN)).r F v2 known1 ∧ W_StoreWire_hang self1 known1 R ∧ ∀ z, R z → ∀ v F' H', Wf F H F' H' → (pT2 pN pN).r F' v z → Q v H'
abbrev N_StoreWire_hang : List Str := ["self", "known"]
theorem sc_StoreWire_hang : FnScope N_StoreWire_hang ["self", "known"] (defScope s_StoreWire_hang) := ⟨rfl, rfl, rfl, by decide +kernel, rfl, by decide +kernel, by decide +kernel⟩
theorem ok_StoreWire_hang {P : Program} {w0 : World} {K : PySem.W.Frag} {mg : Str → Option Value} {base : Heap} {f : Addr} {fd : FuncData} {cc : Cz} (T : Tz K mg cc) (FU : Fun K "hang" "StoreWire.hang" s_StoreWire_hang f fd) (hm : Meth K cc.StoreWire "hang" f) (hb : Binds K fd ["self", "known"] []) : Md P w0 K mg base CX0 1 cc.StoreWire "hang" ["self", "known"] (sp_StoreWire_hang K cc) := by
  refine ⟨f, fd, FU.ok sc_StoreWire_hang (fun vs H Q E h => ?_) (fun cdv A outer s H0 vs Q E hr h => ?_), hm, hb⟩
  · obtain ⟨_, _, _, _, _, _, rfl, _⟩ := h; rfl
  · obtain ⟨F0, v1, self1, v2, known1, R, rfl, wf, r1, r2, hW, hQ⟩ := h
    have nd := sc_StoreWire_hang.nd
    refine ⟨(tRet (tTup (tCons (tOp kShl (tC (.int 1)) (tFld K (tVar 0) "number")) (tCons (tC (.int 0)) tNil)))), (pss_one (ps_ret (pe_tup (pa_cons (pe_op op_shlW pe_int (pe_fld (pv 0) rfl)) (pa_cons pe_int pa_nil))))), ?_⟩
    have w := Wf.id wf
    refine a_retE ?_
    refine e_tup ?_
    obtain ⟨_, rfl, fl1⟩ := fl_33 (K := K) T.cl_StoreWire T.na_StoreWire_number r1 w.f
    obtain ⟨c1, hW⟩ := hW
    refine a_val (v := (.int ((2 ^ self1.2.2 : Nat) : Int))) (vn_one val_c (fl1 (val_var rfl)) c1) ?_
    refine a_val (v := (.int ((0 : Nat) : Int))) val_c ?_
    refine a_nil ?_
    refine n_tup2 (e := pN) (f := pN) (x := 2 ^ self1.2.2) (y := 0) rfl rfl w ?_
    intro p1 F1 H1 s1 r4
    replace r1 := Rep.mono _ s1.g r1
    replace r2 := Rep.mono _ s1.g r2
    replace w := w.tr s1
    exact hQ _ hW _ _ _ w r4
def W_P_kind (self1 : WireV)  (R : Str → Prop) : Prop := match self1 with | .inl y => W_InWire_kind y R | .inr (.inl y) => W_SumWire_kind y R | .inr (.inr y) => W_StoreWire_kind y R
def U_P_kind (K : PySem.W.Frag) (cc : Cz) : List (Addr × Sp) := [(cc.InWire, sp_InWire_kind K cc), (cc.SumWire, sp_SumWire_kind K cc), (cc.StoreWire, sp_StoreWire_kind K cc)]
def sp_P_kind (K : PySem.W.Frag) (cc : Cz) (self1 : WireV) : Sp := fun vs H Q _ => ∃ (F : Hp) (v1 : V)  (R : Str → Prop), vs = [v1] ∧ Ex F H ∧ (pW cc.InWire cc.SumWire cc.StoreWire).r F v1 self1 ∧ W_P_kind self1 R ∧ ∀ z, R z → ∀ F' H', Wf F H F' H' → Q (.str (z)) H'
theorem u_P_kind {K : PySem.W.Frag} {cc : Cz} {F1 H1 H2 : Hp} {x : WireV} {v : V} {vs : List V} {Q : VK} {E : XK} (r : (pW cc.InWire cc.SumWire cc.StoreWire).r F1 v x) (h : Ex F1 H1) (k : sp_P_kind K cc x (v :: vs) H2 Q E) : ∀ C, IsC H1 v C → ∃ sp, (C, sp) ∈ U_P_kind K cc ∧ sp (v :: vs) H2 Q E := by
  intro C c
  rw [IsC.eq r h c]
  obtain ⟨F, v1, R, e, wf, r1, hW, hQ⟩ := k
  match x, r1, hW with
  | .inl y, r1, hW => exact ⟨sp_InWire_kind K cc, List.mem_cons_self .., F, v1, y, R, e, wf, r1, hW, hQ⟩
  | .inr (.inl y), r1, hW => exact ⟨sp_SumWire_kind K cc, List.mem_cons_of_mem _ (List.mem_cons_self ..), F, v1, y, R, e, wf, r1, hW, hQ⟩
  | .inr (.inr y), r1, hW => exact ⟨sp_StoreWire_kind K cc, List.mem_cons_of_mem _ (List.mem_cons_of_mem _ (List.mem_cons_self ..)), F, v1, y, R, e, wf, r1, hW, hQ⟩
theorem ok_P_kind {P : Program} {w0 : World} {K : PySem.W.Frag} {mg : Str → Option Value} {base : Heap} {cc : Cz} (T : Tz K mg cc) (c_InWire : Md P w0 K mg base CX0 1 cc.InWire "kind" ["self"] (sp_InWire_kind K cc)) (c_SumWire : Md P w0 K mg base CX0 1 cc.SumWire "kind" ["self"] (sp_SumWire_kind K cc)) (c_StoreWire : Md P w0 K mg base CX0 1 cc.StoreWire "kind" ["self"] (sp_StoreWire_kind K cc)) : MdU P w0 K mg base CX0 1 (U_P_kind K cc) "kind" ["self"] := MdU.three (c_InWire.mono (by decide)) T.cl_InWire (c_SumWire.mono (by decide)) T.cl_SumWire (c_StoreWire.mono (by decide)) T.cl_StoreWire
def W_P_needs (self1 : WireV)  (R : (List Str) → Prop) : Prop := match self1 with | .inl y => W_Wire_needs (.inl y) R | .inr (.inl y) => W_SumWire_needs y R | .inr (.inr y) => W_Wire_needs (.inr (.inr y)) R
def U_P_needs (K : PySem.W.Frag) (cc : Cz) : List (Addr × Sp) := [(cc.InWire, sp_Wire_needs K cc), (cc.SumWire, sp_SumWire_needs K cc), (cc.StoreWire, sp_Wire_needs K cc)]
def sp_P_needs (K : PySem.W.Frag) (cc : Cz) (self1 : WireV) : Sp := fun vs H Q _ => ∃ (F : Hp) (v1 : V)  (R : (List Str) → Prop), vs = [v1] ∧ Ex F H ∧ (pW cc.InWire cc.SumWire cc.StoreWire).r F v1 self1 ∧ W_P_needs self1 R ∧ ∀ z, R z → ∀ p F' H', Wf F H F' H' → XL pS H F' H' p z → Q (.ref p) H'
theorem u_P_needs {K : PySem.W.Frag} {cc : Cz} {F1 H1 H2 : Hp} {x : WireV} {v : V} {vs : List V} {Q : VK} {E : XK} (r : (pW cc.InWire cc.SumWire cc.StoreWire).r F1 v x) (h : Ex F1 H1) (k : sp_P_needs K cc x (v :: vs) H2 Q E) : ∀ C, IsC H1 v C → ∃ sp, (C, sp) ∈ U_P_needs K cc ∧ sp (v :: vs) H2 Q E := by
  intro C c
  rw [IsC.eq r h c]
  obtain ⟨F, v1, R, e, wf, r1, hW, hQ⟩ := k
  match x, r1, hW with
  | .inl y, r1, hW => exact ⟨sp_Wire_needs K cc, List.mem_cons_self .., F, v1, (.inl y), R, e, wf, r1, hW, hQ⟩
  | .inr (.inl y), r1, hW => exact ⟨sp_SumWire_needs K cc, List.mem_cons_of_mem _ (List.mem_cons_self ..), F, v1, y, R, e, wf, r1, hW, hQ⟩
  | .inr (.inr y), r1, hW => exact ⟨sp_Wire_needs K cc, List.mem_cons_of_mem _ (List.mem_cons_of_mem _ (List.mem_cons_self ..)), F, v1, (.inr (.inr y)), R, e, wf, r1, hW, hQ⟩
theorem ok_P_needs {P : Program} {w0 : World} {K : PySem.W.Frag} {mg : Str → Option Value} {base : Heap} {cc : Cz} (T : Tz K mg cc) (c_InWire : Md P w0 K mg base CX0 1 cc.InWire "needs" ["self"] (sp_Wire_needs K cc)) (c_SumWire : Md P w0 K mg base CX0 1 cc.SumWire "needs" ["self"] (sp_SumWire_needs K cc)) (c_StoreWire : Md P w0 K mg base CX0 1 cc.StoreWire "needs" ["self"] (sp_Wire_needs K cc)) : MdU P w0 K mg base CX0 1 (U_P_needs K cc) "needs" ["self"] := MdU.three (c_InWire.mono (by decide)) T.cl_InWire (c_SumWire.mono (by decide)) T.cl_SumWire (c_StoreWire.mono (by decide)) T.cl_StoreWire
def U_P_bit (K : PySem.W.Frag) (cc : Cz) : List (Addr × Sp) := [(cc.InWire, sp_InWire_bit K cc), (cc.SumWire, sp_SumWire_bit K cc), (cc.StoreWire, sp_StoreWire_bit K cc)]
theorem ok_P_bit {P : Program} {w0 : World} {K : PySem.W.Frag} {mg : Str → Option Value} {base : Heap} {cc : Cz} (T : Tz K mg cc) (c_InWire : Md P w0 K mg base CX0 1 cc.InWire "bit" ["self", "known", "row", "state"] (sp_InWire_bit K cc)) (c_SumWire : Md P w0 K mg base CX0 1 cc.SumWire "bit" ["self", "known", "row", "state"] (sp_SumWire_bit K cc)) (c_StoreWire : Md P w0 K mg base CX0 1 cc.StoreWire "bit" ["self", "known", "row", "state"] (sp_StoreWire_bit K cc)) : MdU P w0 K mg base CX0 1 (U_P_bit K cc) "bit" ["self", "known", "row", "state"] := MdU.three (c_InWire.mono (by decide)) T.cl_InWire (c_SumWire.mono (by decide)) T.cl_SumWire (c_StoreWire.mono (by decide)) T.cl_StoreWire
def U_P_hang (K : PySem.W.Frag) (cc : Cz) : List (Addr × Sp) := [(cc.InWire, sp_InWire_hang K cc), (cc.SumWire, sp_SumWire_hang K cc), (cc.StoreWire, sp_StoreWire_hang K cc)]
theorem ok_P_hang {P : Program} {w0 : World} {K : PySem.W.Frag} {mg : Str → Option Value} {base : Heap} {cc : Cz} (T : Tz K mg cc) (c_InWire : Md P w0 K mg base CX0 1 cc.InWire "hang" ["self", "known"] (sp_InWire_hang K cc)) (c_SumWire : Md P w0 K mg base CX0 1 cc.SumWire "hang" ["self", "known"] (sp_SumWire_hang K cc)) (c_StoreWire : Md P w0 K mg base CX0 1 cc.StoreWire "hang" ["self", "known"] (sp_StoreWire_hang K cc)) : MdU P w0 K mg base CX0 1 (U_P_hang K cc) "hang" ["self", "known"] := MdU.three (c_InWire.mono (by decide)) T.cl_InWire (c_SumWire.mono (by decide)) T.cl_SumWire (c_StoreWire.mono (by decide)) T.cl_StoreWire
abbrev s_is_name : Stmt := topS 15
def W_is_name (thing1 : An) (R : Bool → Prop) : Prop := jn (fun kk => if ¬ ((isA "str" thing1) = true) then (kk true) else (∃ ys1 : Str, thing1 = An.s ys1 ∧ ((ys1).length < 1000000) ∧ kk (decide (¬ (1 ≤ ((ys1).length) ∧ ((ys1).length) ≤ 6))))) fun b1 => if b1 = true then (R false) else (∃ ys2 : Str, thing1 = An.s ys2 ∧ forW ys2.cps.toList () (fun sign1 _ nx1 bk1 => if (¬ (sign1 ∈ (PySem.Str.ofString "abcdefghijklmnopqrstuvwxyz").cps.toList)) ∧ (¬ (sign1 ∈ (PySem.Str.ofString "0123456789").cps.toList)) then (R false) else (nx1 ())) fun _ => (ys2.length < 1000000) ∧ ∃ c3 : Nat, ys2.cps.toList[0]? = some c3 ∧ R (decide (c3 ∈ (PySem.Str.ofString "abcdefghijklmnopqrstuvwxyz").cps.toList)))
def sp_is_name (K : PySem.W.Frag) (cc : Cz) : Sp := fun vs H Q _ => ∃ (F : Hp) (v1 : V) (thing1 : An) (R : Bool → Prop), vs = [v1] ∧ Ex F H ∧ pA.r F v1 thing1 ∧ W_is_name thing1 R ∧ ∀ z, R z → ∀ F' H', Wf F H F' H' → Q (.bl (z)) H'
abbrev N_is_name : List Str := ["thing", "sign"]
theorem sc_is_name : FnScope N_is_name ["thing"] (defScope s_is_name) := ⟨rfl, rfl, rfl, by decide +kernel, rfl, by decide +kernel, by decide +kernel⟩
theorem ok_is_name {P : Program} {w0 : World} {K : PySem.W.Frag} {mg : Str → Option Value} {base : Heap} {f : Addr} {fd : FuncData} {cc : Cz} (T : Tz K mg cc) (FU : Fun K "is_name" "is_name" s_is_name f fd) (hm : mg "is_name" = some (.ref f)) (hb : Binds K fd ["thing"] []) (n_isinstance : mg "isinstance" = none) (n_len : mg "len" = none) (n_str : mg "str" = none) : Fn P w0 K mg base CX0 1 "is_name" ["thing"] (sp_is_name K cc) := by
  refine ⟨f, fd, FU.ok sc_is_name (fun vs H Q E h => ?_) (fun cdv A outer s H0 vs Q E hr h => ?_), hm, FU.kp, hb⟩
  · obtain ⟨_, _, _, _, rfl, _⟩ := h; rfl
  · obtain ⟨F0, v1, thing1, R, rfl, wf, r1, hW, hQ⟩ := h
    have nd := sc_is_name.nd
    refine ⟨(tSeq (tIfS (tOr (tNot (tB (tCB (rIsi K) (tCons (tVar 0) (tCons (tC (.ty "str")) tNil))))) (tNot (tTest (tChain kLe kLe (tC (.int 1)) (tCB rLenS (tCons (tVar 0) tNil)) (tC (.int 6)))))) (tRet (tC (.bl false))) tNext) (tSeq (tFor (iStr (tVar 0)) (gName 1) (tIfS (tAnd (tTest (tOp kNotInS (tVar 1) (tC (.str (PySem.Str.ofString "abcdefghijklmnopqrstuvwxyz"))))) (tTest (tOp kNotInS (tVar 1) (tC (.str (PySem.Str.ofString "0123456789")))))) (tRet (tC (.bl false))) tNext)) (tRet (tOp kInS (tOp L2.rIxS (tVar 0) (tC (.int 0))) (tC (.str (PySem.Str.ofString "abcdefghijklmnopqrstuvwxyz"))))))), (pss_cons (ps_if (PW.pt (pw_or (pt_not (pt_val (pe_callB call_isi (by rfl) n_isinstance PyProof.Rows.boot_isinstance (pa_cons (pv 0) (pa_cons (pe_bltn (v := .ty "str") (by rfl) n_str PyProof.Rows.boot_str rfl) pa_nil))))) (pw_or1 (pt_not (pt_chain op_le op_le pe_int (pe_callB call_len_str (by rfl) n_len PySem.boot_len (pa_cons (pv 0) pa_nil)) pe_int))))) (pss_one (ps_ret pe_bl)) pss_nil) (pss_cons (ps_for PassesOwn.never rfl (pi_str (pv 0)) (pg_name (i := 1) nd rfl (Or.inl rfl)) (pss_one (ps_if (PW.pt (pw_and (pt_cmpR op_notInSg (pv 1) (pe_globE T.gl_LETTERS rfl) rfl) (pw_and1 (pt_cmpR op_notInSg (pv 1) (pe_globE T.gl_FIGURES rfl) rfl)))) (pss_one (ps_ret pe_bl)) pss_nil))) (pss_one (ps_ret (pe_cmpR op_inSg (pe_ix ix_str (pv 0) pe_int (fun _ _ => rfl)) (pe_globE T.gl_LETTERS rfl) rfl))))), ?_⟩
    have w := Wf.id wf
    refine q_sq fun N1 hN1 => ?_
    refine a_ifE ?_
    refine e_jnT hW (fun b F' H' => b = b ∧ Wf F0 H0 F' H' ∧ Ex F0 F') ?_ ?_
    · intro N2 hN2 hW
      have gx1 : Ex F0 F0 := Ex.rfl'
      refine e_tOr ?_
      refine e_ans (b := decide (¬ ((isA "str" thing1) = true))) (t_not (t_ofB (vb_of (v_isiA "str" (val_var rfl) r1 w.f) dec_tt))) ?_
      refine b_if (fun hc1 => ?_) (fun hc1 => ?_)
      · have hW := ifP hW hc1
        exact hN2 true _ _ ⟨rfl, w, gx1⟩ hW
      · have hW := ifN hW hc1
        obtain ⟨ys1, hy1, hW⟩ := hW
        obtain rfl : v1 = .str ys1 := an_str r1 hy1
        obtain ⟨c1, hW⟩ := hW
        refine e_ans (b := decide (¬ (1 ≤ ((ys1).length) ∧ ((ys1).length) ≤ 6))) (t_not (t_of (vb_of (v_chain (b1 := decide (1 ≤ ((ys1).length))) (b2 := decide (((ys1).length) ≤ 6)) (x := (.int ((1 : Nat) : Int))) (y := (.int (((ys1).length : Nat) : Int))) (z := (.int ((6 : Nat) : Int))) val_c (len_Str c1 (val_var rfl)) val_c (fun Q k => rv2 (vb_dec (c_le val_c val_c) n_le) k) (fun Q k => rv2 (vb_dec (c_le val_c val_c) n_le) k)) dec_and))) ?_
        exact hN2 (decide (¬ (1 ≤ ((ys1).length) ∧ ((ys1).length) ≤ 6))) _ _ ⟨rfl, w, gx1⟩ hW
    intro b1 F1 H1 hI1 hW
    obtain ⟨_, w, gx2⟩ := hI1
    have r1 := Rep.mono _ gx2 r1
    refine bb_if (fun hc2 => ?_) (fun hc2 => ?_)
    · have hW := ifP hW hc2
      refine a_ret (v := (.bl (false))) val_c ?_
      exact hQ _ hW _ _ w
    · have hW := ifN hW hc2
      refine hN1 _ _ ?_
      refine q_sq fun N3 hN3 => ?_
      obtain ⟨ys2, hy2, hW⟩ := hW
      obtain rfl : v1 = .str ys2 := an_str r1 hy2
      refine f_J ?_
      refine e_val (v := (.str (ys2))) (val_var rfl) ?_
      refine src_str (F := F1) w.f (fun T1 => ?_)
      refine w_forG (S := Unit) T1 (fun _ σ' F' H' => ∃ (o1 : Option V), Wf F0 H0 F' H' ∧ Ex F1 F' ∧ σ' = [some (.str (ys2)), o1]) hW ⟨_, w, Ex.rfl', rfl⟩ (fun s σ' F' H' hI => by obtain ⟨_, w', gx', _⟩ := hI; exact ⟨gx', w'.f⟩) w.f ?_ ?_
      · intro N4 Bk1 sign1 u1 s1 σ' F2 H2 F3 H3 nx1 bk1 hI2 hx1 s2 ru1 hW hN4 hB1
        obtain ⟨o1, w, gx3, rfl⟩ := hI2
        replace w := w.tr s2
        replace gx3 := Ex.tr gx3 s2.g
        obtain rfl : u1 = (.str (sg sign1)) := ru1
        refine g_name ?_
        refine a_ifE ?_
        refine e_ans (b := decide ((¬ (sign1 ∈ (PySem.Str.ofString "abcdefghijklmnopqrstuvwxyz").cps.toList)) ∧ (¬ (sign1 ∈ (PySem.Str.ofString "0123456789").cps.toList)))) (t_iff (p := (¬ sign1 ∈ (PySem.Str.ofString "abcdefghijklmnopqrstuvwxyz").cps.toList) ∧ (¬ sign1 ∈ (PySem.Str.ofString "0123456789").cps.toList)) (q := (¬ (sign1 ∈ (PySem.Str.ofString "abcdefghijklmnopqrstuvwxyz").cps.toList)) ∧ (¬ (sign1 ∈ (PySem.Str.ofString "0123456789").cps.toList))) (t_and (t_of (v_notInS (val_var rfl) val_c)) (fun _ => (t_of (v_notInS (val_var rfl) val_c)))) (by simp)) ?_
        refine b_if (fun hc3 => ?_) (fun hc3 => ?_)
        · have hW := ifP hW hc3
          refine a_ret (v := (.bl (false))) val_c ?_
          exact hQ _ hW _ _ w
        · have hW := ifN hW hc3
          exact hN4 () _ _ _ ⟨_, w, gx3, rfl⟩ hW
      · intro s3 σ' F4 H4 hI3 hW
        obtain ⟨o1, w, gx4, rfl⟩ := hI3
        refine hN3 _ _ ?_
        obtain ⟨c2, hW⟩ := hW
        obtain ⟨c3, hc4, hW⟩ := hW
        refine a_ret (v := (.bl (decide (c3 ∈ (PySem.Str.ofString "abcdefghijklmnopqrstuvwxyz").cps.toList)))) (v_inS (ix_Str (val_var rfl) val_c c2 hc4) val_c) ?_
        exact hQ _ hW _ _ w
abbrev s_NoWire___init__ : Stmt := inClass (topS 5) 0
abbrev N_NoWire___init__ : List Str := ["self", "name"]
theorem sc_NoWire___init__ : FnScope N_NoWire___init__ ["self", "name"] (defScope s_NoWire___init__) := ⟨rfl, rfl, rfl, by decide +kernel, rfl, by decide +kernel, by decide +kernel⟩
theorem ok_NoWire___init__ {P : Program} {w0 : World} {K : PySem.W.Frag} {mg : Str → Option Value} {base : Heap} {f : Addr} {fd : FuncData} {cc : Cz} (T : Tz K mg cc) (FU : Fun K "__init__" "NoWire.__init__" s_NoWire___init__ f fd) (hm : PySem.W.findIn K (.ref cc.NoWire) "__init__" = some (some (.ref f)) ∧ PySem.W.typeIn K (.ref f) = some (.type "function")) (hb : Binds K fd ["self", "name"] []) : Xi P w0 K mg base CX0 2 cc.NoWire ["self", "name"] (sp_xi "name" cc.NoWire) := by
  refine ⟨f, fd, FU.ok sc_NoWire___init__ (fun vs H Q E h => ?_) (fun cdv A outer s H0 vs Q E hr h => ?_), hm, hb⟩
  · obtain ⟨ob, v, rfl, _⟩ := h; rfl
  · obtain ⟨ob, v, rfl, ho, hQ⟩ := h
    have nd := sc_NoWire___init__.nd
    have wf : Ex H0 H0 := Ex.rfl'
    refine ⟨(tSeq (tDrop (tWeI K cc.WireError (tC (.ref cc.WireError)) (tCons (tVar 0) (tCons (tC (.str (PySem.Str.ofString "a wire that is not there"))) tNil)))) (tOst K "name" (tVar 0) (tVar 1))), (pss_cons (ps_expr (pe_weinit T.xw T.xwv (pe_glob (by rfl) T.xc_WireError.g rfl) (pa_cons (pv 0) (pa_cons pe_str pa_nil)))) (pss_one (ps_ost (pv 0) (pv 1)))), ?_⟩
    exact x_init (m := (PySem.Str.ofString "a wire that is not there")) T.xc_NoWire.ox T.xc_NoWire.no rfl rfl ho val_c hQ
abbrev s_need_sizes : Stmt := topS 22
def W_need_sizes (ins1 : List Str) (sums1 : List (Str × List Str)) (stores1 : List (Str × Str)) (outs1 : List Str) (R : Unit → Prop) : Prop := if (6 < ins1.length) ∨ ((40 < sums1.length) ∨ ((16 < stores1.length) ∨ (6 < outs1.length))) then (False) else (forW sums1 () (fun it1 _ nx1 bk1 => if 24 < it1.2.length then (False) else (nx1 ())) fun _ => R ())
def sp_need_sizes (K : PySem.W.Frag) (cc : Cz) : Sp := fun vs H Q _ => ∃ (F : Hp) (v1 : V) (ins1 : List Str) (v2 : V) (sums1 : List (Str × List Str)) (v3 : V) (stores1 : List (Str × Str)) (v4 : V) (outs1 : List Str) (R : Unit → Prop), vs = [v1, v2, v3, v4] ∧ Ex F H ∧ (pL pS).r F v1 ins1 ∧ (pL (pT2 pS (pSq pS))).r F v2 sums1 ∧ (pL (pT2 pS pS)).r F v3 stores1 ∧ (pL pS).r F v4 outs1 ∧ W_need_sizes ins1 sums1 stores1 outs1 R ∧ ∀ z, R z → ∀ F' H', Wf F H F' H' → Q .non H'
abbrev N_need_sizes : List Str := ["ins", "sums", "stores", "outs", "name", "wires"]
theorem sc_need_sizes : FnScope N_need_sizes ["ins", "sums", "stores", "outs"] (defScope s_need_sizes) := ⟨rfl, rfl, rfl, by decide +kernel, rfl, by decide +kernel, by decide +kernel⟩
theorem ok_need_sizes {P : Program} {w0 : World} {K : PySem.W.Frag} {mg : Str → Option Value} {base : Heap} {f : Addr} {fd : FuncData} {cc : Cz} (T : Tz K mg cc) (FU : Fun K "need_sizes" "need_sizes" s_need_sizes f fd) (hm : mg "need_sizes" = some (.ref f)) (hb : Binds K fd ["ins", "sums", "stores", "outs"] []) (n_len : mg "len" = none) : Fn P w0 K mg base CX0 1 "need_sizes" ["ins", "sums", "stores", "outs"] (sp_need_sizes K cc) := by
  refine ⟨f, fd, FU.ok sc_need_sizes (fun vs H Q E h => ?_) (fun cdv A outer s H0 vs Q E hr h => ?_), hm, FU.kp, hb⟩
  · obtain ⟨_, _, _, _, _, _, _, _, _, _, rfl, _⟩ := h; rfl
  · obtain ⟨F0, v1, ins1, v2, sums1, v3, stores1, v4, outs1, R, rfl, wf, r1, r2, r3, r4, hW, hQ⟩ := h
    have nd := sc_need_sizes.nd
    refine ⟨(tSeq (tIfS (tOr (tTest (tOp kGt (tCB (Wk.rLen K) (tCons (tVar 0) tNil)) (tC (.int 6)))) (tOr (tTest (tOp kGt (tCB (Wk.rLen K) (tCons (tVar 1) tNil)) (tC (.int 40)))) (tOr (tTest (tOp kGt (tCB (Wk.rLen K) (tCons (tVar 2) tNil)) (tC (.int 16)))) (tTest (tOp kGt (tCB (Wk.rLen K) (tCons (tVar 3) tNil)) (tC (.int 6))))))) tNever tNext) (tFor (iList K (tVar 1)) (gTup K 2 (gCons (gName 4) (gCons (gName 5) gNil))) (tIfS (tTest (tOp kGt (tCB (Wk.rLen K) (tCons (tVar 5) tNil)) (tC (.int 24)))) tNever tNext))), (pss_cons (ps_if (PW.pt (pw_or (pt_cmpR op_gt (pe_callB call_len_seq (by rfl) n_len PySem.boot_len (pa_cons (pv 0) pa_nil)) (pe_globE T.gl_MOST_INS rfl) (nomark _)) (pw_or (pt_cmpR op_gt (pe_callB call_len_seq (by rfl) n_len PySem.boot_len (pa_cons (pv 1) pa_nil)) (pe_globE T.gl_MOST_SUMS rfl) (nomark _)) (pw_or (pt_cmpR op_gt (pe_callB call_len_seq (by rfl) n_len PySem.boot_len (pa_cons (pv 2) pa_nil)) (pe_globE T.gl_MOST_STORES rfl) (nomark _)) (pw_or1 (pt_cmpR op_gt (pe_callB call_len_seq (by rfl) n_len PySem.boot_len (pa_cons (pv 3) pa_nil)) (pe_globE T.gl_MOST_OUTS rfl) (nomark _))))))) (pss_one ps_never) pss_nil) (pss_one (ps_for PassesOwn.never rfl (pi_list (pv 1)) (pg_tup rfl (pgs_cons (pg_name (i := 4) nd rfl (Or.inl rfl)) (pgs_cons (pg_name (i := 5) nd rfl (Or.inl rfl)) pgs_nil)) (by rfl)) (pss_one (ps_if (pt_cmpR op_gt (pe_callB call_len_seq (by rfl) n_len PySem.boot_len (pa_cons (pv 5) pa_nil)) (pe_globE T.gl_MOST_WIRES rfl) (nomark _)) (pss_one ps_never) pss_nil))))), ?_⟩
    have w := Wf.id wf
    refine q_sq fun N1 hN1 => ?_
    refine a_ifE ?_
    refine e_ans (b := decide ((6 < ins1.length) ∨ ((40 < sums1.length) ∨ ((16 < stores1.length) ∨ (6 < outs1.length))))) (t_or (t_of (vb_dec (c_gt (len_L r1 w.f (val_var rfl)) val_c) n_lt)) (fun _ => (t_or (t_of (vb_dec (c_gt (len_L r2 w.f (val_var rfl)) val_c) n_lt)) (fun _ => (t_or (t_of (vb_dec (c_gt (len_L r3 w.f (val_var rfl)) val_c) n_lt)) (fun _ => (t_of (vb_dec (c_gt (len_L r4 w.f (val_var rfl)) val_c) n_lt)))))))) ?_
    refine b_if (fun hc1 => ?_) (fun hc1 => ?_)
    · have hW := ifP hW hc1
      exact hW
    · have hW := ifN hW hc1
      refine hN1 _ _ ?_
      refine f_LE ?_
      refine e_val (v := v2) (val_var rfl) ?_
      refine w_forL (S := Unit) (fun _ σ' F' H' => ∃ (o1 : Option V) (o2 : Option V), Wf F0 H0 F' H' ∧ Ex F0 F' ∧ σ' = [some v1, some v2, some v3, some v4, o1, o2]) r2 hW ⟨_, _, w, Ex.rfl', rfl⟩ (fun s σ' F' H' hI => by obtain ⟨_, _, w', gx', _⟩ := hI; exact ⟨gx', w'.f⟩) w.f ?_ ?_
      · intro N2 Bk1 it1 u1 s1 σ' F1 H1 nx1 bk1 hI1 hx1 ru1 hW hN2 hB1
        obtain ⟨o1, o2, w, gx1, rfl⟩ := hI1
        have r1 := Rep.mono _ gx1 r1
        have r2 := Rep.mono _ gx1 r2
        have r3 := Rep.mono _ gx1 r3
        have r4 := Rep.mono _ gx1 r4
        obtain ⟨p1, u2, u3, rfl, h1, rfl, r5⟩ := ru1
        refine ⟨p1, _, rfl, SqT.of (w.f _ _ h1), rfl, _, _, rfl, _, _, rfl, rfl, ?_⟩
        refine a_ifE ?_
        refine e_ans (b := decide (24 < it1.2.length)) (t_of (vb_dec (c_gt (len_Sq r5 w.f (val_var rfl)) val_c) n_lt)) ?_
        refine b_if (fun hc2 => ?_) (fun hc2 => ?_)
        · have hW := ifP hW hc2
          exact hW
        · have hW := ifN hW hc2
          exact hN2 () _ _ _ ⟨_, _, w, gx1, rfl⟩ hW
      · intro s2 σ' F2 H2 hI2 hW
        obtain ⟨o1, o2, w, gx2, rfl⟩ := hI2
        have r1 := Rep.mono _ gx2 r1
        have r2 := Rep.mono _ gx2 r2
        have r3 := Rep.mono _ gx2 r3
        have r4 := Rep.mono _ gx2 r4
        exact hQ _ hW _ _ w
abbrev s_Net_put_in : Stmt := inClass (topS 23) 1
def W_Net_put_in (all1 : List (Str × WireV)) (name1 : Str) (one1 : WireV) (R : (List (Str × WireV)) → Prop) : Prop := W_is_name (An.s name1) fun z1 => if z1 = true then (if hasT all1 name1 = true then (False) else ((all1.length < 1000000) ∧ R (putT all1 name1 one1))) else (False)
def sp_Net_put_in (K : PySem.W.Frag) (cc : Cz) : Sp := fun vs H Q _ => ∃ (F : Hp) (ob dx : Addr) (fs : List (Str × V)) (d_all : Addr) (all1 : List (Str × WireV)) (name1 : Str) (v1 : V) (one1 : WireV) (R : (List (Str × WireV)) → Prop), vs = [(.ref ob), (.str (name1)), v1] ∧ Ex F H ∧ H ob = some (.ins cc.Net dx fs) ∧ fs.lookup ("all" : Str) = some (V.ref d_all) ∧ XD (pW cc.InWire cc.SumWire cc.StoreWire) (woL H [d_all]) F H d_all all1 ∧ (pW cc.InWire cc.SumWire cc.StoreWire).r F v1 one1 ∧ W_Net_put_in all1 name1 one1 R ∧ ∀ z, R z → ∀ F' H', Wf F (woL H [d_all]) F' H' → XD (pW cc.InWire cc.SumWire cc.StoreWire) (woL H [d_all]) F' H' d_all z → Q .non H'
abbrev N_Net_put_in : List Str := ["self", "name", "one"]
theorem sc_Net_put_in : FnScope N_Net_put_in ["self", "name", "one"] (defScope s_Net_put_in) := ⟨rfl, rfl, rfl, by decide +kernel, rfl, by decide +kernel, by decide +kernel⟩
theorem ok_Net_put_in {P : Program} {w0 : World} {K : PySem.W.Frag} {mg : Str → Option Value} {base : Heap} {f : Addr} {fd : FuncData} {cc : Cz} (T : Tz K mg cc) (FU : Fun K "put_in" "Net.put_in" s_Net_put_in f fd) (hm : Meth K cc.Net "put_in" f) (hb : Binds K fd ["self", "name", "one"] []) (c_is_name : Fn P w0 K mg base CX0 1 "is_name" ["thing"] (sp_is_name K cc)) : Md P w0 K mg base CX0 2 cc.Net "put_in" ["self", "name", "one"] (sp_Net_put_in K cc) := by
  refine ⟨f, fd, FU.ok sc_Net_put_in (fun vs H Q E h => ?_) (fun cdv A outer s H0 vs Q E hr h => ?_), hm, hb⟩
  · obtain ⟨_, _, _, _, _, _, _, _, _, _, rfl, _⟩ := h; rfl
  · obtain ⟨F0, ob, dx, fs, d_all, all1, name1, v1, one1, R, rfl, wf, hob, lk_all, xf_all, r1, hW, hQ⟩ := h
    have nd := sc_Net_put_in.nd
    refine ⟨(tSeq (tIfS (tNot (tB (tCall (sp_is_name K cc) [] E0 (tCons (tVar 1) tNil)))) tNever tNext) (tSeq (tIfS (tB (tDIn (tVar 1) (tFld K (tVar 0) "all"))) tNever tNext) (sDPut (tFld K (tVar 0) "all") (tVar 1) (tVar 2)))), (pss_cons (ps_if (pt_not (pt_val (pe_fn c_is_name (hr.mono (by decide)) rfl (pa_cons (pv 1) pa_nil)))) (pss_one ps_never) pss_nil) (pss_cons (ps_if (pt_cmp (pc_din (hu_of hr) (pv 1) (pe_fld (pv 0) rfl))) (pss_one ps_never) pss_nil) (pss_one (ps_dput (hu_of hr) (pe_fld (pv 0) rfl) (pv 1) (pv 2) rfl)))), ?_⟩
    have bo : BO cc.Net F0 H0 ob dx fs := ⟨hob⟩
    have no_all : d_all ≠ ob := xf_all.bw.neO hob
    have w := Wf.startL (L := [d_all]) wf (allL1 xf_all.nF)
    generalize hH0 : woL H0 [d_all] = Hb at w hQ xf_all
    refine q_sq fun N1 hN1 => ?_
    refine a_ifE ?_
    refine e_tNot ?_
    refine e_tB ?_
    refine e_call ?_
    refine a_val (v := (.str (name1))) (val_var rfl) ?_
    refine a_nil ?_
    refine ⟨F0, ((.str (name1))), ((An.s name1)), _, rfl, w.f, (show pA.r _ (.str (name1)) (An.s name1) from rfl), hW, ?_⟩
    intro z1 hW F1 H1 s1
    replace xf_all := xf_all.step s1
    replace bo := bo.step s1
    replace r1 := Rep.mono _ s1.g r1
    replace w := w.tr s1
    refine bl_v ?_
    refine bb_ifn (fun hc1 => ?_) (fun hc1 => ?_)
    · have hW := ifP hW hc1
      refine hN1 _ _ ?_
      refine q_sq fun N2 hN2 => ?_
      refine a_ifE ?_
      refine e_ans (b := decide (hasT all1 name1 = true)) (t_ofB (vb_of (in_XD (j := name1) xf_all (val_var rfl) (fl_B (na := T.na_Net_all) T.cl_Net bo lk_all (val_var rfl))) dec_tt)) ?_
      refine b_if (fun hc2 => ?_) (fun hc2 => ?_)
      · have hW := ifP hW hc2
        exact hW
      · have hW := ifN hW hc2
        refine hN2 _ _ ?_
        refine e_dput ?_
        refine e_val (v := v1) (val_var rfl) ?_
        obtain ⟨c1, hW⟩ := hW
        refine d_put (j := name1) xf_all w c1 r1 (fl_B (na := T.na_Net_all) T.cl_Net bo lk_all (val_var rfl)) (val_var rfl) (fun H2 w1 x1 kp1 => ?_)
        replace bo := bo.kept kp1 (Ne.symm no_all)
        replace w := w1
        exact hQ (putT all1 name1 one1) hW _ _ w x1
    · have hW := ifN hW hc1
      exact hW
abbrev s_Net_of_kind : Stmt := inClass (topS 23) 2
def W_Net_of_kind (all1 : List (Str × WireV)) (word1 : Str) (R : (List (WireV)) → Prop) : Prop := (all1.length < 1000000) ∧ compW (all1.map (·.2)) (fun one1 kk => W_P_kind one1 fun z1 => if z1 = word1 then (kk (some one1)) else (kk none)) fun ys1 => R ys1
def sp_Net_of_kind (K : PySem.W.Frag) (cc : Cz) : Sp := fun vs H Q _ => ∃ (F : Hp) (ob dx : Addr) (fs : List (Str × V)) (d_all : Addr) (all1 : List (Str × WireV)) (word1 : Str) (R : (List (WireV)) → Prop), vs = [(.ref ob), (.str (word1))] ∧ Ex F H ∧ H ob = some (.ins cc.Net dx fs) ∧ fs.lookup ("all" : Str) = some (V.ref d_all) ∧ BD (pW cc.InWire cc.SumWire cc.StoreWire) F H d_all all1 ∧ W_Net_of_kind all1 word1 R ∧ ∀ z, R z → ∀ p F' H', Wf F H F' H' → XL (pW cc.InWire cc.SumWire cc.StoreWire) H F' H' p z → Q (.ref p) H'
abbrev N_Net_of_kind : List Str := ["self", "word", "one"]
theorem sc_Net_of_kind : FnScope N_Net_of_kind ["self", "word"] (defScope s_Net_of_kind) := ⟨rfl, rfl, rfl, by decide +kernel, rfl, by decide +kernel, by decide +kernel⟩
theorem ok_Net_of_kind {P : Program} {w0 : World} {K : PySem.W.Frag} {mg : Str → Option Value} {base : Heap} {f : Addr} {fd : FuncData} {cc : Cz} (T : Tz K mg cc) (FU : Fun K "of_kind" "Net.of_kind" s_Net_of_kind f fd) (hm : Meth K cc.Net "of_kind" f) (hb : Binds K fd ["self", "word"] []) (c_P_kind : MdU P w0 K mg base CX0 1 (U_P_kind K cc) "kind" ["self"]) : Md P w0 K mg base CX0 2 cc.Net "of_kind" ["self", "word"] (sp_Net_of_kind K cc) := by
  refine ⟨f, fd, FU.ok sc_Net_of_kind (fun vs H Q E h => ?_) (fun cdv A outer s H0 vs Q E hr h => ?_), hm, hb⟩
  · obtain ⟨_, _, _, _, _, _, _, _, rfl, _⟩ := h; rfl
  · obtain ⟨F0, ob, dx, fs, d_all, all1, word1, R, rfl, wf, hob, lk_all, xf_all, hW, hQ⟩ := h
    have nd := sc_Net_of_kind.nd
    refine ⟨(tRet (tLockE (tLc (iVals (tFld K (tVar 0) "all")) (gName 2) (tTest (tOp L2.rEq (tMethU (U_P_kind K cc) "kind" E0 (tVar 2) tNil) (tVar 1))) (tVar 2) [2]))), (pss_one (ps_ret (pe_lock (pe_lc (own := [("one", 2)]) (wi := (iVals (tFld K (tVar 0) "all"))) (g := (gName 2)) (tt := (tTest (tOp L2.rEq (tMethU (U_P_kind K cc) "kind" E0 (tVar 2) tNil) (tVar 1)))) (te := (tVar 2)) rfl nd (pi_values (pe_fld (pv 0) rfl)) (blkOk_by (N := N_Net_of_kind) (sc := defScope s_Net_of_kind) (by decide +kernel)) (fun _ _ _ _ _ => (pg_name (i := 2) nd rfl (Or.inl rfl))) (fun _ _ _ _ _ => (pts_one (pt_cmpR op_eq (pe_mdU0 c_P_kind (hr.mono (by decide)) (pv 2)) (pv 1) (nomark _)))) (fun _ _ _ _ _ => (pv 2)))))), ?_⟩
    have bo : BO cc.Net F0 H0 ob dx fs := ⟨hob⟩
    have w := Wf.id wf
    refine a_retE ?_
    obtain ⟨c1, hW⟩ := hW
    refine w_compV (e := (pW cc.InWire cc.SumWire cc.StoreWire)) T.cl_Net T.na_Net_all bo lk_all xf_all NoD.W NoD.W w c1 (fun _ => val_var rfl) hW ?_ ?_
    · intro Qy Qn one1 u1 F1 H1 R1 q1 ru1 hW hy1 hn1
      have w := Wf.id q1
      refine ⟨rfl, ?_⟩
      refine e_tT ?_
      refine e_op ?_
      refine e_mdU ?_
      refine e_val (v := u1) (val_var rfl) ?_
      have rU1 := ru1
      have hU1 := w.f
      obtain ⟨p1, dx1, fs1, ev1, ho1, lm1⟩ := W_at (m := "kind") rU1 hU1
      refine ⟨⟨_, wCls_mem _, _, _, _, ev1, ho1, lm1⟩, ?_⟩
      refine a_nil ?_
      refine u_P_kind rU1 hU1 ?_
      refine ⟨F1, (u1), _, rfl, w.f, ru1, hW, ?_⟩
      intro z1 hW F2 H2 s1
      replace ru1 := Rep.mono _ s1.g ru1
      replace w := w.tr s1
      refine e_val (v := (.str (word1))) (val_var rfl) ?_
      refine rv2T (b := decide (z1 = word1)) (c_eqS val_c val_c) ?_
      refine b_if (fun hc1 => ?_) (fun hc1 => ?_)
      · have hW := ifP hW hc1
        refine e_val (v := u1) (val_var rfl) ?_
        exact hy1 _ _ _ _ w ru1 hW
      · have hW := ifN hW hc1
        exact hn1 _ _ w hW
    intro p2 ys1 F3 H3 hp1 s2 x1 hW
    have ne1 := xf_all.ne hp1
    have ne2 := bo.ne hp1
    replace xf_all := xf_all.step s2
    replace bo := bo.step s2
    replace w := w.tr s2
    exact hQ _ hW _ _ _ w x1
abbrev s_Net_readings : Stmt := inClass (topS 23) 3
def W_Net_readings (all1 : List (Str × WireV)) (ends1 : List Str) (R : (List Str) → Prop) : Prop := W_Net_of_kind all1 (PySem.Str.ofString "sum") fun z1 => forW z1 ([] : List Str) (fun one1 found1 nx1 bk1 => W_P_needs one1 fun z2 => (found1.length + z2.length < 1000000) ∧ nx1 (found1 ++ z2)) fun found1 => W_Net_of_kind all1 (PySem.Str.ofString "store") fun z3 => (z3.length < 1000000) ∧ compW z3 (fun one2 kk => ∃ y1, wWire one2 = some y1 ∧ kk (some y1)) fun ys1 => (found1.length + ys1.length < 1000000) ∧ ((found1 ++ ys1).length + ends1.length < 1000000) ∧ R ((found1 ++ ys1) ++ ends1)
def sp_Net_readings (K : PySem.W.Frag) (cc : Cz) : Sp := fun vs H Q _ => ∃ (F : Hp) (ob dx : Addr) (fs : List (Str × V)) (d_all : Addr) (all1 : List (Str × WireV)) (v_ends : V) (ends1 : List Str) (R : (List Str) → Prop), vs = [(.ref ob)] ∧ Ex F H ∧ H ob = some (.ins cc.Net dx fs) ∧ fs.lookup ("all" : Str) = some (V.ref d_all) ∧ BD (pW cc.InWire cc.SumWire cc.StoreWire) F H d_all all1 ∧ fs.lookup ("ends" : Str) = some v_ends ∧ (pL pS).r F v_ends ends1 ∧ fs.lookup ("of_kind" : Str) = none ∧ W_Net_readings all1 ends1 R ∧ ∀ z, R z → ∀ p F' H', Wf F H F' H' → XL pS H F' H' p z → Q (.ref p) H'
abbrev N_Net_readings : List Str := ["self", "found", "one"]
theorem sc_Net_readings : FnScope N_Net_readings ["self"] (defScope s_Net_readings) := ⟨rfl, rfl, rfl, by decide +kernel, rfl, by decide +kernel, by decide +kernel⟩
theorem ok_Net_readings {P : Program} {w0 : World} {K : PySem.W.Frag} {mg : Str → Option Value} {base : Heap} {f : Addr} {fd : FuncData} {cc : Cz} (T : Tz K mg cc) (FU : Fun K "readings" "Net.readings" s_Net_readings f fd) (hm : Meth K cc.Net "readings" f) (hb : Binds K fd ["self"] []) (c_Net_of_kind : Md P w0 K mg base CX0 2 cc.Net "of_kind" ["self", "word"] (sp_Net_of_kind K cc)) (c_P_needs : MdU P w0 K mg base CX0 1 (U_P_needs K cc) "needs" ["self"]) : Md P w0 K mg base CX0 3 cc.Net "readings" ["self"] (sp_Net_readings K cc) := by
  refine ⟨f, fd, FU.ok sc_Net_readings (fun vs H Q E h => ?_) (fun cdv A outer s H0 vs Q E hr h => ?_), hm, hb⟩
  · obtain ⟨_, _, _, _, _, _, _, _, _, rfl, _⟩ := h; rfl
  · obtain ⟨F0, ob, dx, fs, d_all, all1, v_ends, ends1, R, rfl, wf, hob, lk_all, xf_all, lk_ends, xf_ends, lm_of_kind, hW, hQ⟩ := h
    have nd := sc_Net_readings.nd
    refine ⟨(tSeq (tAsg (tLst tNil) (gName 1)) (tSeq (tFor (iList K (tMeth cc.Net "of_kind" (sp_Net_of_kind K cc) [] E0 (tVar 0) (tCons (tC (.str (PySem.Str.ofString "sum"))) tNil))) (gName 2) (tDrop (tBM K "list" rExtend (tVar 1) (tCons (tMethU (U_P_needs K cc) "needs" E0 (tVar 2) tNil) tNil)))) (tRet (tOp L2.rCat (tOp L2.rCat (tVar 1) (tLc (iList K (tMeth cc.Net "of_kind" (sp_Net_of_kind K cc) [] E0 (tVar 0) (tCons (tC (.str (PySem.Str.ofString "store"))) tNil))) (gName 2) tYes (tFld K (tVar 2) "wire") [2])) (tFld K (tVar 0) "ends"))))), (pss_cons (ps_set (i := 1) nd rfl (Or.inl rfl) (pe_lst pa_nil)) (pss_cons (ps_for PassesOwn.never rfl (pi_list (pe_md c_Net_of_kind T.cl_Net (hr.mono (by decide)) (pv 0) (pa_cons pe_str pa_nil))) (pg_name (i := 2) nd rfl (Or.inl rfl)) (pss_one (ps_expr (pe_bm PySem.F.plainAttrs_list PySem.F.slot_list_extend PySem.F.type_list_extend mt_extend (pv 1) (pa_cons (pe_mdU0 c_P_needs (hr.mono (by decide)) (pv 2)) pa_nil))))) (pss_one (ps_ret (pe_op op_cat (pe_op op_cat (pv 1) (pe_lc (own := [("one", 2)]) (wi := (iList K (tMeth cc.Net "of_kind" (sp_Net_of_kind K cc) [] E0 (tVar 0) (tCons (tC (.str (PySem.Str.ofString "store"))) tNil)))) (g := (gName 2)) (tt := tYes) (te := (tFld K (tVar 2) "wire")) rfl nd (pi_list (pe_md c_Net_of_kind T.cl_Net (hr.mono (by decide)) (pv 0) (pa_cons pe_str pa_nil))) (blkOk_by (N := N_Net_readings) (sc := defScope s_Net_readings) (by decide +kernel)) (fun _ _ _ _ _ => (pg_name (i := 2) nd rfl (Or.inl rfl))) (fun _ _ _ _ _ => pts_nil) (fun _ _ _ _ _ => (pe_fld (pv 2) rfl)))) (pe_fld (pv 0) rfl)))))), ?_⟩
    have bo : BO cc.Net F0 H0 ob dx fs := ⟨hob⟩
    have w := Wf.id wf
    refine q_sq fun N1 hN1 => ?_
    refine a_asgE ?_
    refine e_lst ?_
    refine a_nil ?_
    refine n_lstX (e := pS) (xs := []) (vs := []) (show All pS _ [] [] from trivial) (show 0 < 1000000 from by decide) w ?_
    intro p1 H1 hp1 s1 x1
    have ne1 := xf_all.ne hp1
    have ne2 := bo.ne hp1
    replace xf_all := xf_all.step s1
    replace xf_ends := Rep.mono _ s1.g xf_ends
    replace bo := bo.step s1
    replace w := w.tr s1
    refine hN1 _ _ ?_
    refine q_sq fun N2 hN2 => ?_
    refine f_LE ?_
    refine e_md ?_
    refine e_val (v := (.ref ob)) (val_var rfl) ?_
    refine ⟨_, _, _, rfl, bo.h, lm_of_kind, ?_⟩
    refine a_val (v := (.str ((PySem.Str.ofString "sum")))) val_c ?_
    refine a_nil ?_
    refine ⟨F0, ob, dx, fs, d_all, (all1), ((PySem.Str.ofString "sum")), _, rfl, w.f, bo.h, lk_all, xf_all, hW, ?_⟩
    intro z1 hW p2 F1 H2 s2 x2
    have ne3 := xf_all.ne x2.zero
    have ne4 := bo.ne x2.zero
    have ne5 := x1.ne x2.zero
    replace x2 := x2.base w
    replace xf_all := xf_all.step s2
    replace xf_ends := Rep.mono _ s2.g xf_ends
    replace bo := bo.step s2
    replace x1 := x1.step s2
    replace w := w.tr s2
    obtain ⟨F2, w1, g1, r1, fz1⟩ := x2.frzE w
    replace xf_all := xf_all.frzO fz1 ne3 g1
    replace xf_ends := Rep.mono _ g1 xf_ends
    replace bo := bo.frzO fz1 ne4 g1
    replace x1 := x1.frzO fz1 ne5 g1
    replace w := w1
    refine w_forL (S := List Str) (fun found1 σ' F' H' => ∃ (o1 : Option V), Wf F0 H0 F' H' ∧ Ex F2 F' ∧ σ' = [some (.ref ob), some ((.ref p1)), o1] ∧ XL pS H0 F' H' p1 found1 ∧ BD (pW cc.InWire cc.SumWire cc.StoreWire) F' H' d_all all1 ∧ BO cc.Net F' H' ob dx fs) r1 hW ⟨_, w, Ex.rfl', rfl, x1, xf_all, bo⟩ (fun s σ' F' H' hI => by obtain ⟨_, w', gx', _⟩ := hI; exact ⟨gx', w'.f⟩) w.f ?_ ?_
    · intro N3 Bk1 one1 u1 found1 σ' F3 H3 nx1 bk1 hI1 hx1 ru1 hW hN3 hB1
      obtain ⟨o1, w, gx1, rfl, x3, x4, x5⟩ := hI1
      have xf_ends := Rep.mono _ gx1 xf_ends
      have r1 := Rep.mono _ gx1 r1
      refine g_name ?_
      refine a_dropE ?_
      refine m_list x3 (val_var rfl) ?_
      refine a_cons ?_
      refine e_mdU ?_
      refine e_val (v := u1) (val_var rfl) ?_
      have rU1 := ru1
      have hU1 := w.f
      obtain ⟨p3, dx1, fs1, ev1, ho1, lm1⟩ := W_at (m := "needs") rU1 hU1
      refine ⟨⟨_, wCls_mem _, _, _, _, ev1, ho1, lm1⟩, ?_⟩
      refine a_nil ?_
      refine u_P_needs rU1 hU1 ?_
      refine ⟨F3, (u1), _, rfl, w.f, ru1, hW, ?_⟩
      intro z2 hW p4 F4 H4 s4 x6
      have ne6 := x4.ne x6.zero
      have ne7 := x5.ne x6.zero
      have ne8 := x3.ne x6.zero
      replace x6 := x6.base w
      replace x4 := x4.step s4
      replace xf_ends := Rep.mono _ s4.g xf_ends
      replace x5 := x5.step s4
      replace x3 := x3.step s4
      replace ru1 := Rep.mono _ s4.g ru1
      replace w := w.tr s4
      replace gx1 := Ex.tr gx1 s4.g
      refine a_nil ?_
      obtain ⟨F5, w2, g2, r2, fz2⟩ := x6.frzE w
      replace x4 := x4.frzO fz2 ne6 g2
      replace xf_ends := Rep.mono _ g2 xf_ends
      replace x5 := x5.frzO fz2 ne7 g2
      replace x3 := x3.frzO fz2 ne8 g2
      replace ru1 := Rep.mono _ g2 ru1
      replace w := w2
      replace gx1 := Ex.tr gx1 g2
      obtain ⟨c1, hW⟩ := hW
      refine a_ext x3 r2 w c1 (fun H5 w3 x7 kp1 => ?_)
      replace x4 := x4.kept kp1 ne1
      replace x5 := x5.kept kp1 ne2
      replace w := w3
      exact hN3 (found1 ++ z2) _ _ _ ⟨_, w, gx1, rfl, x7, x4, x5⟩ hW
    · intro found1 σ' F6 H6 hI2 hW
      obtain ⟨o1, w, gx2, rfl, x3, x4, x5⟩ := hI2
      have xf_ends := Rep.mono _ gx2 xf_ends
      have r1 := Rep.mono _ gx2 r1
      refine hN2 _ _ ?_
      refine a_retE ?_
      refine e_op ?_
      refine e_op ?_
      refine e_val (v := (.ref p1)) (val_var rfl) ?_
      refine c_LE ?_
      refine e_md ?_
      refine e_val (v := (.ref ob)) (val_var rfl) ?_
      refine ⟨_, _, _, rfl, x5.h, lm_of_kind, ?_⟩
      refine a_val (v := (.str ((PySem.Str.ofString "store")))) val_c ?_
      refine a_nil ?_
      refine ⟨F6, ob, dx, fs, d_all, (all1), ((PySem.Str.ofString "store")), _, rfl, w.f, x5.h, lk_all, x4, hW, ?_⟩
      intro z3 hW p5 F7 H7 s6 x8
      have ne9 := x4.ne x8.zero
      have ne10 := x5.ne x8.zero
      have ne11 := x3.ne x8.zero
      replace x8 := x8.base w
      replace x4 := x4.step s6
      replace xf_ends := Rep.mono _ s6.g xf_ends
      replace x5 := x5.step s6
      replace x3 := x3.step s6
      replace w := w.tr s6
      replace gx2 := Ex.tr gx2 s6.g
      obtain ⟨F8, w4, g3, r3, fz3⟩ := x8.frzE w
      replace x4 := x4.frzO fz3 ne9 g3
      replace xf_ends := Rep.mono _ g3 xf_ends
      replace x5 := x5.frzO fz3 ne10 g3
      replace x3 := x3.frzO fz3 ne11 g3
      replace w := w4
      replace gx2 := Ex.tr gx2 g3
      obtain ⟨c2, hW⟩ := hW
      refine w_compL (e := pS) r3 w c2 hW ?_ ?_
      · intro Qy Qn one2 u2 F9 H8 R1 q1 hx2 ru2 hW hy1 hn1
        have x4 := x4.step q1
        have xf_ends := Rep.mono _ q1.g xf_ends
        have x5 := x5.step q1
        have x3 := x3.step q1
        have r3 := Rep.mono _ q1.g r3
        have w := Wf.id q1.f
        refine ⟨rfl, ?_⟩
        refine c_yes ?_
        obtain ⟨y1, hy2, hW⟩ := hW
        refine e_val (v := (.str (y1))) (fl_Wwire (tw_of T) ru2 w.f hy2 (val_var rfl)) ?_
        exact hy1 _ _ _ _ w rfl hW
      intro p6 ys1 F10 H9 hp2 s7 x9 hW
      have ne12 := x4.ne hp2
      have ne13 := x5.ne hp2
      have ne14 := x3.ne hp2
      replace x4 := x4.step s7
      replace xf_ends := Rep.mono _ s7.g xf_ends
      replace x5 := x5.step s7
      replace x3 := x3.step s7
      replace r3 := Rep.mono _ s7.g r3
      replace w := w.tr s7
      replace gx2 := Ex.tr gx2 s7.g
      obtain ⟨F11, w5, g4, r4, fz4⟩ := x3.frzE w
      replace x4 := x4.frzO fz4 ne1 g4
      replace xf_ends := Rep.mono _ g4 xf_ends
      replace x5 := x5.frzO fz4 ne2 g4
      replace r3 := Rep.mono _ g4 r3
      replace x9 := x9.frzO fz4 (Ne.symm ne14) g4
      replace w := w5
      replace gx2 := Ex.tr gx2 g4
      obtain ⟨F12, w6, g5, r5, fz5⟩ := x9.frzE w
      replace x4 := x4.frzO fz5 ne12 g5
      replace xf_ends := Rep.mono _ g5 xf_ends
      replace x5 := x5.frzO fz5 ne13 g5
      replace r4 := Rep.mono _ g5 r4
      replace r3 := Rep.mono _ g5 r3
      replace w := w6
      replace gx2 := Ex.tr gx2 g5
      obtain ⟨c3, hW⟩ := hW
      refine n_cat r4 r5 w c3 ?_
      intro p7 H10 hp3 s8 x10
      have ne15 := x4.ne hp3
      have ne16 := x5.ne hp3
      replace x4 := x4.step s8
      replace xf_ends := Rep.mono _ s8.g xf_ends
      replace x5 := x5.step s8
      replace r4 := Rep.mono _ s8.g r4
      replace r3 := Rep.mono _ s8.g r3
      replace r5 := Rep.mono _ s8.g r5
      replace w := w.tr s8
      replace gx2 := Ex.tr gx2 s8.g
      refine e_val (v := v_ends) (fl_B (na := T.na_Net_ends) T.cl_Net x5 lk_ends (val_var rfl)) ?_
      obtain ⟨F13, w7, g6, r6, fz6⟩ := x10.frzE w
      replace x4 := x4.frzO fz6 ne15 g6
      replace xf_ends := Rep.mono _ g6 xf_ends
      replace x5 := x5.frzO fz6 ne16 g6
      replace r4 := Rep.mono _ g6 r4
      replace r3 := Rep.mono _ g6 r3
      replace r5 := Rep.mono _ g6 r5
      replace w := w7
      replace gx2 := Ex.tr gx2 g6
      obtain ⟨c4, hW⟩ := hW
      refine n_cat r6 xf_ends w c4 ?_
      intro p8 H11 hp4 s9 x11
      have ne17 := x4.ne hp4
      have ne18 := x5.ne hp4
      replace x4 := x4.step s9
      replace xf_ends := Rep.mono _ s9.g xf_ends
      replace x5 := x5.step s9
      replace r4 := Rep.mono _ s9.g r4
      replace r3 := Rep.mono _ s9.g r3
      replace r5 := Rep.mono _ s9.g r5
      replace r6 := Rep.mono _ s9.g r6
      replace w := w.tr s9
      replace gx2 := Ex.tr gx2 s9.g
      exact hQ _ hW _ _ _ w x11
abbrev s_Net_wire_of : Stmt := inClass (topS 23) 10
def W_Net_wire_of (all1 : List (Str × WireV)) (name1 : An) (E_NoWire : An → Prop) (R : WireV → Prop) : Prop := jn (fun kk => W_is_name name1 fun z1 => if z1 = true then (∃ ys1 : Str, name1 = An.s ys1 ∧ kk (decide (¬ (hasT all1 ys1 = true)))) else (kk true)) fun b1 => if b1 = true then (E_NoWire name1) else (∃ ys2 : Str, name1 = An.s ys2 ∧ ∃ x3, valT all1 ys2 = some x3 ∧ R x3)
def sp_Net_wire_of (K : PySem.W.Frag) (cc : Cz) : Sp := fun vs H Q E => ∃ (F : Hp) (ob dx : Addr) (fs : List (Str × V)) (d_all : Addr) (all1 : List (Str × WireV)) (v1 : V) (name1 : An) (E_NoWire : An → Prop) (R : WireV → Prop), vs = [(.ref ob), v1] ∧ Ex F H ∧ H ob = some (.ins cc.Net dx fs) ∧ fs.lookup ("all" : Str) = some (V.ref d_all) ∧ BD (pW cc.InWire cc.SumWire cc.StoreWire) F H d_all all1 ∧ pA.r F v1 name1 ∧ W_Net_wire_of all1 name1 E_NoWire R ∧ (∀ z, E_NoWire z → ∀ d F' H', Wf F H F' H' → (pXd "name" pA).r F' (.ref d) z → E (.ref cc.NoWire) (some d) H') ∧ ∀ z, R z → ∀ v F' H', Wf F H F' H' → (pW cc.InWire cc.SumWire cc.StoreWire).r F' v z → Q v H'
abbrev N_Net_wire_of : List Str := ["self", "name"]
theorem sc_Net_wire_of : FnScope N_Net_wire_of ["self", "name"] (defScope s_Net_wire_of) := ⟨rfl, rfl, rfl, by decide +kernel, rfl, by decide +kernel, by decide +kernel⟩
theorem ok_Net_wire_of {P : Program} {w0 : World} {K : PySem.W.Frag} {mg : Str → Option Value} {base : Heap} {f : Addr} {fd : FuncData} {cc : Cz} (T : Tz K mg cc) (FU : Fun K "wire_of" "Net.wire_of" s_Net_wire_of f fd) (hm : Meth K cc.Net "wire_of" f) (hb : Binds K fd ["self", "name"] []) (c_is_name : Fn P w0 K mg base CX0 1 "is_name" ["thing"] (sp_is_name K cc)) (c_NoWire___init__ : Xi P w0 K mg base CX0 2 cc.NoWire ["self", "name"] (sp_xi "name" cc.NoWire)) : Md P w0 K mg base (L2.CX P w0) 4 cc.Net "wire_of" ["self", "name"] (sp_Net_wire_of K cc) := by
  refine ⟨f, fd, FU.okX sc_Net_wire_of (fun vs H Q E h => ?_) (fun cdv A outer s H0 vs Q E hr h => ?_), hm, hb⟩
  · obtain ⟨_, _, _, _, _, _, _, _, _, _, rfl, _⟩ := h; rfl
  · obtain ⟨F0, ob, dx, fs, d_all, all1, v1, name1, E_NoWire, R, rfl, wf, hob, lk_all, xf_all, r1, hW, hE_NoWire, hQ⟩ := h
    have nd := sc_Net_wire_of.nd
    refine ⟨(tSeq (tIfS (tOr (tNot (tB (tCall (sp_is_name K cc) [] E0 (tCons (tVar 1) tNil)))) (tB (tDNotIn (tVar 1) (tFld K (tVar 0) "all")))) (tRaiseX (fun cls d _ H => E cls d H) cc.NoWire "name" (tCons (tVar 1) tNil)) tNext) (tRet (tDGet (tFld K (tVar 0) "all") (tVar 1)))), (pss_cons (ps_if (PW.pt (pw_or (pt_not (pt_val (pe_fn c_is_name (hr.mono (by decide)) rfl (pa_cons (pv 1) pa_nil)))) (pw_or1 (pt_cmp (pc_dnotin (hu_of hr) (pv 1) (pe_fld (pv 0) rfl)))))) (pss_one (ps_raiseX (W := (fun cls d _ H => E cls d H)) c_NoWire___init__ T.xc_NoWire.ox rfl (takes_of rfl rfl rfl rfl) (hr.mono (by decide)) rfl T.xc_NoWire.g (pv 1))) pss_nil) (pss_one (ps_ret (pe_dget (hu_of hr) (pe_fld (pv 0) rfl) (pv 1) (fun _ _ => rfl))))), ?_⟩
    have bo : BO cc.Net F0 H0 ob dx fs := ⟨hob⟩
    have w := Wf.id wf
    refine q_sq fun N1 hN1 => ?_
    refine a_ifE ?_
    refine e_jnT hW (fun b F' H' => b = b ∧ Wf F0 H0 F' H' ∧ Ex F0 F' ∧ BD (pW cc.InWire cc.SumWire cc.StoreWire) F' H' d_all all1 ∧ BO cc.Net F' H' ob dx fs) ?_ ?_
    · intro N2 hN2 hW
      have gx1 : Ex F0 F0 := Ex.rfl'
      refine e_tOr ?_
      refine e_tNot ?_
      refine e_tB ?_
      refine e_call ?_
      refine a_val (v := v1) (val_var rfl) ?_
      refine a_nil ?_
      refine ⟨F0, (v1), (name1), _, rfl, w.f, r1, hW, ?_⟩
      intro z1 hW F1 H1 s1
      replace xf_all := xf_all.step s1
      replace bo := bo.step s1
      replace r1 := Rep.mono _ s1.g r1
      replace w := w.tr s1
      replace gx1 := Ex.tr gx1 s1.g
      refine bl_v ?_
      refine bb_ifn (fun hc1 => ?_) (fun hc1 => ?_)
      · have hW := ifP hW hc1
        obtain ⟨ys1, hy1, hW⟩ := hW
        obtain rfl : v1 = .str ys1 := an_str r1 hy1
        refine e_ans (b := decide (¬ (hasT all1 ys1 = true))) (t_ofB (vb_of (nin_BD (j := ys1) xf_all (val_var rfl) (fl_B (na := T.na_Net_all) T.cl_Net bo lk_all (val_var rfl))) dec_nt)) ?_
        exact hN2 (decide (¬ (hasT all1 ys1 = true))) _ _ ⟨rfl, w, gx1, xf_all, bo⟩ hW
      · have hW := ifN hW hc1
        exact hN2 true _ _ ⟨rfl, w, gx1, xf_all, bo⟩ hW
    intro b1 F2 H2 hI1 hW
    obtain ⟨_, w, gx2, x1, x2⟩ := hI1
    have r1 := Rep.mono _ gx2 r1
    refine bb_if (fun hc2 => ?_) (fun hc2 => ?_)
    · have hW := ifP hW hc2
      refine a_raiseX2 (e := pA) (v := v1) (z := name1) (val_var rfl) w.f r1 (fun dx1 F3 H3 s2 rd1 => ?_)
      replace x1 := x1.step s2
      replace x2 := x2.step s2
      replace r1 := Rep.mono _ s2.g r1
      replace w := w.tr s2
      exact hE_NoWire _ hW _ _ _ w rd1
    · have hW := ifN hW hc2
      obtain ⟨ys2, hy2, hW⟩ := hW
      obtain rfl : v1 = .str ys2 := an_str r1 hy2
      refine hN1 _ _ ?_
      obtain ⟨x3, hx1, hW⟩ := hW
      obtain ⟨v2, r2, ix1⟩ := ix_BD x1 hx1
      refine a_ret (v := v2) (ix1 (fl_B (na := T.na_Net_all) T.cl_Net x2 lk_all (val_var rfl)) (val_var rfl)) ?_
      exact hQ _ hW _ _ _ w r2
abbrev s_Net_lay_out : Stmt := inClass (topS 23) 4
def W_Net_lay_out (all1 : List (Str × WireV)) (line_up1 : List Str) (laid1 : List (Str × Bool)) (first1 : Str) (R : (List Str × List (Str × Bool)) → Prop) : Prop := whileW (fun (path1, self_laid1, self_line_up1) T => (okV (pL pS) path1 ∧ okV (pL pS) ([] : List Str)) ∧ T (decide (path1 ≠ ([] : List Str)))) (fun (path1, self_laid1, self_line_up1) nx1 bk1 => ∃ x8, path1.getLast? = some x8 ∧ ∃ x9, valT all1 x8 = some x9 ∧ W_P_needs x9 fun z1 => (z1.length < 1000000) ∧ compW z1 (fun name1 kk => jn (fun kk => ∃ x16, valT all1 name1 = some x16 ∧ W_P_kind x16 fun z2 => if z2 = (PySem.Str.ofString "sum") then (kk (decide (¬ (hasT self_laid1 name1 = true)))) else (kk false)) fun b1 => if b1 = true then (kk (some name1)) else (kk none)) fun ys1 => jn (fun kk => if hasT self_laid1 x8 = true then (kk true) else ((okV (pL pS) ys1 ∧ okV (pL pS) ([] : List Str)) ∧ kk (decide (ys1 = ([] : List Str))))) fun b2 => if b2 = true then ((path1 ≠ []) ∧ if ¬ (hasT self_laid1 x8 = true) then ((self_laid1.length < 1000000) ∧ (self_line_up1.length < 1000000) ∧ nx1 (path1.dropLast, putT self_laid1 x8 true, self_line_up1 ++ [x8])) else (nx1 (path1.dropLast, self_laid1, self_line_up1))) else (∃ x27, ys1[0]? = some x27 ∧ if x27 ∈ path1 then (False) else (∃ x28, ys1[0]? = some x28 ∧ (path1.length < 1000000) ∧ nx1 (path1 ++ [x28], self_laid1, self_line_up1)))) ([first1], laid1, line_up1) fun (path1, self_laid1, self_line_up1) => R (self_line_up1, self_laid1)
def sp_Net_lay_out (K : PySem.W.Frag) (cc : Cz) : Sp := fun vs H Q _ => ∃ (F : Hp) (ob dx : Addr) (fs : List (Str × V)) (d_all : Addr) (all1 : List (Str × WireV)) (d_line_up : Addr) (line_up1 : List Str) (d_laid : Addr) (laid1 : List (Str × Bool)) (first1 : Str) (R : (List Str × List (Str × Bool)) → Prop), vs = [(.ref ob), (.str (first1))] ∧ Ex F H ∧ H ob = some (.ins cc.Net dx fs) ∧ fs.lookup ("all" : Str) = some (V.ref d_all) ∧ BD (pW cc.InWire cc.SumWire cc.StoreWire) F H d_all all1 ∧ fs.lookup ("line_up" : Str) = some (V.ref d_line_up) ∧ XL pS (woL H [d_line_up, d_laid]) F H d_line_up line_up1 ∧ fs.lookup ("laid" : Str) = some (V.ref d_laid) ∧ XD pB (woL H [d_line_up, d_laid]) F H d_laid laid1 ∧ d_all ≠ d_line_up ∧ d_all ≠ d_laid ∧ d_line_up ≠ d_laid ∧ W_Net_lay_out all1 line_up1 laid1 first1 R ∧ ∀ z, R z → ∀ F' H', Wf F (woL H [d_line_up, d_laid]) F' H' → XL pS (woL H [d_line_up, d_laid]) F' H' d_line_up z.1 → XD pB (woL H [d_line_up, d_laid]) F' H' d_laid z.2 → Q .non H'
abbrev N_Net_lay_out : List Str := ["self", "first", "path", "here", "left", "name"]
theorem sc_Net_lay_out : FnScope N_Net_lay_out ["self", "first"] (defScope s_Net_lay_out) := ⟨rfl, rfl, rfl, by decide +kernel, rfl, by decide +kernel, by decide +kernel⟩
theorem ok_Net_lay_out {P : Program} {w0 : World} {K : PySem.W.Frag} {mg : Str → Option Value} {base : Heap} {f : Addr} {fd : FuncData} {cc : Cz} (T : Tz K mg cc) (FU : Fun K "lay_out" "Net.lay_out" s_Net_lay_out f fd) (hm : Meth K cc.Net "lay_out" f) (hb : Binds K fd ["self", "first"] []) (c_P_needs : MdU P w0 K mg base CX0 1 (U_P_needs K cc) "needs" ["self"]) (c_P_kind : MdU P w0 K mg base CX0 1 (U_P_kind K cc) "kind" ["self"]) : Md P w0 K mg base CX0 2 cc.Net "lay_out" ["self", "first"] (sp_Net_lay_out K cc) := by
  refine ⟨f, fd, FU.ok sc_Net_lay_out (fun vs H Q E h => ?_) (fun cdv A outer s H0 vs Q E hr h => ?_), hm, hb⟩
  · obtain ⟨_, _, _, _, _, _, _, _, _, _, _, _, rfl, _⟩ := h; rfl
  · obtain ⟨F0, ob, dx, fs, d_all, all1, d_line_up, line_up1, d_laid, laid1, first1, R, rfl, wf, hob, lk_all, xf_all, lk_line_up, xf_line_up, lk_laid, xf_laid, ne_all_line_up, ne_all_laid, ne_line_up_laid, hW, hQ⟩ := h
    have nd := sc_Net_lay_out.nd
    refine ⟨(tSeq (tAsg (tLst (tCons (tVar 1) tNil)) (gName 2)) (tWhile (tTest (tOp (L2.rNeD K) (tVar 2) (tLst tNil))) (tSeq (tAsg (tOp (L2.rIxL K) (tVar 2) (tUn kNeg (tC (.int 1)))) (gName 3)) (tSeq (tAsg (tLc (iList K (tMethU (U_P_needs K cc) "needs" E0 (tDGet (tFld K (tVar 0) "all") (tVar 3)) tNil)) (gName 5) (tAnd (tTest (tOp L2.rEq (tMethU (U_P_kind K cc) "kind" E0 (tDGet (tFld K (tVar 0) "all") (tVar 5)) tNil) (tC (.str (PySem.Str.ofString "sum"))))) (tB (tDNotIn (tVar 5) (tFld K (tVar 0) "laid")))) (tVar 5) [5]) (gName 4)) (tIfS (tOr (tB (tDIn (tVar 3) (tFld K (tVar 0) "laid"))) (tTest (tOp (L2.rEqD K) (tVar 4) (tLst tNil)))) (tSeq (tDrop (tBM0 K "list" rPop (tVar 2))) (tIfS (tB (tDNotIn (tVar 3) (tFld K (tVar 0) "laid"))) (tSeq (sDPut (tFld K (tVar 0) "laid") (tVar 3) (tC (.bl true))) (tDrop (tBM K "list" rAppend (tFld K (tVar 0) "line_up") (tCons (tVar 3) tNil)))) tNext)) (tIfS (tTest (tOp (rIn K false) (tOp (L2.rIxL K) (tVar 4) (tC (.int 0))) (tVar 2))) tNever (tDrop (tBM K "list" rAppend (tVar 2) (tCons (tOp (L2.rIxL K) (tVar 4) (tC (.int 0))) tNil))))))))), (pss_cons (ps_set (i := 2) nd rfl (Or.inl rfl) (pe_lst (pa_cons (pv 1) pa_nil))) (pss_one (ps_while PassesOwn.never (pt_cmpR (op_neD hr.units) (pv 2) (pe_lst pa_nil) (nomark _)) (pss_cons (ps_set (i := 3) nd rfl (Or.inl rfl) (pe_ix ix_list (pv 2) (pe_un un_neg pe_int) (fun _ _ => rfl))) (pss_cons (ps_setLc (i := 4) (own := [("name", 5)]) (wi := (iList K (tMethU (U_P_needs K cc) "needs" E0 (tDGet (tFld K (tVar 0) "all") (tVar 3)) tNil))) (g := (gName 5)) (tt := (tAnd (tTest (tOp L2.rEq (tMethU (U_P_kind K cc) "kind" E0 (tDGet (tFld K (tVar 0) "all") (tVar 5)) tNil) (tC (.str (PySem.Str.ofString "sum"))))) (tB (tDNotIn (tVar 5) (tFld K (tVar 0) "laid"))))) (te := (tVar 5)) rfl nd rfl rfl (sw_true rfl rfl rfl (by decide +kernel)) (pi_list (pe_mdU0 c_P_needs (hr.mono (by decide)) (pe_dget (hu_of hr) (pe_fld (pv 0) rfl) (pv 3) (fun _ _ => rfl)))) (blkOk_by (N := N_Net_lay_out) (sc := defScope s_Net_lay_out) (by decide +kernel)) (fun _ _ _ _ _ => (pg_name (i := 5) nd rfl (Or.inl rfl))) (fun _ _ _ _ _ => (pts_one (PW.pt (pw_and (pt_cmpR op_eq (pe_mdU0 c_P_kind (hr.mono (by decide)) (pe_dget (hu_of hr) (pe_fld (pv 0) rfl) (pv 5) (fun _ _ => rfl))) pe_str (nomark _)) (pw_and1 (pt_cmp (pc_dnotin (hu_of hr) (pv 5) (pe_fld (pv 0) rfl)))))))) (fun _ _ _ _ _ => (pv 5))) (pss_one (ps_if (PW.pt (pw_or (pt_cmp (pc_din (hu_of hr) (pv 3) (pe_fld (pv 0) rfl))) (pw_or1 (pt_cmpR (op_eqD hr.units) (pv 4) (pe_lst pa_nil) (nomark _))))) (pss_cons (ps_expr (pe_bm0 PySem.F.plainAttrs_list PySem.F.slot_list_pop PySem.F.type_list_pop mt_pop (pv 2))) (pss_one (ps_if (pt_cmp (pc_dnotin (hu_of hr) (pv 3) (pe_fld (pv 0) rfl))) (pss_cons (ps_dput (hu_of hr) (pe_fld (pv 0) rfl) (pv 3) pe_bl rfl) (pss_one (ps_expr (pe_bm PySem.F.plainAttrs_list PySem.F.slot_list_append PySem.F.type_list_append mt_append (pe_fld (pv 0) rfl) (pa_cons (pv 3) pa_nil))))) pss_nil))) (pss_one (ps_if (pt_cmpR op_in_seq (pe_ix ix_list (pv 4) pe_int (fun _ _ => rfl)) (pv 2) rfl) (pss_one ps_never) (pss_one (ps_expr (pe_bm PySem.F.plainAttrs_list PySem.F.slot_list_append PySem.F.type_list_append mt_append (pv 2) (pa_cons (pe_ix ix_list (pv 4) pe_int (fun _ _ => rfl)) pa_nil))))))))))))), ?_⟩
    have bo : BO cc.Net F0 H0 ob dx fs := ⟨hob⟩
    have no_line_up : d_line_up ≠ ob := xf_line_up.bw.neI hob
    have no_laid : d_laid ≠ ob := xf_laid.bw.neO hob
    have w := Wf.startL (L := [d_line_up, d_laid]) wf (allL2 xf_line_up.nF xf_laid.nF)
    generalize hH0 : woL H0 [d_line_up, d_laid] = Hb at w hQ xf_line_up xf_laid
    refine q_sq fun N1 hN1 => ?_
    refine a_asgE ?_
    refine e_lst ?_
    refine a_val (v := (.str (first1))) (val_var rfl) ?_
    refine a_nil ?_
    refine n_lstX (e := pS) (xs := [first1]) (vs := [(.str (first1))]) (show All pS _ [(.str (first1))] [first1] from ⟨rfl, trivial⟩) (show 1 < 1000000 from by decide) w ?_
    intro p1 H1 hp1 s1 x1
    have ne1 := xf_all.ne hp1
    have ne2 := xf_line_up.ne hp1
    have ne3 := xf_laid.ne hp1
    have ne4 := bo.ne hp1
    replace xf_all := xf_all.step s1
    replace xf_line_up := xf_line_up.step s1
    replace xf_laid := xf_laid.step s1
    replace bo := bo.step s1
    replace w := w.tr s1
    refine hN1 _ _ ?_
    refine w_while (S := List Str × (List (Str × Bool)) × List Str) (fun s σ' F' H' => match s with | (path1, self_laid1, self_line_up1) => ∃ (o1 : Option V) (o2 : Option V), Wf F0 Hb F' H' ∧ Ex F0 F' ∧ σ' = [some (.ref ob), some (.str (first1)), some ((.ref p1)), o1, o2, none] ∧ XL pS Hb F' H' p1 path1 ∧ XD pB Hb F' H' d_laid self_laid1 ∧ XL pS Hb F' H' d_line_up self_line_up1 ∧ BD (pW cc.InWire cc.SumWire cc.StoreWire) F' H' d_all all1 ∧ BO cc.Net F' H' ob dx fs) hW ⟨_, _, w, Ex.rfl', rfl, x1, xf_laid, xf_line_up, xf_all, bo⟩ ?_ ?_ ?_
    · intro s2 σ' F1 H2 T1 Qc1 hI1 hW hT1
      obtain ⟨path1, self_laid1, self_line_up1⟩ := s2
      obtain ⟨o1, o2, w, gx1, rfl, x2, x3, x4, x5, x6⟩ := hI1
      refine e_tT ?_
      refine e_op ?_
      refine e_val (v := (.ref p1)) (val_var rfl) ?_
      refine e_lst ?_
      refine a_nil ?_
      refine n_lstX (e := pS) (xs := []) (vs := []) (show All pS _ [] [] from trivial) (show 0 < 1000000 from by decide) w ?_
      intro p2 H3 hp2 s3 x7
      have ne5 := x5.ne hp2
      have ne6 := x4.ne hp2
      have ne7 := x3.ne hp2
      have ne8 := x6.ne hp2
      have ne9 := x2.ne hp2
      replace x5 := x5.step s3
      replace x4 := x4.step s3
      replace x3 := x3.step s3
      replace x6 := x6.step s3
      replace x2 := x2.step s3
      replace w := w.tr s3
      replace gx1 := Ex.tr gx1 s3.g
      obtain ⟨F2, w1, g1, r1, fz1⟩ := x7.frzE w
      replace x5 := x5.frzO fz1 ne5 g1
      replace x4 := x4.frzO fz1 ne6 g1
      replace x3 := x3.frzO fz1 ne7 g1
      replace x6 := x6.frzO fz1 ne8 g1
      replace x2 := x2.frzO fz1 ne9 g1
      replace w := w1
      replace gx1 := Ex.tr gx1 g1
      obtain ⟨Fl1, lf1, _, lr1⟩ := x2.lend w
      obtain ⟨c1, hW⟩ := hW
      refine rv2T (b := decide (path1 ≠ ([] : List Str))) (c_neO (K := K) (e := (pL pS)) val_c val_c lf1 lr1 w.f r1 c1) ?_
      exact hT1 _ _ _ ⟨_, _, w, gx1, rfl, x2, x3, x4, x5, x6⟩ hW
    · intro N2 Bk1 s4 σ' F3 H4 nx1 bk1 hI2 hW hN2 hB1
      obtain ⟨path1, self_laid1, self_line_up1⟩ := s4
      obtain ⟨o1, o2, w, gx2, rfl, x2, x3, x4, x5, x6⟩ := hI2
      refine q_sq fun N3 hN3 => ?_
      obtain ⟨x8, hx8_1, hW⟩ := hW
      obtain ⟨_, rfl, ix1⟩ := ix_Xm (K := K) x2 hx8_1
      refine a_asg (v := (.str (x8))) (ix1 (val_var rfl) (v_neg val_c)) ?_
      refine hN3 _ _ ?_
      refine q_sq fun N4 hN4 => ?_
      refine a_asgE ?_
      refine c_LE ?_
      refine e_mdU ?_
      obtain ⟨x9, hx1, hW⟩ := hW
      obtain ⟨v1, r2, ix2⟩ := ix_BD x5 hx1
      refine e_val (v := v1) (ix2 (fl_B (na := T.na_Net_all) T.cl_Net x6 lk_all (val_var rfl)) (val_var rfl)) ?_
      have rU1 := r2
      have hU1 := w.f
      obtain ⟨p3, dx1, fs1, ev1, ho1, lm1⟩ := W_at (m := "needs") rU1 hU1
      refine ⟨⟨_, wCls_mem _, _, _, _, ev1, ho1, lm1⟩, ?_⟩
      refine a_nil ?_
      refine u_P_needs rU1 hU1 ?_
      refine ⟨F3, (v1), _, rfl, w.f, r2, hW, ?_⟩
      intro z1 hW p4 F4 H5 s5 x10
      have ne10 := x5.ne x10.zero
      have ne11 := x4.ne x10.zero
      have ne12 := x3.ne x10.zero
      have ne13 := x6.ne x10.zero
      have ne14 := x2.ne x10.zero
      replace x10 := x10.base w
      replace x5 := x5.step s5
      replace x4 := x4.step s5
      replace x3 := x3.step s5
      replace x6 := x6.step s5
      replace x2 := x2.step s5
      replace r2 := Rep.mono _ s5.g r2
      replace w := w.tr s5
      replace gx2 := Ex.tr gx2 s5.g
      obtain ⟨F5, w2, g2, r3, fz2⟩ := x10.frzE w
      replace x5 := x5.frzO fz2 ne10 g2
      replace x4 := x4.frzO fz2 ne11 g2
      replace x3 := x3.frzO fz2 ne12 g2
      replace x6 := x6.frzO fz2 ne13 g2
      replace x2 := x2.frzO fz2 ne14 g2
      replace r2 := Rep.mono _ g2 r2
      replace w := w2
      replace gx2 := Ex.tr gx2 g2
      obtain ⟨c2, hW⟩ := hW
      refine w_compL (e := pS) r3 w c2 hW ?_ ?_
      · intro Qy Qn name1 u1 F6 H6 R1 q1 hx2 ru1 hW hy1 hn1
        have x5 := x5.step q1
        have x4 := x4.step q1
        have x3 := x3.step q1
        have x6 := x6.step q1
        have x2 := x2.step q1
        have r2 := Rep.mono _ q1.g r2
        have r3 := Rep.mono _ q1.g r3
        have w := Wf.id q1.f
        obtain rfl : u1 = (.str (name1)) := ru1
        refine ⟨rfl, ?_⟩
        refine e_jnT hW (fun b F' H' => b = b ∧ Wf F6 H6 F' H' ∧ Ex F6 F' ∧ BD (pW cc.InWire cc.SumWire cc.StoreWire) F' H' d_all all1 ∧ XL pS Hb F' H' d_line_up self_line_up1 ∧ XD pB Hb F' H' d_laid self_laid1 ∧ BO cc.Net F' H' ob dx fs ∧ XL pS Hb F' H' p1 path1) ?_ ?_
        · intro N5 hN5 hW
          have gx3 : Ex F6 F6 := Ex.rfl'
          refine e_tAnd ?_
          refine e_tT ?_
          refine e_op ?_
          refine e_mdU ?_
          obtain ⟨x16, hx3, hW⟩ := hW
          obtain ⟨v2, r4, ix3⟩ := ix_BD x5 hx3
          refine e_val (v := v2) (ix3 (fl_B (na := T.na_Net_all) T.cl_Net x6 lk_all (val_var rfl)) (val_var rfl)) ?_
          have rU2 := r4
          have hU2 := w.f
          obtain ⟨p5, dx2, fs2, ev2, ho2, lm2⟩ := W_at (m := "kind") rU2 hU2
          refine ⟨⟨_, wCls_mem _, _, _, _, ev2, ho2, lm2⟩, ?_⟩
          refine a_nil ?_
          refine u_P_kind rU2 hU2 ?_
          refine ⟨F6, (v2), _, rfl, w.f, r4, hW, ?_⟩
          intro z2 hW F7 H7 s6
          replace x5 := x5.step s6
          replace x4 := x4.step s6
          replace x3 := x3.step s6
          replace x6 := x6.step s6
          replace x2 := x2.step s6
          replace r2 := Rep.mono _ s6.g r2
          replace r3 := Rep.mono _ s6.g r3
          replace r4 := Rep.mono _ s6.g r4
          replace w := w.tr s6
          replace gx3 := Ex.tr gx3 s6.g
          refine e_val (v := (.str ((PySem.Str.ofString "sum")))) val_c ?_
          refine rv2T (b := decide (z2 = (PySem.Str.ofString "sum"))) (c_eqS val_c val_c) ?_
          refine b_if (fun hc1 => ?_) (fun hc1 => ?_)
          · have hW := ifP hW hc1
            refine e_ans (b := decide (¬ (hasT self_laid1 name1 = true))) (t_ofB (vb_of (nin_XD (j := name1) x3 (val_var rfl) (fl_B (na := T.na_Net_laid) T.cl_Net x6 lk_laid (val_var rfl))) dec_nt)) ?_
            exact hN5 (decide (¬ (hasT self_laid1 name1 = true))) _ _ ⟨rfl, w, gx3, x5, x4, x3, x6, x2⟩ hW
          · have hW := ifN hW hc1
            exact hN5 false _ _ ⟨rfl, w, gx3, x5, x4, x3, x6, x2⟩ hW
        intro b1 F8 H8 hI3 hW
        obtain ⟨_, w, gx4, x11, x12, x13, x14, x15⟩ := hI3
        have r2 := Rep.mono _ gx4 r2
        have r3 := Rep.mono _ gx4 r3
        refine bb_if (fun hc2 => ?_) (fun hc2 => ?_)
        · have hW := ifP hW hc2
          refine e_val (v := (.str (name1))) (val_var rfl) ?_
          exact hy1 _ _ _ _ w rfl hW
        · have hW := ifN hW hc2
          exact hn1 _ _ w hW
      intro p6 ys1 F9 H9 hp3 s7 x17 hW
      have ne15 := x5.ne hp3
      have ne16 := x4.ne hp3
      have ne17 := x3.ne hp3
      have ne18 := x6.ne hp3
      have ne19 := x2.ne hp3
      replace x5 := x5.step s7
      replace x4 := x4.step s7
      replace x3 := x3.step s7
      replace x6 := x6.step s7
      replace x2 := x2.step s7
      replace r2 := Rep.mono _ s7.g r2
      replace r3 := Rep.mono _ s7.g r3
      replace w := w.tr s7
      replace gx2 := Ex.tr gx2 s7.g
      obtain ⟨F10, w3, g3, r5, fz3⟩ := x17.frzE w
      replace x5 := x5.frzO fz3 ne15 g3
      replace x4 := x4.frzO fz3 ne16 g3
      replace x3 := x3.frzO fz3 ne17 g3
      replace x6 := x6.frzO fz3 ne18 g3
      replace x2 := x2.frzO fz3 ne19 g3
      replace r2 := Rep.mono _ g3 r2
      replace r3 := Rep.mono _ g3 r3
      replace w := w3
      replace gx2 := Ex.tr gx2 g3
      refine hN4 _ _ ?_
      refine a_ifE ?_
      refine e_jnT hW (fun b F' H' => b = b ∧ Wf F0 Hb F' H' ∧ Ex F10 F' ∧ BD (pW cc.InWire cc.SumWire cc.StoreWire) F' H' d_all all1 ∧ XL pS Hb F' H' d_line_up self_line_up1 ∧ XD pB Hb F' H' d_laid self_laid1 ∧ BO cc.Net F' H' ob dx fs ∧ XL pS Hb F' H' p1 path1) ?_ ?_
      · intro N6 hN6 hW
        have gx5 : Ex F10 F10 := Ex.rfl'
        refine e_tOr ?_
        refine e_ans (b := decide (hasT self_laid1 x8 = true)) (t_ofB (vb_of (in_XD (j := x8) x3 (val_var rfl) (fl_B (na := T.na_Net_laid) T.cl_Net x6 lk_laid (val_var rfl))) dec_tt)) ?_
        refine b_if (fun hc3 => ?_) (fun hc3 => ?_)
        · have hW := ifP hW hc3
          exact hN6 true _ _ ⟨rfl, w, gx5, x5, x4, x3, x6, x2⟩ hW
        · have hW := ifN hW hc3
          refine e_tT ?_
          refine e_op ?_
          refine e_val (v := (.ref p6)) (val_var rfl) ?_
          refine e_lst ?_
          refine a_nil ?_
          refine n_lstX (e := pS) (xs := []) (vs := []) (show All pS _ [] [] from trivial) (show 0 < 1000000 from by decide) w ?_
          intro p7 H10 hp4 s8 x23
          have ne20 := x5.ne hp4
          have ne21 := x4.ne hp4
          have ne22 := x3.ne hp4
          have ne23 := x6.ne hp4
          have ne24 := x2.ne hp4
          replace x5 := x5.step s8
          replace x4 := x4.step s8
          replace x3 := x3.step s8
          replace x6 := x6.step s8
          replace x2 := x2.step s8
          replace r5 := Rep.mono _ s8.g r5
          replace w := w.tr s8
          replace gx5 := Ex.tr gx5 s8.g
          replace gx2 := Ex.tr gx2 s8.g
          obtain ⟨F11, w4, g4, r6, fz4⟩ := x23.frzE w
          replace x5 := x5.frzO fz4 ne20 g4
          replace x4 := x4.frzO fz4 ne21 g4
          replace x3 := x3.frzO fz4 ne22 g4
          replace x6 := x6.frzO fz4 ne23 g4
          replace x2 := x2.frzO fz4 ne24 g4
          replace r5 := Rep.mono _ g4 r5
          replace w := w4
          replace gx5 := Ex.tr gx5 g4
          replace gx2 := Ex.tr gx2 g4
          obtain ⟨c3, hW⟩ := hW
          refine rv2T (b := decide (ys1 = ([] : List Str))) (c_eqO (K := K) (e := (pL pS)) val_c val_c w.f r5 w.f r6 c3) ?_
          exact hN6 (decide (ys1 = ([] : List Str))) _ _ ⟨rfl, w, gx5, x5, x4, x3, x6, x2⟩ hW
      intro b2 F12 H11 hI4 hW
      obtain ⟨_, w, gx6, x18, x19, x20, x21, x22⟩ := hI4
      have r5 := Rep.mono _ gx6 r5
      have gx2 := Ex.tr gx2 gx6
      refine bb_if (fun hc4 => ?_) (fun hc4 => ?_)
      · have hW := ifP hW hc4
        refine q_sq fun N7 hN7 => ?_
        refine a_dropE ?_
        refine m_list0 x22 (val_var rfl) ?_
        obtain ⟨c4, hW⟩ := hW
        refine a_pop x22 w c4 (fun v3 H12 w5 x24 kp1 => ?_)
        replace x18 := x18.kept kp1 ne1
        replace x19 := x19.kept kp1 ne2
        replace x20 := x20.kept kp1 ne3
        replace x21 := x21.kept kp1 ne4
        replace w := w5
        refine hN7 _ _ ?_
        refine a_ifE ?_
        refine e_ans (b := decide (¬ (hasT self_laid1 x8 = true))) (t_ofB (vb_of (nin_XD (j := x8) x20 (val_var rfl) (fl_B (na := T.na_Net_laid) T.cl_Net x21 lk_laid (val_var rfl))) dec_nt)) ?_
        refine b_if (fun hc5 => ?_) (fun hc5 => ?_)
        · have hW := ifP hW hc5
          refine q_sq fun N8 hN8 => ?_
          refine e_dput ?_
          refine e_val (v := (.bl (true))) val_c ?_
          obtain ⟨c5, hW⟩ := hW
          refine d_put (j := x8) x20 w c5 rfl (fl_B (na := T.na_Net_laid) T.cl_Net x21 lk_laid (val_var rfl)) (val_var rfl) (fun H13 w6 x25 kp2 => ?_)
          replace x18 := x18.kept kp2 ne_all_laid
          replace x19 := x19.kept kp2 ne_line_up_laid
          replace x21 := x21.kept kp2 (Ne.symm no_laid)
          replace x24 := x24.kept kp2 (Ne.symm ne3)
          replace w := w6
          refine hN8 _ _ ?_
          refine a_dropE ?_
          refine m_list x19 (fl_B (na := T.na_Net_line_up) T.cl_Net x21 lk_line_up (val_var rfl)) ?_
          refine a_val (v := (.str (x8))) (val_var rfl) ?_
          refine a_nil ?_
          obtain ⟨c6, hW⟩ := hW
          refine a_app x19 w c6 rfl (fun H14 w7 x26 kp3 => ?_)
          replace x18 := x18.kept kp3 ne_all_line_up
          replace x25 := x25.kept kp3 (Ne.symm ne_line_up_laid)
          replace x21 := x21.kept kp3 (Ne.symm no_line_up)
          replace x24 := x24.kept kp3 (Ne.symm ne2)
          replace w := w7
          exact hN2 (path1.dropLast, putT self_laid1 x8 true, self_line_up1 ++ [x8]) _ _ _ ⟨_, _, w, gx2, rfl, x24, x25, x26, x18, x21⟩ hW
        · have hW := ifN hW hc5
          exact hN2 (path1.dropLast, self_laid1, self_line_up1) _ _ _ ⟨_, _, w, gx2, rfl, x24, x20, x19, x18, x21⟩ hW
      · have hW := ifN hW hc4
        refine a_ifE ?_
        obtain ⟨x27, hx27_1, hW⟩ := hW
        obtain ⟨_, rfl, ix4⟩ := ix_L (K := K) r5 w.f hx27_1
        obtain ⟨Fl2, lf2, _, lr2⟩ := x22.lend w
        refine e_ans (b := decide (x27 ∈ path1)) (t_of (v_inLS (K := K) (ix4 (val_var rfl) val_c) (val_var rfl) lr2 lf2)) ?_
        refine b_if (fun hc6 => ?_) (fun hc6 => ?_)
        · have hW := ifP hW hc6
          exact hW
        · have hW := ifN hW hc6
          refine a_dropE ?_
          refine m_list x22 (val_var rfl) ?_
          obtain ⟨x28, hx28_1, hW⟩ := hW
          obtain ⟨_, rfl, ix5⟩ := ix_L (K := K) r5 w.f hx28_1
          refine a_val (v := (.str (x28))) (ix5 (val_var rfl) val_c) ?_
          refine a_nil ?_
          obtain ⟨c7, hW⟩ := hW
          refine a_app x22 w c7 rfl (fun H15 w8 x29 kp4 => ?_)
          replace x18 := x18.kept kp4 ne1
          replace x19 := x19.kept kp4 ne2
          replace x20 := x20.kept kp4 ne3
          replace x21 := x21.kept kp4 ne4
          replace w := w8
          exact hN2 (path1 ++ [x28], self_laid1, self_line_up1) _ _ _ ⟨_, _, w, gx2, rfl, x29, x20, x19, x18, x21⟩ hW
    · intro s9 σ' F13 H16 hI5 hW
      obtain ⟨path1, self_laid1, self_line_up1⟩ := s9
      obtain ⟨o1, o2, w, gx7, rfl, x2, x3, x4, x5, x6⟩ := hI5
      exact hQ (self_line_up1, self_laid1) hW _ _ w x4 x3
abbrev s_Net___init__ : Stmt := inClass (topS 23) 0
def W_Net___init__ (ins1 : List Str) (sums1 : List (Str × List Str)) (stores1 : List (Str × Str)) (outs1 : List Str) (R : (List (Str × WireV) × List Str × List Str × List (Str × Bool)) → Prop) : Prop := W_need_sizes ins1 sums1 stores1 outs1 fun z1 => forW ins1 ([] : List (Str × WireV)) (fun name1 self_all1 nx1 bk1 => W_InWire___init__ name1 self_all1.length fun z2 => W_Net_put_in self_all1 name1 (Sum.inl z2) fun all1 => nx1 all1) fun self_all1 => forW sums1 self_all1 (fun it1 self_all2 nx3 bk2 => W_SumWire___init__ it1.1 it1.2 fun z4 => W_Net_put_in self_all2 it1.1 (Sum.inr (Sum.inl z4)) fun all2 => nx3 all2) fun self_all2 => forW (enumT stores1) self_all2 (fun it2 self_all3 nx5 bk3 => W_StoreWire___init__ it2.2.1 it2.2.2 it2.1 fun z6 => W_Net_put_in self_all3 it2.2.1 (Sum.inr (Sum.inr z6)) fun all3 => nx5 all3) fun self_all3 => W_Net_readings self_all3 outs1 fun z8 => forW z8 () (fun name3 _ nx7 bk4 => W_Net_wire_of self_all3 (An.s name3) (fun _ => False) fun z9 => nx7 ()) fun _ => W_Net_of_kind self_all3 (PySem.Str.ofString "sum") fun z10 => forW z10 (([] : List Str), ([] : List (Str × Bool))) (fun one1 (self_line_up1, self_laid1) nx8 bk5 => W_Net_lay_out self_all3 self_line_up1 self_laid1 (wName one1) fun (line_up1, laid1) => nx8 (line_up1, laid1)) fun (self_line_up1, self_laid1) => R (self_all3, outs1, self_line_up1, self_laid1)
def sp_Net___init__ (K : PySem.W.Frag) (cc : Cz) : Sp := fun vs H Q _ => ∃ (F : Hp) (ob dx : Addr) (v1 : V) (ins1 : List Str) (v2 : V) (sums1 : List (Str × List Str)) (v3 : V) (stores1 : List (Str × Str)) (v4 : V) (outs1 : List Str) (R : (List (Str × WireV) × List Str × List Str × List (Str × Bool)) → Prop), vs = [(.ref ob), v1, v2, v3, v4] ∧ H ob = some (.ins cc.Net dx []) ∧ F ob = none ∧ Ex F H ∧ (pL pS).r F v1 ins1 ∧ (pL (pT2 pS (pSq pS))).r F v2 sums1 ∧ (pL (pT2 pS pS)).r F v3 stores1 ∧ (pL pS).r F v4 outs1 ∧ W_Net___init__ ins1 sums1 stores1 outs1 R ∧ ∀ z, R z → ∀ F' H', Wf F (wo H ob) F' H' → (pO4 cc.Net "all" "ends" "line_up" "laid" (pD (κ := Str) (pW cc.InWire cc.SumWire cc.StoreWire)) (pL pS) (pL pS) (pD (κ := Str) pB)).r (nlh (wo H ob) F') (.ref ob) z → Q .non H'
abbrev N_Net___init__ : List Str := ["self", "ins", "sums", "stores", "outs", "name", "wires", "number", "wire", "one"]
theorem sc_Net___init__ : FnScope N_Net___init__ ["self", "ins", "sums", "stores", "outs"] (defScope s_Net___init__) := ⟨rfl, rfl, rfl, by decide +kernel, rfl, by decide +kernel, by decide +kernel⟩
theorem ok_Net___init__ {P : Program} {w0 : World} {K : PySem.W.Frag} {mg : Str → Option Value} {base : Heap} {f : Addr} {fd : FuncData} {cc : Cz} (T : Tz K mg cc) (FU : Fun K "__init__" "Net.__init__" s_Net___init__ f fd) (hm : Mk K cc.Net f) (hg : mg "Net" = some (.ref cc.Net)) (hb : Binds K fd ["self", "ins", "sums", "stores", "outs"] []) (c_need_sizes : Fn P w0 K mg base CX0 1 "need_sizes" ["ins", "sums", "stores", "outs"] (sp_need_sizes K cc)) (c_InWire___init__ : Nw P w0 K mg base CX0 3 cc.InWire "InWire" ["self", "name", "number"] (sp_InWire___init__ K cc)) (c_Net_put_in : Md P w0 K mg base CX0 2 cc.Net "put_in" ["self", "name", "one"] (sp_Net_put_in K cc)) (c_SumWire___init__ : Nw P w0 K mg base CX0 3 cc.SumWire "SumWire" ["self", "name", "wires"] (sp_SumWire___init__ K cc)) (c_StoreWire___init__ : Nw P w0 K mg base CX0 3 cc.StoreWire "StoreWire" ["self", "name", "wire", "number"] (sp_StoreWire___init__ K cc)) (c_Net_readings : Md P w0 K mg base CX0 3 cc.Net "readings" ["self"] (sp_Net_readings K cc)) (c_Net_wire_of : Md P w0 K mg base (L2.CX P w0) 4 cc.Net "wire_of" ["self", "name"] (sp_Net_wire_of K cc)) (c_Net_of_kind : Md P w0 K mg base CX0 2 cc.Net "of_kind" ["self", "word"] (sp_Net_of_kind K cc)) (c_Net_lay_out : Md P w0 K mg base CX0 2 cc.Net "lay_out" ["self", "first"] (sp_Net_lay_out K cc)) (n_enumerate : mg "enumerate" = none) (n_len : mg "len" = none) (n_list : mg "list" = none) : Nw P w0 K mg base CX0 5 cc.Net "Net" ["self", "ins", "sums", "stores", "outs"] (sp_Net___init__ K cc) := by
  refine ⟨f, fd, FU.ok sc_Net___init__ (fun vs H Q E h => ?_) (fun cdv A outer s H0 vs Q E hr h => ?_), hm, hg, hb⟩
  · obtain ⟨_, _, _, _, _, _, _, _, _, _, _, _, rfl, _⟩ := h; rfl
  · obtain ⟨F0, ob, dx, v1, ins1, v2, sums1, v3, stores1, v4, outs1, R, rfl, hob, nob, wf, r1, r2, r3, r4, hW, hQ⟩ := h
    have nd := sc_Net___init__.nd
    refine ⟨(tSeq (tDrop (tCall (sp_need_sizes K cc) [] E0 (tCons (tVar 1) (tCons (tVar 2) (tCons (tVar 3) (tCons (tVar 4) tNil)))))) (tSeq (sFld K (tVar 0) tDNewK "all") (tSeq (tFor (iList K (tVar 1)) (gName 5) (tDrop (tMeth cc.Net "put_in" (sp_Net_put_in K cc) [] E0 (tVar 0) (tCons (tVar 5) (tCons (tMake cc.InWire (sp_InWire___init__ K cc) [] E0 (tCons (tVar 5) (tCons (tCB rLenD (tCons (tFld K (tVar 0) "all") tNil)) tNil))) tNil))))) (tSeq (tFor (iList K (tVar 2)) (gTup K 2 (gCons (gName 5) (gCons (gName 6) gNil))) (tDrop (tMeth cc.Net "put_in" (sp_Net_put_in K cc) [] E0 (tVar 0) (tCons (tVar 5) (tCons (tMake cc.SumWire (sp_SumWire___init__ K cc) [] E0 (tCons (tVar 5) (tCons (tVar 6) tNil))) tNil))))) (tSeq (tFor (iEnum K (tCons (tVar 3) tNil)) (gTup K 2 (gCons (gName 7) (gCons (gTup K 2 (gCons (gName 5) (gCons (gName 8) gNil))) gNil))) (tDrop (tMeth cc.Net "put_in" (sp_Net_put_in K cc) [] E0 (tVar 0) (tCons (tVar 5) (tCons (tMake cc.StoreWire (sp_StoreWire___init__ K cc) [] E0 (tCons (tVar 5) (tCons (tVar 8) (tCons (tVar 7) tNil)))) tNil))))) (tSeq (sFld K (tVar 0) (tCB (rListOf K) (tCons (tVar 4) tNil)) "ends") (tSeq (tFor (iList K (tMeth cc.Net "readings" (sp_Net_readings K cc) [] E0 (tVar 0) tNil)) (gName 5) (tDrop (tMeth cc.Net "wire_of" (sp_Net_wire_of K cc) [] E0 (tVar 0) (tCons (tVar 5) tNil)))) (tSeq (sFld K (tVar 0) (tLst tNil) "line_up") (tSeq (sFld K (tVar 0) tDNewK "laid") (tFor (iList K (tMeth cc.Net "of_kind" (sp_Net_of_kind K cc) [] E0 (tVar 0) (tCons (tC (.str (PySem.Str.ofString "sum"))) tNil))) (gName 9) (tDrop (tMeth cc.Net "lay_out" (sp_Net_lay_out K cc) [] E0 (tVar 0) (tCons (tFld K (tVar 9) "name") tNil))))))))))))), (pss_cons (ps_expr (pe_fn c_need_sizes (hr.mono (by decide)) rfl (pa_cons (pv 1) (pa_cons (pv 2) (pa_cons (pv 3) (pa_cons (pv 4) pa_nil)))))) (pss_cons (ps_fld (pv 0) pe_dnewK rfl) (pss_cons (ps_for PassesOwn.never rfl (pi_list (pv 1)) (pg_name (i := 5) nd rfl (Or.inl rfl)) (pss_one (ps_expr (pe_md c_Net_put_in T.cl_Net (hr.mono (by decide)) (pv 0) (pa_cons (pv 5) (pa_cons (pe_nw c_InWire___init__ (hr.mono (by decide)) rfl (pa_cons (pv 5) (pa_cons (pe_callB call_lenD (by rfl) n_len PySem.boot_len (pa_cons (pe_fld (pv 0) rfl) pa_nil)) pa_nil))) pa_nil)))))) (pss_cons (ps_for PassesOwn.never rfl (pi_list (pv 2)) (pg_tup rfl (pgs_cons (pg_name (i := 5) nd rfl (Or.inl rfl)) (pgs_cons (pg_name (i := 6) nd rfl (Or.inl rfl)) pgs_nil)) (by rfl)) (pss_one (ps_expr (pe_md c_Net_put_in T.cl_Net (hr.mono (by decide)) (pv 0) (pa_cons (pv 5) (pa_cons (pe_nw c_SumWire___init__ (hr.mono (by decide)) rfl (pa_cons (pv 5) (pa_cons (pv 6) pa_nil))) pa_nil)))))) (pss_cons (ps_for PassesOwn.never rfl (pi_enum (by rfl) n_enumerate (pa_cons (pv 3) pa_nil)) (pg_tup rfl (pgs_cons (pg_name (i := 7) nd rfl (Or.inl rfl)) (pgs_cons (pg_tup rfl (pgs_cons (pg_name (i := 5) nd rfl (Or.inl rfl)) (pgs_cons (pg_name (i := 8) nd rfl (Or.inl rfl)) pgs_nil)) (by rfl)) pgs_nil)) (by rfl)) (pss_one (ps_expr (pe_md c_Net_put_in T.cl_Net (hr.mono (by decide)) (pv 0) (pa_cons (pv 5) (pa_cons (pe_nw c_StoreWire___init__ (hr.mono (by decide)) rfl (pa_cons (pv 5) (pa_cons (pv 8) (pa_cons (pv 7) pa_nil)))) pa_nil)))))) (pss_cons (ps_fld (pv 0) (pe_callTy call_list_of (by rfl) n_list PyProof.Rows.boot_list (pa_cons (pv 4) pa_nil)) rfl) (pss_cons (ps_for PassesOwn.never rfl (pi_list (pe_md0 c_Net_readings T.cl_Net (hr.mono (by decide)) (pv 0))) (pg_name (i := 5) nd rfl (Or.inl rfl)) (pss_one (ps_expr (pe_mdL c_Net_wire_of T.cl_Net (hr.mono (by decide)) (pv 0) (pa_cons (pv 5) pa_nil))))) (pss_cons (ps_fld (pv 0) (pe_lst pa_nil) rfl) (pss_cons (ps_fld (pv 0) pe_dnewK rfl) (pss_one (ps_for PassesOwn.never rfl (pi_list (pe_md c_Net_of_kind T.cl_Net (hr.mono (by decide)) (pv 0) (pa_cons pe_str pa_nil))) (pg_name (i := 9) nd rfl (Or.inl rfl)) (pss_one (ps_expr (pe_md c_Net_lay_out T.cl_Net (hr.mono (by decide)) (pv 0) (pa_cons (pe_fld (pv 9) rfl) pa_nil))))))))))))))), ?_⟩
    have xs := Xc.start nob hob
    have w := Wf.start wf nob
    generalize hH0 : wo H0 ob = Hb at xs w hQ
    refine q_sq fun N1 hN1 => ?_
    refine a_dropE ?_
    refine e_call ?_
    refine a_val (v := v1) (val_var rfl) ?_
    refine a_val (v := v2) (val_var rfl) ?_
    refine a_val (v := v3) (val_var rfl) ?_
    refine a_val (v := v4) (val_var rfl) ?_
    refine a_nil ?_
    refine ⟨F0, (v1), (ins1), (v2), (sums1), (v3), (stores1), (v4), (outs1), _, rfl, w.f, r1, r2, r3, r4, hW, ?_⟩
    intro z1 hW F1 H1 s1
    replace r1 := Rep.mono _ s1.g r1
    replace r2 := Rep.mono _ s1.g r2
    replace r3 := Rep.mono _ s1.g r3
    replace r4 := Rep.mono _ s1.g r4
    replace xs := xs.step s1
    replace w := w.tr s1
    refine hN1 _ _ ?_
    refine q_sq fun N2 hN2 => ?_
    refine e_fld ?_
    refine n_dict (κ := Str) (e := (pW cc.InWire cc.SumWire cc.StoreWire)) w ?_
    intro p1 H2 hp1 s2 x1
    have ne1 := xs.ne hp1
    replace r1 := Rep.mono _ s2.g r1
    replace r2 := Rep.mono _ s2.g r2
    replace r3 := Rep.mono _ s2.g r3
    replace r4 := Rep.mono _ s2.g r4
    replace xs := xs.step s2
    replace w := w.tr s2
    refine a_fld T.cl_Net T.na_Net_all xs w (show 0 < 1000 from by decide) (val_var rfl) (fun H3 w1 x2 kp1 => ?_)
    replace x1 := x1.kept kp1 (Ne.symm ne1)
    replace w := w1
    replace x2 : Xc Hb F1 H3 ob (.ins cc.Net dx [("all", (.ref p1))]) := Xc.cast x2 rfl
    refine hN2 _ _ ?_
    refine q_sq fun N3 hN3 => ?_
    refine f_LE ?_
    refine e_val (v := v1) (val_var rfl) ?_
    refine w_forL (S := List (Str × WireV)) (fun self_all1 σ' F' H' => ∃ (o1 : Option V), Wf F0 Hb F' H' ∧ Ex F1 F' ∧ σ' = [some (.ref ob), some v1, some v2, some v3, some v4, o1, none, none, none, none] ∧ XD (pW cc.InWire cc.SumWire cc.StoreWire) Hb F' H' p1 self_all1 ∧ Xc Hb F' H' ob (.ins cc.Net dx [("all", (.ref p1))])) r1 hW ⟨_, w, Ex.rfl', rfl, x1, x2⟩ (fun s σ' F' H' hI => by obtain ⟨_, w', gx', _⟩ := hI; exact ⟨gx', w'.f⟩) w.f ?_ ?_
    · intro N4 Bk1 name1 u1 self_all1 σ' F2 H4 nx1 bk1 hI1 hx1 ru1 hW hN4 hB1
      obtain ⟨o1, w, gx1, rfl, x3, x4⟩ := hI1
      have r1 := Rep.mono _ gx1 r1
      have r2 := Rep.mono _ gx1 r2
      have r3 := Rep.mono _ gx1 r3
      have r4 := Rep.mono _ gx1 r4
      obtain rfl : u1 = (.str (name1)) := ru1
      refine g_name ?_
      refine a_dropE ?_
      refine e_md ?_
      refine e_val (v := (.ref ob)) (val_var rfl) ?_
      refine ⟨_, _, _, rfl, x4.h, ((lk_ne (by decide +kernel)).trans rfl), ?_⟩
      refine a_val (v := (.str (name1))) (val_var rfl) ?_
      refine a_cons ?_
      refine e_nw ?_
      refine a_val (v := (.str (name1))) (val_var rfl) ?_
      refine a_val (v := (.int ((self_all1.length : Nat) : Int))) (len_XD x3 (fl_X T.cl_Net T.na_Net_all x4 lk_eq (val_var rfl))) ?_
      refine a_nil ?_
      intro ob1 dx1 nx2 nd1 ne2
      refine ⟨F2, ob1, dx1, (name1), (self_all1.length), _, rfl, upd_same, (w.f.non nx2), (Ex.made w.f nx2 nd1), hW, ?_⟩
      intro z2 hW F3 H5 s4 r5
      refine ⟨rfl, ?_⟩
      replace s4 := Wf.made nx2 nd1 s4
      replace r1 := Rep.mono _ s4.g r1
      replace r2 := Rep.mono _ s4.g r2
      replace r3 := Rep.mono _ s4.g r3
      replace r4 := Rep.mono _ s4.g r4
      replace x4 := x4.step s4
      replace x3 := x3.step s4
      replace w := w.tr s4
      replace gx1 := Ex.tr gx1 s4.g
      refine a_nil ?_
      refine ⟨F3, ob, dx, _, p1, (self_all1), (name1), ((.ref ob1)), ((Sum.inl z2)), _, rfl, w.f, x4.h, lk_eq, (x3.toL (List.mem_cons_self ..)), r5, hW, ?_⟩
      intro all1 hW F4 H6 s5 x5
      replace x5 := x5.fromL x3.zero
      replace w := w.mcall (L := [p1]) (allL1 x3.zero) s5 (allL1 x5.nF)
      replace r1 := Rep.mono _ s5.g r1
      replace r2 := Rep.mono _ s5.g r2
      replace r3 := Rep.mono _ s5.g r3
      replace r4 := Rep.mono _ s5.g r4
      replace x4 := x4.away (nin1 ne1) s5
      replace r5 := Rep.mono _ s5.g r5
      replace gx1 := Ex.tr gx1 s5.g
      exact hN4 all1 _ _ _ ⟨_, w, gx1, rfl, x5, x4⟩ hW
    · intro self_all1 σ' F5 H7 hI2 hW
      obtain ⟨o1, w, gx2, rfl, x3, x4⟩ := hI2
      have r1 := Rep.mono _ gx2 r1
      have r2 := Rep.mono _ gx2 r2
      have r3 := Rep.mono _ gx2 r3
      have r4 := Rep.mono _ gx2 r4
      refine hN3 _ _ ?_
      refine q_sq fun N5 hN5 => ?_
      refine f_LE ?_
      refine e_val (v := v2) (val_var rfl) ?_
      refine w_forL (S := List (Str × WireV)) (fun self_all2 σ' F' H' => ∃ (o2 : Option V) (o3 : Option V), Wf F0 Hb F' H' ∧ Ex F5 F' ∧ σ' = [some (.ref ob), some v1, some v2, some v3, some v4, o2, o3, none, none, none] ∧ XD (pW cc.InWire cc.SumWire cc.StoreWire) Hb F' H' p1 self_all2 ∧ Xc Hb F' H' ob (.ins cc.Net dx [("all", (.ref p1))])) r2 hW ⟨_, _, w, Ex.rfl', rfl, x3, x4⟩ (fun s σ' F' H' hI => by obtain ⟨_, _, w', gx', _⟩ := hI; exact ⟨gx', w'.f⟩) w.f ?_ ?_
      · intro N6 Bk2 it1 u2 self_all2 σ' F6 H8 nx3 bk2 hI3 hx2 ru2 hW hN6 hB2
        obtain ⟨o2, o3, w, gx3, rfl, x6, x7⟩ := hI3
        have r1 := Rep.mono _ gx3 r1
        have r2 := Rep.mono _ gx3 r2
        have r3 := Rep.mono _ gx3 r3
        have r4 := Rep.mono _ gx3 r4
        have gx2 := Ex.tr gx2 gx3
        obtain ⟨p2, u3, u4, rfl, h1, rfl, r6⟩ := ru2
        refine ⟨p2, _, rfl, SqT.of (w.f _ _ h1), rfl, _, _, rfl, _, _, rfl, rfl, ?_⟩
        refine a_dropE ?_
        refine e_md ?_
        refine e_val (v := (.ref ob)) (val_var rfl) ?_
        refine ⟨_, _, _, rfl, x7.h, ((lk_ne (by decide +kernel)).trans rfl), ?_⟩
        refine a_val (v := (.str (it1.1))) (val_var rfl) ?_
        refine a_cons ?_
        refine e_nw ?_
        refine a_val (v := (.str (it1.1))) (val_var rfl) ?_
        refine a_val (v := u4) (val_var rfl) ?_
        refine a_nil ?_
        intro ob2 dx2 nx4 nd2 ne3
        refine ⟨F6, ob2, dx2, (it1.1), (u4), (it1.2), _, rfl, upd_same, (w.f.non nx4), (Ex.made w.f nx4 nd2), r6, hW, ?_⟩
        intro z4 hW F7 H9 s8 r7
        refine ⟨rfl, ?_⟩
        replace s8 := Wf.made nx4 nd2 s8
        replace r1 := Rep.mono _ s8.g r1
        replace r2 := Rep.mono _ s8.g r2
        replace r3 := Rep.mono _ s8.g r3
        replace r4 := Rep.mono _ s8.g r4
        replace x7 := x7.step s8
        replace x6 := x6.step s8
        replace r6 := Rep.mono _ s8.g r6
        replace w := w.tr s8
        replace gx3 := Ex.tr gx3 s8.g
        replace gx2 := Ex.tr gx2 s8.g
        refine a_nil ?_
        refine ⟨F7, ob, dx, _, p1, (self_all2), (it1.1), ((.ref ob2)), ((Sum.inr (Sum.inl z4))), _, rfl, w.f, x7.h, lk_eq, (x6.toL (List.mem_cons_self ..)), r7, hW, ?_⟩
        intro all2 hW F8 H10 s9 x8
        replace x8 := x8.fromL x6.zero
        replace w := w.mcall (L := [p1]) (allL1 x6.zero) s9 (allL1 x8.nF)
        replace r1 := Rep.mono _ s9.g r1
        replace r2 := Rep.mono _ s9.g r2
        replace r3 := Rep.mono _ s9.g r3
        replace r4 := Rep.mono _ s9.g r4
        replace x7 := x7.away (nin1 ne1) s9
        replace r6 := Rep.mono _ s9.g r6
        replace r7 := Rep.mono _ s9.g r7
        replace gx3 := Ex.tr gx3 s9.g
        replace gx2 := Ex.tr gx2 s9.g
        exact hN6 all2 _ _ _ ⟨_, _, w, gx3, rfl, x8, x7⟩ hW
      · intro self_all2 σ' F9 H11 hI4 hW
        obtain ⟨o2, o3, w, gx4, rfl, x6, x7⟩ := hI4
        have r1 := Rep.mono _ gx4 r1
        have r2 := Rep.mono _ gx4 r2
        have r3 := Rep.mono _ gx4 r3
        have r4 := Rep.mono _ gx4 r4
        have gx2 := Ex.tr gx2 gx4
        refine hN5 _ _ ?_
        refine q_sq fun N7 hN7 => ?_
        refine f_J ?_
        refine a_val (v := v3) (val_var rfl) ?_
        refine a_nil ?_
        refine src_enum r3 w.f (fun a1 T1 => ?_)
        refine w_forG (S := List (Str × WireV)) T1 (fun self_all3 σ' F' H' => ∃ (o4 : Option V) (o5 : Option V) (o6 : Option V), Wf F0 Hb F' H' ∧ Ex F9 F' ∧ σ' = [some (.ref ob), some v1, some v2, some v3, some v4, o4, o3, o5, o6, none] ∧ XD (pW cc.InWire cc.SumWire cc.StoreWire) Hb F' H' p1 self_all3 ∧ Xc Hb F' H' ob (.ins cc.Net dx [("all", (.ref p1))])) hW ⟨_, _, _, w, Ex.rfl', rfl, x6, x7⟩ (fun s σ' F' H' hI => by obtain ⟨_, _, _, w', gx', _⟩ := hI; exact ⟨gx', w'.f⟩) w.f ?_ ?_
        · intro N8 Bk3 it2 u5 self_all3 σ' F10 H12 F11 H13 nx5 bk3 hI5 hx3 s12 ru3 hW hN8 hB3
          obtain ⟨o4, o5, o6, w, gx5, rfl, x9, x10⟩ := hI5
          have r1 := Rep.mono _ gx5 r1
          have r2 := Rep.mono _ gx5 r2
          have r3 := Rep.mono _ gx5 r3
          have r4 := Rep.mono _ gx5 r4
          have gx4 := Ex.tr gx4 gx5
          have gx2 := Ex.tr gx2 gx5
          replace r1 := Rep.mono _ s12.g r1
          replace r2 := Rep.mono _ s12.g r2
          replace r3 := Rep.mono _ s12.g r3
          replace r4 := Rep.mono _ s12.g r4
          replace x10 := x10.step s12
          replace x9 := x9.step s12
          replace w := w.tr s12
          replace gx5 := Ex.tr gx5 s12.g
          replace gx4 := Ex.tr gx4 s12.g
          replace gx2 := Ex.tr gx2 s12.g
          obtain ⟨p3, u6, u7, rfl, h2, rfl, r8⟩ := ru3
          obtain ⟨p4, u8, u9, rfl, h3, rfl, rfl⟩ := r8
          refine ⟨p3, _, rfl, SqT.of (w.f _ _ h2), rfl, _, _, rfl, _, _, rfl, p4, _, rfl, SqT.of (w.f _ _ h3), rfl, _, _, rfl, _, _, rfl, rfl, rfl, ?_⟩
          refine a_dropE ?_
          refine e_md ?_
          refine e_val (v := (.ref ob)) (val_var rfl) ?_
          refine ⟨_, _, _, rfl, x10.h, ((lk_ne (by decide +kernel)).trans rfl), ?_⟩
          refine a_val (v := (.str (it2.2.1))) (val_var rfl) ?_
          refine a_cons ?_
          refine e_nw ?_
          refine a_val (v := (.str (it2.2.1))) (val_var rfl) ?_
          refine a_val (v := (.str (it2.2.2))) (val_var rfl) ?_
          refine a_val (v := (.int ((it2.1 : Nat) : Int))) (val_var rfl) ?_
          refine a_nil ?_
          intro ob3 dx3 nx6 nd3 ne4
          refine ⟨F11, ob3, dx3, (it2.2.1), (it2.2.2), (it2.1), _, rfl, upd_same, (w.f.non nx6), (Ex.made w.f nx6 nd3), hW, ?_⟩
          intro z6 hW F12 H14 s13 r9
          refine ⟨rfl, ?_⟩
          replace s13 := Wf.made nx6 nd3 s13
          replace r1 := Rep.mono _ s13.g r1
          replace r2 := Rep.mono _ s13.g r2
          replace r3 := Rep.mono _ s13.g r3
          replace r4 := Rep.mono _ s13.g r4
          replace x10 := x10.step s13
          replace x9 := x9.step s13
          replace w := w.tr s13
          replace gx5 := Ex.tr gx5 s13.g
          replace gx4 := Ex.tr gx4 s13.g
          replace gx2 := Ex.tr gx2 s13.g
          refine a_nil ?_
          refine ⟨F12, ob, dx, _, p1, (self_all3), (it2.2.1), ((.ref ob3)), ((Sum.inr (Sum.inr z6))), _, rfl, w.f, x10.h, lk_eq, (x9.toL (List.mem_cons_self ..)), r9, hW, ?_⟩
          intro all3 hW F13 H15 s14 x11
          replace x11 := x11.fromL x9.zero
          replace w := w.mcall (L := [p1]) (allL1 x9.zero) s14 (allL1 x11.nF)
          replace r1 := Rep.mono _ s14.g r1
          replace r2 := Rep.mono _ s14.g r2
          replace r3 := Rep.mono _ s14.g r3
          replace r4 := Rep.mono _ s14.g r4
          replace x10 := x10.away (nin1 ne1) s14
          replace r9 := Rep.mono _ s14.g r9
          replace gx5 := Ex.tr gx5 s14.g
          replace gx4 := Ex.tr gx4 s14.g
          replace gx2 := Ex.tr gx2 s14.g
          exact hN8 all3 _ _ _ ⟨_, _, _, w, gx5, rfl, x11, x10⟩ hW
        · intro self_all3 σ' F14 H16 hI6 hW
          obtain ⟨o4, o5, o6, w, gx6, rfl, x9, x10⟩ := hI6
          have r1 := Rep.mono _ gx6 r1
          have r2 := Rep.mono _ gx6 r2
          have r3 := Rep.mono _ gx6 r3
          have r4 := Rep.mono _ gx6 r4
          have gx4 := Ex.tr gx4 gx6
          have gx2 := Ex.tr gx2 gx6
          refine hN7 _ _ ?_
          refine q_sq fun N9 hN9 => ?_
          refine e_fld ?_
          refine e_cb ?_
          refine a_val (v := v4) (val_var rfl) ?_
          refine a_nil ?_
          refine n_listX r4 w ?_
          intro p5 H17 hp2 s16 x12
          have ne5 := x10.ne hp2
          have ne6 := x9.ne hp2
          replace r1 := Rep.mono _ s16.g r1
          replace r2 := Rep.mono _ s16.g r2
          replace r3 := Rep.mono _ s16.g r3
          replace r4 := Rep.mono _ s16.g r4
          replace x10 := x10.step s16
          replace x9 := x9.step s16
          replace w := w.tr s16
          replace gx6 := Ex.tr gx6 s16.g
          replace gx4 := Ex.tr gx4 s16.g
          replace gx2 := Ex.tr gx2 s16.g
          have zz4 := x12.zero
          obtain ⟨F15, w2, g1, r10, fz1⟩ := x12.frzE w
          replace r1 := Rep.mono _ g1 r1
          replace r2 := Rep.mono _ g1 r2
          replace r3 := Rep.mono _ g1 r3
          replace r4 := Rep.mono _ g1 r4
          replace x10 := x10.frzO fz1 ne5 g1
          replace x9 := x9.frzO fz1 ne6 g1
          replace w := w2
          replace gx6 := Ex.tr gx6 g1
          replace gx4 := Ex.tr gx4 g1
          replace gx2 := Ex.tr gx2 g1
          refine a_fld T.cl_Net T.na_Net_ends x10 w (show 1 < 1000 from by decide) (val_var rfl) (fun H18 w3 x13 kp2 => ?_)
          replace x9 := x9.kept kp2 (Ne.symm ne1)
          replace w := w3
          replace x13 : Xc Hb F15 H18 ob (.ins cc.Net dx [("all", (.ref p1)), ("ends", (.ref p5))]) := Xc.cast x13 ((put_ne (by decide +kernel)).trans (congrArg _ rfl))
          refine hN9 _ _ ?_
          refine q_sq fun N10 hN10 => ?_
          refine f_LE ?_
          refine e_md ?_
          refine e_val (v := (.ref ob)) (val_var rfl) ?_
          refine ⟨_, _, _, rfl, x13.h, ((lk_ne (by decide +kernel)).trans ((lk_ne (by decide +kernel)).trans rfl)), ?_⟩
          refine a_nil ?_
          refine ⟨F15, ob, dx, _, p1, (self_all3), (.ref p5), (outs1), _, rfl, w.f, x13.h, lk_eq, x9.bw, ((lk_ne (by decide +kernel)).trans lk_eq), r10, ((lk_ne (by decide +kernel)).trans ((lk_ne (by decide +kernel)).trans rfl)), hW, ?_⟩
          intro z8 hW p6 F16 H19 s17 x14
          have ne7 := x13.ne x14.zero
          have ne8 := x9.ne x14.zero
          replace x14 := x14.base w
          replace r1 := Rep.mono _ s17.g r1
          replace r2 := Rep.mono _ s17.g r2
          replace r3 := Rep.mono _ s17.g r3
          replace r4 := Rep.mono _ s17.g r4
          replace x13 := x13.step s17
          replace x9 := x9.step s17
          replace r10 := Rep.mono _ s17.g r10
          replace w := w.tr s17
          replace gx6 := Ex.tr gx6 s17.g
          replace gx4 := Ex.tr gx4 s17.g
          replace gx2 := Ex.tr gx2 s17.g
          have zz5 := x14.zero
          obtain ⟨F17, w4, g2, r11, fz2⟩ := x14.frzE w
          replace r1 := Rep.mono _ g2 r1
          replace r2 := Rep.mono _ g2 r2
          replace r3 := Rep.mono _ g2 r3
          replace r4 := Rep.mono _ g2 r4
          replace x13 := x13.frzO fz2 ne7 g2
          replace x9 := x9.frzO fz2 ne8 g2
          replace r10 := Rep.mono _ g2 r10
          replace w := w4
          replace gx6 := Ex.tr gx6 g2
          replace gx4 := Ex.tr gx4 g2
          replace gx2 := Ex.tr gx2 g2
          refine w_forL (S := Unit) (fun _ σ' F' H' => ∃ (o7 : Option V), Wf F0 Hb F' H' ∧ Ex F17 F' ∧ σ' = [some (.ref ob), some v1, some v2, some v3, some v4, o7, o3, o5, o6, none] ∧ Xc Hb F' H' ob (.ins cc.Net dx [("all", (.ref p1)), ("ends", (.ref p5))]) ∧ XD (pW cc.InWire cc.SumWire cc.StoreWire) Hb F' H' p1 self_all3) r11 hW ⟨_, w, Ex.rfl', rfl, x13, x9⟩ (fun s σ' F' H' hI => by obtain ⟨_, w', gx', _⟩ := hI; exact ⟨gx', w'.f⟩) w.f ?_ ?_
          · intro N11 Bk4 name3 u10 s18 σ' F18 H20 nx7 bk4 hI7 hx4 ru4 hW hN11 hB4
            obtain ⟨o7, w, gx7, rfl, x15, x16⟩ := hI7
            have r1 := Rep.mono _ gx7 r1
            have r2 := Rep.mono _ gx7 r2
            have r3 := Rep.mono _ gx7 r3
            have r4 := Rep.mono _ gx7 r4
            have r10 := Rep.mono _ gx7 r10
            have r11 := Rep.mono _ gx7 r11
            have gx6 := Ex.tr gx6 gx7
            have gx4 := Ex.tr gx4 gx7
            have gx2 := Ex.tr gx2 gx7
            obtain rfl : u10 = (.str (name3)) := ru4
            refine g_name ?_
            refine a_dropE ?_
            refine e_md ?_
            refine e_val (v := (.ref ob)) (val_var rfl) ?_
            refine ⟨_, _, _, rfl, x15.h, ((lk_ne (by decide +kernel)).trans ((lk_ne (by decide +kernel)).trans rfl)), ?_⟩
            refine a_val (v := (.str (name3))) (val_var rfl) ?_
            refine a_nil ?_
            refine ⟨F18, ob, dx, _, p1, (self_all3), ((.str (name3))), ((An.s name3)), _, _, rfl, w.f, x15.h, lk_eq, x16.bw, (show pA.r _ (.str (name3)) (An.s name3) from rfl), hW, ?_, ?_⟩
            · intro _ hW; exact hW.elim
            intro z9 hW v5 F19 H21 s19 r12
            replace r1 := Rep.mono _ s19.g r1
            replace r2 := Rep.mono _ s19.g r2
            replace r3 := Rep.mono _ s19.g r3
            replace r4 := Rep.mono _ s19.g r4
            replace x15 := x15.step s19
            replace x16 := x16.step s19
            replace r10 := Rep.mono _ s19.g r10
            replace w := w.tr s19
            replace gx7 := Ex.tr gx7 s19.g
            replace gx6 := Ex.tr gx6 s19.g
            replace gx4 := Ex.tr gx4 s19.g
            replace gx2 := Ex.tr gx2 s19.g
            exact hN11 () _ _ _ ⟨_, w, gx7, rfl, x15, x16⟩ hW
          · intro s20 σ' F20 H22 hI8 hW
            obtain ⟨o7, w, gx8, rfl, x15, x16⟩ := hI8
            have r1 := Rep.mono _ gx8 r1
            have r2 := Rep.mono _ gx8 r2
            have r3 := Rep.mono _ gx8 r3
            have r4 := Rep.mono _ gx8 r4
            have r10 := Rep.mono _ gx8 r10
            have r11 := Rep.mono _ gx8 r11
            have gx6 := Ex.tr gx6 gx8
            have gx4 := Ex.tr gx4 gx8
            have gx2 := Ex.tr gx2 gx8
            refine hN10 _ _ ?_
            refine q_sq fun N12 hN12 => ?_
            refine e_fld ?_
            refine e_lst ?_
            refine a_nil ?_
            refine n_lstX (e := pS) (xs := []) (vs := []) (show All pS _ [] [] from trivial) (show 0 < 1000000 from by decide) w ?_
            intro p7 H23 hp3 s21 x17
            have ne9 := x15.ne hp3
            have ne10 := x16.ne hp3
            replace r1 := Rep.mono _ s21.g r1
            replace r2 := Rep.mono _ s21.g r2
            replace r3 := Rep.mono _ s21.g r3
            replace r4 := Rep.mono _ s21.g r4
            replace x15 := x15.step s21
            replace x16 := x16.step s21
            replace r10 := Rep.mono _ s21.g r10
            replace w := w.tr s21
            replace gx8 := Ex.tr gx8 s21.g
            replace gx6 := Ex.tr gx6 s21.g
            replace gx4 := Ex.tr gx4 s21.g
            replace gx2 := Ex.tr gx2 s21.g
            refine a_fld T.cl_Net T.na_Net_line_up x15 w (show 2 < 1000 from by decide) (val_var rfl) (fun H24 w5 x18 kp3 => ?_)
            replace x16 := x16.kept kp3 (Ne.symm ne1)
            replace x17 := x17.kept kp3 (Ne.symm ne9)
            replace w := w5
            replace x18 : Xc Hb F20 H24 ob (.ins cc.Net dx [("all", (.ref p1)), ("ends", (.ref p5)), ("line_up", (.ref p7))]) := Xc.cast x18 ((put_ne (by decide +kernel)).trans (congrArg _ ((put_ne (by decide +kernel)).trans (congrArg _ rfl))))
            refine hN12 _ _ ?_
            refine q_sq fun N13 hN13 => ?_
            refine e_fld ?_
            refine n_dict (κ := Str) (e := pB) w ?_
            intro p8 H25 hp4 s22 x19
            have ne11 := x18.ne hp4
            have ne12 := x16.ne hp4
            have ne13 := x17.ne hp4
            replace r1 := Rep.mono _ s22.g r1
            replace r2 := Rep.mono _ s22.g r2
            replace r3 := Rep.mono _ s22.g r3
            replace r4 := Rep.mono _ s22.g r4
            replace x18 := x18.step s22
            replace x16 := x16.step s22
            replace r10 := Rep.mono _ s22.g r10
            replace x17 := x17.step s22
            replace w := w.tr s22
            replace gx8 := Ex.tr gx8 s22.g
            replace gx6 := Ex.tr gx6 s22.g
            replace gx4 := Ex.tr gx4 s22.g
            replace gx2 := Ex.tr gx2 s22.g
            refine a_fld T.cl_Net T.na_Net_laid x18 w (show 3 < 1000 from by decide) (val_var rfl) (fun H26 w6 x20 kp4 => ?_)
            replace x16 := x16.kept kp4 (Ne.symm ne1)
            replace x17 := x17.kept kp4 (Ne.symm ne9)
            replace x19 := x19.kept kp4 (Ne.symm ne11)
            replace w := w6
            replace x20 : Xc Hb F20 H26 ob (.ins cc.Net dx [("all", (.ref p1)), ("ends", (.ref p5)), ("line_up", (.ref p7)), ("laid", (.ref p8))]) := Xc.cast x20 ((put_ne (by decide +kernel)).trans (congrArg _ ((put_ne (by decide +kernel)).trans (congrArg _ ((put_ne (by decide +kernel)).trans (congrArg _ rfl))))))
            refine hN13 _ _ ?_
            refine f_LE ?_
            refine e_md ?_
            refine e_val (v := (.ref ob)) (val_var rfl) ?_
            refine ⟨_, _, _, rfl, x20.h, ((lk_ne (by decide +kernel)).trans ((lk_ne (by decide +kernel)).trans ((lk_ne (by decide +kernel)).trans ((lk_ne (by decide +kernel)).trans rfl)))), ?_⟩
            refine a_val (v := (.str ((PySem.Str.ofString "sum")))) val_c ?_
            refine a_nil ?_
            refine ⟨F20, ob, dx, _, p1, (self_all3), ((PySem.Str.ofString "sum")), _, rfl, w.f, x20.h, lk_eq, x16.bw, hW, ?_⟩
            intro z10 hW p9 F21 H27 s23 x21
            have ne14 := x20.ne x21.zero
            have ne15 := x16.ne x21.zero
            have ne16 := x17.ne x21.zero
            have ne17 := x19.ne x21.zero
            replace x21 := x21.base w
            replace r1 := Rep.mono _ s23.g r1
            replace r2 := Rep.mono _ s23.g r2
            replace r3 := Rep.mono _ s23.g r3
            replace r4 := Rep.mono _ s23.g r4
            replace x20 := x20.step s23
            replace x16 := x16.step s23
            replace r10 := Rep.mono _ s23.g r10
            replace x17 := x17.step s23
            replace x19 := x19.step s23
            replace w := w.tr s23
            replace gx8 := Ex.tr gx8 s23.g
            replace gx6 := Ex.tr gx6 s23.g
            replace gx4 := Ex.tr gx4 s23.g
            replace gx2 := Ex.tr gx2 s23.g
            have zz6 := x21.zero
            obtain ⟨F22, w7, g3, r13, fz3⟩ := x21.frzE w
            replace r1 := Rep.mono _ g3 r1
            replace r2 := Rep.mono _ g3 r2
            replace r3 := Rep.mono _ g3 r3
            replace r4 := Rep.mono _ g3 r4
            replace x20 := x20.frzO fz3 ne14 g3
            replace x16 := x16.frzO fz3 ne15 g3
            replace r10 := Rep.mono _ g3 r10
            replace x17 := x17.frzO fz3 ne16 g3
            replace x19 := x19.frzO fz3 ne17 g3
            replace w := w7
            replace gx8 := Ex.tr gx8 g3
            replace gx6 := Ex.tr gx6 g3
            replace gx4 := Ex.tr gx4 g3
            replace gx2 := Ex.tr gx2 g3
            refine w_forL (S := List Str × List (Str × Bool)) (fun s σ' F' H' => match s with | (self_line_up1, self_laid1) => ∃ (o8 : Option V), Wf F0 Hb F' H' ∧ Ex F22 F' ∧ σ' = [some (.ref ob), some v1, some v2, some v3, some v4, o7, o3, o5, o6, o8] ∧ XL pS Hb F' H' p7 self_line_up1 ∧ XD pB Hb F' H' p8 self_laid1 ∧ Xc Hb F' H' ob (.ins cc.Net dx [("all", (.ref p1)), ("ends", (.ref p5)), ("line_up", (.ref p7)), ("laid", (.ref p8))]) ∧ XD (pW cc.InWire cc.SumWire cc.StoreWire) Hb F' H' p1 self_all3) r13 hW ⟨_, w, Ex.rfl', rfl, x17, x19, x20, x16⟩ (fun s σ' F' H' hI => by obtain ⟨self_line_up1, self_laid1⟩ := s; obtain ⟨_, w', gx', _⟩ := hI; exact ⟨gx', w'.f⟩) w.f ?_ ?_
            · intro N14 Bk5 one1 u11 s24 σ' F23 H28 nx8 bk5 hI9 hx5 ru5 hW hN14 hB5
              obtain ⟨self_line_up1, self_laid1⟩ := s24
              obtain ⟨o8, w, gx9, rfl, x22, x23, x24, x25⟩ := hI9
              have r1 := Rep.mono _ gx9 r1
              have r2 := Rep.mono _ gx9 r2
              have r3 := Rep.mono _ gx9 r3
              have r4 := Rep.mono _ gx9 r4
              have r10 := Rep.mono _ gx9 r10
              have r13 := Rep.mono _ gx9 r13
              have gx8 := Ex.tr gx8 gx9
              have gx6 := Ex.tr gx6 gx9
              have gx4 := Ex.tr gx4 gx9
              have gx2 := Ex.tr gx2 gx9
              refine g_name ?_
              refine a_dropE ?_
              refine e_md ?_
              refine e_val (v := (.ref ob)) (val_var rfl) ?_
              refine ⟨_, _, _, rfl, x24.h, ((lk_ne (by decide +kernel)).trans ((lk_ne (by decide +kernel)).trans ((lk_ne (by decide +kernel)).trans ((lk_ne (by decide +kernel)).trans rfl)))), ?_⟩
              refine a_val (v := (.str (wName one1))) (fl_Wname (tw_of T) ru5 w.f (val_var rfl)) ?_
              refine a_nil ?_
              refine ⟨F23, ob, dx, _, p1, (self_all3), p7, (self_line_up1), p8, (self_laid1), (wName one1), _, rfl, w.f, x24.h, lk_eq, x25.bw, ((lk_ne (by decide +kernel)).trans ((lk_ne (by decide +kernel)).trans lk_eq)), (x22.toL (List.mem_cons_self ..)), ((lk_ne (by decide +kernel)).trans ((lk_ne (by decide +kernel)).trans ((lk_ne (by decide +kernel)).trans lk_eq))), (x23.toL (List.mem_cons_of_mem _ (List.mem_cons_self ..))), ne10, ne12, ne13, hW, ?_⟩
              intro zz7 hW F24 H29 s25 x26 x27
              obtain ⟨line_up1, laid1⟩ := zz7
              replace x26 := x26.fromL x22.zero
              replace x27 := x27.fromL x23.zero
              replace w := w.mcall (L := [p7, p8]) (allL2 x22.zero x23.zero) s25 (allL2 x26.nF x27.nF)
              replace r1 := Rep.mono _ s25.g r1
              replace r2 := Rep.mono _ s25.g r2
              replace r3 := Rep.mono _ s25.g r3
              replace r4 := Rep.mono _ s25.g r4
              replace x24 := x24.away (nin2 ne9 ne11) s25
              replace x25 := x25.away (nin2 ne10 ne12) s25
              replace r10 := Rep.mono _ s25.g r10
              replace ru5 := Rep.mono _ s25.g ru5
              replace gx9 := Ex.tr gx9 s25.g
              replace gx8 := Ex.tr gx8 s25.g
              replace gx6 := Ex.tr gx6 s25.g
              replace gx4 := Ex.tr gx4 s25.g
              replace gx2 := Ex.tr gx2 s25.g
              exact hN14 (line_up1, laid1) _ _ _ ⟨_, w, gx9, rfl, x26, x27, x24, x25⟩ hW
            · intro s26 σ' F25 H30 hI10 hW
              obtain ⟨self_line_up1, self_laid1⟩ := s26
              obtain ⟨o8, w, gx10, rfl, x22, x23, x24, x25⟩ := hI10
              have r1 := Rep.mono _ gx10 r1
              have r2 := Rep.mono _ gx10 r2
              have r3 := Rep.mono _ gx10 r3
              have r4 := Rep.mono _ gx10 r4
              have r10 := Rep.mono _ gx10 r10
              have r13 := Rep.mono _ gx10 r13
              have gx8 := Ex.tr gx8 gx10
              have gx6 := Ex.tr gx6 gx10
              have gx4 := Ex.tr gx4 gx10
              have gx2 := Ex.tr gx2 gx10
              obtain ⟨F26, w8, g4, r14, fz4⟩ := x25.frzE w
              replace r1 := Rep.mono _ g4 r1
              replace r2 := Rep.mono _ g4 r2
              replace r3 := Rep.mono _ g4 r3
              replace r4 := Rep.mono _ g4 r4
              replace x24 := x24.frzO fz4 ne1 g4
              replace r10 := Rep.mono _ g4 r10
              replace x22 := x22.frzO fz4 (Ne.symm ne10) g4
              replace x23 := x23.frzO fz4 (Ne.symm ne12) g4
              replace w := w8
              replace gx10 := Ex.tr gx10 g4
              replace gx8 := Ex.tr gx8 g4
              replace gx6 := Ex.tr gx6 g4
              replace gx4 := Ex.tr gx4 g4
              replace gx2 := Ex.tr gx2 g4
              have zz8 := x22.zero
              obtain ⟨F27, w9, g5, r15, fz5⟩ := x22.frzE w
              replace r1 := Rep.mono _ g5 r1
              replace r2 := Rep.mono _ g5 r2
              replace r3 := Rep.mono _ g5 r3
              replace r4 := Rep.mono _ g5 r4
              replace x24 := x24.frzO fz5 ne9 g5
              replace r14 := Rep.mono _ g5 r14
              replace r10 := Rep.mono _ g5 r10
              replace x23 := x23.frzO fz5 (Ne.symm ne13) g5
              replace w := w9
              replace gx10 := Ex.tr gx10 g5
              replace gx8 := Ex.tr gx8 g5
              replace gx6 := Ex.tr gx6 g5
              replace gx4 := Ex.tr gx4 g5
              replace gx2 := Ex.tr gx2 g5
              obtain ⟨F28, w10, g6, r16, fz6⟩ := x23.frzE w
              replace r1 := Rep.mono _ g6 r1
              replace r2 := Rep.mono _ g6 r2
              replace r3 := Rep.mono _ g6 r3
              replace r4 := Rep.mono _ g6 r4
              replace x24 := x24.frzO fz6 ne11 g6
              replace r14 := Rep.mono _ g6 r14
              replace r10 := Rep.mono _ g6 r10
              replace r15 := Rep.mono _ g6 r15
              replace w := w10
              replace gx10 := Ex.tr gx10 g6
              replace gx8 := Ex.tr gx8 g6
              replace gx6 := Ex.tr gx6 g6
              replace gx4 := Ex.tr gx4 g6
              replace gx2 := Ex.tr gx2 g6
              have zo1 := x24.z
              obtain ⟨F29, w11, g7, h4⟩ := x24.frzE w
              exact hQ _ hW _ _ w11 ⟨ob, dx, _, rfl, nlh_ob zo1 h4, _, _, _, _, rfl, (nlh_N (NoL.DK NoL.W) w11.h w11.f (Rep.mono _ g7 r14)), (nlh_L NoL.S w11.h w11.f zz4 (Rep.mono _ g7 r10)), (nlh_L NoL.S w11.h w11.f zz8 (Rep.mono _ g7 r15)), (nlh_N (NoL.DK NoL.B) w11.h w11.f (Rep.mono _ g7 r16))⟩
abbrev s_Net_in_names : Stmt := inClass (topS 23) 5
def W_Net_in_names (self1 : List (Str × WireV) × List Str × List Str × List (Str × Bool)) (R : (List Str) → Prop) : Prop := W_Net_of_kind self1.1 (PySem.Str.ofString "in") fun z1 => (z1.length < 1000000) ∧ compW z1 (fun one1 kk => kk (some (wName one1))) fun ys1 => R ys1
def sp_Net_in_names (K : PySem.W.Frag) (cc : Cz) : Sp := fun vs H Q _ => ∃ (F : Hp) (v1 : V) (self1 : List (Str × WireV) × List Str × List Str × List (Str × Bool)) (R : (List Str) → Prop), vs = [v1] ∧ Ex F H ∧ (pO4 cc.Net "all" "ends" "line_up" "laid" (pD (κ := Str) (pW cc.InWire cc.SumWire cc.StoreWire)) (pL pS) (pL pS) (pD (κ := Str) pB)).r F v1 self1 ∧ W_Net_in_names self1 R ∧ ∀ z, R z → ∀ p F' H', Wf F H F' H' → XL pS H F' H' p z → Q (.ref p) H'
abbrev N_Net_in_names : List Str := ["self", "one"]
theorem sc_Net_in_names : FnScope N_Net_in_names ["self"] (defScope s_Net_in_names) := ⟨rfl, rfl, rfl, by decide +kernel, rfl, by decide +kernel, by decide +kernel⟩
theorem ok_Net_in_names {P : Program} {w0 : World} {K : PySem.W.Frag} {mg : Str → Option Value} {base : Heap} {f : Addr} {fd : FuncData} {cc : Cz} (T : Tz K mg cc) (FU : Fun K "in_names" "Net.in_names" s_Net_in_names f fd) (hm : Meth K cc.Net "in_names" f) (hb : Binds K fd ["self"] []) (c_Net_of_kind : Md P w0 K mg base CX0 2 cc.Net "of_kind" ["self", "word"] (sp_Net_of_kind K cc)) : Md P w0 K mg base CX0 3 cc.Net "in_names" ["self"] (sp_Net_in_names K cc) := by
  refine ⟨f, fd, FU.ok sc_Net_in_names (fun vs H Q E h => ?_) (fun cdv A outer s H0 vs Q E hr h => ?_), hm, hb⟩
  · obtain ⟨_, _, _, _, rfl, _⟩ := h; rfl
  · obtain ⟨F0, v1, self1, R, rfl, wf, r1, hW, hQ⟩ := h
    have nd := sc_Net_in_names.nd
    refine ⟨(tRet (tLc (iList K (tMeth cc.Net "of_kind" (sp_Net_of_kind K cc) [] E0 (tVar 0) (tCons (tC (.str (PySem.Str.ofString "in"))) tNil))) (gName 1) tYes (tFld K (tVar 1) "name") [1])), (pss_one (ps_ret (pe_lc (own := [("one", 1)]) (wi := (iList K (tMeth cc.Net "of_kind" (sp_Net_of_kind K cc) [] E0 (tVar 0) (tCons (tC (.str (PySem.Str.ofString "in"))) tNil)))) (g := (gName 1)) (tt := tYes) (te := (tFld K (tVar 1) "name")) rfl nd (pi_list (pe_md c_Net_of_kind T.cl_Net (hr.mono (by decide)) (pv 0) (pa_cons pe_str pa_nil))) (blkOk_by (N := N_Net_in_names) (sc := defScope s_Net_in_names) (by decide +kernel)) (fun _ _ _ _ _ => (pg_name (i := 1) nd rfl (Or.inl rfl))) (fun _ _ _ _ _ => pts_nil) (fun _ _ _ _ _ => (pe_fld (pv 1) rfl))))), ?_⟩
    have w := Wf.id wf
    refine a_retE ?_
    refine c_LE ?_
    refine e_md ?_
    refine e_val (v := v1) (val_var rfl) ?_
    obtain ⟨p1, dx1, fs1, u1, u2, u3, u4, ev1, ho1, lk1, lk2, lk3, lk4, r2, r3, r4, r5, lm1⟩ := st_O4 r1 w.f
    have hu1 := w.f
    refine ⟨_, _, _, ev1, ho1, (lm1 _ (by decide +kernel) (by decide +kernel) (by decide +kernel) (by decide +kernel)), ?_⟩
    obtain ⟨d1, eq1, b1⟩ := D_bw r2 w.f
    refine a_val (v := (.str ((PySem.Str.ofString "in")))) val_c ?_
    refine a_nil ?_
    refine ⟨F0, p1, dx1, fs1, d1, (self1.1), ((PySem.Str.ofString "in")), _, (by rw [ev1]), w.f, ho1, (by rw [lk1, eq1]), b1, hW, ?_⟩
    intro z1 hW p2 F1 H1 s1 x1
    replace x1 := x1.base w
    replace r1 := Rep.mono _ s1.g r1
    replace w := w.tr s1
    obtain ⟨F2, w1, g1, r6, fz1⟩ := x1.frzE w
    replace r1 := Rep.mono _ g1 r1
    replace w := w1
    obtain ⟨c1, hW⟩ := hW
    refine w_compL (e := pS) r6 w c1 hW ?_ ?_
    · intro Qy Qn one1 u5 F3 H2 R1 q1 hx1 ru1 hW hy1 hn1
      have r1 := Rep.mono _ q1.g r1
      have r6 := Rep.mono _ q1.g r6
      have w := Wf.id q1.f
      refine ⟨rfl, ?_⟩
      refine c_yes ?_
      refine e_val (v := (.str (wName one1))) (fl_Wname (tw_of T) ru1 w.f (val_var rfl)) ?_
      exact hy1 _ _ _ _ w rfl hW
    intro p3 ys1 F4 H3 hp1 s2 x2 hW
    replace r1 := Rep.mono _ s2.g r1
    replace r6 := Rep.mono _ s2.g r6
    replace w := w.tr s2
    exact hQ _ hW _ _ _ w x2
abbrev s_Net_sum_rows : Stmt := inClass (topS 23) 6
def W_Net_sum_rows (self1 : List (Str × WireV) × List Str × List Str × List (Str × Bool)) (R : (List (Str × List Str)) → Prop) : Prop := W_Net_of_kind self1.1 (PySem.Str.ofString "sum") fun z1 => (z1.length < 1000000) ∧ compW z1 (fun one1 kk => ∃ y1, wWires one1 = some y1 ∧ kk (some (wName one1, y1))) fun ys1 => R ys1
def sp_Net_sum_rows (K : PySem.W.Frag) (cc : Cz) : Sp := fun vs H Q _ => ∃ (F : Hp) (v1 : V) (self1 : List (Str × WireV) × List Str × List Str × List (Str × Bool)) (R : (List (Str × List Str)) → Prop), vs = [v1] ∧ Ex F H ∧ (pO4 cc.Net "all" "ends" "line_up" "laid" (pD (κ := Str) (pW cc.InWire cc.SumWire cc.StoreWire)) (pL pS) (pL pS) (pD (κ := Str) pB)).r F v1 self1 ∧ W_Net_sum_rows self1 R ∧ ∀ z, R z → ∀ p F' H', Wf F H F' H' → XL (pT2 pS (pTL pS)) H F' H' p z → Q (.ref p) H'
abbrev N_Net_sum_rows : List Str := ["self", "one"]
theorem sc_Net_sum_rows : FnScope N_Net_sum_rows ["self"] (defScope s_Net_sum_rows) := ⟨rfl, rfl, rfl, by decide +kernel, rfl, by decide +kernel, by decide +kernel⟩
theorem ok_Net_sum_rows {P : Program} {w0 : World} {K : PySem.W.Frag} {mg : Str → Option Value} {base : Heap} {f : Addr} {fd : FuncData} {cc : Cz} (T : Tz K mg cc) (FU : Fun K "sum_rows" "Net.sum_rows" s_Net_sum_rows f fd) (hm : Meth K cc.Net "sum_rows" f) (hb : Binds K fd ["self"] []) (c_Net_of_kind : Md P w0 K mg base CX0 2 cc.Net "of_kind" ["self", "word"] (sp_Net_of_kind K cc)) : Md P w0 K mg base CX0 3 cc.Net "sum_rows" ["self"] (sp_Net_sum_rows K cc) := by
  refine ⟨f, fd, FU.ok sc_Net_sum_rows (fun vs H Q E h => ?_) (fun cdv A outer s H0 vs Q E hr h => ?_), hm, hb⟩
  · obtain ⟨_, _, _, _, rfl, _⟩ := h; rfl
  · obtain ⟨F0, v1, self1, R, rfl, wf, r1, hW, hQ⟩ := h
    have nd := sc_Net_sum_rows.nd
    refine ⟨(tRet (tLc (iList K (tMeth cc.Net "of_kind" (sp_Net_of_kind K cc) [] E0 (tVar 0) (tCons (tC (.str (PySem.Str.ofString "sum"))) tNil))) (gName 1) tYes (tTup (tCons (tFld K (tVar 1) "name") (tCons (tFld K (tVar 1) "wires") tNil))) [1])), (pss_one (ps_ret (pe_lc (own := [("one", 1)]) (wi := (iList K (tMeth cc.Net "of_kind" (sp_Net_of_kind K cc) [] E0 (tVar 0) (tCons (tC (.str (PySem.Str.ofString "sum"))) tNil)))) (g := (gName 1)) (tt := tYes) (te := (tTup (tCons (tFld K (tVar 1) "name") (tCons (tFld K (tVar 1) "wires") tNil)))) rfl nd (pi_list (pe_md c_Net_of_kind T.cl_Net (hr.mono (by decide)) (pv 0) (pa_cons pe_str pa_nil))) (blkOk_by (N := N_Net_sum_rows) (sc := defScope s_Net_sum_rows) (by decide +kernel)) (fun _ _ _ _ _ => (pg_name (i := 1) nd rfl (Or.inl rfl))) (fun _ _ _ _ _ => pts_nil) (fun _ _ _ _ _ => (pe_tup (pa_cons (pe_fld (pv 1) rfl) (pa_cons (pe_fld (pv 1) rfl) pa_nil))))))), ?_⟩
    have w := Wf.id wf
    refine a_retE ?_
    refine c_LE ?_
    refine e_md ?_
    refine e_val (v := v1) (val_var rfl) ?_
    obtain ⟨p1, dx1, fs1, u1, u2, u3, u4, ev1, ho1, lk1, lk2, lk3, lk4, r2, r3, r4, r5, lm1⟩ := st_O4 r1 w.f
    have hu1 := w.f
    refine ⟨_, _, _, ev1, ho1, (lm1 _ (by decide +kernel) (by decide +kernel) (by decide +kernel) (by decide +kernel)), ?_⟩
    obtain ⟨d1, eq1, b1⟩ := D_bw r2 w.f
    refine a_val (v := (.str ((PySem.Str.ofString "sum")))) val_c ?_
    refine a_nil ?_
    refine ⟨F0, p1, dx1, fs1, d1, (self1.1), ((PySem.Str.ofString "sum")), _, (by rw [ev1]), w.f, ho1, (by rw [lk1, eq1]), b1, hW, ?_⟩
    intro z1 hW p2 F1 H1 s1 x1
    replace x1 := x1.base w
    replace r1 := Rep.mono _ s1.g r1
    replace w := w.tr s1
    obtain ⟨F2, w1, g1, r6, fz1⟩ := x1.frzE w
    replace r1 := Rep.mono _ g1 r1
    replace w := w1
    obtain ⟨c1, hW⟩ := hW
    refine w_compL (e := (pT2 pS (pTL pS))) r6 w c1 hW ?_ ?_
    · intro Qy Qn one1 u5 F3 H2 R1 q1 hx1 ru1 hW hy1 hn1
      have r1 := Rep.mono _ q1.g r1
      have r6 := Rep.mono _ q1.g r6
      have w := Wf.id q1.f
      refine ⟨rfl, ?_⟩
      refine c_yes ?_
      refine e_tup ?_
      refine a_val (v := (.str (wName one1))) (fl_Wname (tw_of T) ru1 w.f (val_var rfl)) ?_
      obtain ⟨y1, hy2, hW⟩ := hW
      obtain ⟨v2, r7, fl1⟩ := fl_Wwires (tw_of T) ru1 w.f hy2
      refine a_val (v := v2) (fl1 (val_var rfl)) ?_
      refine a_nil ?_
      refine n_tup2 (e := pS) (f := (pTL pS)) (x := wName one1) (y := y1) rfl r7 w ?_
      intro p3 F4 H3 s2 r8
      replace r1 := Rep.mono _ s2.g r1
      replace ru1 := Rep.mono _ s2.g ru1
      replace r6 := Rep.mono _ s2.g r6
      replace r7 := Rep.mono _ s2.g r7
      replace w := w.tr s2
      exact hy1 _ _ _ _ w r8 hW
    intro p4 ys1 F5 H4 hp1 s3 x2 hW
    replace r1 := Rep.mono _ s3.g r1
    replace r6 := Rep.mono _ s3.g r6
    replace w := w.tr s3
    exact hQ _ hW _ _ _ w x2
abbrev s_Net_store_rows : Stmt := inClass (topS 23) 7
def W_Net_store_rows (self1 : List (Str × WireV) × List Str × List Str × List (Str × Bool)) (R : (List (Str × Str)) → Prop) : Prop := W_Net_of_kind self1.1 (PySem.Str.ofString "store") fun z1 => (z1.length < 1000000) ∧ compW z1 (fun one1 kk => ∃ y1, wWire one1 = some y1 ∧ kk (some (wName one1, y1))) fun ys1 => R ys1
def sp_Net_store_rows (K : PySem.W.Frag) (cc : Cz) : Sp := fun vs H Q _ => ∃ (F : Hp) (v1 : V) (self1 : List (Str × WireV) × List Str × List Str × List (Str × Bool)) (R : (List (Str × Str)) → Prop), vs = [v1] ∧ Ex F H ∧ (pO4 cc.Net "all" "ends" "line_up" "laid" (pD (κ := Str) (pW cc.InWire cc.SumWire cc.StoreWire)) (pL pS) (pL pS) (pD (κ := Str) pB)).r F v1 self1 ∧ W_Net_store_rows self1 R ∧ ∀ z, R z → ∀ p F' H', Wf F H F' H' → XL (pT2 pS pS) H F' H' p z → Q (.ref p) H'
abbrev N_Net_store_rows : List Str := ["self", "one"]
theorem sc_Net_store_rows : FnScope N_Net_store_rows ["self"] (defScope s_Net_store_rows) := ⟨rfl, rfl, rfl, by decide +kernel, rfl, by decide +kernel, by decide +kernel⟩
theorem ok_Net_store_rows {P : Program} {w0 : World} {K : PySem.W.Frag} {mg : Str → Option Value} {base : Heap} {f : Addr} {fd : FuncData} {cc : Cz} (T : Tz K mg cc) (FU : Fun K "store_rows" "Net.store_rows" s_Net_store_rows f fd) (hm : Meth K cc.Net "store_rows" f) (hb : Binds K fd ["self"] []) (c_Net_of_kind : Md P w0 K mg base CX0 2 cc.Net "of_kind" ["self", "word"] (sp_Net_of_kind K cc)) : Md P w0 K mg base CX0 3 cc.Net "store_rows" ["self"] (sp_Net_store_rows K cc) := by
  refine ⟨f, fd, FU.ok sc_Net_store_rows (fun vs H Q E h => ?_) (fun cdv A outer s H0 vs Q E hr h => ?_), hm, hb⟩
  · obtain ⟨_, _, _, _, rfl, _⟩ := h; rfl
  · obtain ⟨F0, v1, self1, R, rfl, wf, r1, hW, hQ⟩ := h
    have nd := sc_Net_store_rows.nd
    refine ⟨(tRet (tLc (iList K (tMeth cc.Net "of_kind" (sp_Net_of_kind K cc) [] E0 (tVar 0) (tCons (tC (.str (PySem.Str.ofString "store"))) tNil))) (gName 1) tYes (tTup (tCons (tFld K (tVar 1) "name") (tCons (tFld K (tVar 1) "wire") tNil))) [1])), (pss_one (ps_ret (pe_lc (own := [("one", 1)]) (wi := (iList K (tMeth cc.Net "of_kind" (sp_Net_of_kind K cc) [] E0 (tVar 0) (tCons (tC (.str (PySem.Str.ofString "store"))) tNil)))) (g := (gName 1)) (tt := tYes) (te := (tTup (tCons (tFld K (tVar 1) "name") (tCons (tFld K (tVar 1) "wire") tNil)))) rfl nd (pi_list (pe_md c_Net_of_kind T.cl_Net (hr.mono (by decide)) (pv 0) (pa_cons pe_str pa_nil))) (blkOk_by (N := N_Net_store_rows) (sc := defScope s_Net_store_rows) (by decide +kernel)) (fun _ _ _ _ _ => (pg_name (i := 1) nd rfl (Or.inl rfl))) (fun _ _ _ _ _ => pts_nil) (fun _ _ _ _ _ => (pe_tup (pa_cons (pe_fld (pv 1) rfl) (pa_cons (pe_fld (pv 1) rfl) pa_nil))))))), ?_⟩
    have w := Wf.id wf
    refine a_retE ?_
    refine c_LE ?_
    refine e_md ?_
    refine e_val (v := v1) (val_var rfl) ?_
    obtain ⟨p1, dx1, fs1, u1, u2, u3, u4, ev1, ho1, lk1, lk2, lk3, lk4, r2, r3, r4, r5, lm1⟩ := st_O4 r1 w.f
    have hu1 := w.f
    refine ⟨_, _, _, ev1, ho1, (lm1 _ (by decide +kernel) (by decide +kernel) (by decide +kernel) (by decide +kernel)), ?_⟩
    obtain ⟨d1, eq1, b1⟩ := D_bw r2 w.f
    refine a_val (v := (.str ((PySem.Str.ofString "store")))) val_c ?_
    refine a_nil ?_
    refine ⟨F0, p1, dx1, fs1, d1, (self1.1), ((PySem.Str.ofString "store")), _, (by rw [ev1]), w.f, ho1, (by rw [lk1, eq1]), b1, hW, ?_⟩
    intro z1 hW p2 F1 H1 s1 x1
    replace x1 := x1.base w
    replace r1 := Rep.mono _ s1.g r1
    replace w := w.tr s1
    obtain ⟨F2, w1, g1, r6, fz1⟩ := x1.frzE w
    replace r1 := Rep.mono _ g1 r1
    replace w := w1
    obtain ⟨c1, hW⟩ := hW
    refine w_compL (e := (pT2 pS pS)) r6 w c1 hW ?_ ?_
    · intro Qy Qn one1 u5 F3 H2 R1 q1 hx1 ru1 hW hy1 hn1
      have r1 := Rep.mono _ q1.g r1
      have r6 := Rep.mono _ q1.g r6
      have w := Wf.id q1.f
      refine ⟨rfl, ?_⟩
      refine c_yes ?_
      refine e_tup ?_
      refine a_val (v := (.str (wName one1))) (fl_Wname (tw_of T) ru1 w.f (val_var rfl)) ?_
      obtain ⟨y1, hy2, hW⟩ := hW
      refine a_val (v := (.str (y1))) (fl_Wwire (tw_of T) ru1 w.f hy2 (val_var rfl)) ?_
      refine a_nil ?_
      refine n_tup2 (e := pS) (f := pS) (x := wName one1) (y := y1) rfl rfl w ?_
      intro p3 F4 H3 s2 r7
      replace r1 := Rep.mono _ s2.g r1
      replace ru1 := Rep.mono _ s2.g ru1
      replace r6 := Rep.mono _ s2.g r6
      replace w := w.tr s2
      exact hy1 _ _ _ _ w r7 hW
    intro p4 ys1 F5 H4 hp1 s3 x2 hW
    replace r1 := Rep.mono _ s3.g r1
    replace r6 := Rep.mono _ s3.g r6
    replace w := w.tr s3
    exact hQ _ hW _ _ _ w x2
abbrev s_Net_out_wires : Stmt := inClass (topS 23) 8
def W_Net_out_wires (self1 : List (Str × WireV) × List Str × List Str × List (Str × Bool)) (R : (List Str) → Prop) : Prop := R self1.2.1
def sp_Net_out_wires (K : PySem.W.Frag) (cc : Cz) : Sp := fun vs H Q _ => ∃ (F : Hp) (v1 : V) (self1 : List (Str × WireV) × List Str × List Str × List (Str × Bool)) (R : (List Str) → Prop), vs = [v1] ∧ Ex F H ∧ (pO4 cc.Net "all" "ends" "line_up" "laid" (pD (κ := Str) (pW cc.InWire cc.SumWire cc.StoreWire)) (pL pS) (pL pS) (pD (κ := Str) pB)).r F v1 self1 ∧ W_Net_out_wires self1 R ∧ ∀ z, R z → ∀ p F' H', Wf F H F' H' → XL pS H F' H' p z → Q (.ref p) H'
abbrev N_Net_out_wires : List Str := ["self"]
theorem sc_Net_out_wires : FnScope N_Net_out_wires ["self"] (defScope s_Net_out_wires) := ⟨rfl, rfl, rfl, by decide +kernel, rfl, by decide +kernel, by decide +kernel⟩
theorem ok_Net_out_wires {P : Program} {w0 : World} {K : PySem.W.Frag} {mg : Str → Option Value} {base : Heap} {f : Addr} {fd : FuncData} {cc : Cz} (T : Tz K mg cc) (FU : Fun K "out_wires" "Net.out_wires" s_Net_out_wires f fd) (hm : Meth K cc.Net "out_wires" f) (hb : Binds K fd ["self"] []) (n_list : mg "list" = none) : Md P w0 K mg base CX0 1 cc.Net "out_wires" ["self"] (sp_Net_out_wires K cc) := by
  refine ⟨f, fd, FU.ok sc_Net_out_wires (fun vs H Q E h => ?_) (fun cdv A outer s H0 vs Q E hr h => ?_), hm, hb⟩
  · obtain ⟨_, _, _, _, rfl, _⟩ := h; rfl
  · obtain ⟨F0, v1, self1, R, rfl, wf, r1, hW, hQ⟩ := h
    have nd := sc_Net_out_wires.nd
    refine ⟨(tRet (tCB (rListOf K) (tCons (tFld K (tVar 0) "ends") tNil))), (pss_one (ps_ret (pe_callTy call_list_of (by rfl) n_list PyProof.Rows.boot_list (pa_cons (pe_fld (pv 0) rfl) pa_nil)))), ?_⟩
    have w := Wf.id wf
    refine a_retE ?_
    refine e_cb ?_
    obtain ⟨v2, r2, fl1⟩ := fl_42 (K := K) T.cl_Net T.na_Net_ends r1 w.f
    refine a_val (v := v2) (fl1 (val_var rfl)) ?_
    refine a_nil ?_
    refine n_listX r2 w ?_
    intro p1 H1 hp1 s1 x1
    replace r1 := Rep.mono _ s1.g r1
    replace r2 := Rep.mono _ s1.g r2
    replace w := w.tr s1
    exact hQ _ hW _ _ _ w x1
abbrev s_Net_wire_names : Stmt := inClass (topS 23) 9
def W_Net_wire_names (self1 : List (Str × WireV) × List Str × List Str × List (Str × Bool)) (R : (List Str) → Prop) : Prop := R (self1.1.map (·.1))
def sp_Net_wire_names (K : PySem.W.Frag) (cc : Cz) : Sp := fun vs H Q _ => ∃ (F : Hp) (v1 : V) (self1 : List (Str × WireV) × List Str × List Str × List (Str × Bool)) (R : (List Str) → Prop), vs = [v1] ∧ Ex F H ∧ (pO4 cc.Net "all" "ends" "line_up" "laid" (pD (κ := Str) (pW cc.InWire cc.SumWire cc.StoreWire)) (pL pS) (pL pS) (pD (κ := Str) pB)).r F v1 self1 ∧ W_Net_wire_names self1 R ∧ ∀ z, R z → ∀ p F' H', Wf F H F' H' → XL pS H F' H' p z → Q (.ref p) H'
abbrev N_Net_wire_names : List Str := ["self"]
theorem sc_Net_wire_names : FnScope N_Net_wire_names ["self"] (defScope s_Net_wire_names) := ⟨rfl, rfl, rfl, by decide +kernel, rfl, by decide +kernel, by decide +kernel⟩
theorem ok_Net_wire_names {P : Program} {w0 : World} {K : PySem.W.Frag} {mg : Str → Option Value} {base : Heap} {f : Addr} {fd : FuncData} {cc : Cz} (T : Tz K mg cc) (FU : Fun K "wire_names" "Net.wire_names" s_Net_wire_names f fd) (hm : Meth K cc.Net "wire_names" f) (hb : Binds K fd ["self"] []) (n_list : mg "list" = none) : Md P w0 K mg base CX0 1 cc.Net "wire_names" ["self"] (sp_Net_wire_names K cc) := by
  refine ⟨f, fd, FU.ok sc_Net_wire_names (fun vs H Q E h => ?_) (fun cdv A outer s H0 vs Q E hr h => ?_), hm, hb⟩
  · obtain ⟨_, _, _, _, rfl, _⟩ := h; rfl
  · obtain ⟨F0, v1, self1, R, rfl, wf, r1, hW, hQ⟩ := h
    have nd := sc_Net_wire_names.nd
    refine ⟨(tRet (tCB rListD (tCons (tFld K (tVar 0) "all") tNil))), (pss_one (ps_ret (pe_callTy (call_listD rfl) (by rfl) n_list PyProof.Rows.boot_list (pa_cons (pe_fld (pv 0) rfl) pa_nil)))), ?_⟩
    have w := Wf.id wf
    refine a_retE ?_
    refine e_cb ?_
    obtain ⟨v2, r2, fl1⟩ := fl_41 (K := K) T.cl_Net T.na_Net_all r1 w.f
    refine a_val (v := v2) (fl1 (val_var rfl)) ?_
    refine a_nil ?_
    refine n_listD keyS r2 w ?_
    intro p1 H1 hp1 s1 x1
    replace r1 := Rep.mono _ s1.g r1
    replace r2 := Rep.mono _ s1.g r2
    replace w := w.tr s1
    exact hQ _ hW _ _ _ w x1
abbrev s_Net_order : Stmt := inClass (topS 23) 11
def W_Net_order (self1 : List (Str × WireV) × List Str × List Str × List (Str × Bool)) (R : (List Str) → Prop) : Prop := R self1.2.2.1
def sp_Net_order (K : PySem.W.Frag) (cc : Cz) : Sp := fun vs H Q _ => ∃ (F : Hp) (v1 : V) (self1 : List (Str × WireV) × List Str × List Str × List (Str × Bool)) (R : (List Str) → Prop), vs = [v1] ∧ Ex F H ∧ (pO4 cc.Net "all" "ends" "line_up" "laid" (pD (κ := Str) (pW cc.InWire cc.SumWire cc.StoreWire)) (pL pS) (pL pS) (pD (κ := Str) pB)).r F v1 self1 ∧ W_Net_order self1 R ∧ ∀ z, R z → ∀ p F' H', Wf F H F' H' → XL pS H F' H' p z → Q (.ref p) H'
abbrev N_Net_order : List Str := ["self"]
theorem sc_Net_order : FnScope N_Net_order ["self"] (defScope s_Net_order) := ⟨rfl, rfl, rfl, by decide +kernel, rfl, by decide +kernel, by decide +kernel⟩
theorem ok_Net_order {P : Program} {w0 : World} {K : PySem.W.Frag} {mg : Str → Option Value} {base : Heap} {f : Addr} {fd : FuncData} {cc : Cz} (T : Tz K mg cc) (FU : Fun K "order" "Net.order" s_Net_order f fd) (hm : Meth K cc.Net "order" f) (hb : Binds K fd ["self"] []) (n_list : mg "list" = none) : Md P w0 K mg base CX0 1 cc.Net "order" ["self"] (sp_Net_order K cc) := by
  refine ⟨f, fd, FU.ok sc_Net_order (fun vs H Q E h => ?_) (fun cdv A outer s H0 vs Q E hr h => ?_), hm, hb⟩
  · obtain ⟨_, _, _, _, rfl, _⟩ := h; rfl
  · obtain ⟨F0, v1, self1, R, rfl, wf, r1, hW, hQ⟩ := h
    have nd := sc_Net_order.nd
    refine ⟨(tRet (tCB (rListOf K) (tCons (tFld K (tVar 0) "line_up") tNil))), (pss_one (ps_ret (pe_callTy call_list_of (by rfl) n_list PyProof.Rows.boot_list (pa_cons (pe_fld (pv 0) rfl) pa_nil)))), ?_⟩
    have w := Wf.id wf
    refine a_retE ?_
    refine e_cb ?_
    obtain ⟨v2, r2, fl1⟩ := fl_43 (K := K) T.cl_Net T.na_Net_line_up r1 w.f
    refine a_val (v := v2) (fl1 (val_var rfl)) ?_
    refine a_nil ?_
    refine n_listX r2 w ?_
    intro p1 H1 hp1 s1 x1
    replace r1 := Rep.mono _ s1.g r1
    replace r2 := Rep.mono _ s1.g r2
    replace w := w.tr s1
    exact hQ _ hW _ _ _ w x1
abbrev s_Net_told : Stmt := inClass (topS 23) 12
def W_Net_told (self1 : List (Str × WireV) × List Str × List Str × List (Str × Bool)) (R : (List Str × List (Str × List Str) × List (Str × Str) × List Str) → Prop) : Prop := W_Net_in_names self1 fun z1 => W_Net_sum_rows self1 fun z2 => W_Net_store_rows self1 fun z3 => W_Net_out_wires self1 fun z4 => R (z1, z2, z3, z4)
def sp_Net_told (K : PySem.W.Frag) (cc : Cz) : Sp := fun vs H Q _ => ∃ (F : Hp) (v1 : V) (self1 : List (Str × WireV) × List Str × List Str × List (Str × Bool)) (R : (List Str × List (Str × List Str) × List (Str × Str) × List Str) → Prop), vs = [v1] ∧ Ex F H ∧ (pO4 cc.Net "all" "ends" "line_up" "laid" (pD (κ := Str) (pW cc.InWire cc.SumWire cc.StoreWire)) (pL pS) (pL pS) (pD (κ := Str) pB)).r F v1 self1 ∧ W_Net_told self1 R ∧ ∀ z, R z → ∀ (l0 l1 l2 l3 : Addr) v F' H', Wf F H F' H' → (pT4 pV pV pV pV).r F' v (V.ref l0, V.ref l1, V.ref l2, V.ref l3) → XL pS H F' H' l0 z.1 → XL (pT2 pS (pTL pS)) H F' H' l1 z.2.1 → XL (pT2 pS pS) H F' H' l2 z.2.2.1 → XL pS H F' H' l3 z.2.2.2 → l0 ≠ l1 → l0 ≠ l2 → l0 ≠ l3 → l1 ≠ l2 → l1 ≠ l3 → l2 ≠ l3 → Q v H'
abbrev N_Net_told : List Str := ["self"]
theorem sc_Net_told : FnScope N_Net_told ["self"] (defScope s_Net_told) := ⟨rfl, rfl, rfl, by decide +kernel, rfl, by decide +kernel, by decide +kernel⟩
theorem ok_Net_told {P : Program} {w0 : World} {K : PySem.W.Frag} {mg : Str → Option Value} {base : Heap} {f : Addr} {fd : FuncData} {cc : Cz} (T : Tz K mg cc) (FU : Fun K "told" "Net.told" s_Net_told f fd) (hm : Meth K cc.Net "told" f) (hb : Binds K fd ["self"] []) (c_Net_in_names : Md P w0 K mg base CX0 3 cc.Net "in_names" ["self"] (sp_Net_in_names K cc)) (c_Net_sum_rows : Md P w0 K mg base CX0 3 cc.Net "sum_rows" ["self"] (sp_Net_sum_rows K cc)) (c_Net_store_rows : Md P w0 K mg base CX0 3 cc.Net "store_rows" ["self"] (sp_Net_store_rows K cc)) (c_Net_out_wires : Md P w0 K mg base CX0 1 cc.Net "out_wires" ["self"] (sp_Net_out_wires K cc)) : Md P w0 K mg base CX0 4 cc.Net "told" ["self"] (sp_Net_told K cc) := by
  refine ⟨f, fd, FU.ok sc_Net_told (fun vs H Q E h => ?_) (fun cdv A outer s H0 vs Q E hr h => ?_), hm, hb⟩
  · obtain ⟨_, _, _, _, rfl, _⟩ := h; rfl
  · obtain ⟨F0, v1, self1, R, rfl, wf, r1, hW, hQ⟩ := h
    have nd := sc_Net_told.nd
    refine ⟨(tRet (tTup (tCons (tMeth cc.Net "in_names" (sp_Net_in_names K cc) [] E0 (tVar 0) tNil) (tCons (tMeth cc.Net "sum_rows" (sp_Net_sum_rows K cc) [] E0 (tVar 0) tNil) (tCons (tMeth cc.Net "store_rows" (sp_Net_store_rows K cc) [] E0 (tVar 0) tNil) (tCons (tMeth cc.Net "out_wires" (sp_Net_out_wires K cc) [] E0 (tVar 0) tNil) tNil)))))), (pss_one (ps_ret (pe_tup (pa_cons (pe_md0 c_Net_in_names T.cl_Net (hr.mono (by decide)) (pv 0)) (pa_cons (pe_md0 c_Net_sum_rows T.cl_Net (hr.mono (by decide)) (pv 0)) (pa_cons (pe_md0 c_Net_store_rows T.cl_Net (hr.mono (by decide)) (pv 0)) (pa_cons (pe_md0 c_Net_out_wires T.cl_Net (hr.mono (by decide)) (pv 0)) pa_nil))))))), ?_⟩
    have w := Wf.id wf
    refine a_retE ?_
    refine e_tup ?_
    refine a_cons ?_
    refine e_md ?_
    refine e_val (v := v1) (val_var rfl) ?_
    obtain ⟨p1, dx1, fs1, ev1, ho1, lm1⟩ := me_4 (m := "in_names") r1 w.f
    refine ⟨_, _, _, ev1, ho1, lm1, ?_⟩
    refine a_nil ?_
    refine ⟨F0, (v1), (self1), _, rfl, w.f, r1, hW, ?_⟩
    intro z1 hW p2 F1 H1 s1 x1
    replace x1 := x1.base w
    replace r1 := Rep.mono _ s1.g r1
    replace w := w.tr s1
    refine a_cons ?_
    refine e_md ?_
    refine e_val (v := v1) (val_var rfl) ?_
    obtain ⟨p3, dx2, fs2, ev2, ho2, lm2⟩ := me_4 (m := "sum_rows") r1 w.f
    refine ⟨_, _, _, ev2, ho2, lm2, ?_⟩
    refine a_nil ?_
    refine ⟨F1, (v1), (self1), _, rfl, w.f, r1, hW, ?_⟩
    intro z2 hW p4 F2 H2 s2 x2
    have ne1 := x1.ne x2.zero
    replace x2 := x2.base w
    replace r1 := Rep.mono _ s2.g r1
    replace x1 := x1.step s2
    replace w := w.tr s2
    refine a_cons ?_
    refine e_md ?_
    refine e_val (v := v1) (val_var rfl) ?_
    obtain ⟨p5, dx3, fs3, ev3, ho3, lm3⟩ := me_4 (m := "store_rows") r1 w.f
    refine ⟨_, _, _, ev3, ho3, lm3, ?_⟩
    refine a_nil ?_
    refine ⟨F2, (v1), (self1), _, rfl, w.f, r1, hW, ?_⟩
    intro z3 hW p6 F3 H3 s3 x3
    have ne2 := x1.ne x3.zero
    have ne3 := x2.ne x3.zero
    replace x3 := x3.base w
    replace r1 := Rep.mono _ s3.g r1
    replace x1 := x1.step s3
    replace x2 := x2.step s3
    replace w := w.tr s3
    refine a_cons ?_
    refine e_md ?_
    refine e_val (v := v1) (val_var rfl) ?_
    obtain ⟨p7, dx4, fs4, ev4, ho4, lm4⟩ := me_4 (m := "out_wires") r1 w.f
    refine ⟨_, _, _, ev4, ho4, lm4, ?_⟩
    refine a_nil ?_
    refine ⟨F3, (v1), (self1), _, rfl, w.f, r1, hW, ?_⟩
    intro z4 hW p8 F4 H4 s4 x4
    have ne4 := x1.ne x4.zero
    have ne5 := x2.ne x4.zero
    have ne6 := x3.ne x4.zero
    replace x4 := x4.base w
    replace r1 := Rep.mono _ s4.g r1
    replace x1 := x1.step s4
    replace x2 := x2.step s4
    replace x3 := x3.step s4
    replace w := w.tr s4
    refine a_nil ?_
    refine n_tup4 (e := pV) (f := pV) (g := pV) (i := pV) (x := V.ref p2) (x2 := V.ref p4) (x3 := V.ref p6) (x4 := V.ref p8) rfl rfl rfl rfl w ?_
    intro p9 F5 H5 s5 r2
    replace r1 := Rep.mono _ s5.g r1
    replace x1 := x1.step s5
    replace x2 := x2.step s5
    replace x3 := x3.step s5
    replace x4 := x4.step s5
    replace w := w.tr s5
    exact hQ (z1, z2, z3, z4) hW _ _ _ _ _ _ _ w r2 x1 x2 x3 x4 ne1 ne2 ne4 ne3 ne5 ne6
abbrev s_cell : Stmt := topS 25
def W_cell (script1 : List Int) (k1 : Nat) (R : Int → Prop) : Prop := if k1 < script1.length then (∃ x1, script1[k1]? = some x1 ∧ R x1) else (R (((41 * k1) + 3 : Nat) : Int))
def sp_cell (K : PySem.W.Frag) (cc : Cz) : Sp := fun vs H Q _ => ∃ (F : Hp) (v1 : V) (script1 : List Int) (k1 : Nat) (R : Int → Prop), vs = [v1, (.int ((k1 : Nat) : Int))] ∧ Ex F H ∧ (pScr K).r F v1 script1 ∧ W_cell script1 k1 R ∧ ∀ z, R z → ∀ F' H', Wf F H F' H' → Q (.int (z)) H'
abbrev N_cell : List Str := ["_law_script", "_law_k"]
theorem sc_cell : FnScope N_cell ["_law_script", "_law_k"] (defScope s_cell) := ⟨rfl, rfl, rfl, by decide +kernel, rfl, by decide +kernel, by decide +kernel⟩
theorem ok_cell {P : Program} {w0 : World} {K : PySem.W.Frag} {mg : Str → Option Value} {base : Heap} {f : Addr} {fd : FuncData} {cc : Cz} (T : Tz K mg cc) (FU : Fun K "_law_cell" "_law_cell" s_cell f fd) (hm : mg "_law_cell" = some (.ref f)) (hb : Binds K fd ["_law_script", "_law_k"] []) (n_len : mg "len" = none) : Fn P w0 K mg base CX0 1 "_law_cell" ["_law_script", "_law_k"] (sp_cell K cc) := by
  refine ⟨f, fd, FU.ok sc_cell (fun vs H Q E h => ?_) (fun cdv A outer s H0 vs Q E hr h => ?_), hm, FU.kp, hb⟩
  · obtain ⟨_, _, _, _, _, rfl, _⟩ := h; rfl
  · obtain ⟨F0, v1, script1, k1, R, rfl, wf, r1, hW, hQ⟩ := h
    have nd := sc_cell.nd
    refine ⟨(tSeq (tIfS (tTest (tOp kLt (tVar 1) (tCB (Wk.rLen K) (tCons (tVar 0) tNil)))) (tRet (tOp (L2.rIxL K) (tVar 0) (tVar 1))) tNext) (tRet (tOp kAdd (tOp kMul (tC (.int 41)) (tVar 1)) (tC (.int 3))))), (pss_cons (ps_if (pt_cmpR op_lt (pv 1) (pe_callB call_len_seq (by rfl) n_len PySem.boot_len (pa_cons (pv 0) pa_nil)) (nomark _)) (pss_one (ps_ret (pe_ix ix_list (pv 0) (pv 1) (fun _ _ => rfl)))) pss_nil) (pss_one (ps_ret (pe_op op_add (pe_op op_mul pe_int (pv 1)) pe_int)))), ?_⟩
    have w := Wf.id wf
    refine q_sq fun N1 hN1 => ?_
    refine a_ifE ?_
    refine e_ans (b := decide (k1 < script1.length)) (t_of (vb_dec (c_lt (val_var rfl) (len_S r1 w.f (val_var rfl))) n_lt)) ?_
    refine b_if (fun hc1 => ?_) (fun hc1 => ?_)
    · have hW := ifP hW hc1
      obtain ⟨x1, hx1_1, hW⟩ := hW
      have ix1 := ix_S (K := K) w.f r1 hx1_1
      refine a_ret (v := (.int (x1))) (ix1 (val_var rfl) (val_var rfl)) ?_
      exact hQ _ hW _ _ w
    · have hW := ifN hW hc1
      refine hN1 _ _ ?_
      refine a_ret (v := (.int ((((41 * k1) + 3 : Nat) : Int)))) (vn_add (vn_mul val_c (val_var rfl) (.inl (by decide))) val_c) ?_
      exact hQ _ hW _ _ w
abbrev s_mix : Stmt := topS 26
def W_mix (cell_here1 : Int) (k1 : Nat) (R : Nat → Prop) : Prop := ∀ number1 : Nat, number1 = ((((modN cell_here1 2147483647) * 48271) + (7919 * k1)) + 11) % 2147483647 → (NMul number1 number1) ∧ ∀ number2 : Nat, number2 = (number1 * number1) % 2147483629 → (NMul number2 ((number2 + (48271 * k1)) + 7)) ∧ R ((number2 * ((number2 + (48271 * k1)) + 7)) % 2147483587)
def sp_mix (K : PySem.W.Frag) (cc : Cz) : Sp := fun vs H Q _ => ∃ (F : Hp) (cell_here1 : Int) (k1 : Nat) (R : Nat → Prop), vs = [(.int (cell_here1)), (.int ((k1 : Nat) : Int))] ∧ Ex F H ∧ W_mix cell_here1 k1 R ∧ ∀ z, R z → ∀ F' H', Wf F H F' H' → Q (.int ((z : Nat) : Int)) H'
abbrev N_mix : List Str := ["_law_cell_here", "_law_k", "_law_number"]
theorem sc_mix : FnScope N_mix ["_law_cell_here", "_law_k"] (defScope s_mix) := ⟨rfl, rfl, rfl, by decide +kernel, rfl, by decide +kernel, by decide +kernel⟩
theorem ok_mix {P : Program} {w0 : World} {K : PySem.W.Frag} {mg : Str → Option Value} {base : Heap} {f : Addr} {fd : FuncData} {cc : Cz} (T : Tz K mg cc) (FU : Fun K "_law_mix" "_law_mix" s_mix f fd) (hm : mg "_law_mix" = some (.ref f)) (hb : Binds K fd ["_law_cell_here", "_law_k"] []) : Fn P w0 K mg base CX0 1 "_law_mix" ["_law_cell_here", "_law_k"] (sp_mix K cc) := by
  refine ⟨f, fd, FU.ok sc_mix (fun vs H Q E h => ?_) (fun cdv A outer s H0 vs Q E hr h => ?_), hm, FU.kp, hb⟩
  · obtain ⟨_, _, _, _, rfl, _⟩ := h; rfl
  · obtain ⟨F0, cell_here1, k1, R, rfl, wf, hW, hQ⟩ := h
    have nd := sc_mix.nd
    refine ⟨(tSeq (tAsg (tOp kMod (tOp kAdd (tOp kAdd (tOp kMul (tOp kMod (tVar 0) (tC (.int 2147483647))) (tC (.int 48271))) (tOp kMul (tC (.int 7919)) (tVar 1))) (tC (.int 11))) (tC (.int 2147483647))) (gName 2)) (tSeq (tAsg (tOp kMod (tOp kMul (tVar 2) (tVar 2)) (tC (.int 2147483629))) (gName 2)) (tRet (tOp kMod (tOp kMul (tVar 2) (tOp kAdd (tOp kAdd (tVar 2) (tOp kMul (tC (.int 48271)) (tVar 1))) (tC (.int 7)))) (tC (.int 2147483587)))))), (pss_cons (ps_set (i := 2) nd rfl (Or.inl rfl) (pe_op op_mod (pe_op op_add (pe_op op_add (pe_op op_mul (pe_op op_mod (pv 0) pe_int) pe_int) (pe_op op_mul pe_int (pv 1))) pe_int) pe_int)) (pss_cons (ps_set (i := 2) nd rfl (Or.inl rfl) (pe_op op_mod (pe_op op_mul (pv 2) (pv 2)) pe_int)) (pss_one (ps_ret (pe_op op_mod (pe_op op_mul (pv 2) (pe_op op_add (pe_op op_add (pv 2) (pe_op op_mul pe_int (pv 1))) pe_int)) pe_int))))), ?_⟩
    have w := Wf.id wf
    refine q_sq fun N1 hN1 => ?_
    obtain ⟨number1, enumber1⟩ : ∃ number1 : Nat, number1 = ((((modN cell_here1 2147483647) * 48271) + (7919 * k1)) + 11) % 2147483647 := ⟨_, rfl⟩
    replace hW := hW number1 enumber1
    refine a_asg (v := (.int ((number1 : Nat) : Int))) (v_eq (vn_mod (vn_add (vn_add (vn_mul (vm_mod (val_var rfl) val_c (by decide)) val_c (.inr (by decide))) (vn_mul val_c (val_var rfl) (.inl (by decide)))) val_c) val_c (by decide)) (by rw [enumber1])) ?_
    refine hN1 _ _ ?_
    refine q_sq fun N2 hN2 => ?_
    obtain ⟨c1, hW⟩ := hW
    obtain ⟨number2, enumber2⟩ : ∃ number2 : Nat, number2 = (number1 * number1) % 2147483629 := ⟨_, rfl⟩
    replace hW := hW number2 enumber2
    refine a_asg (v := (.int ((number2 : Nat) : Int))) (v_eq (vn_mod (vn_mul (val_var rfl) (val_var rfl) c1) val_c (by decide)) (by rw [enumber2])) ?_
    refine hN2 _ _ ?_
    obtain ⟨c2, hW⟩ := hW
    refine a_ret (v := (.int (((number2 * ((number2 + (48271 * k1)) + 7)) % 2147483587 : Nat) : Int))) (vn_mod (vn_mul (val_var rfl) (vn_add (vn_add (val_var rfl) (vn_mul val_c (val_var rfl) (.inl (by decide)))) val_c) c2) val_c (by decide)) ?_
    exact hQ _ hW _ _ w
abbrev s_name : Stmt := topS 27
def W_name (cell_here1 : Int) (k1 : Nat) (R : Str → Prop) : Prop := ∀ letters1 : Str, letters1 = (PySem.Str.ofString "abcdefghijklmnopqrstuvwxyz") → ∀ some1 : Str, some1 = (PySem.Str.ofString "cut x x0 x1 fresh new zero none nil tmp c c0 cut0 cut1 gnd off in out sum store") → (some1.length + (PySem.Str.ofString " i0 i1 s0 s1 n0 n1 o0 o1 net wire a b z y0 t0 w w0 k dead open").length < 1000000) ∧ ∀ some2 : Str, some2 = some1 ++ (PySem.Str.ofString " i0 i1 s0 s1 n0 n1 o0 o1 net wire a b z y0 t0 w w0 k dead open") → jn (fun kk => if k1 < 40 then (W_mix cell_here1 402 fun z1 => kk (decide ((z1 % 2) = 0))) else (kk false)) fun b1 => if b1 = true then ((some2.length + 2 < 1000000) ∧ W_mix cell_here1 403 fun z2 => ∃ x2, (Txt.split some2 (PySem.Str.ofString " "))[(k1 + z2) % 40]? = some x2 ∧ R x2) else (W_mix cell_here1 400 fun z3 => (letters1.length < 1000000) ∧ ∃ c4 : Nat, letters1.cps.toList[z3 % 26]? = some c4 ∧ W_mix cell_here1 401 fun z4 => (((z4 % 1000) + (37 * k1)).log2 < 1920) ∧ ((sg c4).length + (strN ((z4 % 1000) + (37 * k1))).length < 1000000) ∧ R ((sg c4) ++ (strN ((z4 % 1000) + (37 * k1)))))
def sp_name (K : PySem.W.Frag) (cc : Cz) : Sp := fun vs H Q _ => ∃ (F : Hp) (cell_here1 : Int) (k1 : Nat) (R : Str → Prop), vs = [(.int (cell_here1)), (.int ((k1 : Nat) : Int))] ∧ Ex F H ∧ W_name cell_here1 k1 R ∧ ∀ z, R z → ∀ F' H', Wf F H F' H' → Q (.str (z)) H'
abbrev N_name : List Str := ["_law_cell_here", "_law_k", "_law_letters", "_law_some"]
theorem sc_name : FnScope N_name ["_law_cell_here", "_law_k"] (defScope s_name) := ⟨rfl, rfl, rfl, by decide +kernel, rfl, by decide +kernel, by decide +kernel⟩
theorem ok_name {P : Program} {w0 : World} {K : PySem.W.Frag} {mg : Str → Option Value} {base : Heap} {f : Addr} {fd : FuncData} {cc : Cz} (T : Tz K mg cc) (FU : Fun K "_law_name" "_law_name" s_name f fd) (hm : mg "_law_name" = some (.ref f)) (hb : Binds K fd ["_law_cell_here", "_law_k"] []) (c_mix : Fn P w0 K mg base CX0 1 "_law_mix" ["_law_cell_here", "_law_k"] (sp_mix K cc)) (n_str : mg "str" = none) : Fn P w0 K mg base CX0 2 "_law_name" ["_law_cell_here", "_law_k"] (sp_name K cc) := by
  refine ⟨f, fd, FU.ok sc_name (fun vs H Q E h => ?_) (fun cdv A outer s H0 vs Q E hr h => ?_), hm, FU.kp, hb⟩
  · obtain ⟨_, _, _, _, rfl, _⟩ := h; rfl
  · obtain ⟨F0, cell_here1, k1, R, rfl, wf, hW, hQ⟩ := h
    have nd := sc_name.nd
    refine ⟨(tSeq (tAsg (tC (.str (PySem.Str.ofString "abcdefghijklmnopqrstuvwxyz"))) (gName 2)) (tSeq (tAsg (tC (.str (PySem.Str.ofString "cut x x0 x1 fresh new zero none nil tmp c c0 cut0 cut1 gnd off in out sum store"))) (gName 3)) (tSeq (tAsg (tOp kAddS (tVar 3) (tC (.str (PySem.Str.ofString " i0 i1 s0 s1 n0 n1 o0 o1 net wire a b z y0 t0 w w0 k dead open")))) (gName 3)) (tSeq (tIfS (tAnd (tTest (tOp kLt (tVar 1) (tC (.int 40)))) (tTest (tOp L2.rEq (tOp kMod (tCall (sp_mix K cc) [] E0 (tCons (tVar 0) (tCons (tC (.int 402)) tNil))) (tC (.int 2))) (tC (.int 0))))) (tRet (tOp (L2.rIxL K) (tM1 rSplit (tVar 3) (tC (.str (PySem.Str.ofString " ")))) (tOp kMod (tOp kAdd (tVar 1) (tCall (sp_mix K cc) [] E0 (tCons (tVar 0) (tCons (tC (.int 403)) tNil)))) (tC (.int 40))))) tNext) (tRet (tOp kAddS (tOp L2.rIxS (tVar 2) (tOp kMod (tCall (sp_mix K cc) [] E0 (tCons (tVar 0) (tCons (tC (.int 400)) tNil))) (tC (.int 26)))) (tCB rStrI (tCons (tOp kAdd (tOp kMod (tCall (sp_mix K cc) [] E0 (tCons (tVar 0) (tCons (tC (.int 401)) tNil))) (tC (.int 1000))) (tOp kMul (tC (.int 37)) (tVar 1))) tNil)))))))), (pss_cons (ps_set (i := 2) nd rfl (Or.inl rfl) pe_str) (pss_cons (ps_set (i := 3) nd rfl (Or.inl rfl) pe_str) (pss_cons (ps_set (i := 3) nd rfl (Or.inl rfl) (pe_op op_addS (pv 3) pe_str)) (pss_cons (ps_if (PW.pt (pw_and (pt_cmpR op_lt (pv 1) pe_int (nomark _)) (pw_and1 (pt_cmpR op_eq (pe_op op_mod (pe_fn c_mix (hr.mono (by decide)) rfl (pa_cons (pv 0) (pa_cons pe_int pa_nil))) pe_int) pe_int (nomark _))))) (pss_one (ps_ret (pe_ix ix_list (pe_split (pv 3) pe_str) (pe_op op_mod (pe_op op_add (pv 1) (pe_fn c_mix (hr.mono (by decide)) rfl (pa_cons (pv 0) (pa_cons pe_int pa_nil)))) pe_int) (fun _ _ => rfl)))) pss_nil) (pss_one (ps_ret (pe_op op_addS (pe_ix ix_str (pv 2) (pe_op op_mod (pe_fn c_mix (hr.mono (by decide)) rfl (pa_cons (pv 0) (pa_cons pe_int pa_nil))) pe_int) (fun _ _ => rfl)) (pe_callTy call_str_int (by rfl) n_str PyProof.Rows.boot_str (pa_cons (pe_op op_add (pe_op op_mod (pe_fn c_mix (hr.mono (by decide)) rfl (pa_cons (pv 0) (pa_cons pe_int pa_nil))) pe_int) (pe_op op_mul pe_int (pv 1))) pa_nil))))))))), ?_⟩
    have w := Wf.id wf
    refine q_sq fun N1 hN1 => ?_
    obtain ⟨letters1, eletters1⟩ : ∃ letters1 : Str, letters1 = (PySem.Str.ofString "abcdefghijklmnopqrstuvwxyz") := ⟨_, rfl⟩
    replace hW := hW letters1 eletters1
    refine a_asg (v := (.str (letters1))) (v_eq val_c (by rw [eletters1])) ?_
    refine hN1 _ _ ?_
    refine q_sq fun N2 hN2 => ?_
    obtain ⟨some1, esome1⟩ : ∃ some1 : Str, some1 = (PySem.Str.ofString "cut x x0 x1 fresh new zero none nil tmp c c0 cut0 cut1 gnd off in out sum store") := ⟨_, rfl⟩
    replace hW := hW some1 esome1
    refine a_asg (v := (.str (some1))) (v_eq val_c (by rw [esome1])) ?_
    refine hN2 _ _ ?_
    refine q_sq fun N3 hN3 => ?_
    obtain ⟨c1, hW⟩ := hW
    obtain ⟨some2, esome2⟩ : ∃ some2 : Str, some2 = some1 ++ (PySem.Str.ofString " i0 i1 s0 s1 n0 n1 o0 o1 net wire a b z y0 t0 w w0 k dead open") := ⟨_, rfl⟩
    replace hW := hW some2 esome2
    refine a_asg (v := (.str (some2))) (v_eq (v_addS (val_var rfl) val_c c1) (by rw [esome2])) ?_
    refine hN3 _ _ ?_
    refine q_sq fun N4 hN4 => ?_
    refine a_ifE ?_
    refine e_jnT hW (fun b F' H' => b = b ∧ Wf F0 H0 F' H' ∧ Ex F0 F') ?_ ?_
    · intro N5 hN5 hW
      have gx1 : Ex F0 F0 := Ex.rfl'
      refine e_tAnd ?_
      refine e_ans (b := decide (k1 < 40)) (t_of (vb_dec (c_lt (val_var rfl) val_c) n_lt)) ?_
      refine b_if (fun hc1 => ?_) (fun hc1 => ?_)
      · have hW := ifP hW hc1
        refine e_tT ?_
        refine e_op ?_
        refine e_op ?_
        refine e_call ?_
        refine a_val (v := (.int (cell_here1))) (val_var rfl) ?_
        refine a_val (v := (.int ((402 : Nat) : Int))) val_c ?_
        refine a_nil ?_
        refine ⟨F0, (cell_here1), (402), _, rfl, w.f, hW, ?_⟩
        intro z1 hW F1 H1 s1
        replace w := w.tr s1
        replace gx1 := Ex.tr gx1 s1.g
        refine e_val (v := (.int ((2 : Nat) : Int))) val_c ?_
        refine rv2 (z := (.int ((z1 % 2 : Nat) : Int))) (vn_mod val_c val_c (by decide)) ?_
        refine e_val (v := (.int ((0 : Nat) : Int))) val_c ?_
        refine rv2T (b := decide ((z1 % 2) = 0)) (vb_dec (c_eqI val_c val_c) n_eq) ?_
        exact hN5 (decide ((z1 % 2) = 0)) _ _ ⟨rfl, w, gx1⟩ hW
      · have hW := ifN hW hc1
        exact hN5 false _ _ ⟨rfl, w, gx1⟩ hW
    intro b1 F2 H2 hI1 hW
    obtain ⟨_, w, gx2⟩ := hI1
    refine bb_if (fun hc2 => ?_) (fun hc2 => ?_)
    · have hW := ifP hW hc2
      refine a_retE ?_
      refine e_op ?_
      refine e_m1 ?_
      refine e_val (v := (.str (some2))) (val_var rfl) ?_
      refine ⟨⟨_, rfl⟩, ?_⟩
      refine e_val (v := (.str ((PySem.Str.ofString " ")))) val_c ?_
      obtain ⟨c2, hW⟩ := hW
      refine n_split (by decide +kernel) c2 w ?_
      intro p1 H3 hp1 s2 x1
      replace w := w.tr s2
      refine e_op ?_
      refine e_op ?_
      refine e_val (v := (.int ((k1 : Nat) : Int))) (val_var rfl) ?_
      refine e_call ?_
      refine a_val (v := (.int (cell_here1))) (val_var rfl) ?_
      refine a_val (v := (.int ((403 : Nat) : Int))) val_c ?_
      refine a_nil ?_
      refine ⟨F2, (cell_here1), (403), _, rfl, w.f, hW, ?_⟩
      intro z2 hW F3 H4 s3
      replace x1 := x1.step s3
      replace w := w.tr s3
      refine rv2 (z := (.int ((k1 + z2 : Nat) : Int))) (vn_add val_c val_c) ?_
      refine e_val (v := (.int ((40 : Nat) : Int))) val_c ?_
      refine rv2 (z := (.int (((k1 + z2) % 40 : Nat) : Int))) (vn_mod val_c val_c (by decide)) ?_
      obtain ⟨x2, hx2_1, hW⟩ := hW
      obtain ⟨_, rfl, ix1⟩ := ix_X (K := K) x1 hx2_1
      refine rv2 (z := (.str (x2))) (ix1 val_c val_c) ?_
      exact hQ _ hW _ _ w
    · have hW := ifN hW hc2
      refine hN4 _ _ ?_
      refine a_retE ?_
      refine e_op ?_
      refine e_op ?_
      refine e_val (v := (.str (letters1))) (val_var rfl) ?_
      refine e_op ?_
      refine e_call ?_
      refine a_val (v := (.int (cell_here1))) (val_var rfl) ?_
      refine a_val (v := (.int ((400 : Nat) : Int))) val_c ?_
      refine a_nil ?_
      refine ⟨F2, (cell_here1), (400), _, rfl, w.f, hW, ?_⟩
      intro z3 hW F4 H5 s4
      replace w := w.tr s4
      refine e_val (v := (.int ((26 : Nat) : Int))) val_c ?_
      refine rv2 (z := (.int ((z3 % 26 : Nat) : Int))) (vn_mod val_c val_c (by decide)) ?_
      obtain ⟨c3, hW⟩ := hW
      obtain ⟨c4, hc3, hW⟩ := hW
      refine rv2 (z := .str (sg c4)) (ix_Str val_c val_c c3 hc3) ?_
      refine e_cb ?_
      refine a_cons ?_
      refine e_op ?_
      refine e_op ?_
      refine e_call ?_
      refine a_val (v := (.int (cell_here1))) (val_var rfl) ?_
      refine a_val (v := (.int ((401 : Nat) : Int))) val_c ?_
      refine a_nil ?_
      refine ⟨F4, (cell_here1), (401), _, rfl, w.f, hW, ?_⟩
      intro z4 hW F5 H6 s5
      replace w := w.tr s5
      refine e_val (v := (.int ((1000 : Nat) : Int))) val_c ?_
      refine rv2 (z := (.int ((z4 % 1000 : Nat) : Int))) (vn_mod val_c val_c (by decide)) ?_
      refine e_val (v := (.int ((37 * k1 : Nat) : Int))) (vn_mul val_c (val_var rfl) (.inl (by decide))) ?_
      refine rv2 (z := (.int (((z4 % 1000) + (37 * k1) : Nat) : Int))) (vn_add val_c val_c) ?_
      refine a_nil ?_
      obtain ⟨c5, hW⟩ := hW
      refine rcb1 (z := .str (strN ((z4 % 1000) + (37 * k1)))) (vn_str c5 val_c) ?_
      obtain ⟨c6, hW⟩ := hW
      refine rv2 (z := (.str ((sg c4) ++ (strN ((z4 % 1000) + (37 * k1)))))) (v_addS val_c val_c c6) ?_
      exact hQ _ hW _ _ w
abbrev s_wires : Stmt := topS 28
def W_wires (cell_here1 : Int) (start1 : Nat) (names1 : List Str) (digits1 : Bool) (R : (List Str) → Prop) : Prop := if digits1 = true then (((names1.length + 1) < 2 ^ 64) ∧ (0 < (names1.length + 1) ^ 4) ∧ ∀ left1 : Nat, left1 = modN cell_here1 ((names1.length + 1) ^ 4) → (4 < 1000000) ∧ forW (List.range 4) (([] : List Str), left1) (fun k1 (found1, left2) nx1 bk1 => jn (fun kk => (0 < names1.length + 1) ∧ if 0 < (left2 % (names1.length + 1)) then ((0 < names1.length + 1) ∧ (1 ≤ left2 % (names1.length + 1)) ∧ ∃ x4, names1[(left2 % (names1.length + 1)) - 1]? = some x4 ∧ (found1.length < 1000000) ∧ kk (found1 ++ [x4])) else (kk found1)) fun found2 => (NDiv (names1.length + 1)) ∧ ∀ left3 : Nat, left3 = left2 / (names1.length + 1) → nx1 (found2, left3)) fun (found1, left2) => R found1) else (W_mix cell_here1 start1 fun z1 => ∀ many1 : Nat, many1 = z1 % 5 → (many1 < 1000000) ∧ compW (List.range many1) (fun k2 kk => (okV (pL pS) names1 ∧ okV (pL pS) ([] : List Str)) ∧ if names1 ≠ ([] : List Str) then (W_mix cell_here1 ((start1 + 1) + k2) fun z2 => (0 < names1.length) ∧ ∃ x7, names1[z2 % names1.length]? = some x7 ∧ kk (some x7)) else (kk none)) fun ys1 => R ys1)
def sp_wires (K : PySem.W.Frag) (cc : Cz) : Sp := fun vs H Q _ => ∃ (F : Hp) (cell_here1 : Int) (start1 : Nat) (v1 : V) (names1 : List Str) (digits1 : Bool) (R : (List Str) → Prop), vs = [(.int (cell_here1)), (.int ((start1 : Nat) : Int)), v1, (.bl (digits1))] ∧ Ex F H ∧ (pL pS).r F v1 names1 ∧ W_wires cell_here1 start1 names1 digits1 R ∧ ∀ z, R z → ∀ p F' H', Wf F H F' H' → XL pS H F' H' p z → Q (.ref p) H'
abbrev N_wires : List Str := ["_law_cell_here", "_law_start", "_law_names", "_law_digits", "_law_left", "_law_found", "_law_k", "_law_many"]
theorem sc_wires : FnScope N_wires ["_law_cell_here", "_law_start", "_law_names", "_law_digits"] (defScope s_wires) := ⟨rfl, rfl, rfl, by decide +kernel, rfl, by decide +kernel, by decide +kernel⟩
theorem ok_wires {P : Program} {w0 : World} {K : PySem.W.Frag} {mg : Str → Option Value} {base : Heap} {f : Addr} {fd : FuncData} {cc : Cz} (T : Tz K mg cc) (FU : Fun K "_law_wires" "_law_wires" s_wires f fd) (hm : mg "_law_wires" = some (.ref f)) (hb : Binds K fd ["_law_cell_here", "_law_start", "_law_names", "_law_digits"] []) (c_mix : Fn P w0 K mg base CX0 1 "_law_mix" ["_law_cell_here", "_law_k"] (sp_mix K cc)) (n_len : mg "len" = none) (n_range : mg "range" = none) : Fn P w0 K mg base CX0 2 "_law_wires" ["_law_cell_here", "_law_start", "_law_names", "_law_digits"] (sp_wires K cc) := by
  refine ⟨f, fd, FU.ok sc_wires (fun vs H Q E h => ?_) (fun cdv A outer s H0 vs Q E hr h => ?_), hm, FU.kp, hb⟩
  · obtain ⟨_, _, _, _, _, _, _, rfl, _⟩ := h; rfl
  · obtain ⟨F0, cell_here1, start1, v1, names1, digits1, R, rfl, wf, r1, hW, hQ⟩ := h
    have nd := sc_wires.nd
    refine ⟨(tSeq (tIfS (tB (tVar 3)) (tSeq (tAsg (tOp kMod (tVar 0) (tOp kPow (tOp kAdd (tCB (Wk.rLen K) (tCons (tVar 2) tNil)) (tC (.int 1))) (tC (.int 4)))) (gName 4)) (tSeq (tAsg (tLst tNil) (gName 5)) (tSeq (tFor (iRng1 (tCons (tC (.int 4)) tNil)) (gName 6) (tSeq (tIfS (tTest (tOp kGt (tOp kMod (tVar 4) (tOp kAdd (tCB (Wk.rLen K) (tCons (tVar 2) tNil)) (tC (.int 1)))) (tC (.int 0)))) (tDrop (tBM K "list" rAppend (tVar 5) (tCons (tOp (L2.rIxL K) (tVar 2) (tOp kSub (tOp kMod (tVar 4) (tOp kAdd (tCB (Wk.rLen K) (tCons (tVar 2) tNil)) (tC (.int 1)))) (tC (.int 1)))) tNil))) tNext) (tAsg (tOp kDiv (tVar 4) (tOp kAdd (tCB (Wk.rLen K) (tCons (tVar 2) tNil)) (tC (.int 1)))) (gName 4)))) (tRet (tVar 5))))) tNext) (tSeq (tAsg (tOp kMod (tCall (sp_mix K cc) [] E0 (tCons (tVar 0) (tCons (tVar 1) tNil))) (tC (.int 5))) (gName 7)) (tRet (tLc (iRng1 (tCons (tVar 7) tNil)) (gName 6) (tTest (tOp (L2.rNeD K) (tVar 2) (tLst tNil))) (tOp (L2.rIxL K) (tVar 2) (tOp kMod (tCall (sp_mix K cc) [] E0 (tCons (tVar 0) (tCons (tOp kAdd (tOp kAdd (tVar 1) (tC (.int 1))) (tVar 6)) tNil))) (tCB (Wk.rLen K) (tCons (tVar 2) tNil)))) [6])))), (pss_cons (ps_if (pt_val (pv 3)) (pss_cons (ps_set (i := 4) nd rfl (Or.inl rfl) (pe_op op_mod (pv 0) (pe_op op_pow (pe_op op_add (pe_callB call_len_seq (by rfl) n_len PySem.boot_len (pa_cons (pv 2) pa_nil)) pe_int) pe_int))) (pss_cons (ps_set (i := 5) nd rfl (Or.inl rfl) (pe_lst pa_nil)) (pss_cons (ps_for PassesOwn.never rfl (pi_range1 rfl n_range (pa_cons pe_int pa_nil)) (pg_name (i := 6) nd rfl (Or.inl rfl)) (pss_cons (ps_if (pt_cmpR op_gt (pe_op op_mod (pv 4) (pe_op op_add (pe_callB call_len_seq (by rfl) n_len PySem.boot_len (pa_cons (pv 2) pa_nil)) pe_int)) pe_int (nomark _)) (pss_one (ps_expr (pe_bm PySem.F.plainAttrs_list PySem.F.slot_list_append PySem.F.type_list_append mt_append (pv 5) (pa_cons (pe_ix ix_list (pv 2) (pe_op op_sub (pe_op op_mod (pv 4) (pe_op op_add (pe_callB call_len_seq (by rfl) n_len PySem.boot_len (pa_cons (pv 2) pa_nil)) pe_int)) pe_int) (fun _ _ => rfl)) pa_nil)))) pss_nil) (pss_one (ps_set (i := 4) nd rfl (Or.inl rfl) (pe_op op_fdivW (pv 4) (pe_op op_add (pe_callB call_len_seq (by rfl) n_len PySem.boot_len (pa_cons (pv 2) pa_nil)) pe_int)))))) (pss_one (ps_ret (pv 5)))))) pss_nil) (pss_cons (ps_set (i := 7) nd rfl (Or.inl rfl) (pe_op op_mod (pe_fn c_mix (hr.mono (by decide)) rfl (pa_cons (pv 0) (pa_cons (pv 1) pa_nil))) pe_int)) (pss_one (ps_ret (pe_lc (own := [("_law_k", 6)]) (wi := (iRng1 (tCons (tVar 7) tNil))) (g := (gName 6)) (tt := (tTest (tOp (L2.rNeD K) (tVar 2) (tLst tNil)))) (te := (tOp (L2.rIxL K) (tVar 2) (tOp kMod (tCall (sp_mix K cc) [] E0 (tCons (tVar 0) (tCons (tOp kAdd (tOp kAdd (tVar 1) (tC (.int 1))) (tVar 6)) tNil))) (tCB (Wk.rLen K) (tCons (tVar 2) tNil))))) rfl nd (pi_range1 rfl n_range (pa_cons (pv 7) pa_nil)) (blkOk_by (N := N_wires) (sc := defScope s_wires) (by decide +kernel)) (fun _ _ _ _ _ => (pg_name (i := 6) nd rfl (Or.inl rfl))) (fun _ _ _ _ _ => (pts_one (pt_cmpR (op_neD hr.units) (pv 2) (pe_lst pa_nil) (nomark _)))) (fun _ _ _ _ _ => (pe_ix ix_list (pv 2) (pe_op op_mod (pe_fn c_mix (hr.mono (by decide)) rfl (pa_cons (pv 0) (pa_cons (pe_op op_add (pe_op op_add (pv 1) pe_int) (pv 6)) pa_nil))) (pe_callB call_len_seq (by rfl) n_len PySem.boot_len (pa_cons (pv 2) pa_nil))) (fun _ _ => rfl)))))))), ?_⟩
    have w := Wf.id wf
    refine q_sq fun N1 hN1 => ?_
    refine a_ifE ?_
    refine e_ans (b := decide (digits1 = true)) (t_ofB (vb_of (val_var rfl) dec_tt)) ?_
    refine b_if (fun hc1 => ?_) (fun hc1 => ?_)
    · have hW := ifP hW hc1
      refine q_sq fun N2 hN2 => ?_
      obtain ⟨c1, hW⟩ := hW
      obtain ⟨c2, hW⟩ := hW
      obtain ⟨left1, eleft1⟩ : ∃ left1 : Nat, left1 = modN cell_here1 ((names1.length + 1) ^ 4) := ⟨_, rfl⟩
      replace hW := hW left1 eleft1
      refine a_asg (v := (.int ((left1 : Nat) : Int))) (v_eq (vm_mod (val_var rfl) (vn_pow (a := names1.length + 1) (b := 4) (vn_add (len_L r1 w.f (val_var rfl)) val_c) val_c ⟨by decide, c1⟩ rfl) c2) (by rw [eleft1])) ?_
      refine hN2 _ _ ?_
      refine q_sq fun N3 hN3 => ?_
      refine a_asgE ?_
      refine e_lst ?_
      refine a_nil ?_
      refine n_lstX (e := pS) (xs := []) (vs := []) (show All pS _ [] [] from trivial) (show 0 < 1000000 from by decide) w ?_
      intro p1 H1 hp1 s1 x1
      replace r1 := Rep.mono _ s1.g r1
      replace w := w.tr s1
      refine hN3 _ _ ?_
      refine q_sq fun N4 hN4 => ?_
      refine f_RE ?_
      refine e_val (v := (.int ((4 : Nat) : Int))) val_c ?_
      obtain ⟨c3, hW⟩ := hW
      refine w_forR (S := List Str × Nat) (fun s σ' F' H' => match s with | (found1, left2) => ∃ (o1 : Option V), Wf F0 H0 F' H' ∧ Ex F0 F' ∧ σ' = [some (.int (cell_here1)), some (.int ((start1 : Nat) : Int)), some v1, some (.bl (digits1)), some (.int ((left2 : Nat) : Int)), some ((.ref p1)), o1, none] ∧ XL pS H0 F' H' p1 found1) c3 hW ⟨_, w, Ex.rfl', rfl, x1⟩ ?_ ?_
      · intro N5 Bk1 k1 s2 σ' F1 H2 nx1 bk1 hI1 hx1 hW hN5 hB1
        obtain ⟨found1, left2⟩ := s2
        obtain ⟨o1, w, gx1, rfl, x2⟩ := hI1
        have r1 := Rep.mono _ gx1 r1
        refine g_name ?_
        refine q_jn (S := List Str) hW (fun found2 σ' F' H' => Wf F0 H0 F' H' ∧ Ex F1 F' ∧ σ' = [some (.int (cell_here1)), some (.int ((start1 : Nat) : Int)), some v1, some (.bl (digits1)), some (.int ((left2 : Nat) : Int)), some ((.ref p1)), some (.int ((k1 : Nat) : Int)), none] ∧ XL pS H0 F' H' p1 found2) ?_ ?_
        · intro N6 hN6 hW
          have gx2 : Ex F1 F1 := Ex.rfl'
          refine a_ifE ?_
          obtain ⟨c4, hW⟩ := hW
          refine e_ans (b := decide (0 < (left2 % (names1.length + 1)))) (t_of (vb_dec (c_gt (vn_mod (val_var rfl) (vn_add (len_L r1 w.f (val_var rfl)) val_c) c4) val_c) n_lt)) ?_
          refine b_if (fun hc2 => ?_) (fun hc2 => ?_)
          · have hW := ifP hW hc2
            refine a_dropE ?_
            refine m_list x2 (val_var rfl) ?_
            obtain ⟨c5, hW⟩ := hW
            obtain ⟨c6, hW⟩ := hW
            obtain ⟨x4, hx4_1, hW⟩ := hW
            obtain ⟨_, rfl, ix1⟩ := ix_L (K := K) r1 w.f hx4_1
            refine a_val (v := (.str (x4))) (ix1 (val_var rfl) (vn_sub (vn_mod (val_var rfl) (vn_add (len_L r1 w.f (val_var rfl)) val_c) c5) val_c c6)) ?_
            refine a_nil ?_
            obtain ⟨c7, hW⟩ := hW
            refine a_app x2 w c7 rfl (fun H3 w1 x5 kp1 => ?_)
            replace w := w1
            exact hN6 (found1 ++ [x4]) _ _ _ ⟨w, gx2, rfl, x5⟩ hW
          · have hW := ifN hW hc2
            exact hN6 found1 _ _ _ ⟨w, gx2, rfl, x2⟩ hW
        · intro found2 σ' F2 H4 hI2 hW
          obtain ⟨w, gx3, rfl, x3⟩ := hI2
          have r1 := Rep.mono _ gx3 r1
          have gx1 := Ex.tr gx1 gx3
          obtain ⟨c8, hW⟩ := hW
          obtain ⟨left3, eleft2⟩ : ∃ left3 : Nat, left3 = left2 / (names1.length + 1) := ⟨_, rfl⟩
          replace hW := hW left3 eleft2
          refine a_asg (v := (.int ((left3 : Nat) : Int))) (v_eq (vn_div (val_var rfl) (vn_add (len_L r1 w.f (val_var rfl)) val_c) c8) (by rw [eleft2])) ?_
          exact hN5 (found2, left3) _ _ _ ⟨_, w, gx1, rfl, x3⟩ hW
      · intro s4 σ' F3 H5 hI3 hW
        obtain ⟨found1, left2⟩ := s4
        obtain ⟨o1, w, gx4, rfl, x2⟩ := hI3
        have r1 := Rep.mono _ gx4 r1
        refine hN4 _ _ ?_
        refine a_ret (v := (.ref p1)) (val_var rfl) ?_
        exact hQ _ hW _ _ _ w x2
    · have hW := ifN hW hc1
      refine hN1 _ _ ?_
      refine q_sq fun N7 hN7 => ?_
      refine a_asgE ?_
      refine e_op ?_
      refine e_call ?_
      refine a_val (v := (.int (cell_here1))) (val_var rfl) ?_
      refine a_val (v := (.int ((start1 : Nat) : Int))) (val_var rfl) ?_
      refine a_nil ?_
      refine ⟨F0, (cell_here1), (start1), _, rfl, w.f, hW, ?_⟩
      intro z1 hW F4 H6 s5
      replace r1 := Rep.mono _ s5.g r1
      replace w := w.tr s5
      refine e_val (v := (.int ((5 : Nat) : Int))) val_c ?_
      refine rv2 (z := (.int ((z1 % 5 : Nat) : Int))) (vn_mod val_c val_c (by decide)) ?_
      obtain ⟨many1, emany1⟩ : ∃ many1 : Nat, many1 = z1 % 5 := ⟨_, rfl⟩
      replace hW := hW many1 emany1
      refine nx_set (v := (.int ((many1 : Nat) : Int))) (by rw [emany1]) ?_
      refine hN7 _ _ ?_
      refine a_retE ?_
      refine c_RE ?_
      refine e_val (v := (.int ((many1 : Nat) : Int))) (val_var rfl) ?_
      obtain ⟨c9, hW⟩ := hW
      refine w_compR (e := pS) w c9 hW ?_ ?_
      · intro Qy Qn k2 F5 H7 R1 q1 hx2 hW hy1 hn1
        have r1 := Rep.mono _ q1.g r1
        have w := Wf.id q1.f
        refine ⟨rfl, ?_⟩
        refine e_tT ?_
        refine e_op ?_
        refine e_val (v := v1) (val_var rfl) ?_
        refine e_lst ?_
        refine a_nil ?_
        refine n_lstX (e := pS) (xs := []) (vs := []) (show All pS _ [] [] from trivial) (show 0 < 1000000 from by decide) w ?_
        intro p2 H8 hp2 s6 x6
        replace r1 := Rep.mono _ s6.g r1
        replace w := w.tr s6
        obtain ⟨F6, w2, g1, r2, fz1⟩ := x6.frzE w
        replace r1 := Rep.mono _ g1 r1
        replace w := w2
        obtain ⟨c10, hW⟩ := hW
        refine rv2T (b := decide (names1 ≠ ([] : List Str))) (c_neO (K := K) (e := (pL pS)) val_c val_c w.f r1 w.f r2 c10) ?_
        refine b_if (fun hc3 => ?_) (fun hc3 => ?_)
        · have hW := ifP hW hc3
          refine e_op ?_
          refine e_val (v := v1) (val_var rfl) ?_
          refine e_op ?_
          refine e_call ?_
          refine a_val (v := (.int (cell_here1))) (val_var rfl) ?_
          refine a_val (v := (.int (((start1 + 1) + k2 : Nat) : Int))) (vn_add (vn_add (val_var rfl) val_c) (val_var rfl)) ?_
          refine a_nil ?_
          refine ⟨F6, (cell_here1), ((start1 + 1) + k2), _, rfl, w.f, hW, ?_⟩
          intro z2 hW F7 H9 s7
          replace r1 := Rep.mono _ s7.g r1
          replace r2 := Rep.mono _ s7.g r2
          replace w := w.tr s7
          refine e_val (v := (.int ((names1.length : Nat) : Int))) (len_L r1 w.f (val_var rfl)) ?_
          obtain ⟨c11, hW⟩ := hW
          refine rv2 (z := (.int ((z2 % names1.length : Nat) : Int))) (vn_mod val_c val_c c11) ?_
          obtain ⟨x7, hx7_1, hW⟩ := hW
          obtain ⟨_, rfl, ix2⟩ := ix_L (K := K) r1 w.f hx7_1
          refine rv2 (z := (.str (x7))) (ix2 val_c val_c) ?_
          exact hy1 _ _ _ _ w rfl hW
        · have hW := ifN hW hc3
          exact hn1 _ _ w hW
      intro p3 ys1 F8 H10 hp3 s8 x8 hW
      replace r1 := Rep.mono _ s8.g r1
      replace w := w.tr s8
      exact hQ _ hW _ _ _ w x8
abbrev s_net : Stmt := topS 29
def W_net (script1 : List Int) (start1 : Nat) (most1 : Nat) (R : (List Str × List (Str × List Str) × List (Str × Str) × List Str) → Prop) : Prop := W_cell script1 start1 fun z1 => W_mix z1 1 fun z2 => W_mix z1 2 fun z3 => (0 < most1 + 1) ∧ W_mix z1 3 fun z4 => (0 < most1 + 1) ∧ ∃ x2, [z2 % 4, z3 % (most1 + 1), z4 % (most1 + 1)][0]? = some x2 ∧ (x2 < 1000000) ∧ compW (List.range x2) (fun k1 kk => W_name z1 k1 fun z5 => kk (some z5)) fun ys1 => ∃ x4, [z2 % 4, z3 % (most1 + 1), z4 % (most1 + 1)][1]? = some x4 ∧ (x4 < 1000000) ∧ compW (List.range x4) (fun k2 kk => W_name z1 (6 + k2) fun z6 => kk (some z6)) fun ys2 => (ys1.length + ys2.length < 1000000) ∧ ∃ x8, [z2 % 4, z3 % (most1 + 1), z4 % (most1 + 1)][2]? = some x8 ∧ (x8 < 1000000) ∧ forW (List.range x8) (([] : List (Str × List Str)), ys1 ++ ys2) (fun k3 (sums1, known1) nx1 bk1 => W_cell script1 ((start1 + 1) + k3) fun z7 => W_wires z7 10 known1 (decide ((modN z1 2) = 0)) fun z8 => W_name z1 (22 + k3) fun z9 => (sums1.length < 1000000) ∧ W_name z1 (22 + k3) fun z10 => (known1.length + [z10].length < 1000000) ∧ nx1 (sums1 ++ [(z9, z8)], known1 ++ [z10])) fun (sums1, known1) => W_mix z1 4 fun z11 => (0 < sums1.length + 1) ∧ ∀ at1 : Nat, at1 = z11 % (sums1.length + 1) → ((cutT sums1 (some at1) none).length + ((cutT sums1 none (some at1)).reverse).length < 1000000) ∧ forW (enumT ys2) ([] : List (Str × Str)) (fun it1 ends1 nx2 bk2 => W_mix z1 (50 + it1.1) fun z12 => (0 < known1.length) ∧ ∃ x21, known1[z12 % known1.length]? = some x21 ∧ (ends1.length < 1000000) ∧ nx2 (ends1 ++ [(it1.2, x21)])) fun ends1 => jn (fun kk => (okV (pL pS) known1 ∧ okV (pL pS) ([] : List Str)) ∧ if known1 ≠ ([] : List Str) then (W_mix z1 5 fun z13 => (z13 % 4 < 1000000) ∧ compW (List.range (z13 % 4)) (fun k5 kk => W_mix z1 (80 + k5) fun z14 => (0 < known1.length) ∧ ∃ x27, known1[z14 % known1.length]? = some x27 ∧ kk (some x27)) fun ys3 => kk ys3) else (kk ([] : List Str))) fun outs1 => R (ys1, (cutT sums1 (some at1) none) ++ ((cutT sums1 none (some at1)).reverse), ends1, outs1)
def sp_net (K : PySem.W.Frag) (cc : Cz) : Sp := fun vs H Q _ => ∃ (F : Hp) (v1 : V) (script1 : List Int) (start1 : Nat) (most1 : Nat) (R : (List Str × List (Str × List Str) × List (Str × Str) × List Str) → Prop), vs = [v1, (.int ((start1 : Nat) : Int)), (.int ((most1 : Nat) : Int))] ∧ Ex F H ∧ (pScr K).r F v1 script1 ∧ W_net script1 start1 most1 R ∧ ∀ z, R z → ∀ v F' H', Wf F H F' H' → (pT4 (pL pS) (pL (pT2 pS (pL pS))) (pL (pT2 pS pS)) (pL pS)).r F' v z → Q v H'
abbrev N_net : List Str := ["_law_script", "_law_start", "_law_most", "_law_cell_here", "_law_sizes", "_law_ins", "_law_k", "_law_stores", "_law_known", "_law_sums", "_law_wires_here", "_law_at", "_law_ends", "_law_name_here", "_law_outs"]
theorem sc_net : FnScope N_net ["_law_script", "_law_start", "_law_most"] (defScope s_net) := ⟨rfl, rfl, rfl, by decide +kernel, rfl, by decide +kernel, by decide +kernel⟩
theorem ok_net {P : Program} {w0 : World} {K : PySem.W.Frag} {mg : Str → Option Value} {base : Heap} {f : Addr} {fd : FuncData} {cc : Cz} (T : Tz K mg cc) (FU : Fun K "_law_net" "_law_net" s_net f fd) (hm : mg "_law_net" = some (.ref f)) (hb : Binds K fd ["_law_script", "_law_start", "_law_most"] []) (c_cell : Fn P w0 K mg base CX0 1 "_law_cell" ["_law_script", "_law_k"] (sp_cell K cc)) (c_mix : Fn P w0 K mg base CX0 1 "_law_mix" ["_law_cell_here", "_law_k"] (sp_mix K cc)) (c_name : Fn P w0 K mg base CX0 2 "_law_name" ["_law_cell_here", "_law_k"] (sp_name K cc)) (c_wires : Fn P w0 K mg base CX0 2 "_law_wires" ["_law_cell_here", "_law_start", "_law_names", "_law_digits"] (sp_wires K cc)) (n_enumerate : mg "enumerate" = none) (n_len : mg "len" = none) (n_list : mg "list" = none) (n_range : mg "range" = none) (n_reversed : mg "reversed" = none) : Fn P w0 K mg base CX0 3 "_law_net" ["_law_script", "_law_start", "_law_most"] (sp_net K cc) := by
  refine ⟨f, fd, FU.ok sc_net (fun vs H Q E h => ?_) (fun cdv A outer s H0 vs Q E hr h => ?_), hm, FU.kp, hb⟩
  · obtain ⟨_, _, _, _, _, _, rfl, _⟩ := h; rfl
  · obtain ⟨F0, v1, script1, start1, most1, R, rfl, wf, r1, hW, hQ⟩ := h
    have nd := sc_net.nd
    refine ⟨(tSeq (tAsg (tCall (sp_cell K cc) [] E0 (tCons (tVar 0) (tCons (tVar 1) tNil))) (gName 3)) (tSeq (tAsg (tLst (tCons (tOp kMod (tCall (sp_mix K cc) [] E0 (tCons (tVar 3) (tCons (tC (.int 1)) tNil))) (tC (.int 4))) (tCons (tOp kMod (tCall (sp_mix K cc) [] E0 (tCons (tVar 3) (tCons (tC (.int 2)) tNil))) (tOp kAdd (tVar 2) (tC (.int 1)))) (tCons (tOp kMod (tCall (sp_mix K cc) [] E0 (tCons (tVar 3) (tCons (tC (.int 3)) tNil))) (tOp kAdd (tVar 2) (tC (.int 1)))) tNil)))) (gName 4)) (tSeq (tAsg (tLc (iRng1 (tCons (tOp (L2.rIxL K) (tVar 4) (tC (.int 0))) tNil)) (gName 6) tYes (tCall (sp_name K cc) [] E0 (tCons (tVar 3) (tCons (tVar 6) tNil))) [6]) (gName 5)) (tSeq (tAsg (tLc (iRng1 (tCons (tOp (L2.rIxL K) (tVar 4) (tC (.int 1))) tNil)) (gName 6) tYes (tCall (sp_name K cc) [] E0 (tCons (tVar 3) (tCons (tOp kAdd (tC (.int 6)) (tVar 6)) tNil))) [6]) (gName 7)) (tSeq (tAsg (tOp L2.rCat (tVar 5) (tVar 7)) (gName 8)) (tSeq (tAsg (tLst tNil) (gName 9)) (tSeq (tFor (iRng1 (tCons (tOp (L2.rIxL K) (tVar 4) (tC (.int 2))) tNil)) (gName 6) (tSeq (tAsg (tCall (sp_wires K cc) [] E0 (tCons (tCall (sp_cell K cc) [] E0 (tCons (tVar 0) (tCons (tOp kAdd (tOp kAdd (tVar 1) (tC (.int 1))) (tVar 6)) tNil))) (tCons (tC (.int 10)) (tCons (tVar 8) (tCons (tOp L2.rEq (tOp kMod (tVar 3) (tC (.int 2))) (tC (.int 0))) tNil))))) (gName 10)) (tSeq (tDrop (tBM K "list" rAppend (tVar 9) (tCons (tTup (tCons (tCall (sp_name K cc) [] E0 (tCons (tVar 3) (tCons (tOp kAdd (tC (.int 22)) (tVar 6)) tNil))) (tCons (tVar 10) tNil))) tNil))) (tAsg (tOp L2.rCat (tVar 8) (tLst (tCons (tCall (sp_name K cc) [] E0 (tCons (tVar 3) (tCons (tOp kAdd (tC (.int 22)) (tVar 6)) tNil))) tNil))) (gName 8))))) (tSeq (tAsg (tOp kMod (tCall (sp_mix K cc) [] E0 (tCons (tVar 3) (tCons (tC (.int 4)) tNil))) (tOp kAdd (tCB (Wk.rLen K) (tCons (tVar 9) tNil)) (tC (.int 1)))) (gName 11)) (tSeq (tAsg (tOp L2.rCat (tSl (rSlL K) (tVar 9) (tPart (tVar 11)) tNoPart) (tLstRev K (tSl (rSlL K) (tVar 9) tNoPart (tPart (tVar 11))))) (gName 9)) (tSeq (tAsg (tLst tNil) (gName 12)) (tSeq (tFor (iEnum K (tCons (tVar 7) tNil)) (gTup K 2 (gCons (gName 6) (gCons (gName 13) gNil))) (tDrop (tBM K "list" rAppend (tVar 12) (tCons (tTup (tCons (tVar 13) (tCons (tOp (L2.rIxL K) (tVar 8) (tOp kMod (tCall (sp_mix K cc) [] E0 (tCons (tVar 3) (tCons (tOp kAdd (tC (.int 50)) (tVar 6)) tNil))) (tCB (Wk.rLen K) (tCons (tVar 8) tNil)))) tNil))) tNil)))) (tSeq (tAsg (tLst tNil) (gName 14)) (tSeq (tIfS (tTest (tOp (L2.rNeD K) (tVar 8) (tLst tNil))) (tAsg (tLc (iRng1 (tCons (tOp kMod (tCall (sp_mix K cc) [] E0 (tCons (tVar 3) (tCons (tC (.int 5)) tNil))) (tC (.int 4))) tNil)) (gName 6) tYes (tOp (L2.rIxL K) (tVar 8) (tOp kMod (tCall (sp_mix K cc) [] E0 (tCons (tVar 3) (tCons (tOp kAdd (tC (.int 80)) (tVar 6)) tNil))) (tCB (Wk.rLen K) (tCons (tVar 8) tNil)))) [6]) (gName 14)) tNext) (tRet (tTup (tCons (tVar 5) (tCons (tVar 9) (tCons (tVar 12) (tCons (tVar 14) tNil))))))))))))))))))), (pss_cons (ps_set (i := 3) nd rfl (Or.inr rfl) (pe_fn c_cell (hr.mono (by decide)) rfl (pa_cons (pv 0) (pa_cons (pv 1) pa_nil)))) (pss_cons (ps_set (i := 4) nd rfl (Or.inl rfl) (pe_lst (pa_cons (pe_op op_mod (pe_fn c_mix (hr.mono (by decide)) rfl (pa_cons (pv 3) (pa_cons pe_int pa_nil))) pe_int) (pa_cons (pe_op op_mod (pe_fn c_mix (hr.mono (by decide)) rfl (pa_cons (pv 3) (pa_cons pe_int pa_nil))) (pe_op op_add (pv 2) pe_int)) (pa_cons (pe_op op_mod (pe_fn c_mix (hr.mono (by decide)) rfl (pa_cons (pv 3) (pa_cons pe_int pa_nil))) (pe_op op_add (pv 2) pe_int)) pa_nil))))) (pss_cons (ps_setLc (i := 5) (own := [("_law_k", 6)]) (wi := (iRng1 (tCons (tOp (L2.rIxL K) (tVar 4) (tC (.int 0))) tNil))) (g := (gName 6)) (tt := tYes) (te := (tCall (sp_name K cc) [] E0 (tCons (tVar 3) (tCons (tVar 6) tNil)))) rfl nd rfl rfl (sw_true rfl rfl rfl (by decide +kernel)) (pi_range1 rfl n_range (pa_cons (pe_ix ix_list (pv 4) pe_int (fun _ _ => rfl)) pa_nil)) (blkOk_by (N := N_net) (sc := defScope s_net) (by decide +kernel)) (fun _ _ _ _ _ => (pg_name (i := 6) nd rfl (Or.inl rfl))) (fun _ _ _ _ _ => pts_nil) (fun _ _ _ _ _ => (pe_fn c_name (hr.mono (by decide)) rfl (pa_cons (pv 3) (pa_cons (pv 6) pa_nil))))) (pss_cons (ps_setLc (i := 7) (own := [("_law_k", 6)]) (wi := (iRng1 (tCons (tOp (L2.rIxL K) (tVar 4) (tC (.int 1))) tNil))) (g := (gName 6)) (tt := tYes) (te := (tCall (sp_name K cc) [] E0 (tCons (tVar 3) (tCons (tOp kAdd (tC (.int 6)) (tVar 6)) tNil)))) rfl nd rfl rfl (sw_true rfl rfl rfl (by decide +kernel)) (pi_range1 rfl n_range (pa_cons (pe_ix ix_list (pv 4) pe_int (fun _ _ => rfl)) pa_nil)) (blkOk_by (N := N_net) (sc := defScope s_net) (by decide +kernel)) (fun _ _ _ _ _ => (pg_name (i := 6) nd rfl (Or.inl rfl))) (fun _ _ _ _ _ => pts_nil) (fun _ _ _ _ _ => (pe_fn c_name (hr.mono (by decide)) rfl (pa_cons (pv 3) (pa_cons (pe_op op_add pe_int (pv 6)) pa_nil))))) (pss_cons (ps_set (i := 8) nd rfl (Or.inr rfl) (pe_op op_cat (pv 5) (pv 7))) (pss_cons (ps_set (i := 9) nd rfl (Or.inl rfl) (pe_lst pa_nil)) (pss_cons (ps_for PassesOwn.never rfl (pi_range1 rfl n_range (pa_cons (pe_ix ix_list (pv 4) pe_int (fun _ _ => rfl)) pa_nil)) (pg_name (i := 6) nd rfl (Or.inl rfl)) (pss_cons (ps_set (i := 10) nd rfl (Or.inl rfl) (pe_fn c_wires (hr.mono (by decide)) rfl (pa_cons (pe_fn c_cell (hr.mono (by decide)) rfl (pa_cons (pv 0) (pa_cons (pe_op op_add (pe_op op_add (pv 1) pe_int) (pv 6)) pa_nil))) (pa_cons pe_int (pa_cons (pv 8) (pa_cons (pe_cmpR op_eq (pe_op op_mod (pv 3) pe_int) pe_int (nomark _)) pa_nil)))))) (pss_cons (ps_expr (pe_bm PySem.F.plainAttrs_list PySem.F.slot_list_append PySem.F.type_list_append mt_append (pv 9) (pa_cons (pe_tup (pa_cons (pe_fn c_name (hr.mono (by decide)) rfl (pa_cons (pv 3) (pa_cons (pe_op op_add pe_int (pv 6)) pa_nil))) (pa_cons (pv 10) pa_nil))) pa_nil))) (pss_one (ps_set (i := 8) nd rfl (Or.inr rfl) (pe_op op_cat (pv 8) (pe_lst (pa_cons (pe_fn c_name (hr.mono (by decide)) rfl (pa_cons (pv 3) (pa_cons (pe_op op_add pe_int (pv 6)) pa_nil))) pa_nil)))))))) (pss_cons (ps_set (i := 11) nd rfl (Or.inl rfl) (pe_op op_mod (pe_fn c_mix (hr.mono (by decide)) rfl (pa_cons (pv 3) (pa_cons pe_int pa_nil))) (pe_op op_add (pe_callB call_len_seq (by rfl) n_len PySem.boot_len (pa_cons (pv 9) pa_nil)) pe_int))) (pss_cons (ps_set (i := 9) nd rfl (Or.inl rfl) (pe_op op_cat (pe_slice sl_list (pv 9) (po_some (pv 11)) po_none) (pe_lstRev rfl (by rfl) n_list (by rfl) n_reversed (pe_slice sl_list (pv 9) po_none (po_some (pv 11)))))) (pss_cons (ps_set (i := 12) nd rfl (Or.inl rfl) (pe_lst pa_nil)) (pss_cons (ps_for PassesOwn.never rfl (pi_enum (by rfl) n_enumerate (pa_cons (pv 7) pa_nil)) (pg_tup rfl (pgs_cons (pg_name (i := 6) nd rfl (Or.inl rfl)) (pgs_cons (pg_name (i := 13) nd rfl (Or.inl rfl)) pgs_nil)) (by rfl)) (pss_one (ps_expr (pe_bm PySem.F.plainAttrs_list PySem.F.slot_list_append PySem.F.type_list_append mt_append (pv 12) (pa_cons (pe_tup (pa_cons (pv 13) (pa_cons (pe_ix ix_list (pv 8) (pe_op op_mod (pe_fn c_mix (hr.mono (by decide)) rfl (pa_cons (pv 3) (pa_cons (pe_op op_add pe_int (pv 6)) pa_nil))) (pe_callB call_len_seq (by rfl) n_len PySem.boot_len (pa_cons (pv 8) pa_nil))) (fun _ _ => rfl)) pa_nil))) pa_nil))))) (pss_cons (ps_set (i := 14) nd rfl (Or.inl rfl) (pe_lst pa_nil)) (pss_cons (ps_if (pt_cmpR (op_neD hr.units) (pv 8) (pe_lst pa_nil) (nomark _)) (pss_one (ps_setLc (i := 14) (own := [("_law_k", 6)]) (wi := (iRng1 (tCons (tOp kMod (tCall (sp_mix K cc) [] E0 (tCons (tVar 3) (tCons (tC (.int 5)) tNil))) (tC (.int 4))) tNil))) (g := (gName 6)) (tt := tYes) (te := (tOp (L2.rIxL K) (tVar 8) (tOp kMod (tCall (sp_mix K cc) [] E0 (tCons (tVar 3) (tCons (tOp kAdd (tC (.int 80)) (tVar 6)) tNil))) (tCB (Wk.rLen K) (tCons (tVar 8) tNil))))) rfl nd rfl rfl (sw_true rfl rfl rfl (by decide +kernel)) (pi_range1 rfl n_range (pa_cons (pe_op op_mod (pe_fn c_mix (hr.mono (by decide)) rfl (pa_cons (pv 3) (pa_cons pe_int pa_nil))) pe_int) pa_nil)) (blkOk_by (N := N_net) (sc := defScope s_net) (by decide +kernel)) (fun _ _ _ _ _ => (pg_name (i := 6) nd rfl (Or.inl rfl))) (fun _ _ _ _ _ => pts_nil) (fun _ _ _ _ _ => (pe_ix ix_list (pv 8) (pe_op op_mod (pe_fn c_mix (hr.mono (by decide)) rfl (pa_cons (pv 3) (pa_cons (pe_op op_add pe_int (pv 6)) pa_nil))) (pe_callB call_len_seq (by rfl) n_len PySem.boot_len (pa_cons (pv 8) pa_nil))) (fun _ _ => rfl))))) pss_nil) (pss_one (ps_ret (pe_tup (pa_cons (pv 5) (pa_cons (pv 9) (pa_cons (pv 12) (pa_cons (pv 14) pa_nil)))))))))))))))))))), ?_⟩
    have w := Wf.id wf
    refine q_sq fun N1 hN1 => ?_
    refine a_asgE ?_
    refine e_call ?_
    refine a_val (v := v1) (val_var rfl) ?_
    refine a_val (v := (.int ((start1 : Nat) : Int))) (val_var rfl) ?_
    refine a_nil ?_
    refine ⟨F0, (v1), (script1), (start1), _, rfl, w.f, r1, hW, ?_⟩
    intro z1 hW F1 H1 s1
    replace r1 := Rep.mono _ s1.g r1
    replace w := w.tr s1
    refine hN1 _ _ ?_
    refine q_sq fun N2 hN2 => ?_
    refine a_asgE ?_
    refine e_lst ?_
    refine a_cons ?_
    refine e_op ?_
    refine e_call ?_
    refine a_val (v := (.int (z1))) (val_var rfl) ?_
    refine a_val (v := (.int ((1 : Nat) : Int))) val_c ?_
    refine a_nil ?_
    refine ⟨F1, (z1), (1), _, rfl, w.f, hW, ?_⟩
    intro z2 hW F2 H2 s2
    replace r1 := Rep.mono _ s2.g r1
    replace w := w.tr s2
    refine e_val (v := (.int ((4 : Nat) : Int))) val_c ?_
    refine rv2 (z := (.int ((z2 % 4 : Nat) : Int))) (vn_mod val_c val_c (by decide)) ?_
    refine a_cons ?_
    refine e_op ?_
    refine e_call ?_
    refine a_val (v := (.int (z1))) (val_var rfl) ?_
    refine a_val (v := (.int ((2 : Nat) : Int))) val_c ?_
    refine a_nil ?_
    refine ⟨F2, (z1), (2), _, rfl, w.f, hW, ?_⟩
    intro z3 hW F3 H3 s3
    replace r1 := Rep.mono _ s3.g r1
    replace w := w.tr s3
    refine e_val (v := (.int ((most1 + 1 : Nat) : Int))) (vn_add (val_var rfl) val_c) ?_
    obtain ⟨c1, hW⟩ := hW
    refine rv2 (z := (.int ((z3 % (most1 + 1) : Nat) : Int))) (vn_mod val_c val_c c1) ?_
    refine a_cons ?_
    refine e_op ?_
    refine e_call ?_
    refine a_val (v := (.int (z1))) (val_var rfl) ?_
    refine a_val (v := (.int ((3 : Nat) : Int))) val_c ?_
    refine a_nil ?_
    refine ⟨F3, (z1), (3), _, rfl, w.f, hW, ?_⟩
    intro z4 hW F4 H4 s4
    replace r1 := Rep.mono _ s4.g r1
    replace w := w.tr s4
    refine e_val (v := (.int ((most1 + 1 : Nat) : Int))) (vn_add (val_var rfl) val_c) ?_
    obtain ⟨c2, hW⟩ := hW
    refine rv2 (z := (.int ((z4 % (most1 + 1) : Nat) : Int))) (vn_mod val_c val_c c2) ?_
    refine a_nil ?_
    refine n_lstX (e := pN) (xs := [z2 % 4, z3 % (most1 + 1), z4 % (most1 + 1)]) (vs := [(.int ((z2 % 4 : Nat) : Int)), (.int ((z3 % (most1 + 1) : Nat) : Int)), (.int ((z4 % (most1 + 1) : Nat) : Int))]) (show All pN _ [(.int ((z2 % 4 : Nat) : Int)), (.int ((z3 % (most1 + 1) : Nat) : Int)), (.int ((z4 % (most1 + 1) : Nat) : Int))] [z2 % 4, z3 % (most1 + 1), z4 % (most1 + 1)] from ⟨rfl, ⟨rfl, ⟨rfl, trivial⟩⟩⟩) (show 3 < 1000000 from by decide) w ?_
    intro p1 H5 hp1 s5 x1
    replace r1 := Rep.mono _ s5.g r1
    replace w := w.tr s5
    obtain ⟨F5, w1, g1, r2, fz1⟩ := x1.frzE w
    replace r1 := Rep.mono _ g1 r1
    replace w := w1
    refine hN2 _ _ ?_
    refine q_sq fun N3 hN3 => ?_
    refine a_asgE ?_
    refine c_RE ?_
    obtain ⟨x2, hx2_1, hW⟩ := hW
    obtain ⟨_, rfl, ix1⟩ := ix_L (K := K) r2 w.f hx2_1
    refine e_val (v := (.int ((x2 : Nat) : Int))) (ix1 (val_var rfl) val_c) ?_
    obtain ⟨c3, hW⟩ := hW
    refine w_compR (e := pS) w c3 hW ?_ ?_
    · intro Qy Qn k1 F6 H6 R1 q1 hx1 hW hy1 hn1
      have r1 := Rep.mono _ q1.g r1
      have r2 := Rep.mono _ q1.g r2
      have w := Wf.id q1.f
      refine ⟨rfl, ?_⟩
      refine c_yes ?_
      refine e_call ?_
      refine a_val (v := (.int (z1))) (val_var rfl) ?_
      refine a_val (v := (.int ((k1 : Nat) : Int))) (val_var rfl) ?_
      refine a_nil ?_
      refine ⟨F6, (z1), (k1), _, rfl, w.f, hW, ?_⟩
      intro z5 hW F7 H7 s6
      replace r1 := Rep.mono _ s6.g r1
      replace r2 := Rep.mono _ s6.g r2
      replace w := w.tr s6
      exact hy1 _ _ _ _ w rfl hW
    intro p2 ys1 F8 H8 hp2 s7 x3 hW
    replace r1 := Rep.mono _ s7.g r1
    replace r2 := Rep.mono _ s7.g r2
    replace w := w.tr s7
    obtain ⟨F9, w2, g2, r3, fz2⟩ := x3.frzE w
    replace r1 := Rep.mono _ g2 r1
    replace r2 := Rep.mono _ g2 r2
    replace w := w2
    refine hN3 _ _ ?_
    refine q_sq fun N4 hN4 => ?_
    refine a_asgE ?_
    refine c_RE ?_
    obtain ⟨x4, hx4_1, hW⟩ := hW
    obtain ⟨_, rfl, ix2⟩ := ix_L (K := K) r2 w.f hx4_1
    refine e_val (v := (.int ((x4 : Nat) : Int))) (ix2 (val_var rfl) val_c) ?_
    obtain ⟨c4, hW⟩ := hW
    refine w_compR (e := pS) w c4 hW ?_ ?_
    · intro Qy Qn k2 F10 H9 R2 q2 hx2 hW hy2 hn2
      have r1 := Rep.mono _ q2.g r1
      have r2 := Rep.mono _ q2.g r2
      have r3 := Rep.mono _ q2.g r3
      have w := Wf.id q2.f
      refine ⟨rfl, ?_⟩
      refine c_yes ?_
      refine e_call ?_
      refine a_val (v := (.int (z1))) (val_var rfl) ?_
      refine a_val (v := (.int ((6 + k2 : Nat) : Int))) (vn_add val_c (val_var rfl)) ?_
      refine a_nil ?_
      refine ⟨F10, (z1), (6 + k2), _, rfl, w.f, hW, ?_⟩
      intro z6 hW F11 H10 s8
      replace r1 := Rep.mono _ s8.g r1
      replace r2 := Rep.mono _ s8.g r2
      replace r3 := Rep.mono _ s8.g r3
      replace w := w.tr s8
      exact hy2 _ _ _ _ w rfl hW
    intro p3 ys2 F12 H11 hp3 s9 x5 hW
    replace r1 := Rep.mono _ s9.g r1
    replace r2 := Rep.mono _ s9.g r2
    replace r3 := Rep.mono _ s9.g r3
    replace w := w.tr s9
    obtain ⟨F13, w3, g3, r4, fz3⟩ := x5.frzE w
    replace r1 := Rep.mono _ g3 r1
    replace r2 := Rep.mono _ g3 r2
    replace r3 := Rep.mono _ g3 r3
    replace w := w3
    refine hN4 _ _ ?_
    refine q_sq fun N5 hN5 => ?_
    refine a_asgE ?_
    refine e_op ?_
    refine e_val (v := (.ref p2)) (val_var rfl) ?_
    refine e_val (v := (.ref p3)) (val_var rfl) ?_
    obtain ⟨c5, hW⟩ := hW
    refine n_cat r3 r4 w c5 ?_
    intro p4 H12 hp4 s10 x6
    replace r1 := Rep.mono _ s10.g r1
    replace r2 := Rep.mono _ s10.g r2
    replace r3 := Rep.mono _ s10.g r3
    replace r4 := Rep.mono _ s10.g r4
    replace w := w.tr s10
    obtain ⟨F14, w4, g4, r5, fz4⟩ := x6.frzE w
    replace r1 := Rep.mono _ g4 r1
    replace r2 := Rep.mono _ g4 r2
    replace r3 := Rep.mono _ g4 r3
    replace r4 := Rep.mono _ g4 r4
    replace w := w4
    refine hN5 _ _ ?_
    refine q_sq fun N6 hN6 => ?_
    refine a_asgE ?_
    refine e_lst ?_
    refine a_nil ?_
    refine n_lstX (e := (pT2 pS (pL pS))) (xs := []) (vs := []) (show All (pT2 pS (pL pS)) _ [] [] from trivial) (show 0 < 1000000 from by decide) w ?_
    intro p5 H13 hp5 s11 x7
    replace r1 := Rep.mono _ s11.g r1
    replace r2 := Rep.mono _ s11.g r2
    replace r3 := Rep.mono _ s11.g r3
    replace r4 := Rep.mono _ s11.g r4
    replace r5 := Rep.mono _ s11.g r5
    replace w := w.tr s11
    refine hN6 _ _ ?_
    refine q_sq fun N7 hN7 => ?_
    refine f_RE ?_
    obtain ⟨x8, hx8_1, hW⟩ := hW
    obtain ⟨_, rfl, ix3⟩ := ix_L (K := K) r2 w.f hx8_1
    refine e_val (v := (.int ((x8 : Nat) : Int))) (ix3 (val_var rfl) val_c) ?_
    obtain ⟨c6, hW⟩ := hW
    refine w_forR (S := (List (Str × List Str)) × List Str) (fun s σ' F' H' => match s with | (sums1, known1) => ∃ (o1 : Option V) (v2 : V) (p6 : Addr) (o2 : Option V), Wf F0 H0 F' H' ∧ Ex F14 F' ∧ σ' = [some v1, some (.int ((start1 : Nat) : Int)), some (.int ((most1 : Nat) : Int)), some (.int (z1)), some (.ref p1), some (.ref p2), o1, some (.ref p3), some v2, some (.ref p6), o2, none, none, none, none] ∧ (pL pS).r F' v2 known1 ∧ XL (pT2 pS (pL pS)) H0 F' H' p6 sums1) c6 hW ⟨_, _, _, _, w, Ex.rfl', rfl, r5, x7⟩ ?_ ?_
    · intro N8 Bk1 k3 s12 σ' F15 H14 nx1 bk1 hI1 hx3 hW hN8 hB1
      obtain ⟨sums1, known1⟩ := s12
      obtain ⟨o1, v2, p6, o2, w, gx1, rfl, r6, x9⟩ := hI1
      have r1 := Rep.mono _ gx1 r1
      have r2 := Rep.mono _ gx1 r2
      have r3 := Rep.mono _ gx1 r3
      have r4 := Rep.mono _ gx1 r4
      refine g_name ?_
      refine q_sq fun N9 hN9 => ?_
      refine a_asgE ?_
      refine e_call ?_
      refine a_cons ?_
      refine e_call ?_
      refine a_val (v := v1) (val_var rfl) ?_
      refine a_val (v := (.int (((start1 + 1) + k3 : Nat) : Int))) (vn_add (vn_add (val_var rfl) val_c) (val_var rfl)) ?_
      refine a_nil ?_
      refine ⟨F15, (v1), (script1), ((start1 + 1) + k3), _, rfl, w.f, r1, hW, ?_⟩
      intro z7 hW F16 H15 s13
      replace r1 := Rep.mono _ s13.g r1
      replace r2 := Rep.mono _ s13.g r2
      replace r3 := Rep.mono _ s13.g r3
      replace r4 := Rep.mono _ s13.g r4
      replace r6 := Rep.mono _ s13.g r6
      replace x9 := x9.step s13
      replace w := w.tr s13
      replace gx1 := Ex.tr gx1 s13.g
      refine a_val (v := (.int ((10 : Nat) : Int))) val_c ?_
      refine a_val (v := v2) (val_var rfl) ?_
      refine a_val (v := (.bl (decide ((modN z1 2) = 0)))) (vb_dec (c_eqI (vm_mod (val_var rfl) val_c (by decide)) val_c) n_eq) ?_
      refine a_nil ?_
      refine ⟨F16, (z7), (10), (v2), (known1), (decide ((modN z1 2) = 0)), _, rfl, w.f, r6, hW, ?_⟩
      intro z8 hW p7 F17 H16 s14 x10
      have ne1 := x9.ne x10.zero
      replace x10 := x10.base w
      replace r1 := Rep.mono _ s14.g r1
      replace r2 := Rep.mono _ s14.g r2
      replace r3 := Rep.mono _ s14.g r3
      replace r4 := Rep.mono _ s14.g r4
      replace r6 := Rep.mono _ s14.g r6
      replace x9 := x9.step s14
      replace w := w.tr s14
      replace gx1 := Ex.tr gx1 s14.g
      obtain ⟨F18, w5, g5, r7, fz5⟩ := x10.frzE w
      replace r1 := Rep.mono _ g5 r1
      replace r2 := Rep.mono _ g5 r2
      replace r3 := Rep.mono _ g5 r3
      replace r4 := Rep.mono _ g5 r4
      replace r6 := Rep.mono _ g5 r6
      replace x9 := x9.frzO fz5 ne1 g5
      replace w := w5
      replace gx1 := Ex.tr gx1 g5
      refine hN9 _ _ ?_
      refine q_sq fun N10 hN10 => ?_
      refine a_dropE ?_
      refine m_list x9 (val_var rfl) ?_
      refine a_cons ?_
      refine e_tup ?_
      refine a_cons ?_
      refine e_call ?_
      refine a_val (v := (.int (z1))) (val_var rfl) ?_
      refine a_val (v := (.int ((22 + k3 : Nat) : Int))) (vn_add val_c (val_var rfl)) ?_
      refine a_nil ?_
      refine ⟨F18, (z1), (22 + k3), _, rfl, w.f, hW, ?_⟩
      intro z9 hW F19 H17 s15
      replace r1 := Rep.mono _ s15.g r1
      replace r2 := Rep.mono _ s15.g r2
      replace r3 := Rep.mono _ s15.g r3
      replace r4 := Rep.mono _ s15.g r4
      replace r6 := Rep.mono _ s15.g r6
      replace x9 := x9.step s15
      replace r7 := Rep.mono _ s15.g r7
      replace w := w.tr s15
      replace gx1 := Ex.tr gx1 s15.g
      refine a_val (v := (.ref p7)) (val_var rfl) ?_
      refine a_nil ?_
      refine n_tup2 (e := pS) (f := (pL pS)) (x := z9) (y := z8) rfl r7 w ?_
      intro p8 F20 H18 s16 r8
      replace r1 := Rep.mono _ s16.g r1
      replace r2 := Rep.mono _ s16.g r2
      replace r3 := Rep.mono _ s16.g r3
      replace r4 := Rep.mono _ s16.g r4
      replace r6 := Rep.mono _ s16.g r6
      replace x9 := x9.step s16
      replace r7 := Rep.mono _ s16.g r7
      replace w := w.tr s16
      replace gx1 := Ex.tr gx1 s16.g
      refine a_nil ?_
      obtain ⟨c7, hW⟩ := hW
      refine a_app x9 w c7 r8 (fun H19 w6 x11 kp1 => ?_)
      replace w := w6
      refine hN10 _ _ ?_
      refine a_asgE ?_
      refine e_op ?_
      refine e_val (v := v2) (val_var rfl) ?_
      refine e_lst ?_
      refine a_cons ?_
      refine e_call ?_
      refine a_val (v := (.int (z1))) (val_var rfl) ?_
      refine a_val (v := (.int ((22 + k3 : Nat) : Int))) (vn_add val_c (val_var rfl)) ?_
      refine a_nil ?_
      refine ⟨F20, (z1), (22 + k3), _, rfl, w.f, hW, ?_⟩
      intro z10 hW F21 H20 s17
      replace r1 := Rep.mono _ s17.g r1
      replace r2 := Rep.mono _ s17.g r2
      replace r3 := Rep.mono _ s17.g r3
      replace r4 := Rep.mono _ s17.g r4
      replace r6 := Rep.mono _ s17.g r6
      replace x11 := x11.step s17
      replace r7 := Rep.mono _ s17.g r7
      replace w := w.tr s17
      replace gx1 := Ex.tr gx1 s17.g
      refine a_nil ?_
      refine n_lstX (e := pS) (xs := [z10]) (vs := [(.str (z10))]) (show All pS _ [(.str (z10))] [z10] from ⟨rfl, trivial⟩) (show 1 < 1000000 from by decide) w ?_
      intro p9 H21 hp6 s18 x12
      have ne2 := x11.ne hp6
      replace r1 := Rep.mono _ s18.g r1
      replace r2 := Rep.mono _ s18.g r2
      replace r3 := Rep.mono _ s18.g r3
      replace r4 := Rep.mono _ s18.g r4
      replace r6 := Rep.mono _ s18.g r6
      replace x11 := x11.step s18
      replace r7 := Rep.mono _ s18.g r7
      replace w := w.tr s18
      replace gx1 := Ex.tr gx1 s18.g
      obtain ⟨F22, w7, g6, r9, fz6⟩ := x12.frzE w
      replace r1 := Rep.mono _ g6 r1
      replace r2 := Rep.mono _ g6 r2
      replace r3 := Rep.mono _ g6 r3
      replace r4 := Rep.mono _ g6 r4
      replace r6 := Rep.mono _ g6 r6
      replace x11 := x11.frzO fz6 ne2 g6
      replace r7 := Rep.mono _ g6 r7
      replace w := w7
      replace gx1 := Ex.tr gx1 g6
      obtain ⟨c8, hW⟩ := hW
      refine n_cat r6 r9 w c8 ?_
      intro p10 H22 hp7 s19 x13
      have ne3 := x11.ne hp7
      replace r1 := Rep.mono _ s19.g r1
      replace r2 := Rep.mono _ s19.g r2
      replace r3 := Rep.mono _ s19.g r3
      replace r4 := Rep.mono _ s19.g r4
      replace r6 := Rep.mono _ s19.g r6
      replace x11 := x11.step s19
      replace r7 := Rep.mono _ s19.g r7
      replace r9 := Rep.mono _ s19.g r9
      replace w := w.tr s19
      replace gx1 := Ex.tr gx1 s19.g
      obtain ⟨F23, w8, g7, r10, fz7⟩ := x13.frzE w
      replace r1 := Rep.mono _ g7 r1
      replace r2 := Rep.mono _ g7 r2
      replace r3 := Rep.mono _ g7 r3
      replace r4 := Rep.mono _ g7 r4
      replace r6 := Rep.mono _ g7 r6
      replace x11 := x11.frzO fz7 ne3 g7
      replace r7 := Rep.mono _ g7 r7
      replace r9 := Rep.mono _ g7 r9
      replace w := w8
      replace gx1 := Ex.tr gx1 g7
      exact hN8 (sums1 ++ [(z9, z8)], known1 ++ [z10]) _ _ _ ⟨_, _, _, _, w, gx1, rfl, r10, x11⟩ hW
    · intro s20 σ' F24 H23 hI2 hW
      obtain ⟨sums1, known1⟩ := s20
      obtain ⟨o1, v2, p6, o2, w, gx2, rfl, r6, x9⟩ := hI2
      have r1 := Rep.mono _ gx2 r1
      have r2 := Rep.mono _ gx2 r2
      have r3 := Rep.mono _ gx2 r3
      have r4 := Rep.mono _ gx2 r4
      refine hN7 _ _ ?_
      refine q_sq fun N11 hN11 => ?_
      refine a_asgE ?_
      refine e_op ?_
      refine e_call ?_
      refine a_val (v := (.int (z1))) (val_var rfl) ?_
      refine a_val (v := (.int ((4 : Nat) : Int))) val_c ?_
      refine a_nil ?_
      refine ⟨F24, (z1), (4), _, rfl, w.f, hW, ?_⟩
      intro z11 hW F25 H24 s21
      replace r1 := Rep.mono _ s21.g r1
      replace r2 := Rep.mono _ s21.g r2
      replace r3 := Rep.mono _ s21.g r3
      replace r4 := Rep.mono _ s21.g r4
      replace r6 := Rep.mono _ s21.g r6
      replace x9 := x9.step s21
      replace w := w.tr s21
      replace gx2 := Ex.tr gx2 s21.g
      refine e_val (v := (.int ((sums1.length + 1 : Nat) : Int))) (vn_add (len_X x9 (val_var rfl)) val_c) ?_
      obtain ⟨c9, hW⟩ := hW
      refine rv2 (z := (.int ((z11 % (sums1.length + 1) : Nat) : Int))) (vn_mod val_c val_c c9) ?_
      obtain ⟨at1, eat1⟩ : ∃ at1 : Nat, at1 = z11 % (sums1.length + 1) := ⟨_, rfl⟩
      replace hW := hW at1 eat1
      refine nx_set (v := (.int ((at1 : Nat) : Int))) (by rw [eat1]) ?_
      refine hN11 _ _ ?_
      refine q_sq fun N12 hN12 => ?_
      refine a_asgE ?_
      refine e_op ?_
      obtain ⟨F26, w9, g8, r11, fz8⟩ := x9.frzE w
      replace r1 := Rep.mono _ g8 r1
      replace r2 := Rep.mono _ g8 r2
      replace r3 := Rep.mono _ g8 r3
      replace r4 := Rep.mono _ g8 r4
      replace r6 := Rep.mono _ g8 r6
      replace w := w9
      replace gx2 := Ex.tr gx2 g8
      refine n_cutX (lo := (some at1)) (hi := none) r11 (val_var rfl) (po_s (n := at1) (val_var rfl)) po_n w ?_
      intro p11 H25 hp8 s22 x14
      replace r1 := Rep.mono _ s22.g r1
      replace r2 := Rep.mono _ s22.g r2
      replace r3 := Rep.mono _ s22.g r3
      replace r4 := Rep.mono _ s22.g r4
      replace r6 := Rep.mono _ s22.g r6
      replace r11 := Rep.mono _ s22.g r11
      replace w := w.tr s22
      replace gx2 := Ex.tr gx2 s22.g
      refine e_lrev ?_
      refine n_cutX (lo := none) (hi := (some at1)) r11 (val_var rfl) po_n (po_s (n := at1) (val_var rfl)) w ?_
      intro p12 H26 hp9 s23 x15
      have ne4 := x14.ne hp9
      replace r1 := Rep.mono _ s23.g r1
      replace r2 := Rep.mono _ s23.g r2
      replace r3 := Rep.mono _ s23.g r3
      replace r4 := Rep.mono _ s23.g r4
      replace r6 := Rep.mono _ s23.g r6
      replace r11 := Rep.mono _ s23.g r11
      replace x14 := x14.step s23
      replace w := w.tr s23
      replace gx2 := Ex.tr gx2 s23.g
      refine n_lrevXX x15 w ?_
      intro p13 H27 hp10 s24 x16
      have ne5 := x14.ne hp10
      replace r1 := Rep.mono _ s24.g r1
      replace r2 := Rep.mono _ s24.g r2
      replace r3 := Rep.mono _ s24.g r3
      replace r4 := Rep.mono _ s24.g r4
      replace r6 := Rep.mono _ s24.g r6
      replace r11 := Rep.mono _ s24.g r11
      replace x14 := x14.step s24
      replace w := w.tr s24
      replace gx2 := Ex.tr gx2 s24.g
      obtain ⟨F27, w10, g9, r12, fz9⟩ := x14.frzE w
      replace r1 := Rep.mono _ g9 r1
      replace r2 := Rep.mono _ g9 r2
      replace r3 := Rep.mono _ g9 r3
      replace r4 := Rep.mono _ g9 r4
      replace r6 := Rep.mono _ g9 r6
      replace r11 := Rep.mono _ g9 r11
      replace x16 := x16.frzO fz9 (Ne.symm ne5) g9
      replace w := w10
      replace gx2 := Ex.tr gx2 g9
      obtain ⟨F28, w11, g10, r13, fz10⟩ := x16.frzE w
      replace r1 := Rep.mono _ g10 r1
      replace r2 := Rep.mono _ g10 r2
      replace r3 := Rep.mono _ g10 r3
      replace r4 := Rep.mono _ g10 r4
      replace r6 := Rep.mono _ g10 r6
      replace r11 := Rep.mono _ g10 r11
      replace r12 := Rep.mono _ g10 r12
      replace w := w11
      replace gx2 := Ex.tr gx2 g10
      obtain ⟨c10, hW⟩ := hW
      refine n_cat r12 r13 w c10 ?_
      intro p14 H28 hp11 s25 x17
      replace r1 := Rep.mono _ s25.g r1
      replace r2 := Rep.mono _ s25.g r2
      replace r3 := Rep.mono _ s25.g r3
      replace r4 := Rep.mono _ s25.g r4
      replace r6 := Rep.mono _ s25.g r6
      replace r11 := Rep.mono _ s25.g r11
      replace r12 := Rep.mono _ s25.g r12
      replace r13 := Rep.mono _ s25.g r13
      replace w := w.tr s25
      replace gx2 := Ex.tr gx2 s25.g
      refine hN12 _ _ ?_
      refine q_sq fun N13 hN13 => ?_
      refine a_asgE ?_
      refine e_lst ?_
      refine a_nil ?_
      refine n_lstX (e := (pT2 pS pS)) (xs := []) (vs := []) (show All (pT2 pS pS) _ [] [] from trivial) (show 0 < 1000000 from by decide) w ?_
      intro p15 H29 hp12 s26 x18
      have ne6 := x17.ne hp12
      replace r1 := Rep.mono _ s26.g r1
      replace r2 := Rep.mono _ s26.g r2
      replace r3 := Rep.mono _ s26.g r3
      replace r4 := Rep.mono _ s26.g r4
      replace r6 := Rep.mono _ s26.g r6
      replace x17 := x17.step s26
      replace w := w.tr s26
      replace gx2 := Ex.tr gx2 s26.g
      refine hN13 _ _ ?_
      refine q_sq fun N14 hN14 => ?_
      refine f_J ?_
      refine a_val (v := (.ref p3)) (val_var rfl) ?_
      refine a_nil ?_
      refine src_enum r4 w.f (fun a1 T1 => ?_)
      refine w_forG (S := List (Str × Str)) T1 (fun ends1 σ' F' H' => ∃ (o3 : Option V) (o4 : Option V), Wf F0 H0 F' H' ∧ Ex F28 F' ∧ σ' = [some v1, some (.int ((start1 : Nat) : Int)), some (.int ((most1 : Nat) : Int)), some (.int (z1)), some (.ref p1), some (.ref p2), o3, some (.ref p3), some v2, some (.ref p14), o2, some (.int ((at1 : Nat) : Int)), some ((.ref p15)), o4, none] ∧ XL (pT2 pS pS) H0 F' H' p15 ends1 ∧ XL (pT2 pS (pL pS)) H0 F' H' p14 ((cutT sums1 (some at1) none) ++ ((cutT sums1 none (some at1)).reverse))) hW ⟨_, _, w, Ex.rfl', rfl, x18, x17⟩ (fun s σ' F' H' hI => by obtain ⟨_, _, w', gx', _⟩ := hI; exact ⟨gx', w'.f⟩) w.f ?_ ?_
      · intro N15 Bk2 it1 u4 ends1 σ' F29 H30 F30 H31 nx2 bk2 hI3 hx4 s28 ru4 hW hN15 hB2
        obtain ⟨o3, o4, w, gx3, rfl, x19, x20⟩ := hI3
        have r1 := Rep.mono _ gx3 r1
        have r2 := Rep.mono _ gx3 r2
        have r3 := Rep.mono _ gx3 r3
        have r4 := Rep.mono _ gx3 r4
        have r6 := Rep.mono _ gx3 r6
        have gx2 := Ex.tr gx2 gx3
        replace r1 := Rep.mono _ s28.g r1
        replace r2 := Rep.mono _ s28.g r2
        replace r3 := Rep.mono _ s28.g r3
        replace r4 := Rep.mono _ s28.g r4
        replace r6 := Rep.mono _ s28.g r6
        replace x20 := x20.step s28
        replace x19 := x19.step s28
        replace w := w.tr s28
        replace gx3 := Ex.tr gx3 s28.g
        replace gx2 := Ex.tr gx2 s28.g
        obtain ⟨p16, u5, u6, rfl, h1, rfl, rfl⟩ := ru4
        refine ⟨p16, _, rfl, SqT.of (w.f _ _ h1), rfl, _, _, rfl, _, _, rfl, rfl, ?_⟩
        refine a_dropE ?_
        refine m_list x19 (val_var rfl) ?_
        refine a_cons ?_
        refine e_tup ?_
        refine a_val (v := (.str (it1.2))) (val_var rfl) ?_
        refine a_cons ?_
        refine e_op ?_
        refine e_val (v := v2) (val_var rfl) ?_
        refine e_op ?_
        refine e_call ?_
        refine a_val (v := (.int (z1))) (val_var rfl) ?_
        refine a_val (v := (.int ((50 + it1.1 : Nat) : Int))) (vn_add val_c (val_var rfl)) ?_
        refine a_nil ?_
        refine ⟨F30, (z1), (50 + it1.1), _, rfl, w.f, hW, ?_⟩
        intro z12 hW F31 H32 s29
        replace r1 := Rep.mono _ s29.g r1
        replace r2 := Rep.mono _ s29.g r2
        replace r3 := Rep.mono _ s29.g r3
        replace r4 := Rep.mono _ s29.g r4
        replace r6 := Rep.mono _ s29.g r6
        replace x20 := x20.step s29
        replace x19 := x19.step s29
        replace w := w.tr s29
        replace gx3 := Ex.tr gx3 s29.g
        replace gx2 := Ex.tr gx2 s29.g
        refine e_val (v := (.int ((known1.length : Nat) : Int))) (len_L r6 w.f (val_var rfl)) ?_
        obtain ⟨c11, hW⟩ := hW
        refine rv2 (z := (.int ((z12 % known1.length : Nat) : Int))) (vn_mod val_c val_c c11) ?_
        obtain ⟨x21, hx21_1, hW⟩ := hW
        obtain ⟨_, rfl, ix4⟩ := ix_L (K := K) r6 w.f hx21_1
        refine rv2 (z := (.str (x21))) (ix4 val_c val_c) ?_
        refine a_nil ?_
        refine n_tup2 (e := pS) (f := pS) (x := it1.2) (y := x21) rfl rfl w ?_
        intro p17 F32 H33 s30 r15
        replace r1 := Rep.mono _ s30.g r1
        replace r2 := Rep.mono _ s30.g r2
        replace r3 := Rep.mono _ s30.g r3
        replace r4 := Rep.mono _ s30.g r4
        replace r6 := Rep.mono _ s30.g r6
        replace x20 := x20.step s30
        replace x19 := x19.step s30
        replace w := w.tr s30
        replace gx3 := Ex.tr gx3 s30.g
        replace gx2 := Ex.tr gx2 s30.g
        refine a_nil ?_
        obtain ⟨c12, hW⟩ := hW
        refine a_app x19 w c12 r15 (fun H34 w12 x22 kp2 => ?_)
        replace x20 := x20.kept kp2 ne6
        replace w := w12
        exact hN15 (ends1 ++ [(it1.2, x21)]) _ _ _ ⟨_, _, w, gx3, rfl, x22, x20⟩ hW
      · intro ends1 σ' F33 H35 hI4 hW
        obtain ⟨o3, o4, w, gx4, rfl, x19, x20⟩ := hI4
        have r1 := Rep.mono _ gx4 r1
        have r2 := Rep.mono _ gx4 r2
        have r3 := Rep.mono _ gx4 r3
        have r4 := Rep.mono _ gx4 r4
        have r6 := Rep.mono _ gx4 r6
        have gx2 := Ex.tr gx2 gx4
        refine hN14 _ _ ?_
        refine q_sq fun N16 hN16 => ?_
        refine a_asgE ?_
        refine e_lst ?_
        refine a_nil ?_
        refine n_lstX (e := pS) (xs := []) (vs := []) (show All pS _ [] [] from trivial) (show 0 < 1000000 from by decide) w ?_
        intro p18 H36 hp13 s32 x23
        have ne7 := x20.ne hp13
        have ne8 := x19.ne hp13
        replace r1 := Rep.mono _ s32.g r1
        replace r2 := Rep.mono _ s32.g r2
        replace r3 := Rep.mono _ s32.g r3
        replace r4 := Rep.mono _ s32.g r4
        replace r6 := Rep.mono _ s32.g r6
        replace x20 := x20.step s32
        replace x19 := x19.step s32
        replace w := w.tr s32
        replace gx4 := Ex.tr gx4 s32.g
        replace gx2 := Ex.tr gx2 s32.g
        obtain ⟨F34, w13, g11, r16, fz11⟩ := x23.frzE w
        replace r1 := Rep.mono _ g11 r1
        replace r2 := Rep.mono _ g11 r2
        replace r3 := Rep.mono _ g11 r3
        replace r4 := Rep.mono _ g11 r4
        replace r6 := Rep.mono _ g11 r6
        replace x20 := x20.frzO fz11 ne7 g11
        replace x19 := x19.frzO fz11 ne8 g11
        replace w := w13
        replace gx4 := Ex.tr gx4 g11
        replace gx2 := Ex.tr gx2 g11
        refine hN16 _ _ ?_
        refine q_jn (S := List Str) hW (fun outs1 σ' F' H' => ∃ (v4 : V), Wf F0 H0 F' H' ∧ Ex F34 F' ∧ σ' = [some v1, some (.int ((start1 : Nat) : Int)), some (.int ((most1 : Nat) : Int)), some (.int (z1)), some (.ref p1), some (.ref p2), o3, some (.ref p3), some v2, some (.ref p14), o2, some (.int ((at1 : Nat) : Int)), some (.ref p15), o4, some v4] ∧ (pL pS).r F' v4 outs1 ∧ XL (pT2 pS (pL pS)) H0 F' H' p14 ((cutT sums1 (some at1) none) ++ ((cutT sums1 none (some at1)).reverse)) ∧ XL (pT2 pS pS) H0 F' H' p15 ends1) ?_ ?_
        · intro N17 hN17 hW
          have gx5 : Ex F34 F34 := Ex.rfl'
          refine a_ifE ?_
          refine e_tT ?_
          refine e_op ?_
          refine e_val (v := v2) (val_var rfl) ?_
          refine e_lst ?_
          refine a_nil ?_
          refine n_lstX (e := pS) (xs := []) (vs := []) (show All pS _ [] [] from trivial) (show 0 < 1000000 from by decide) w ?_
          intro p19 H37 hp14 s33 x26
          have ne9 := x20.ne hp14
          have ne10 := x19.ne hp14
          replace r1 := Rep.mono _ s33.g r1
          replace r2 := Rep.mono _ s33.g r2
          replace r3 := Rep.mono _ s33.g r3
          replace r4 := Rep.mono _ s33.g r4
          replace r6 := Rep.mono _ s33.g r6
          replace x20 := x20.step s33
          replace x19 := x19.step s33
          replace r16 := Rep.mono _ s33.g r16
          replace w := w.tr s33
          replace gx5 := Ex.tr gx5 s33.g
          replace gx4 := Ex.tr gx4 s33.g
          replace gx2 := Ex.tr gx2 s33.g
          obtain ⟨F35, w14, g12, r18, fz12⟩ := x26.frzE w
          replace r1 := Rep.mono _ g12 r1
          replace r2 := Rep.mono _ g12 r2
          replace r3 := Rep.mono _ g12 r3
          replace r4 := Rep.mono _ g12 r4
          replace r6 := Rep.mono _ g12 r6
          replace x20 := x20.frzO fz12 ne9 g12
          replace x19 := x19.frzO fz12 ne10 g12
          replace r16 := Rep.mono _ g12 r16
          replace w := w14
          replace gx5 := Ex.tr gx5 g12
          replace gx4 := Ex.tr gx4 g12
          replace gx2 := Ex.tr gx2 g12
          obtain ⟨c13, hW⟩ := hW
          refine rv2T (b := decide (known1 ≠ ([] : List Str))) (c_neO (K := K) (e := (pL pS)) val_c val_c w.f r6 w.f r18 c13) ?_
          refine b_if (fun hc1 => ?_) (fun hc1 => ?_)
          · have hW := ifP hW hc1
            refine a_asgE ?_
            refine c_RE ?_
            refine e_op ?_
            refine e_call ?_
            refine a_val (v := (.int (z1))) (val_var rfl) ?_
            refine a_val (v := (.int ((5 : Nat) : Int))) val_c ?_
            refine a_nil ?_
            refine ⟨F35, (z1), (5), _, rfl, w.f, hW, ?_⟩
            intro z13 hW F36 H38 s34
            replace r1 := Rep.mono _ s34.g r1
            replace r2 := Rep.mono _ s34.g r2
            replace r3 := Rep.mono _ s34.g r3
            replace r4 := Rep.mono _ s34.g r4
            replace r6 := Rep.mono _ s34.g r6
            replace x20 := x20.step s34
            replace x19 := x19.step s34
            replace r16 := Rep.mono _ s34.g r16
            replace w := w.tr s34
            replace gx5 := Ex.tr gx5 s34.g
            replace gx4 := Ex.tr gx4 s34.g
            replace gx2 := Ex.tr gx2 s34.g
            refine e_val (v := (.int ((4 : Nat) : Int))) val_c ?_
            refine rv2 (z := (.int ((z13 % 4 : Nat) : Int))) (vn_mod val_c val_c (by decide)) ?_
            obtain ⟨c14, hW⟩ := hW
            refine w_compR (e := pS) w c14 hW ?_ ?_
            · intro Qy Qn k5 F37 H39 R3 q3 hx5 hW hy3 hn3
              have r1 := Rep.mono _ q3.g r1
              have r2 := Rep.mono _ q3.g r2
              have r3 := Rep.mono _ q3.g r3
              have r4 := Rep.mono _ q3.g r4
              have r6 := Rep.mono _ q3.g r6
              have x20 := x20.step q3
              have x19 := x19.step q3
              have r16 := Rep.mono _ q3.g r16
              have w := Wf.id q3.f
              refine ⟨rfl, ?_⟩
              refine c_yes ?_
              refine e_op ?_
              refine e_val (v := v2) (val_var rfl) ?_
              refine e_op ?_
              refine e_call ?_
              refine a_val (v := (.int (z1))) (val_var rfl) ?_
              refine a_val (v := (.int ((80 + k5 : Nat) : Int))) (vn_add val_c (val_var rfl)) ?_
              refine a_nil ?_
              refine ⟨F37, (z1), (80 + k5), _, rfl, w.f, hW, ?_⟩
              intro z14 hW F38 H40 s35
              replace r1 := Rep.mono _ s35.g r1
              replace r2 := Rep.mono _ s35.g r2
              replace r3 := Rep.mono _ s35.g r3
              replace r4 := Rep.mono _ s35.g r4
              replace r6 := Rep.mono _ s35.g r6
              replace x20 := x20.step s35
              replace x19 := x19.step s35
              replace r16 := Rep.mono _ s35.g r16
              replace w := w.tr s35
              refine e_val (v := (.int ((known1.length : Nat) : Int))) (len_L r6 w.f (val_var rfl)) ?_
              obtain ⟨c15, hW⟩ := hW
              refine rv2 (z := (.int ((z14 % known1.length : Nat) : Int))) (vn_mod val_c val_c c15) ?_
              obtain ⟨x27, hx27_1, hW⟩ := hW
              obtain ⟨_, rfl, ix5⟩ := ix_L (K := K) r6 w.f hx27_1
              refine rv2 (z := (.str (x27))) (ix5 val_c val_c) ?_
              exact hy3 _ _ _ _ w rfl hW
            intro p20 ys3 F39 H41 hp15 s36 x28 hW
            have ne11 := x20.ne hp15
            have ne12 := x19.ne hp15
            replace r1 := Rep.mono _ s36.g r1
            replace r2 := Rep.mono _ s36.g r2
            replace r3 := Rep.mono _ s36.g r3
            replace r4 := Rep.mono _ s36.g r4
            replace r6 := Rep.mono _ s36.g r6
            replace x20 := x20.step s36
            replace x19 := x19.step s36
            replace r16 := Rep.mono _ s36.g r16
            replace w := w.tr s36
            replace gx5 := Ex.tr gx5 s36.g
            replace gx4 := Ex.tr gx4 s36.g
            replace gx2 := Ex.tr gx2 s36.g
            obtain ⟨F40, w15, g13, r20, fz13⟩ := x28.frzE w
            replace r1 := Rep.mono _ g13 r1
            replace r2 := Rep.mono _ g13 r2
            replace r3 := Rep.mono _ g13 r3
            replace r4 := Rep.mono _ g13 r4
            replace r6 := Rep.mono _ g13 r6
            replace x20 := x20.frzO fz13 ne11 g13
            replace x19 := x19.frzO fz13 ne12 g13
            replace r16 := Rep.mono _ g13 r16
            replace w := w15
            replace gx5 := Ex.tr gx5 g13
            replace gx4 := Ex.tr gx4 g13
            replace gx2 := Ex.tr gx2 g13
            exact hN17 ys3 _ _ _ ⟨_, w, gx5, rfl, r20, x20, x19⟩ hW
          · have hW := ifN hW hc1
            exact hN17 ([] : List Str) _ _ _ ⟨_, w, gx5, rfl, r16, x20, x19⟩ hW
        · intro outs1 σ' F41 H42 hI5 hW
          obtain ⟨v4, w, gx6, rfl, r17, x24, x25⟩ := hI5
          have r1 := Rep.mono _ gx6 r1
          have r2 := Rep.mono _ gx6 r2
          have r3 := Rep.mono _ gx6 r3
          have r4 := Rep.mono _ gx6 r4
          have r6 := Rep.mono _ gx6 r6
          have gx4 := Ex.tr gx4 gx6
          have gx2 := Ex.tr gx2 gx6
          refine a_retE ?_
          refine e_tup ?_
          refine a_val (v := (.ref p2)) (val_var rfl) ?_
          refine a_val (v := (.ref p14)) (val_var rfl) ?_
          refine a_val (v := (.ref p15)) (val_var rfl) ?_
          refine a_val (v := v4) (val_var rfl) ?_
          refine a_nil ?_
          obtain ⟨F42, w16, g14, r21, fz14⟩ := x24.frzE w
          replace r1 := Rep.mono _ g14 r1
          replace r2 := Rep.mono _ g14 r2
          replace r3 := Rep.mono _ g14 r3
          replace r4 := Rep.mono _ g14 r4
          replace r6 := Rep.mono _ g14 r6
          replace x25 := x25.frzO fz14 (Ne.symm ne6) g14
          replace r17 := Rep.mono _ g14 r17
          replace w := w16
          replace gx6 := Ex.tr gx6 g14
          replace gx4 := Ex.tr gx4 g14
          replace gx2 := Ex.tr gx2 g14
          obtain ⟨F43, w17, g15, r22, fz15⟩ := x25.frzE w
          replace r1 := Rep.mono _ g15 r1
          replace r2 := Rep.mono _ g15 r2
          replace r3 := Rep.mono _ g15 r3
          replace r4 := Rep.mono _ g15 r4
          replace r6 := Rep.mono _ g15 r6
          replace r21 := Rep.mono _ g15 r21
          replace r17 := Rep.mono _ g15 r17
          replace w := w17
          replace gx6 := Ex.tr gx6 g15
          replace gx4 := Ex.tr gx4 g15
          replace gx2 := Ex.tr gx2 g15
          refine n_tup4 (e := (pL pS)) (f := (pL (pT2 pS (pL pS)))) (g := (pL (pT2 pS pS))) (i := (pL pS)) (x := ys1) (x2 := (cutT sums1 (some at1) none) ++ ((cutT sums1 none (some at1)).reverse)) (x3 := ends1) (x4 := outs1) r3 r21 r22 r17 w ?_
          intro p21 F44 H43 s38 r23
          replace r1 := Rep.mono _ s38.g r1
          replace r2 := Rep.mono _ s38.g r2
          replace r3 := Rep.mono _ s38.g r3
          replace r4 := Rep.mono _ s38.g r4
          replace r6 := Rep.mono _ s38.g r6
          replace r21 := Rep.mono _ s38.g r21
          replace r22 := Rep.mono _ s38.g r22
          replace r17 := Rep.mono _ s38.g r17
          replace w := w.tr s38
          replace gx6 := Ex.tr gx6 s38.g
          replace gx4 := Ex.tr gx4 s38.g
          replace gx2 := Ex.tr gx2 s38.g
          exact hQ _ hW _ _ _ w r23
abbrev s_told : Stmt := topS 30
def W_told (ins1 : List Str) (sums1 : List (Str × List Str)) (stores1 : List (Str × Str)) (outs1 : List Str) (R : (List Str × List (Str × List Str) × List (Str × Str) × List Str) → Prop) : Prop := (sums1.length < 1000000) ∧ compW sums1 (fun it1 kk => kk (some (it1.1, it1.2))) fun ys1 => R (ins1, ys1, stores1, outs1)
def sp_told (K : PySem.W.Frag) (cc : Cz) : Sp := fun vs H Q _ => ∃ (F : Hp) (v1 : V) (ins1 : List Str) (v2 : V) (sums1 : List (Str × List Str)) (v3 : V) (stores1 : List (Str × Str)) (v4 : V) (outs1 : List Str) (R : (List Str × List (Str × List Str) × List (Str × Str) × List Str) → Prop), vs = [v1, v2, v3, v4] ∧ Ex F H ∧ (pL pS).r F v1 ins1 ∧ (pL (pT2 pS (pL pS))).r F v2 sums1 ∧ (pL (pT2 pS pS)).r F v3 stores1 ∧ (pL pS).r F v4 outs1 ∧ W_told ins1 sums1 stores1 outs1 R ∧ ∀ z, R z → ∀ v F' H', Wf F H F' H' → (pT4 (pL pS) (pL (pT2 pS (pTL pS))) (pL (pT2 pS pS)) (pL pS)).r F' v z → Q v H'
abbrev N_told : List Str := ["_law_ins", "_law_sums", "_law_stores", "_law_outs", "_law_name_here", "_law_wires_here"]
theorem sc_told : FnScope N_told ["_law_ins", "_law_sums", "_law_stores", "_law_outs"] (defScope s_told) := ⟨rfl, rfl, rfl, by decide +kernel, rfl, by decide +kernel, by decide +kernel⟩
theorem ok_told {P : Program} {w0 : World} {K : PySem.W.Frag} {mg : Str → Option Value} {base : Heap} {f : Addr} {fd : FuncData} {cc : Cz} (T : Tz K mg cc) (FU : Fun K "_law_told" "_law_told" s_told f fd) (hm : mg "_law_told" = some (.ref f)) (hb : Binds K fd ["_law_ins", "_law_sums", "_law_stores", "_law_outs"] []) (n_list : mg "list" = none) (n_tuple : mg "tuple" = none) : Fn P w0 K mg base CX0 1 "_law_told" ["_law_ins", "_law_sums", "_law_stores", "_law_outs"] (sp_told K cc) := by
  refine ⟨f, fd, FU.ok sc_told (fun vs H Q E h => ?_) (fun cdv A outer s H0 vs Q E hr h => ?_), hm, FU.kp, hb⟩
  · obtain ⟨_, _, _, _, _, _, _, _, _, _, rfl, _⟩ := h; rfl
  · obtain ⟨F0, v1, ins1, v2, sums1, v3, stores1, v4, outs1, R, rfl, wf, r1, r2, r3, r4, hW, hQ⟩ := h
    have nd := sc_told.nd
    refine ⟨(tRet (tTup (tCons (tCB (rListOf K) (tCons (tVar 0) tNil)) (tCons (tLc (iList K (tVar 1)) (gTup K 2 (gCons (gName 4) (gCons (gName 5) gNil))) tYes (tTup (tCons (tVar 4) (tCons (tCB (rTupOf K) (tCons (tVar 5) tNil)) tNil))) [4, 5]) (tCons (tCB (rListOf K) (tCons (tVar 2) tNil)) (tCons (tCB (rListOf K) (tCons (tVar 3) tNil)) tNil)))))), (pss_one (ps_ret (pe_tup (pa_cons (pe_callTy call_list_of (by rfl) n_list PyProof.Rows.boot_list (pa_cons (pv 0) pa_nil)) (pa_cons (pe_lc (own := [("_law_name_here", 4), ("_law_wires_here", 5)]) (wi := (iList K (tVar 1))) (g := (gTup K 2 (gCons (gName 4) (gCons (gName 5) gNil)))) (tt := tYes) (te := (tTup (tCons (tVar 4) (tCons (tCB (rTupOf K) (tCons (tVar 5) tNil)) tNil)))) rfl nd (pi_list (pv 1)) (blkOk_by (N := N_told) (sc := defScope s_told) (by decide +kernel)) (fun _ _ _ _ _ => (pg_tup rfl (pgs_cons (pg_name (i := 4) nd rfl (Or.inl rfl)) (pgs_cons (pg_name (i := 5) nd rfl (Or.inl rfl)) pgs_nil)) (by rfl))) (fun _ _ _ _ _ => pts_nil) (fun _ _ _ _ _ => (pe_tup (pa_cons (pv 4) (pa_cons (pe_callTy call_tuple_of (by rfl) n_tuple PyProof.Rows.boot_tuple (pa_cons (pv 5) pa_nil)) pa_nil))))) (pa_cons (pe_callTy call_list_of (by rfl) n_list PyProof.Rows.boot_list (pa_cons (pv 2) pa_nil)) (pa_cons (pe_callTy call_list_of (by rfl) n_list PyProof.Rows.boot_list (pa_cons (pv 3) pa_nil)) pa_nil))))))), ?_⟩
    have w := Wf.id wf
    refine a_retE ?_
    refine e_tup ?_
    refine a_cons ?_
    refine e_cb ?_
    refine a_val (v := v1) (val_var rfl) ?_
    refine a_nil ?_
    refine n_listX r1 w ?_
    intro p1 H1 hp1 s1 x1
    replace r1 := Rep.mono _ s1.g r1
    replace r2 := Rep.mono _ s1.g r2
    replace r3 := Rep.mono _ s1.g r3
    replace r4 := Rep.mono _ s1.g r4
    replace w := w.tr s1
    refine a_cons ?_
    refine c_LE ?_
    refine e_val (v := v2) (val_var rfl) ?_
    obtain ⟨c1, hW⟩ := hW
    refine w_compL (e := (pT2 pS (pTL pS))) r2 w c1 hW ?_ ?_
    · intro Qy Qn it1 u1 F1 H2 R1 q1 hx1 ru1 hW hy1 hn1
      have r1 := Rep.mono _ q1.g r1
      have r2 := Rep.mono _ q1.g r2
      have r3 := Rep.mono _ q1.g r3
      have r4 := Rep.mono _ q1.g r4
      have x1 := x1.step q1
      have w := Wf.id q1.f
      obtain ⟨p2, u2, u3, rfl, h1, rfl, r5⟩ := ru1
      refine ⟨p2, _, rfl, SqT.of (w.f _ _ h1), rfl, _, _, rfl, _, _, rfl, rfl, ?_⟩
      refine ⟨rfl, ?_⟩
      refine c_yes ?_
      refine e_tup ?_
      refine a_val (v := (.str (it1.1))) (val_var rfl) ?_
      refine a_cons ?_
      refine e_cb ?_
      refine a_val (v := u3) (val_var rfl) ?_
      refine a_nil ?_
      refine n_tupOf r5 w ?_
      intro p3 F2 H3 s2 r6
      replace r1 := Rep.mono _ s2.g r1
      replace r2 := Rep.mono _ s2.g r2
      replace r3 := Rep.mono _ s2.g r3
      replace r4 := Rep.mono _ s2.g r4
      replace r5 := Rep.mono _ s2.g r5
      replace x1 := x1.step s2
      replace w := w.tr s2
      refine a_nil ?_
      refine n_tup2 (e := pS) (f := (pTL pS)) (x := it1.1) (y := it1.2) rfl r6 w ?_
      intro p4 F3 H4 s3 r7
      replace r1 := Rep.mono _ s3.g r1
      replace r2 := Rep.mono _ s3.g r2
      replace r3 := Rep.mono _ s3.g r3
      replace r4 := Rep.mono _ s3.g r4
      replace r5 := Rep.mono _ s3.g r5
      replace x1 := x1.step s3
      replace r6 := Rep.mono _ s3.g r6
      replace w := w.tr s3
      exact hy1 _ _ _ _ w r7 hW
    intro p5 ys1 F4 H5 hp2 s4 x2 hW
    have ne1 := x1.ne hp2
    replace r1 := Rep.mono _ s4.g r1
    replace r2 := Rep.mono _ s4.g r2
    replace r3 := Rep.mono _ s4.g r3
    replace r4 := Rep.mono _ s4.g r4
    replace x1 := x1.step s4
    replace w := w.tr s4
    refine a_cons ?_
    refine e_cb ?_
    refine a_val (v := v3) (val_var rfl) ?_
    refine a_nil ?_
    refine n_listX r3 w ?_
    intro p6 H6 hp3 s5 x3
    have ne2 := x1.ne hp3
    have ne3 := x2.ne hp3
    replace r1 := Rep.mono _ s5.g r1
    replace r2 := Rep.mono _ s5.g r2
    replace r3 := Rep.mono _ s5.g r3
    replace r4 := Rep.mono _ s5.g r4
    replace x1 := x1.step s5
    replace x2 := x2.step s5
    replace w := w.tr s5
    refine a_cons ?_
    refine e_cb ?_
    refine a_val (v := v4) (val_var rfl) ?_
    refine a_nil ?_
    refine n_listX r4 w ?_
    intro p7 H7 hp4 s6 x4
    have ne4 := x1.ne hp4
    have ne5 := x2.ne hp4
    have ne6 := x3.ne hp4
    replace r1 := Rep.mono _ s6.g r1
    replace r2 := Rep.mono _ s6.g r2
    replace r3 := Rep.mono _ s6.g r3
    replace r4 := Rep.mono _ s6.g r4
    replace x1 := x1.step s6
    replace x2 := x2.step s6
    replace x3 := x3.step s6
    replace w := w.tr s6
    refine a_nil ?_
    obtain ⟨F5, w1, g1, r8, fz1⟩ := x1.frzE w
    replace r1 := Rep.mono _ g1 r1
    replace r2 := Rep.mono _ g1 r2
    replace r3 := Rep.mono _ g1 r3
    replace r4 := Rep.mono _ g1 r4
    replace x2 := x2.frzO fz1 (Ne.symm ne1) g1
    replace x3 := x3.frzO fz1 (Ne.symm ne2) g1
    replace x4 := x4.frzO fz1 (Ne.symm ne4) g1
    replace w := w1
    obtain ⟨F6, w2, g2, r9, fz2⟩ := x2.frzE w
    replace r1 := Rep.mono _ g2 r1
    replace r2 := Rep.mono _ g2 r2
    replace r3 := Rep.mono _ g2 r3
    replace r4 := Rep.mono _ g2 r4
    replace r8 := Rep.mono _ g2 r8
    replace x3 := x3.frzO fz2 (Ne.symm ne3) g2
    replace x4 := x4.frzO fz2 (Ne.symm ne5) g2
    replace w := w2
    obtain ⟨F7, w3, g3, r10, fz3⟩ := x3.frzE w
    replace r1 := Rep.mono _ g3 r1
    replace r2 := Rep.mono _ g3 r2
    replace r3 := Rep.mono _ g3 r3
    replace r4 := Rep.mono _ g3 r4
    replace r8 := Rep.mono _ g3 r8
    replace r9 := Rep.mono _ g3 r9
    replace x4 := x4.frzO fz3 (Ne.symm ne6) g3
    replace w := w3
    obtain ⟨F8, w4, g4, r11, fz4⟩ := x4.frzE w
    replace r1 := Rep.mono _ g4 r1
    replace r2 := Rep.mono _ g4 r2
    replace r3 := Rep.mono _ g4 r3
    replace r4 := Rep.mono _ g4 r4
    replace r8 := Rep.mono _ g4 r8
    replace r9 := Rep.mono _ g4 r9
    replace r10 := Rep.mono _ g4 r10
    replace w := w4
    refine n_tup4 (e := (pL pS)) (f := (pL (pT2 pS (pTL pS)))) (g := (pL (pT2 pS pS))) (i := (pL pS)) (x := ins1) (x2 := ys1) (x3 := stores1) (x4 := outs1) r8 r9 r10 r11 w ?_
    intro p8 F9 H8 s7 r12
    replace r1 := Rep.mono _ s7.g r1
    replace r2 := Rep.mono _ s7.g r2
    replace r3 := Rep.mono _ s7.g r3
    replace r4 := Rep.mono _ s7.g r4
    replace r8 := Rep.mono _ s7.g r8
    replace r9 := Rep.mono _ s7.g r9
    replace r10 := Rep.mono _ s7.g r10
    replace r11 := Rep.mono _ s7.g r11
    replace w := w.tr s7
    exact hQ _ hW _ _ _ w r12
abbrev s_ladder : Stmt := topS 31
def W_ladder (sums1 : List (Str × List Str)) (R : (List (Str × List Str)) → Prop) : Prop := (sums1.length ≤ 40) ∧ (40 - sums1.length < 1000000) ∧ forW (List.range (40 - sums1.length)) sums1 (fun k1 found1 nx1 bk1 => (k1.log2 < 1920) ∧ ((PySem.Str.ofString "l").length + (strN k1).length < 1000000) ∧ (((PySem.Str.ofString "l") ++ (strN k1)).length + (PySem.Str.ofString "l").length < 1000000) ∧ (k1 < 1000000) ∧ (((max ((0 : Nat) : Int) (((k1 : Nat) : Int) - ((2 : Nat) : Int))).toNat) < 1000000) ∧ ((List.range' ((max ((0 : Nat) : Int) (((k1 : Nat) : Int) - ((2 : Nat) : Int))).toNat) (k1 - ((max ((0 : Nat) : Int) (((k1 : Nat) : Int) - ((2 : Nat) : Int))).toNat))).length < 1000000) ∧ compW (List.range' ((max ((0 : Nat) : Int) (((k1 : Nat) : Int) - ((2 : Nat) : Int))).toNat) (k1 - ((max ((0 : Nat) : Int) (((k1 : Nat) : Int) - ((2 : Nat) : Int))).toNat))) (fun j1 kk => (j1.log2 < 1920) ∧ ((PySem.Str.ofString "l").length + (strN j1).length < 1000000) ∧ (((PySem.Str.ofString "l") ++ (strN j1)).length + (PySem.Str.ofString "l").length < 1000000) ∧ kk (some (((PySem.Str.ofString "l") ++ (strN j1)) ++ (PySem.Str.ofString "l")))) fun ys1 => (found1.length < 1000000) ∧ nx1 (found1 ++ [(((PySem.Str.ofString "l") ++ (strN k1)) ++ (PySem.Str.ofString "l"), ys1)])) fun found1 => R found1.reverse
def sp_ladder (K : PySem.W.Frag) (cc : Cz) : Sp := fun vs H Q _ => ∃ (F : Hp) (v1 : V) (sums1 : List (Str × List Str)) (R : (List (Str × List Str)) → Prop), vs = [v1] ∧ Ex F H ∧ (pL (pT2 pS (pL pS))).r F v1 sums1 ∧ W_ladder sums1 R ∧ ∀ z, R z → ∀ p F' H', Wf F H F' H' → XL (pT2 pS (pL pS)) H F' H' p z → Q (.ref p) H'
abbrev N_ladder : List Str := ["_law_sums", "_law_found", "_law_k", "_law_j"]
theorem sc_ladder : FnScope N_ladder ["_law_sums"] (defScope s_ladder) := ⟨rfl, rfl, rfl, by decide +kernel, rfl, by decide +kernel, by decide +kernel⟩
theorem ok_ladder {P : Program} {w0 : World} {K : PySem.W.Frag} {mg : Str → Option Value} {base : Heap} {f : Addr} {fd : FuncData} {cc : Cz} (T : Tz K mg cc) (FU : Fun K "_law_ladder" "_law_ladder" s_ladder f fd) (hm : mg "_law_ladder" = some (.ref f)) (hb : Binds K fd ["_law_sums"] []) (n_len : mg "len" = none) (n_list : mg "list" = none) (n_max : mg "max" = none) (n_range : mg "range" = none) (n_str : mg "str" = none) : Fn P w0 K mg base CX0 1 "_law_ladder" ["_law_sums"] (sp_ladder K cc) := by
  refine ⟨f, fd, FU.ok sc_ladder (fun vs H Q E h => ?_) (fun cdv A outer s H0 vs Q E hr h => ?_), hm, FU.kp, hb⟩
  · obtain ⟨_, _, _, _, rfl, _⟩ := h; rfl
  · obtain ⟨F0, v1, sums1, R, rfl, wf, r1, hW, hQ⟩ := h
    have nd := sc_ladder.nd
    refine ⟨(tSeq (tAsg (tCB (rListOf K) (tCons (tVar 0) tNil)) (gName 1)) (tSeq (tFor (iRng1 (tCons (tOp kSub (tC (.int 40)) (tCB (Wk.rLen K) (tCons (tVar 0) tNil))) tNil)) (gName 2) (tDrop (tBM K "list" rAppend (tVar 1) (tCons (tTup (tCons (tOp kAddS (tOp kAddS (tC (.str (PySem.Str.ofString "l"))) (tCB rStrI (tCons (tVar 2) tNil))) (tC (.str (PySem.Str.ofString "l")))) (tCons (tLc (iRng2 (tCons (tCB rMax2 (tCons (tC (.int 0)) (tCons (tOp kSub (tVar 2) (tC (.int 2))) tNil))) (tCons (tVar 2) tNil))) (gName 3) tYes (tOp kAddS (tOp kAddS (tC (.str (PySem.Str.ofString "l"))) (tCB rStrI (tCons (tVar 3) tNil))) (tC (.str (PySem.Str.ofString "l")))) [3]) tNil))) tNil)))) (tSeq (tDrop (tBM0 K "list" rReverse (tVar 1))) (tRet (tVar 1))))), (pss_cons (ps_set (i := 1) nd rfl (Or.inl rfl) (pe_callTy call_list_of (by rfl) n_list PyProof.Rows.boot_list (pa_cons (pv 0) pa_nil))) (pss_cons (ps_for PassesOwn.never rfl (pi_range1 rfl n_range (pa_cons (pe_op op_sub pe_int (pe_callB call_len_seq (by rfl) n_len PySem.boot_len (pa_cons (pv 0) pa_nil))) pa_nil)) (pg_name (i := 2) nd rfl (Or.inl rfl)) (pss_one (ps_expr (pe_bm PySem.F.plainAttrs_list PySem.F.slot_list_append PySem.F.type_list_append mt_append (pv 1) (pa_cons (pe_tup (pa_cons (pe_op op_addS (pe_op op_addS pe_str (pe_callTy call_str_int (by rfl) n_str PyProof.Rows.boot_str (pa_cons (pv 2) pa_nil))) pe_str) (pa_cons (pe_lc (own := [("_law_j", 3)]) (wi := (iRng2 (tCons (tCB rMax2 (tCons (tC (.int 0)) (tCons (tOp kSub (tVar 2) (tC (.int 2))) tNil))) (tCons (tVar 2) tNil)))) (g := (gName 3)) (tt := tYes) (te := (tOp kAddS (tOp kAddS (tC (.str (PySem.Str.ofString "l"))) (tCB rStrI (tCons (tVar 3) tNil))) (tC (.str (PySem.Str.ofString "l"))))) rfl nd (pi_range2 rfl n_range (pa_cons (pe_callB (call_max2 rfl) (by rfl) n_max PyProof.Rows.boot_max (pa_cons pe_int (pa_cons (pe_op op_sub (pv 2) pe_int) pa_nil))) (pa_cons (pv 2) pa_nil))) (blkOk_by (N := N_ladder) (sc := defScope s_ladder) (by decide +kernel)) (fun _ _ _ _ _ => (pg_name (i := 3) nd rfl (Or.inl rfl))) (fun _ _ _ _ _ => pts_nil) (fun _ _ _ _ _ => (pe_op op_addS (pe_op op_addS pe_str (pe_callTy call_str_int (by rfl) n_str PyProof.Rows.boot_str (pa_cons (pv 3) pa_nil))) pe_str))) pa_nil))) pa_nil))))) (pss_cons (ps_expr (pe_bm0 PySem.F.plainAttrs_list PySem.F.slot_list_reverse PySem.F.type_list_reverse mt_reverse (pv 1))) (pss_one (ps_ret (pv 1)))))), ?_⟩
    have w := Wf.id wf
    refine q_sq fun N1 hN1 => ?_
    refine a_asgE ?_
    refine e_cb ?_
    refine a_val (v := v1) (val_var rfl) ?_
    refine a_nil ?_
    refine n_listX r1 w ?_
    intro p1 H1 hp1 s1 x1
    replace r1 := Rep.mono _ s1.g r1
    replace w := w.tr s1
    refine hN1 _ _ ?_
    refine q_sq fun N2 hN2 => ?_
    refine f_RE ?_
    obtain ⟨c1, hW⟩ := hW
    refine e_val (v := (.int ((40 - sums1.length : Nat) : Int))) (vn_sub val_c (len_L r1 w.f (val_var rfl)) c1) ?_
    obtain ⟨c2, hW⟩ := hW
    refine w_forR (S := List (Str × List Str)) (fun found1 σ' F' H' => ∃ (o1 : Option V), Wf F0 H0 F' H' ∧ Ex F0 F' ∧ σ' = [some v1, some ((.ref p1)), o1, none] ∧ XL (pT2 pS (pL pS)) H0 F' H' p1 found1) c2 hW ⟨_, w, Ex.rfl', rfl, x1⟩ ?_ ?_
    · intro N3 Bk1 k1 found1 σ' F1 H2 nx1 bk1 hI1 hx1 hW hN3 hB1
      obtain ⟨o1, w, gx1, rfl, x2⟩ := hI1
      have r1 := Rep.mono _ gx1 r1
      refine g_name ?_
      refine a_dropE ?_
      refine m_list x2 (val_var rfl) ?_
      refine a_cons ?_
      refine e_tup ?_
      refine a_cons ?_
      refine e_op ?_
      refine e_op ?_
      refine e_val (v := (.str ((PySem.Str.ofString "l")))) val_c ?_
      refine e_cb ?_
      refine a_val (v := (.int ((k1 : Nat) : Int))) (val_var rfl) ?_
      refine a_nil ?_
      obtain ⟨c3, hW⟩ := hW
      refine rcb1 (z := .str (strN k1)) (vn_str c3 val_c) ?_
      obtain ⟨c4, hW⟩ := hW
      refine rv2 (z := (.str ((PySem.Str.ofString "l") ++ (strN k1)))) (v_addS val_c val_c c4) ?_
      refine e_val (v := (.str ((PySem.Str.ofString "l")))) val_c ?_
      obtain ⟨c5, hW⟩ := hW
      refine rv2 (z := (.str (((PySem.Str.ofString "l") ++ (strN k1)) ++ (PySem.Str.ofString "l")))) (v_addS val_c val_c c5) ?_
      refine a_cons ?_
      refine c_J ?_
      refine a_val (v := (.int (((max ((0 : Nat) : Int) (((k1 : Nat) : Int) - ((2 : Nat) : Int))).toNat : Nat) : Int))) (vi_of (vi_max2 val_c (vi0 (val_var rfl) val_c)) (show max ((0 : Nat) : Int) (((k1 : Nat) : Int) - ((2 : Nat) : Int)) = (((max ((0 : Nat) : Int) (((k1 : Nat) : Int) - ((2 : Nat) : Int))).toNat : Nat) : Int) from (by omega))) ?_
      refine a_val (v := (.int ((k1 : Nat) : Int))) (val_var rfl) ?_
      refine a_nil ?_
      obtain ⟨c6, hW⟩ := hW
      obtain ⟨c7, hW⟩ := hW
      refine src_range2 (F := F1) c6 c7 (fun T1 => ?_)
      obtain ⟨c8, hW⟩ := hW
      refine w_compG (e := pS) T1 w c8 hW ?_ ?_
      · intro Qy Qn j1 u2 F2 H3 R1 q1 hx2 ru2 hW hy1 hn1
        have r1 := Rep.mono _ q1.g r1
        have x2 := x2.step q1
        have w := Wf.id q1.f
        obtain rfl : u2 = (.int ((j1 : Nat) : Int)) := ru2
        refine ⟨rfl, ?_⟩
        refine c_yes ?_
        refine e_op ?_
        refine e_op ?_
        refine e_val (v := (.str ((PySem.Str.ofString "l")))) val_c ?_
        refine e_cb ?_
        refine a_val (v := (.int ((j1 : Nat) : Int))) (val_var rfl) ?_
        refine a_nil ?_
        obtain ⟨c9, hW⟩ := hW
        refine rcb1 (z := .str (strN j1)) (vn_str c9 val_c) ?_
        obtain ⟨c10, hW⟩ := hW
        refine rv2 (z := (.str ((PySem.Str.ofString "l") ++ (strN j1)))) (v_addS val_c val_c c10) ?_
        refine e_val (v := (.str ((PySem.Str.ofString "l")))) val_c ?_
        obtain ⟨c11, hW⟩ := hW
        refine rv2 (z := (.str (((PySem.Str.ofString "l") ++ (strN j1)) ++ (PySem.Str.ofString "l")))) (v_addS val_c val_c c11) ?_
        exact hy1 _ _ _ _ w rfl hW
      intro p2 ys1 F3 H4 hp2 s3 x3 hW
      have ne1 := x2.ne hp2
      replace r1 := Rep.mono _ s3.g r1
      replace x2 := x2.step s3
      replace w := w.tr s3
      replace gx1 := Ex.tr gx1 s3.g
      refine a_nil ?_
      obtain ⟨F4, w1, g1, r2, fz1⟩ := x3.frzE w
      replace r1 := Rep.mono _ g1 r1
      replace x2 := x2.frzO fz1 ne1 g1
      replace w := w1
      replace gx1 := Ex.tr gx1 g1
      refine n_tup2 (e := pS) (f := (pL pS)) (x := ((PySem.Str.ofString "l") ++ (strN k1)) ++ (PySem.Str.ofString "l")) (y := ys1) rfl r2 w ?_
      intro p3 F5 H5 s4 r3
      replace r1 := Rep.mono _ s4.g r1
      replace x2 := x2.step s4
      replace r2 := Rep.mono _ s4.g r2
      replace w := w.tr s4
      replace gx1 := Ex.tr gx1 s4.g
      refine a_nil ?_
      obtain ⟨c12, hW⟩ := hW
      refine a_app x2 w c12 r3 (fun H6 w2 x4 kp1 => ?_)
      replace w := w2
      exact hN3 (found1 ++ [(((PySem.Str.ofString "l") ++ (strN k1)) ++ (PySem.Str.ofString "l"), ys1)]) _ _ _ ⟨_, w, gx1, rfl, x4⟩ hW
    · intro found1 σ' F6 H7 hI2 hW
      obtain ⟨o1, w, gx2, rfl, x2⟩ := hI2
      have r1 := Rep.mono _ gx2 r1
      refine hN2 _ _ ?_
      refine q_sq fun N4 hN4 => ?_
      refine a_dropE ?_
      refine m_list0 x2 (val_var rfl) ?_
      refine a_rev x2 w (fun H8 w3 x5 kp2 => ?_)
      replace w := w3
      refine hN4 _ _ ?_
      refine a_ret (v := (.ref p1)) (val_var rfl) ?_
      exact hQ _ hW _ _ _ w x5
abbrev s_missing : Stmt := topS 32
def W_missing (net_here1 : List (Str × WireV) × List Str × List Str × List (Str × Bool)) (thing1 : An) (R : Bool → Prop) : Prop := jn (fun kk => W_Net_wire_of net_here1.1 thing1 (fun zx1 => kk [zx1]) fun z1 => kk ([] : List An)) fun told_here1 => (aok (An.l told_here1) = true ∧ aok (An.l [thing1]) = true) ∧ R (decide (aeq (An.l told_here1) (An.l [thing1]) = true))
def sp_missing (K : PySem.W.Frag) (cc : Cz) : Sp := fun vs H Q _ => ∃ (F : Hp) (v1 : V) (net_here1 : List (Str × WireV) × List Str × List Str × List (Str × Bool)) (v2 : V) (thing1 : An) (R : Bool → Prop), vs = [v1, v2] ∧ Ex F H ∧ (pO4 cc.Net "all" "ends" "line_up" "laid" (pD (κ := Str) (pW cc.InWire cc.SumWire cc.StoreWire)) (pL pS) (pL pS) (pD (κ := Str) pB)).r F v1 net_here1 ∧ pA.r F v2 thing1 ∧ W_missing net_here1 thing1 R ∧ ∀ z, R z → ∀ F' H', Wf F H F' H' → Q (.bl (z)) H'
abbrev N_missing : List Str := ["_law_net_here", "_law_thing", "_law_told_here", "e"]
theorem sc_missing : FnScope N_missing ["_law_net_here", "_law_thing"] (defScope s_missing) := ⟨rfl, rfl, rfl, by decide +kernel, rfl, by decide +kernel, by decide +kernel⟩
theorem ok_missing {P : Program} {w0 : World} {K : PySem.W.Frag} {mg : Str → Option Value} {base : Heap} {f : Addr} {fd : FuncData} {cc : Cz} (T : Tz K mg cc) (FU : Fun K "_law_missing" "_law_missing" s_missing f fd) (hm : mg "_law_missing" = some (.ref f)) (hb : Binds K fd ["_law_net_here", "_law_thing"] []) (c_Net_wire_of : Md P w0 K mg base (L2.CX P w0) 4 cc.Net "wire_of" ["self", "name"] (sp_Net_wire_of K cc)) : Fn P w0 K mg base CX0 5 "_law_missing" ["_law_net_here", "_law_thing"] (sp_missing K cc) := by
  refine ⟨f, fd, FU.ok sc_missing (fun vs H Q E h => ?_) (fun cdv A outer s H0 vs Q E hr h => ?_), hm, FU.kp, hb⟩
  · obtain ⟨_, _, _, _, _, _, rfl, _⟩ := h; rfl
  · obtain ⟨F0, v1, net_here1, v2, thing1, R, rfl, wf, r1, r2, hW, hQ⟩ := h
    have nd := sc_missing.nd
    refine ⟨(tSeq (tAsg (tLst tNil) (gName 2)) (tSeq (tTryAs K (.ref cc.NoWire) 3 (fun W1 => (tDrop (tMdS cc.Net "wire_of" (sp_Net_wire_of K cc) (WE W1) (tVar 0) (tCons (tVar 1) tNil)))) (fun ea ec ed => (tAsg (tLst (tCons (tXf ea ec ed cc.NoWire "name" (tVar 3)) tNil)) (gName 2))) (fun _ _ _ _ => False)) (tRet (tOp (L2.rEqD K) (tVar 2) (tLst (tCons (tVar 1) tNil)))))), (pss_cons (ps_set (i := 2) nd rfl (Or.inl rfl) (pe_lst pa_nil)) (pss_cons (ps_try_as (i := 3) (tb := fun W1 => (tDrop (tMdS cc.Net "wire_of" (sp_Net_wire_of K cc) (WE W1) (tVar 0) (tCons (tVar 1) tNil)))) (ts := fun ea ec ed => (tAsg (tLst (tCons (tXf ea ec ed cc.NoWire "name" (tVar 3)) tNil)) (gName 2))) (Wout := (fun _ _ _ _ => False)) rfl rfl nd rfl rfl ⟨rfl, by decide, Or.inl T.xc_NoWire.g⟩ takes0 (fun W1 pn1 xe1 tk1 po1 => (pss_one (ps_expr (pe_mdS (W := W1) c_Net_wire_of tk1 T.cl_Net (hr.mono (by decide)) (pv 0) (pa_cons (pv 1) pa_nil))))) (fun ea oe ec ed pn hz hf => (pss_one (ps_set (i := 2) nd rfl (Or.inl rfl) (pe_lst (pa_cons (pe_xf T.xc_NoWire.xf T.xc_NoWire.no hz hf (pv 3)) pa_nil)))))) (pss_one (ps_ret (pe_cmpR (op_eqD hr.units) (pv 2) (pe_lst (pa_cons (pv 1) pa_nil)) (nomark _)))))), ?_⟩
    have w := Wf.id wf
    refine q_sq fun N1 hN1 => ?_
    refine a_asgE ?_
    refine e_lst ?_
    refine a_nil ?_
    refine n_lstX (e := pA) (xs := []) (vs := []) (show All pA _ [] [] from trivial) (show 0 < 1000000 from by decide) w ?_
    intro p1 H1 hp1 s1 x1
    replace r1 := Rep.mono _ s1.g r1
    replace r2 := Rep.mono _ s1.g r2
    replace w := w.tr s1
    obtain ⟨F1, w1, g1, r3, fz1⟩ := x1.frzE w
    replace r1 := Rep.mono _ g1 r1
    replace r2 := Rep.mono _ g1 r2
    replace w := w1
    refine hN1 _ _ ?_
    refine q_jn (S := List An) hW (fun told_here1 σ' F' H' => ∃ (v3 : V), Wf F0 H0 F' H' ∧ Ex F1 F' ∧ σ' = [some v1, some v2, some v3, none] ∧ (pL pA).r F' v3 told_here1) ?_ ?_
    · intro N2 hN2 hW
      have gx1 : Ex F1 F1 := Ex.rfl'
      refine a_tryAs ?_
      refine a_dropE ?_
      refine e_mdS ?_
      refine e_val (v := v1) (val_var rfl) ?_
      obtain ⟨p2, dx1, fs1, u1, u2, u3, u4, ev1, ho1, lk1, lk2, lk3, lk4, r5, r6, r7, r8, lm1⟩ := st_O4 r1 w.f
      have hu1 := w.f
      refine ⟨_, _, _, ev1, ho1, (lm1 _ (by decide +kernel) (by decide +kernel) (by decide +kernel) (by decide +kernel)), ?_⟩
      obtain ⟨d1, eq1, b1⟩ := D_bw r5 w.f
      refine a_val (v := v2) (val_var rfl) ?_
      refine a_nil ?_
      refine ⟨F1, p2, dx1, fs1, d1, (net_here1.1), (v2), (thing1), _, _, (by rw [ev1]), w.f, ho1, (by rw [lk1, eq1]), b1, r2, hW, ?_, ?_⟩
      · intro zx1 hW dx2 F2 H2 s2 rd1
        replace r1 := Rep.mono _ s2.g r1
        replace r2 := Rep.mono _ s2.g r2
        replace r3 := Rep.mono _ s2.g r3
        replace w := w.tr s2
        replace gx1 := Ex.tr gx1 s2.g
        refine a_excAs T.xm_NoWire_NoWire (fun a1 ha1 => ?_)
        refine a_asgE ?_
        refine e_lst ?_
        obtain ⟨v4, hx1, r9⟩ := pXd.get rd1
        refine a_val (v := v4) (v_xf rfl (w.f _ _ hx1)) ?_
        refine a_nil ?_
        refine n_lstX (e := pA) (xs := [zx1]) (vs := [v4]) (show All pA _ [v4] [zx1] from ⟨r9, trivial⟩) (show 1 < 1000000 from by decide) w ?_
        intro p3 H3 hp2 s3 x2
        replace r1 := Rep.mono _ s3.g r1
        replace r2 := Rep.mono _ s3.g r2
        replace r3 := Rep.mono _ s3.g r3
        replace rd1 := Rep.mono _ s3.g rd1
        replace r9 := Rep.mono _ s3.g r9
        replace w := w.tr s3
        replace gx1 := Ex.tr gx1 s3.g
        obtain ⟨F3, w2, g2, r10, fz2⟩ := x2.frzE w
        replace r1 := Rep.mono _ g2 r1
        replace r2 := Rep.mono _ g2 r2
        replace r3 := Rep.mono _ g2 r3
        replace rd1 := Rep.mono _ g2 rd1
        replace r9 := Rep.mono _ g2 r9
        replace w := w2
        replace gx1 := Ex.tr gx1 g2
        exact hN2 [zx1] _ _ _ ⟨_, w, gx1, rfl, r10⟩ hW
      intro z1 hW v5 F4 H4 s4 r11
      replace r1 := Rep.mono _ s4.g r1
      replace r2 := Rep.mono _ s4.g r2
      replace r3 := Rep.mono _ s4.g r3
      replace w := w.tr s4
      replace gx1 := Ex.tr gx1 s4.g
      exact hN2 ([] : List An) _ _ _ ⟨_, w, gx1, rfl, r3⟩ hW
    · intro told_here1 σ' F5 H5 hI1 hW
      obtain ⟨v3, w, gx2, rfl, r4⟩ := hI1
      have r1 := Rep.mono _ gx2 r1
      have r2 := Rep.mono _ gx2 r2
      refine a_retE ?_
      refine e_op ?_
      refine e_val (v := v3) (val_var rfl) ?_
      refine e_lst ?_
      refine a_val (v := v2) (val_var rfl) ?_
      refine a_nil ?_
      refine n_lstX (e := pA) (xs := [thing1]) (vs := [v2]) (show All pA _ [v2] [thing1] from ⟨r2, trivial⟩) (show 1 < 1000000 from by decide) w ?_
      intro p4 H6 hp3 s6 x3
      replace r1 := Rep.mono _ s6.g r1
      replace r2 := Rep.mono _ s6.g r2
      replace r4 := Rep.mono _ s6.g r4
      replace w := w.tr s6
      replace gx2 := Ex.tr gx2 s6.g
      obtain ⟨F6, w3, g3, r12, fz3⟩ := x3.frzE w
      replace r1 := Rep.mono _ g3 r1
      replace r2 := Rep.mono _ g3 r2
      replace r4 := Rep.mono _ g3 r4
      replace w := w3
      replace gx2 := Ex.tr gx2 g3
      have r13 : pA.r _ v3 (An.l told_here1) := an_l.mpr r4
      have r14 : pA.r _ (.ref p4) (An.l [thing1]) := an_l.mpr r12
      obtain ⟨c1, hW⟩ := hW
      refine rv2 (z := .bl (decide (aeq (An.l told_here1) (An.l [thing1]) = true))) (c_eqA (K := K) val_c val_c w.f r13 w.f r14 c1) ?_
      exact hQ _ hW _ _ w
abbrev s_wires_good : Stmt := topS 33
def W_wires_good (net_here1 : List (Str × WireV) × List Str × List Str × List (Str × Bool)) (ins1 : List Str) (sums1 : List (Str × List Str)) (stores1 : List (Str × Str)) (R : Bool → Prop) : Prop := forW (enumT ins1) () (fun it1 _ nx1 bk1 => W_Net_wire_of net_here1.1 (An.s it1.2) (fun _ => False) fun z1 => jn (fun kk => if ¬ (wTag z1 = 0) then (kk true) else (∃ y1, wNum z1 = some y1 ∧ (okV (pT2 pS pN) (wName z1, y1) ∧ okV (pT2 pS pN) (it1.2, it1.1)) ∧ kk (decide ((wName z1, y1) ≠ (it1.2, it1.1))))) fun b2 => if b2 = true then (R false) else (nx1 ())) fun _ => forW sums1 () (fun it2 _ nx2 bk2 => W_Net_wire_of net_here1.1 (An.s it2.1) (fun _ => False) fun z2 => jn (fun kk => if ¬ (wTag z2 = 1) then (kk true) else (∃ y2, wWires z2 = some y2 ∧ (okV (pT2 pS (pTL pS)) (wName z2, y2) ∧ okV (pT2 pS (pTL pS)) (it2.1, it2.2)) ∧ kk (decide ((wName z2, y2) ≠ (it2.1, it2.2))))) fun b4 => if b4 = true then (R false) else (nx2 ())) fun _ => forW (enumT stores1) () (fun it3 _ nx3 bk3 => W_Net_wire_of net_here1.1 (An.s it3.2.1) (fun _ => False) fun z3 => jn (fun kk => if ¬ (wTag z3 = 2) then (kk true) else (∃ y3, wWire z3 = some y3 ∧ ∃ y4, wNum z3 = some y4 ∧ (okV (pT3 pS pS pN) (wName z3, y3, y4) ∧ okV (pT3 pS pS pN) (it3.2.1, it3.2.2, it3.1)) ∧ kk (decide ((wName z3, y3, y4) ≠ (it3.2.1, it3.2.2, it3.1))))) fun b6 => if b6 = true then (R false) else (nx3 ())) fun _ => R true
def sp_wires_good (K : PySem.W.Frag) (cc : Cz) : Sp := fun vs H Q _ => ∃ (F : Hp) (v1 : V) (net_here1 : List (Str × WireV) × List Str × List Str × List (Str × Bool)) (v2 : V) (ins1 : List Str) (v3 : V) (sums1 : List (Str × List Str)) (v4 : V) (stores1 : List (Str × Str)) (R : Bool → Prop), vs = [v1, v2, v3, v4] ∧ Ex F H ∧ (pO4 cc.Net "all" "ends" "line_up" "laid" (pD (κ := Str) (pW cc.InWire cc.SumWire cc.StoreWire)) (pL pS) (pL pS) (pD (κ := Str) pB)).r F v1 net_here1 ∧ (pL pS).r F v2 ins1 ∧ (pL (pT2 pS (pL pS))).r F v3 sums1 ∧ (pL (pT2 pS pS)).r F v4 stores1 ∧ W_wires_good net_here1 ins1 sums1 stores1 R ∧ ∀ z, R z → ∀ F' H', Wf F H F' H' → Q (.bl (z)) H'
abbrev N_wires_good : List Str := ["_law_net_here", "_law_ins", "_law_sums", "_law_stores", "_law_k", "_law_name_here", "_law_one", "_law_wires_here", "_law_wire"]
theorem sc_wires_good : FnScope N_wires_good ["_law_net_here", "_law_ins", "_law_sums", "_law_stores"] (defScope s_wires_good) := ⟨rfl, rfl, rfl, by decide +kernel, rfl, by decide +kernel, by decide +kernel⟩
theorem ok_wires_good {P : Program} {w0 : World} {K : PySem.W.Frag} {mg : Str → Option Value} {base : Heap} {f : Addr} {fd : FuncData} {cc : Cz} (T : Tz K mg cc) (FU : Fun K "_law_wires_good" "_law_wires_good" s_wires_good f fd) (hm : mg "_law_wires_good" = some (.ref f)) (hb : Binds K fd ["_law_net_here", "_law_ins", "_law_sums", "_law_stores"] []) (c_Net_wire_of : Md P w0 K mg base (L2.CX P w0) 4 cc.Net "wire_of" ["self", "name"] (sp_Net_wire_of K cc)) (n_enumerate : mg "enumerate" = none) (n_isinstance : mg "isinstance" = none) (n_tuple : mg "tuple" = none) : Fn P w0 K mg base CX0 5 "_law_wires_good" ["_law_net_here", "_law_ins", "_law_sums", "_law_stores"] (sp_wires_good K cc) := by
  refine ⟨f, fd, FU.ok sc_wires_good (fun vs H Q E h => ?_) (fun cdv A outer s H0 vs Q E hr h => ?_), hm, FU.kp, hb⟩
  · obtain ⟨_, _, _, _, _, _, _, _, _, _, rfl, _⟩ := h; rfl
  · obtain ⟨F0, v1, net_here1, v2, ins1, v3, sums1, v4, stores1, R, rfl, wf, r1, r2, r3, r4, hW, hQ⟩ := h
    have nd := sc_wires_good.nd
    refine ⟨(tSeq (tFor (iEnum K (tCons (tVar 1) tNil)) (gTup K 2 (gCons (gName 4) (gCons (gName 5) gNil))) (tSeq (tAsg (tMeth cc.Net "wire_of" (sp_Net_wire_of K cc) [] E0 (tVar 0) (tCons (tVar 5) tNil)) (gName 6)) (tIfS (tOr (tNot (tB (tCB (rIsi K) (tCons (tVar 6) (tCons (tC (.ref cc.InWire)) tNil))))) (tTest (tOp (L2.rNeD K) (tTup (tCons (tFld K (tVar 6) "name") (tCons (tFld K (tVar 6) "number") tNil))) (tTup (tCons (tVar 5) (tCons (tVar 4) tNil)))))) (tRet (tC (.bl false))) tNext))) (tSeq (tFor (iList K (tVar 2)) (gTup K 2 (gCons (gName 5) (gCons (gName 7) gNil))) (tSeq (tAsg (tMeth cc.Net "wire_of" (sp_Net_wire_of K cc) [] E0 (tVar 0) (tCons (tVar 5) tNil)) (gName 6)) (tIfS (tOr (tNot (tB (tCB (rIsi K) (tCons (tVar 6) (tCons (tC (.ref cc.SumWire)) tNil))))) (tTest (tOp (L2.rNeD K) (tTup (tCons (tFld K (tVar 6) "name") (tCons (tFld K (tVar 6) "wires") tNil))) (tTup (tCons (tVar 5) (tCons (tCB (rTupOf K) (tCons (tVar 7) tNil)) tNil)))))) (tRet (tC (.bl false))) tNext))) (tSeq (tFor (iEnum K (tCons (tVar 3) tNil)) (gTup K 2 (gCons (gName 4) (gCons (gTup K 2 (gCons (gName 5) (gCons (gName 8) gNil))) gNil))) (tSeq (tAsg (tMeth cc.Net "wire_of" (sp_Net_wire_of K cc) [] E0 (tVar 0) (tCons (tVar 5) tNil)) (gName 6)) (tIfS (tOr (tNot (tB (tCB (rIsi K) (tCons (tVar 6) (tCons (tC (.ref cc.StoreWire)) tNil))))) (tTest (tOp (L2.rNeD K) (tTup (tCons (tFld K (tVar 6) "name") (tCons (tFld K (tVar 6) "wire") (tCons (tFld K (tVar 6) "number") tNil)))) (tTup (tCons (tVar 5) (tCons (tVar 8) (tCons (tVar 4) tNil))))))) (tRet (tC (.bl false))) tNext))) (tRet (tC (.bl true)))))), (pss_cons (ps_for PassesOwn.never rfl (pi_enum (by rfl) n_enumerate (pa_cons (pv 1) pa_nil)) (pg_tup rfl (pgs_cons (pg_name (i := 4) nd rfl (Or.inl rfl)) (pgs_cons (pg_name (i := 5) nd rfl (Or.inl rfl)) pgs_nil)) (by rfl)) (pss_cons (ps_set (i := 6) nd rfl (Or.inl rfl) (pe_mdL c_Net_wire_of T.cl_Net (hr.mono (by decide)) (pv 0) (pa_cons (pv 5) pa_nil))) (pss_one (ps_if (PW.pt (pw_or (pt_not (pt_val (pe_callB call_isi (by rfl) n_isinstance PyProof.Rows.boot_isinstance (pa_cons (pv 6) (pa_cons (pe_glob (by rfl) T.ci_InWire.g rfl) pa_nil))))) (pw_or1 (pt_cmpR (op_neD hr.units) (pe_tup (pa_cons (pe_fld (pv 6) rfl) (pa_cons (pe_fld (pv 6) rfl) pa_nil))) (pe_tup (pa_cons (pv 5) (pa_cons (pv 4) pa_nil))) (nomark _))))) (pss_one (ps_ret pe_bl)) pss_nil)))) (pss_cons (ps_for PassesOwn.never rfl (pi_list (pv 2)) (pg_tup rfl (pgs_cons (pg_name (i := 5) nd rfl (Or.inl rfl)) (pgs_cons (pg_name (i := 7) nd rfl (Or.inl rfl)) pgs_nil)) (by rfl)) (pss_cons (ps_set (i := 6) nd rfl (Or.inl rfl) (pe_mdL c_Net_wire_of T.cl_Net (hr.mono (by decide)) (pv 0) (pa_cons (pv 5) pa_nil))) (pss_one (ps_if (PW.pt (pw_or (pt_not (pt_val (pe_callB call_isi (by rfl) n_isinstance PyProof.Rows.boot_isinstance (pa_cons (pv 6) (pa_cons (pe_glob (by rfl) T.ci_SumWire.g rfl) pa_nil))))) (pw_or1 (pt_cmpR (op_neD hr.units) (pe_tup (pa_cons (pe_fld (pv 6) rfl) (pa_cons (pe_fld (pv 6) rfl) pa_nil))) (pe_tup (pa_cons (pv 5) (pa_cons (pe_callTy call_tuple_of (by rfl) n_tuple PyProof.Rows.boot_tuple (pa_cons (pv 7) pa_nil)) pa_nil))) (nomark _))))) (pss_one (ps_ret pe_bl)) pss_nil)))) (pss_cons (ps_for PassesOwn.never rfl (pi_enum (by rfl) n_enumerate (pa_cons (pv 3) pa_nil)) (pg_tup rfl (pgs_cons (pg_name (i := 4) nd rfl (Or.inl rfl)) (pgs_cons (pg_tup rfl (pgs_cons (pg_name (i := 5) nd rfl (Or.inl rfl)) (pgs_cons (pg_name (i := 8) nd rfl (Or.inl rfl)) pgs_nil)) (by rfl)) pgs_nil)) (by rfl)) (pss_cons (ps_set (i := 6) nd rfl (Or.inl rfl) (pe_mdL c_Net_wire_of T.cl_Net (hr.mono (by decide)) (pv 0) (pa_cons (pv 5) pa_nil))) (pss_one (ps_if (PW.pt (pw_or (pt_not (pt_val (pe_callB call_isi (by rfl) n_isinstance PyProof.Rows.boot_isinstance (pa_cons (pv 6) (pa_cons (pe_glob (by rfl) T.ci_StoreWire.g rfl) pa_nil))))) (pw_or1 (pt_cmpR (op_neD hr.units) (pe_tup (pa_cons (pe_fld (pv 6) rfl) (pa_cons (pe_fld (pv 6) rfl) (pa_cons (pe_fld (pv 6) rfl) pa_nil)))) (pe_tup (pa_cons (pv 5) (pa_cons (pv 8) (pa_cons (pv 4) pa_nil)))) (nomark _))))) (pss_one (ps_ret pe_bl)) pss_nil)))) (pss_one (ps_ret pe_bl))))), ?_⟩
    have w := Wf.id wf
    refine q_sq fun N1 hN1 => ?_
    refine f_J ?_
    refine a_val (v := v2) (val_var rfl) ?_
    refine a_nil ?_
    refine src_enum r2 w.f (fun a1 T1 => ?_)
    refine w_forG (S := Unit) T1 (fun _ σ' F' H' => ∃ (o1 : Option V) (o2 : Option V) (o3 : Option V), Wf F0 H0 F' H' ∧ Ex F0 F' ∧ σ' = [some v1, some v2, some v3, some v4, o1, o2, o3, none, none]) hW ⟨_, _, _, w, Ex.rfl', rfl⟩ (fun s σ' F' H' hI => by obtain ⟨_, _, _, w', gx', _⟩ := hI; exact ⟨gx', w'.f⟩) w.f ?_ ?_
    · intro N2 Bk1 it1 u1 s1 σ' F1 H1 F2 H2 nx1 bk1 hI1 hx1 s2 ru1 hW hN2 hB1
      obtain ⟨o1, o2, o3, w, gx1, rfl⟩ := hI1
      have r1 := Rep.mono _ gx1 r1
      have r2 := Rep.mono _ gx1 r2
      have r3 := Rep.mono _ gx1 r3
      have r4 := Rep.mono _ gx1 r4
      replace r1 := Rep.mono _ s2.g r1
      replace r2 := Rep.mono _ s2.g r2
      replace r3 := Rep.mono _ s2.g r3
      replace r4 := Rep.mono _ s2.g r4
      replace w := w.tr s2
      replace gx1 := Ex.tr gx1 s2.g
      obtain ⟨p1, u2, u3, rfl, h1, rfl, rfl⟩ := ru1
      refine ⟨p1, _, rfl, SqT.of (w.f _ _ h1), rfl, _, _, rfl, _, _, rfl, rfl, ?_⟩
      refine q_sq fun N3 hN3 => ?_
      refine a_asgE ?_
      refine e_md ?_
      refine e_val (v := v1) (val_var rfl) ?_
      obtain ⟨p2, dx1, fs1, u4, u5, u6, u7, ev1, ho1, lk1, lk2, lk3, lk4, r5, r6, r7, r8, lm1⟩ := st_O4 r1 w.f
      have hu1 := w.f
      refine ⟨_, _, _, ev1, ho1, (lm1 _ (by decide +kernel) (by decide +kernel) (by decide +kernel) (by decide +kernel)), ?_⟩
      obtain ⟨d1, eq1, b1⟩ := D_bw r5 w.f
      refine a_val (v := (.str (it1.2))) (val_var rfl) ?_
      refine a_nil ?_
      refine ⟨F2, p2, dx1, fs1, d1, (net_here1.1), ((.str (it1.2))), ((An.s it1.2)), _, _, (by rw [ev1]), w.f, ho1, (by rw [lk1, eq1]), b1, (show pA.r _ (.str (it1.2)) (An.s it1.2) from rfl), hW, ?_, ?_⟩
      · intro _ hW; exact hW.elim
      intro z1 hW v5 F3 H3 s3 r9
      replace r1 := Rep.mono _ s3.g r1
      replace r2 := Rep.mono _ s3.g r2
      replace r3 := Rep.mono _ s3.g r3
      replace r4 := Rep.mono _ s3.g r4
      replace w := w.tr s3
      replace gx1 := Ex.tr gx1 s3.g
      refine hN3 _ _ ?_
      refine a_ifE ?_
      refine e_jnT hW (fun b F' H' => b = b ∧ Wf F0 H0 F' H' ∧ Ex F3 F') ?_ ?_
      · intro N4 hN4 hW
        have gx2 : Ex F3 F3 := Ex.rfl'
        refine e_tOr ?_
        refine e_ans (b := decide (¬ (wTag z1 = 0))) (t_not (t_ofB (v_isD (val_var rfl) (ty_W (tw_of T) r9 w.f) ((tw_of T).kI _)))) ?_
        refine b_if (fun hc1 => ?_) (fun hc1 => ?_)
        · have hW := ifP hW hc1
          exact hN4 true _ _ ⟨rfl, w, gx2⟩ hW
        · have hW := ifN hW hc1
          refine e_tT ?_
          refine e_op ?_
          refine e_tup ?_
          refine a_val (v := (.str (wName z1))) (fl_Wname (tw_of T) r9 w.f (val_var rfl)) ?_
          obtain ⟨y1, hy1, hW⟩ := hW
          refine a_val (v := (.int ((y1 : Nat) : Int))) (fl_Wnum (tw_of T) r9 w.f hy1 (val_var rfl)) ?_
          refine a_nil ?_
          refine n_tup2 (e := pS) (f := pN) (x := wName z1) (y := y1) rfl rfl w ?_
          intro p3 F4 H4 s4 r10
          replace r1 := Rep.mono _ s4.g r1
          replace r2 := Rep.mono _ s4.g r2
          replace r3 := Rep.mono _ s4.g r3
          replace r4 := Rep.mono _ s4.g r4
          replace r9 := Rep.mono _ s4.g r9
          replace w := w.tr s4
          replace gx2 := Ex.tr gx2 s4.g
          replace gx1 := Ex.tr gx1 s4.g
          refine e_tup ?_
          refine a_val (v := (.str (it1.2))) (val_var rfl) ?_
          refine a_val (v := (.int ((it1.1 : Nat) : Int))) (val_var rfl) ?_
          refine a_nil ?_
          refine n_tup2 (e := pS) (f := pN) (x := it1.2) (y := it1.1) rfl rfl w ?_
          intro p4 F5 H5 s5 r11
          replace r1 := Rep.mono _ s5.g r1
          replace r2 := Rep.mono _ s5.g r2
          replace r3 := Rep.mono _ s5.g r3
          replace r4 := Rep.mono _ s5.g r4
          replace r9 := Rep.mono _ s5.g r9
          replace r10 := Rep.mono _ s5.g r10
          replace w := w.tr s5
          replace gx2 := Ex.tr gx2 s5.g
          replace gx1 := Ex.tr gx1 s5.g
          obtain ⟨c1, hW⟩ := hW
          refine rv2T (b := decide ((wName z1, y1) ≠ (it1.2, it1.1))) (c_neO (K := K) (e := (pT2 pS pN)) val_c val_c w.f r10 w.f r11 c1) ?_
          exact hN4 (decide ((wName z1, y1) ≠ (it1.2, it1.1))) _ _ ⟨rfl, w, gx2⟩ hW
      intro b2 F6 H6 hI2 hW
      obtain ⟨_, w, gx3⟩ := hI2
      have r1 := Rep.mono _ gx3 r1
      have r2 := Rep.mono _ gx3 r2
      have r3 := Rep.mono _ gx3 r3
      have r4 := Rep.mono _ gx3 r4
      have r9 := Rep.mono _ gx3 r9
      have gx1 := Ex.tr gx1 gx3
      refine bb_if (fun hc2 => ?_) (fun hc2 => ?_)
      · have hW := ifP hW hc2
        refine a_ret (v := (.bl (false))) val_c ?_
        exact hQ _ hW _ _ w
      · have hW := ifN hW hc2
        exact hN2 () _ _ _ ⟨_, _, _, w, gx1, rfl⟩ hW
    · intro s6 σ' F7 H7 hI3 hW
      obtain ⟨o1, o2, o3, w, gx4, rfl⟩ := hI3
      have r1 := Rep.mono _ gx4 r1
      have r2 := Rep.mono _ gx4 r2
      have r3 := Rep.mono _ gx4 r3
      have r4 := Rep.mono _ gx4 r4
      refine hN1 _ _ ?_
      refine q_sq fun N5 hN5 => ?_
      refine f_LE ?_
      refine e_val (v := v3) (val_var rfl) ?_
      refine w_forL (S := Unit) (fun _ σ' F' H' => ∃ (o4 : Option V) (o5 : Option V) (o6 : Option V), Wf F0 H0 F' H' ∧ Ex F7 F' ∧ σ' = [some v1, some v2, some v3, some v4, o1, o4, o5, o6, none]) r3 hW ⟨_, _, _, w, Ex.rfl', rfl⟩ (fun s σ' F' H' hI => by obtain ⟨_, _, _, w', gx', _⟩ := hI; exact ⟨gx', w'.f⟩) w.f ?_ ?_
      · intro N6 Bk2 it2 u8 s7 σ' F8 H8 nx2 bk2 hI4 hx2 ru2 hW hN6 hB2
        obtain ⟨o4, o5, o6, w, gx5, rfl⟩ := hI4
        have r1 := Rep.mono _ gx5 r1
        have r2 := Rep.mono _ gx5 r2
        have r3 := Rep.mono _ gx5 r3
        have r4 := Rep.mono _ gx5 r4
        have gx4 := Ex.tr gx4 gx5
        obtain ⟨p5, u9, u10, rfl, h2, rfl, r12⟩ := ru2
        refine ⟨p5, _, rfl, SqT.of (w.f _ _ h2), rfl, _, _, rfl, _, _, rfl, rfl, ?_⟩
        refine q_sq fun N7 hN7 => ?_
        refine a_asgE ?_
        refine e_md ?_
        refine e_val (v := v1) (val_var rfl) ?_
        obtain ⟨p6, dx2, fs2, u11, u12, u13, u14, ev2, ho2, lk5, lk6, lk7, lk8, r13, r14, r15, r16, lm2⟩ := st_O4 r1 w.f
        have hu2 := w.f
        refine ⟨_, _, _, ev2, ho2, (lm2 _ (by decide +kernel) (by decide +kernel) (by decide +kernel) (by decide +kernel)), ?_⟩
        obtain ⟨d2, eq2, b3⟩ := D_bw r13 w.f
        refine a_val (v := (.str (it2.1))) (val_var rfl) ?_
        refine a_nil ?_
        refine ⟨F8, p6, dx2, fs2, d2, (net_here1.1), ((.str (it2.1))), ((An.s it2.1)), _, _, (by rw [ev2]), w.f, ho2, (by rw [lk5, eq2]), b3, (show pA.r _ (.str (it2.1)) (An.s it2.1) from rfl), hW, ?_, ?_⟩
        · intro _ hW; exact hW.elim
        intro z2 hW v6 F9 H9 s8 r17
        replace r1 := Rep.mono _ s8.g r1
        replace r2 := Rep.mono _ s8.g r2
        replace r3 := Rep.mono _ s8.g r3
        replace r4 := Rep.mono _ s8.g r4
        replace r12 := Rep.mono _ s8.g r12
        replace w := w.tr s8
        replace gx5 := Ex.tr gx5 s8.g
        replace gx4 := Ex.tr gx4 s8.g
        refine hN7 _ _ ?_
        refine a_ifE ?_
        refine e_jnT hW (fun b F' H' => b = b ∧ Wf F0 H0 F' H' ∧ Ex F9 F') ?_ ?_
        · intro N8 hN8 hW
          have gx6 : Ex F9 F9 := Ex.rfl'
          refine e_tOr ?_
          refine e_ans (b := decide (¬ (wTag z2 = 1))) (t_not (t_ofB (v_isD (val_var rfl) (ty_W (tw_of T) r17 w.f) ((tw_of T).kS _)))) ?_
          refine b_if (fun hc3 => ?_) (fun hc3 => ?_)
          · have hW := ifP hW hc3
            exact hN8 true _ _ ⟨rfl, w, gx6⟩ hW
          · have hW := ifN hW hc3
            refine e_tT ?_
            refine e_op ?_
            refine e_tup ?_
            refine a_val (v := (.str (wName z2))) (fl_Wname (tw_of T) r17 w.f (val_var rfl)) ?_
            obtain ⟨y2, hy2, hW⟩ := hW
            obtain ⟨v7, r18, fl1⟩ := fl_Wwires (tw_of T) r17 w.f hy2
            refine a_val (v := v7) (fl1 (val_var rfl)) ?_
            refine a_nil ?_
            refine n_tup2 (e := pS) (f := (pTL pS)) (x := wName z2) (y := y2) rfl r18 w ?_
            intro p7 F10 H10 s9 r19
            replace r1 := Rep.mono _ s9.g r1
            replace r2 := Rep.mono _ s9.g r2
            replace r3 := Rep.mono _ s9.g r3
            replace r4 := Rep.mono _ s9.g r4
            replace r12 := Rep.mono _ s9.g r12
            replace r17 := Rep.mono _ s9.g r17
            replace r18 := Rep.mono _ s9.g r18
            replace w := w.tr s9
            replace gx6 := Ex.tr gx6 s9.g
            replace gx5 := Ex.tr gx5 s9.g
            replace gx4 := Ex.tr gx4 s9.g
            refine e_tup ?_
            refine a_val (v := (.str (it2.1))) (val_var rfl) ?_
            refine a_cons ?_
            refine e_cb ?_
            refine a_val (v := u10) (val_var rfl) ?_
            refine a_nil ?_
            refine n_tupOf r12 w ?_
            intro p8 F11 H11 s10 r20
            replace r1 := Rep.mono _ s10.g r1
            replace r2 := Rep.mono _ s10.g r2
            replace r3 := Rep.mono _ s10.g r3
            replace r4 := Rep.mono _ s10.g r4
            replace r12 := Rep.mono _ s10.g r12
            replace r17 := Rep.mono _ s10.g r17
            replace r18 := Rep.mono _ s10.g r18
            replace r19 := Rep.mono _ s10.g r19
            replace w := w.tr s10
            replace gx6 := Ex.tr gx6 s10.g
            replace gx5 := Ex.tr gx5 s10.g
            replace gx4 := Ex.tr gx4 s10.g
            refine a_nil ?_
            refine n_tup2 (e := pS) (f := (pTL pS)) (x := it2.1) (y := it2.2) rfl r20 w ?_
            intro p9 F12 H12 s11 r21
            replace r1 := Rep.mono _ s11.g r1
            replace r2 := Rep.mono _ s11.g r2
            replace r3 := Rep.mono _ s11.g r3
            replace r4 := Rep.mono _ s11.g r4
            replace r12 := Rep.mono _ s11.g r12
            replace r17 := Rep.mono _ s11.g r17
            replace r18 := Rep.mono _ s11.g r18
            replace r19 := Rep.mono _ s11.g r19
            replace r20 := Rep.mono _ s11.g r20
            replace w := w.tr s11
            replace gx6 := Ex.tr gx6 s11.g
            replace gx5 := Ex.tr gx5 s11.g
            replace gx4 := Ex.tr gx4 s11.g
            obtain ⟨c2, hW⟩ := hW
            refine rv2T (b := decide ((wName z2, y2) ≠ (it2.1, it2.2))) (c_neO (K := K) (e := (pT2 pS (pTL pS))) val_c val_c w.f r19 w.f r21 c2) ?_
            exact hN8 (decide ((wName z2, y2) ≠ (it2.1, it2.2))) _ _ ⟨rfl, w, gx6⟩ hW
        intro b4 F13 H13 hI5 hW
        obtain ⟨_, w, gx7⟩ := hI5
        have r1 := Rep.mono _ gx7 r1
        have r2 := Rep.mono _ gx7 r2
        have r3 := Rep.mono _ gx7 r3
        have r4 := Rep.mono _ gx7 r4
        have r12 := Rep.mono _ gx7 r12
        have r17 := Rep.mono _ gx7 r17
        have gx5 := Ex.tr gx5 gx7
        have gx4 := Ex.tr gx4 gx7
        refine bb_if (fun hc4 => ?_) (fun hc4 => ?_)
        · have hW := ifP hW hc4
          refine a_ret (v := (.bl (false))) val_c ?_
          exact hQ _ hW _ _ w
        · have hW := ifN hW hc4
          exact hN6 () _ _ _ ⟨_, _, _, w, gx5, rfl⟩ hW
      · intro s12 σ' F14 H14 hI6 hW
        obtain ⟨o4, o5, o6, w, gx8, rfl⟩ := hI6
        have r1 := Rep.mono _ gx8 r1
        have r2 := Rep.mono _ gx8 r2
        have r3 := Rep.mono _ gx8 r3
        have r4 := Rep.mono _ gx8 r4
        have gx4 := Ex.tr gx4 gx8
        refine hN5 _ _ ?_
        refine q_sq fun N9 hN9 => ?_
        refine f_J ?_
        refine a_val (v := v4) (val_var rfl) ?_
        refine a_nil ?_
        refine src_enum r4 w.f (fun a2 T2 => ?_)
        refine w_forG (S := Unit) T2 (fun _ σ' F' H' => ∃ (o7 : Option V) (o8 : Option V) (o9 : Option V) (o10 : Option V), Wf F0 H0 F' H' ∧ Ex F14 F' ∧ σ' = [some v1, some v2, some v3, some v4, o7, o8, o9, o6, o10]) hW ⟨_, _, _, _, w, Ex.rfl', rfl⟩ (fun s σ' F' H' hI => by obtain ⟨_, _, _, _, w', gx', _⟩ := hI; exact ⟨gx', w'.f⟩) w.f ?_ ?_
        · intro N10 Bk3 it3 u15 s13 σ' F15 H15 F16 H16 nx3 bk3 hI7 hx3 s14 ru3 hW hN10 hB3
          obtain ⟨o7, o8, o9, o10, w, gx9, rfl⟩ := hI7
          have r1 := Rep.mono _ gx9 r1
          have r2 := Rep.mono _ gx9 r2
          have r3 := Rep.mono _ gx9 r3
          have r4 := Rep.mono _ gx9 r4
          have gx8 := Ex.tr gx8 gx9
          have gx4 := Ex.tr gx4 gx9
          replace r1 := Rep.mono _ s14.g r1
          replace r2 := Rep.mono _ s14.g r2
          replace r3 := Rep.mono _ s14.g r3
          replace r4 := Rep.mono _ s14.g r4
          replace w := w.tr s14
          replace gx9 := Ex.tr gx9 s14.g
          replace gx8 := Ex.tr gx8 s14.g
          replace gx4 := Ex.tr gx4 s14.g
          obtain ⟨p10, u16, u17, rfl, h3, rfl, r22⟩ := ru3
          obtain ⟨p11, u18, u19, rfl, h4, rfl, rfl⟩ := r22
          refine ⟨p10, _, rfl, SqT.of (w.f _ _ h3), rfl, _, _, rfl, _, _, rfl, p11, _, rfl, SqT.of (w.f _ _ h4), rfl, _, _, rfl, _, _, rfl, rfl, rfl, ?_⟩
          refine q_sq fun N11 hN11 => ?_
          refine a_asgE ?_
          refine e_md ?_
          refine e_val (v := v1) (val_var rfl) ?_
          obtain ⟨p12, dx3, fs3, u20, u21, u22, u23, ev3, ho3, lk9, lk10, lk11, lk12, r23, r24, r25, r26, lm3⟩ := st_O4 r1 w.f
          have hu3 := w.f
          refine ⟨_, _, _, ev3, ho3, (lm3 _ (by decide +kernel) (by decide +kernel) (by decide +kernel) (by decide +kernel)), ?_⟩
          obtain ⟨d3, eq3, b5⟩ := D_bw r23 w.f
          refine a_val (v := (.str (it3.2.1))) (val_var rfl) ?_
          refine a_nil ?_
          refine ⟨F16, p12, dx3, fs3, d3, (net_here1.1), ((.str (it3.2.1))), ((An.s it3.2.1)), _, _, (by rw [ev3]), w.f, ho3, (by rw [lk9, eq3]), b5, (show pA.r _ (.str (it3.2.1)) (An.s it3.2.1) from rfl), hW, ?_, ?_⟩
          · intro _ hW; exact hW.elim
          intro z3 hW v8 F17 H17 s15 r27
          replace r1 := Rep.mono _ s15.g r1
          replace r2 := Rep.mono _ s15.g r2
          replace r3 := Rep.mono _ s15.g r3
          replace r4 := Rep.mono _ s15.g r4
          replace w := w.tr s15
          replace gx9 := Ex.tr gx9 s15.g
          replace gx8 := Ex.tr gx8 s15.g
          replace gx4 := Ex.tr gx4 s15.g
          refine hN11 _ _ ?_
          refine a_ifE ?_
          refine e_jnT hW (fun b F' H' => b = b ∧ Wf F0 H0 F' H' ∧ Ex F17 F') ?_ ?_
          · intro N12 hN12 hW
            have gx10 : Ex F17 F17 := Ex.rfl'
            refine e_tOr ?_
            refine e_ans (b := decide (¬ (wTag z3 = 2))) (t_not (t_ofB (v_isD (val_var rfl) (ty_W (tw_of T) r27 w.f) ((tw_of T).kT _)))) ?_
            refine b_if (fun hc5 => ?_) (fun hc5 => ?_)
            · have hW := ifP hW hc5
              exact hN12 true _ _ ⟨rfl, w, gx10⟩ hW
            · have hW := ifN hW hc5
              refine e_tT ?_
              refine e_op ?_
              refine e_tup ?_
              refine a_val (v := (.str (wName z3))) (fl_Wname (tw_of T) r27 w.f (val_var rfl)) ?_
              obtain ⟨y3, hy3, hW⟩ := hW
              refine a_val (v := (.str (y3))) (fl_Wwire (tw_of T) r27 w.f hy3 (val_var rfl)) ?_
              obtain ⟨y4, hy4, hW⟩ := hW
              refine a_val (v := (.int ((y4 : Nat) : Int))) (fl_Wnum (tw_of T) r27 w.f hy4 (val_var rfl)) ?_
              refine a_nil ?_
              refine n_tup3 (e := pS) (f := pS) (g := pN) (x := wName z3) (y := y3) (z := y4) rfl rfl rfl w ?_
              intro p13 F18 H18 s16 r28
              replace r1 := Rep.mono _ s16.g r1
              replace r2 := Rep.mono _ s16.g r2
              replace r3 := Rep.mono _ s16.g r3
              replace r4 := Rep.mono _ s16.g r4
              replace r27 := Rep.mono _ s16.g r27
              replace w := w.tr s16
              replace gx10 := Ex.tr gx10 s16.g
              replace gx9 := Ex.tr gx9 s16.g
              replace gx8 := Ex.tr gx8 s16.g
              replace gx4 := Ex.tr gx4 s16.g
              refine e_tup ?_
              refine a_val (v := (.str (it3.2.1))) (val_var rfl) ?_
              refine a_val (v := (.str (it3.2.2))) (val_var rfl) ?_
              refine a_val (v := (.int ((it3.1 : Nat) : Int))) (val_var rfl) ?_
              refine a_nil ?_
              refine n_tup3 (e := pS) (f := pS) (g := pN) (x := it3.2.1) (y := it3.2.2) (z := it3.1) rfl rfl rfl w ?_
              intro p14 F19 H19 s17 r29
              replace r1 := Rep.mono _ s17.g r1
              replace r2 := Rep.mono _ s17.g r2
              replace r3 := Rep.mono _ s17.g r3
              replace r4 := Rep.mono _ s17.g r4
              replace r27 := Rep.mono _ s17.g r27
              replace r28 := Rep.mono _ s17.g r28
              replace w := w.tr s17
              replace gx10 := Ex.tr gx10 s17.g
              replace gx9 := Ex.tr gx9 s17.g
              replace gx8 := Ex.tr gx8 s17.g
              replace gx4 := Ex.tr gx4 s17.g
              obtain ⟨c3, hW⟩ := hW
              refine rv2T (b := decide ((wName z3, y3, y4) ≠ (it3.2.1, it3.2.2, it3.1))) (c_neO (K := K) (e := (pT3 pS pS pN)) val_c val_c w.f r28 w.f r29 c3) ?_
              exact hN12 (decide ((wName z3, y3, y4) ≠ (it3.2.1, it3.2.2, it3.1))) _ _ ⟨rfl, w, gx10⟩ hW
          intro b6 F20 H20 hI8 hW
          obtain ⟨_, w, gx11⟩ := hI8
          have r1 := Rep.mono _ gx11 r1
          have r2 := Rep.mono _ gx11 r2
          have r3 := Rep.mono _ gx11 r3
          have r4 := Rep.mono _ gx11 r4
          have r27 := Rep.mono _ gx11 r27
          have gx9 := Ex.tr gx9 gx11
          have gx8 := Ex.tr gx8 gx11
          have gx4 := Ex.tr gx4 gx11
          refine bb_if (fun hc6 => ?_) (fun hc6 => ?_)
          · have hW := ifP hW hc6
            refine a_ret (v := (.bl (false))) val_c ?_
            exact hQ _ hW _ _ w
          · have hW := ifN hW hc6
            exact hN10 () _ _ _ ⟨_, _, _, _, w, gx9, rfl⟩ hW
        · intro s18 σ' F21 H21 hI9 hW
          obtain ⟨o7, o8, o9, o10, w, gx12, rfl⟩ := hI9
          have r1 := Rep.mono _ gx12 r1
          have r2 := Rep.mono _ gx12 r2
          have r3 := Rep.mono _ gx12 r3
          have r4 := Rep.mono _ gx12 r4
          have gx8 := Ex.tr gx8 gx12
          have gx4 := Ex.tr gx4 gx12
          refine hN9 _ _ ?_
          refine a_ret (v := (.bl (true))) val_c ?_
          exact hQ _ hW _ _ w
abbrev s_order_good : Stmt := topS 34
def W_order_good (order1 : List Str) (sums1 : List (Str × List Str)) (R : Bool → Prop) : Prop := (sums1.length < 1000000) ∧ compW sums1 (fun it1 kk => kk (some it1.1)) fun ys1 => jn (fun kk => (order1.length < 64) ∧ ∀ ys2 : List Str, ys2.Perm order1 → PyProof.Rows.sortedS ys2 = true → (ys1.length < 64) ∧ ∀ ys3 : List Str, ys3.Perm ys1 → PyProof.Rows.sortedS ys3 = true → (okV (pL pS) ys2 ∧ okV (pL pS) ys3) ∧ kk (decide (ys2 ≠ ys3))) fun b1 => if b1 = true then (R false) else (forW sums1 () (fun it2 _ nx1 bk1 => forW it2.2 () (fun wire1 _ nx2 bk2 => jn (fun kk => if wire1 ∈ ys1 then ((wire1 ∈ order1) ∧ (it2.1 ∈ order1) ∧ kk (decide ((order1.idxOf it2.1) ≤ (order1.idxOf wire1)))) else (kk false)) fun b2 => if b2 = true then (R false) else (nx2 ())) fun _ => nx1 ()) fun _ => R true)
def sp_order_good (K : PySem.W.Frag) (cc : Cz) : Sp := fun vs H Q _ => ∃ (F : Hp) (v1 : V) (order1 : List Str) (v2 : V) (sums1 : List (Str × List Str)) (R : Bool → Prop), vs = [v1, v2] ∧ Ex F H ∧ (pL pS).r F v1 order1 ∧ (pL (pT2 pS (pL pS))).r F v2 sums1 ∧ W_order_good order1 sums1 R ∧ ∀ z, R z → ∀ F' H', Wf F H F' H' → Q (.bl (z)) H'
abbrev N_order_good : List Str := ["_law_order", "_law_sums", "_law_names", "_law_name_here", "_law_wires_here", "_law_wire"]
theorem sc_order_good : FnScope N_order_good ["_law_order", "_law_sums"] (defScope s_order_good) := ⟨rfl, rfl, rfl, by decide +kernel, rfl, by decide +kernel, by decide +kernel⟩
theorem ok_order_good {P : Program} {w0 : World} {K : PySem.W.Frag} {mg : Str → Option Value} {base : Heap} {f : Addr} {fd : FuncData} {cc : Cz} (T : Tz K mg cc) (FU : Fun K "_law_order_good" "_law_order_good" s_order_good f fd) (hm : mg "_law_order_good" = some (.ref f)) (hb : Binds K fd ["_law_order", "_law_sums"] []) (n_isinstance : mg "isinstance" = none) (n_list : mg "list" = none) (n_sorted : mg "sorted" = none) : Fn P w0 K mg base CX0 1 "_law_order_good" ["_law_order", "_law_sums"] (sp_order_good K cc) := by
  refine ⟨f, fd, FU.ok sc_order_good (fun vs H Q E h => ?_) (fun cdv A outer s H0 vs Q E hr h => ?_), hm, FU.kp, hb⟩
  · obtain ⟨_, _, _, _, _, _, rfl, _⟩ := h; rfl
  · obtain ⟨F0, v1, order1, v2, sums1, R, rfl, wf, r1, r2, hW, hQ⟩ := h
    have nd := sc_order_good.nd
    refine ⟨(tSeq (tAsg (tLc (iList K (tVar 1)) (gTup K 2 (gCons (gName 3) (gCons (gName 4) gNil))) tYes (tVar 3) [3, 4]) (gName 2)) (tSeq (tIfS (tOr (tNot (tB (tCB (rIsi K) (tCons (tVar 0) (tCons (tC (.ty "list")) tNil))))) (tTest (tOp (L2.rNeD K) (tCB (rSortedS K) (tCons (tVar 0) tNil)) (tCB (rSortedS K) (tCons (tVar 2) tNil))))) (tRet (tC (.bl false))) tNext) (tSeq (tFor (iList K (tVar 1)) (gTup K 2 (gCons (gName 3) (gCons (gName 4) gNil))) (tFor (iList K (tVar 4)) (gName 5) (tIfS (tAnd (tTest (tOp (rIn K false) (tVar 5) (tVar 2))) (tTest (tOp kGe (tBM K "list" (L2.rIndex K) (tVar 0) (tCons (tVar 5) tNil)) (tBM K "list" (L2.rIndex K) (tVar 0) (tCons (tVar 3) tNil))))) (tRet (tC (.bl false))) tNext))) (tRet (tC (.bl true)))))), (pss_cons (ps_setLc (i := 2) (own := [("_law_name_here", 3), ("_law_wires_here", 4)]) (wi := (iList K (tVar 1))) (g := (gTup K 2 (gCons (gName 3) (gCons (gName 4) gNil)))) (tt := tYes) (te := (tVar 3)) rfl nd rfl rfl (sw_true rfl rfl rfl (by decide +kernel)) (pi_list (pv 1)) (blkOk_by (N := N_order_good) (sc := defScope s_order_good) (by decide +kernel)) (fun _ _ _ _ _ => (pg_tup rfl (pgs_cons (pg_name (i := 3) nd rfl (Or.inl rfl)) (pgs_cons (pg_name (i := 4) nd rfl (Or.inl rfl)) pgs_nil)) (by rfl))) (fun _ _ _ _ _ => pts_nil) (fun _ _ _ _ _ => (pv 3))) (pss_cons (ps_if (PW.pt (pw_or (pt_not (pt_val (pe_callB call_isi (by rfl) n_isinstance PyProof.Rows.boot_isinstance (pa_cons (pv 0) (pa_cons (pe_bltn (v := .ty "list") (by rfl) n_list PyProof.Rows.boot_list rfl) pa_nil))))) (pw_or1 (pt_cmpR (op_neD hr.units) (pe_callB cr_sortedS (by rfl) n_sorted PyProof.Rows.boot_sorted (pa_cons (pv 0) pa_nil)) (pe_callB cr_sortedS (by rfl) n_sorted PyProof.Rows.boot_sorted (pa_cons (pv 2) pa_nil)) (nomark _))))) (pss_one (ps_ret pe_bl)) pss_nil) (pss_cons (ps_for PassesOwn.never rfl (pi_list (pv 1)) (pg_tup rfl (pgs_cons (pg_name (i := 3) nd rfl (Or.inl rfl)) (pgs_cons (pg_name (i := 4) nd rfl (Or.inl rfl)) pgs_nil)) (by rfl)) (pss_one (ps_for PassesOwn.never rfl (pi_list (pv 4)) (pg_name (i := 5) nd rfl (Or.inl rfl)) (pss_one (ps_if (PW.pt (pw_and (pt_cmpR op_in_seq (pv 5) (pv 2) rfl) (pw_and1 (pt_cmpR op_ge (pe_bm PySem.F.plainAttrs_list PySem.F.slot_list_index PySem.F.type_list_index mt_index (pv 0) (pa_cons (pv 5) pa_nil)) (pe_bm PySem.F.plainAttrs_list PySem.F.slot_list_index PySem.F.type_list_index mt_index (pv 0) (pa_cons (pv 3) pa_nil)) (nomark _))))) (pss_one (ps_ret pe_bl)) pss_nil))))) (pss_one (ps_ret pe_bl))))), ?_⟩
    have w := Wf.id wf
    refine q_sq fun N1 hN1 => ?_
    refine a_asgE ?_
    refine c_LE ?_
    refine e_val (v := v2) (val_var rfl) ?_
    obtain ⟨c1, hW⟩ := hW
    refine w_compL (e := pS) r2 w c1 hW ?_ ?_
    · intro Qy Qn it1 u1 F1 H1 R1 q1 hx1 ru1 hW hy1 hn1
      have r1 := Rep.mono _ q1.g r1
      have r2 := Rep.mono _ q1.g r2
      have w := Wf.id q1.f
      obtain ⟨p1, u2, u3, rfl, h1, rfl, r3⟩ := ru1
      refine ⟨p1, _, rfl, SqT.of (w.f _ _ h1), rfl, _, _, rfl, _, _, rfl, rfl, ?_⟩
      refine ⟨rfl, ?_⟩
      refine c_yes ?_
      refine e_val (v := (.str (it1.1))) (val_var rfl) ?_
      exact hy1 _ _ _ _ w rfl hW
    intro p2 ys1 F2 H2 hp1 s1 x1 hW
    replace r1 := Rep.mono _ s1.g r1
    replace r2 := Rep.mono _ s1.g r2
    replace w := w.tr s1
    obtain ⟨F3, w1, g1, r4, fz1⟩ := x1.frzE w
    replace r1 := Rep.mono _ g1 r1
    replace r2 := Rep.mono _ g1 r2
    replace w := w1
    refine hN1 _ _ ?_
    refine q_sq fun N2 hN2 => ?_
    refine a_ifE ?_
    refine e_jnT hW (fun b F' H' => b = b ∧ Wf F0 H0 F' H' ∧ Ex F3 F') ?_ ?_
    · intro N3 hN3 hW
      have gx1 : Ex F3 F3 := Ex.rfl'
      refine e_tOr ?_
      refine e_ans (b := false) (t_dec (t_iff (p := ¬ (True)) (q := False) (t_not (t_ofB (vb_of (v_isi (b := true) (val_var rfl) (ty_L r1 w.f) (by decide +kernel)) dec_T))) (by simp)) dec_F.symm) ?_
      refine if_f ?_
      refine e_tT ?_
      refine e_op ?_
      refine e_cb ?_
      refine a_val (v := v1) (val_var rfl) ?_
      refine a_nil ?_
      obtain ⟨c2, hW⟩ := hW
      refine n_sortS r1 w c2 ?_
      intro ys2 p3 H3 h2 h3 hp2 s2 x2
      replace hW := hW ys2 h2 h3
      replace r1 := Rep.mono _ s2.g r1
      replace r2 := Rep.mono _ s2.g r2
      replace r4 := Rep.mono _ s2.g r4
      replace w := w.tr s2
      replace gx1 := Ex.tr gx1 s2.g
      refine e_cb ?_
      refine a_val (v := (.ref p2)) (val_var rfl) ?_
      refine a_nil ?_
      obtain ⟨c3, hW⟩ := hW
      refine n_sortS r4 w c3 ?_
      intro ys3 p4 H4 h4 h5 hp3 s3 x3
      replace hW := hW ys3 h4 h5
      have ne1 := x2.ne hp3
      replace r1 := Rep.mono _ s3.g r1
      replace r2 := Rep.mono _ s3.g r2
      replace r4 := Rep.mono _ s3.g r4
      replace x2 := x2.step s3
      replace w := w.tr s3
      replace gx1 := Ex.tr gx1 s3.g
      obtain ⟨F4, w2, g2, r5, fz2⟩ := x2.frzE w
      replace r1 := Rep.mono _ g2 r1
      replace r2 := Rep.mono _ g2 r2
      replace r4 := Rep.mono _ g2 r4
      replace x3 := x3.frzO fz2 (Ne.symm ne1) g2
      replace w := w2
      replace gx1 := Ex.tr gx1 g2
      obtain ⟨F5, w3, g3, r6, fz3⟩ := x3.frzE w
      replace r1 := Rep.mono _ g3 r1
      replace r2 := Rep.mono _ g3 r2
      replace r4 := Rep.mono _ g3 r4
      replace r5 := Rep.mono _ g3 r5
      replace w := w3
      replace gx1 := Ex.tr gx1 g3
      obtain ⟨c4, hW⟩ := hW
      refine rv2T (b := decide (ys2 ≠ ys3)) (c_neO (K := K) (e := (pL pS)) val_c val_c w.f r5 w.f r6 c4) ?_
      exact hN3 (decide (ys2 ≠ ys3)) _ _ ⟨rfl, w, gx1⟩ hW
    intro b1 F6 H5 hI1 hW
    obtain ⟨_, w, gx2⟩ := hI1
    have r1 := Rep.mono _ gx2 r1
    have r2 := Rep.mono _ gx2 r2
    have r4 := Rep.mono _ gx2 r4
    refine bb_if (fun hc1 => ?_) (fun hc1 => ?_)
    · have hW := ifP hW hc1
      refine a_ret (v := (.bl (false))) val_c ?_
      exact hQ _ hW _ _ w
    · have hW := ifN hW hc1
      refine hN2 _ _ ?_
      refine q_sq fun N4 hN4 => ?_
      refine f_LE ?_
      refine e_val (v := v2) (val_var rfl) ?_
      refine w_forL (S := Unit) (fun _ σ' F' H' => ∃ (o1 : Option V) (o2 : Option V) (o3 : Option V), Wf F0 H0 F' H' ∧ Ex F6 F' ∧ σ' = [some v1, some v2, some (.ref p2), o1, o2, o3]) r2 hW ⟨_, _, _, w, Ex.rfl', rfl⟩ (fun s σ' F' H' hI => by obtain ⟨_, _, _, w', gx', _⟩ := hI; exact ⟨gx', w'.f⟩) w.f ?_ ?_
      · intro N5 Bk1 it2 u4 s4 σ' F7 H6 nx1 bk1 hI2 hx2 ru2 hW hN5 hB1
        obtain ⟨o1, o2, o3, w, gx3, rfl⟩ := hI2
        have r1 := Rep.mono _ gx3 r1
        have r2 := Rep.mono _ gx3 r2
        have r4 := Rep.mono _ gx3 r4
        obtain ⟨p5, u5, u6, rfl, h6, rfl, r7⟩ := ru2
        refine ⟨p5, _, rfl, SqT.of (w.f _ _ h6), rfl, _, _, rfl, _, _, rfl, rfl, ?_⟩
        refine f_LE ?_
        refine e_val (v := u6) (val_var rfl) ?_
        refine w_forL (S := Unit) (fun _ σ' F' H' => ∃ (o4 : Option V), Wf F0 H0 F' H' ∧ Ex F7 F' ∧ σ' = [some v1, some v2, some (.ref p2), some (.str (it2.1)), some u6, o4]) r7 hW ⟨_, w, Ex.rfl', rfl⟩ (fun s σ' F' H' hI => by obtain ⟨_, w', gx', _⟩ := hI; exact ⟨gx', w'.f⟩) w.f ?_ ?_
        · intro N6 Bk2 wire1 u7 s5 σ' F8 H7 nx2 bk2 hI3 hx3 ru3 hW hN6 hB2
          obtain ⟨o4, w, gx4, rfl⟩ := hI3
          have r1 := Rep.mono _ gx4 r1
          have r2 := Rep.mono _ gx4 r2
          have r4 := Rep.mono _ gx4 r4
          have r7 := Rep.mono _ gx4 r7
          have gx3 := Ex.tr gx3 gx4
          obtain rfl : u7 = (.str (wire1)) := ru3
          refine g_name ?_
          refine a_ifE ?_
          refine e_jnT hW (fun b F' H' => b = b ∧ Wf F0 H0 F' H' ∧ Ex F8 F') ?_ ?_
          · intro N7 hN7 hW
            have gx5 : Ex F8 F8 := Ex.rfl'
            refine e_tAnd ?_
            refine e_ans (b := decide (wire1 ∈ ys1)) (t_of (v_inLS (K := K) (val_var rfl) (val_var rfl) r4 w.f)) ?_
            refine b_if (fun hc2 => ?_) (fun hc2 => ?_)
            · have hW := ifP hW hc2
              refine e_tT ?_
              refine e_op ?_
              obtain ⟨c5, hW⟩ := hW
              refine e_val (v := (.int (((order1.idxOf wire1) : Nat) : Int))) (v_indexS (K := K) (val_var rfl) (val_var rfl) r1 w.f c5) ?_
              obtain ⟨c6, hW⟩ := hW
              refine e_val (v := (.int (((order1.idxOf it2.1) : Nat) : Int))) (v_indexS (K := K) (val_var rfl) (val_var rfl) r1 w.f c6) ?_
              refine rv2T (b := decide ((order1.idxOf it2.1) ≤ (order1.idxOf wire1))) (vb_dec (c_ge val_c val_c) n_le) ?_
              exact hN7 (decide ((order1.idxOf it2.1) ≤ (order1.idxOf wire1))) _ _ ⟨rfl, w, gx5⟩ hW
            · have hW := ifN hW hc2
              exact hN7 false _ _ ⟨rfl, w, gx5⟩ hW
          intro b2 F9 H8 hI4 hW
          obtain ⟨_, w, gx6⟩ := hI4
          have r1 := Rep.mono _ gx6 r1
          have r2 := Rep.mono _ gx6 r2
          have r4 := Rep.mono _ gx6 r4
          have r7 := Rep.mono _ gx6 r7
          have gx4 := Ex.tr gx4 gx6
          have gx3 := Ex.tr gx3 gx6
          refine bb_if (fun hc3 => ?_) (fun hc3 => ?_)
          · have hW := ifP hW hc3
            refine a_ret (v := (.bl (false))) val_c ?_
            exact hQ _ hW _ _ w
          · have hW := ifN hW hc3
            exact hN6 () _ _ _ ⟨_, w, gx4, rfl⟩ hW
        · intro s6 σ' F10 H9 hI5 hW
          obtain ⟨o4, w, gx7, rfl⟩ := hI5
          have r1 := Rep.mono _ gx7 r1
          have r2 := Rep.mono _ gx7 r2
          have r4 := Rep.mono _ gx7 r4
          have r7 := Rep.mono _ gx7 r7
          have gx3 := Ex.tr gx3 gx7
          exact hN5 () _ _ _ ⟨_, _, _, w, gx3, rfl⟩ hW
      · intro s7 σ' F11 H10 hI6 hW
        obtain ⟨o1, o2, o3, w, gx8, rfl⟩ := hI6
        have r1 := Rep.mono _ gx8 r1
        have r2 := Rep.mono _ gx8 r2
        have r4 := Rep.mono _ gx8 r4
        refine hN4 _ _ ?_
        refine a_ret (v := (.bl (true))) val_c ?_
        exact hQ _ hW _ _ w
abbrev s_good : Stmt := topS 35
def W_good (net_here1 : List (Str × WireV) × List Str × List Str × List (Str × Bool)) (ins1 : List Str) (sums1 : List (Str × List Str)) (stores1 : List (Str × Str)) (outs1 : List Str) (R : Bool → Prop) : Prop := W_told ins1 sums1 stores1 outs1 fun z1 => W_Net_told net_here1 fun z2 => jn (fun kk => (okV (pT4 (pL pS) (pL (pT2 pS (pTL pS))) (pL (pT2 pS pS)) (pL pS)) (z2.1, z2.2.1, z2.2.2.1, z2.2.2.2) ∧ okV (pT4 (pL pS) (pL (pT2 pS (pTL pS))) (pL (pT2 pS pS)) (pL pS)) z1) ∧ if (z2.1, z2.2.1, z2.2.2.1, z2.2.2.2) ≠ z1 then (kk true) else (W_wires_good net_here1 ins1 sums1 stores1 fun z3 => kk (!z3))) fun b1 => if b1 = true then (R false) else (W_Net_in_names net_here1 fun z4 => W_Net_sum_rows net_here1 fun z5 => W_Net_store_rows net_here1 fun z6 => W_Net_out_wires net_here1 fun z7 => W_Net_wire_names net_here1 fun z8 => W_Net_order net_here1 fun z9 => (okV (pH4 (pL pS) (pL (pT2 pS (pTL pS))) (pL (pT2 pS pS)) (pL pS)) (z4, z5, z6, z7) ∧ okV (pH4 (pL pS) (pL (pT2 pS (pTL pS))) (pL (pT2 pS pS)) (pL pS)) z1) ∧ if (z4, z5, z6, z7) ≠ z1 then (R false) else ((sums1.length < 1000000) ∧ compW sums1 (fun row1 kk => kk (some row1.1)) fun ys1 => (ins1.length + ys1.length < 1000000) ∧ (stores1.length < 1000000) ∧ compW stores1 (fun row2 kk => kk (some row2.1)) fun ys2 => ((ins1 ++ ys1).length + ys2.length < 1000000) ∧ (okV (pL pS) z8 ∧ okV (pL pS) ((ins1 ++ ys1) ++ ys2)) ∧ if z8 ≠ ((ins1 ++ ys1) ++ ys2) then (R false) else (W_order_good z9 sums1 fun z10 => if z10 = true then (R true) else (R false))))
def sp_good (K : PySem.W.Frag) (cc : Cz) : Sp := fun vs H Q _ => ∃ (F : Hp) (v1 : V) (net_here1 : List (Str × WireV) × List Str × List Str × List (Str × Bool)) (v2 : V) (ins1 : List Str) (v3 : V) (sums1 : List (Str × List Str)) (v4 : V) (stores1 : List (Str × Str)) (v5 : V) (outs1 : List Str) (R : Bool → Prop), vs = [v1, v2, v3, v4, v5] ∧ Ex F H ∧ (pO4 cc.Net "all" "ends" "line_up" "laid" (pD (κ := Str) (pW cc.InWire cc.SumWire cc.StoreWire)) (pL pS) (pL pS) (pD (κ := Str) pB)).r F v1 net_here1 ∧ (pL pS).r F v2 ins1 ∧ (pL (pT2 pS (pL pS))).r F v3 sums1 ∧ (pL (pT2 pS pS)).r F v4 stores1 ∧ (pL pS).r F v5 outs1 ∧ W_good net_here1 ins1 sums1 stores1 outs1 R ∧ ∀ z, R z → ∀ F' H', Wf F H F' H' → Q (.bl (z)) H'
abbrev N_good : List Str := ["_law_net_here", "_law_ins", "_law_sums", "_law_stores", "_law_outs", "_law_due", "_law_told_here", "_law_found", "_law_names", "_law_order", "_law_row", "_law_some"]
theorem sc_good : FnScope N_good ["_law_net_here", "_law_ins", "_law_sums", "_law_stores", "_law_outs"] (defScope s_good) := ⟨rfl, rfl, rfl, by decide +kernel, rfl, by decide +kernel, by decide +kernel⟩
theorem ok_good {P : Program} {w0 : World} {K : PySem.W.Frag} {mg : Str → Option Value} {base : Heap} {f : Addr} {fd : FuncData} {cc : Cz} (T : Tz K mg cc) (FU : Fun K "_law_good" "_law_good" s_good f fd) (hm : mg "_law_good" = some (.ref f)) (hb : Binds K fd ["_law_net_here", "_law_ins", "_law_sums", "_law_stores", "_law_outs"] []) (c_told : Fn P w0 K mg base CX0 1 "_law_told" ["_law_ins", "_law_sums", "_law_stores", "_law_outs"] (sp_told K cc)) (c_Net_told : Md P w0 K mg base CX0 4 cc.Net "told" ["self"] (sp_Net_told K cc)) (c_wires_good : Fn P w0 K mg base CX0 5 "_law_wires_good" ["_law_net_here", "_law_ins", "_law_sums", "_law_stores"] (sp_wires_good K cc)) (c_Net_in_names : Md P w0 K mg base CX0 3 cc.Net "in_names" ["self"] (sp_Net_in_names K cc)) (c_Net_sum_rows : Md P w0 K mg base CX0 3 cc.Net "sum_rows" ["self"] (sp_Net_sum_rows K cc)) (c_Net_store_rows : Md P w0 K mg base CX0 3 cc.Net "store_rows" ["self"] (sp_Net_store_rows K cc)) (c_Net_out_wires : Md P w0 K mg base CX0 1 cc.Net "out_wires" ["self"] (sp_Net_out_wires K cc)) (c_Net_wire_names : Md P w0 K mg base CX0 1 cc.Net "wire_names" ["self"] (sp_Net_wire_names K cc)) (c_Net_order : Md P w0 K mg base CX0 1 cc.Net "order" ["self"] (sp_Net_order K cc)) (c_order_good : Fn P w0 K mg base CX0 1 "_law_order_good" ["_law_order", "_law_sums"] (sp_order_good K cc)) (n_isinstance : mg "isinstance" = none) (n_list : mg "list" = none) (n_tuple : mg "tuple" = none) : Fn P w0 K mg base CX0 6 "_law_good" ["_law_net_here", "_law_ins", "_law_sums", "_law_stores", "_law_outs"] (sp_good K cc) := by
  refine ⟨f, fd, FU.ok sc_good (fun vs H Q E h => ?_) (fun cdv A outer s H0 vs Q E hr h => ?_), hm, FU.kp, hb⟩
  · obtain ⟨_, _, _, _, _, _, _, _, _, _, _, _, rfl, _⟩ := h; rfl
  · obtain ⟨F0, v1, net_here1, v2, ins1, v3, sums1, v4, stores1, v5, outs1, R, rfl, wf, r1, r2, r3, r4, r5, hW, hQ⟩ := h
    have nd := sc_good.nd
    refine ⟨(tSeq (tAsg (tCall (sp_told K cc) [] E0 (tCons (tVar 1) (tCons (tVar 2) (tCons (tVar 3) (tCons (tVar 4) tNil))))) (gName 5)) (tSeq (tAsg (tMeth cc.Net "told" (sp_Net_told K cc) [] E0 (tVar 0) tNil) (gName 6)) (tSeq (tIfS (tOr (tNot (tB (tCB (rIsi K) (tCons (tVar 6) (tCons (tC (.ty "tuple")) tNil))))) (tOr (tTest (tOp (L2.rNeD K) (tVar 6) (tVar 5))) (tNot (tB (tCall (sp_wires_good K cc) [] E0 (tCons (tVar 0) (tCons (tVar 1) (tCons (tVar 2) (tCons (tVar 3) tNil))))))))) (tRet (tC (.bl false))) tNext) (tSeq (tAsg (tLst (tCons (tMeth cc.Net "in_names" (sp_Net_in_names K cc) [] E0 (tVar 0) tNil) (tCons (tMeth cc.Net "sum_rows" (sp_Net_sum_rows K cc) [] E0 (tVar 0) tNil) (tCons (tMeth cc.Net "store_rows" (sp_Net_store_rows K cc) [] E0 (tVar 0) tNil) (tCons (tMeth cc.Net "out_wires" (sp_Net_out_wires K cc) [] E0 (tVar 0) tNil) tNil))))) (gName 7)) (tSeq (tAsg (tMeth cc.Net "wire_names" (sp_Net_wire_names K cc) [] E0 (tVar 0) tNil) (gName 8)) (tSeq (tAsg (tMeth cc.Net "order" (sp_Net_order K cc) [] E0 (tVar 0) tNil) (gName 9)) (tSeq (tIfS (tTest (tOp (L2.rNeD K) (tVar 7) (tCB (rListOf K) (tCons (tVar 5) tNil)))) (tRet (tC (.bl false))) tNext) (tSeq (tIfS (tTest (tOp (L2.rNeD K) (tVar 8) (tOp L2.rCat (tOp L2.rCat (tVar 1) (tLc (iList K (tVar 2)) (gName 10) tYes (tOp (L2.rIxT K) (tVar 10) (tC (.int 0))) [10])) (tLc (iList K (tVar 3)) (gName 10) tYes (tOp (L2.rIxT K) (tVar 10) (tC (.int 0))) [10])))) (tRet (tC (.bl false))) tNext) (tSeq (tIfS (tNot (tB (tCall (sp_order_good K cc) [] E0 (tCons (tVar 9) (tCons (tVar 2) tNil))))) (tRet (tC (.bl false))) tNext) (tSeq (tFor (iList K (tOp L2.rCat (tOp L2.rCat (tVar 7) (tLst (tCons (tVar 8) (tCons (tVar 9) tNil)))) (tCB (rListOf K) (tCons (tVar 6) tNil)))) (gName 11) (tDrop (tBM0 K "list" rClear (tVar 11)))) (tRet (tC (.bl true))))))))))))), (pss_cons (ps_set (i := 5) nd rfl (Or.inl rfl) (pe_fn c_told (hr.mono (by decide)) rfl (pa_cons (pv 1) (pa_cons (pv 2) (pa_cons (pv 3) (pa_cons (pv 4) pa_nil)))))) (pss_cons (ps_set (i := 6) nd rfl (Or.inl rfl) (pe_md0 c_Net_told T.cl_Net (hr.mono (by decide)) (pv 0))) (pss_cons (ps_if (PW.pt (pw_or (pt_not (pt_val (pe_callB call_isi (by rfl) n_isinstance PyProof.Rows.boot_isinstance (pa_cons (pv 6) (pa_cons (pe_bltn (v := .ty "tuple") (by rfl) n_tuple PyProof.Rows.boot_tuple rfl) pa_nil))))) (pw_or (pt_cmpR (op_neD hr.units) (pv 6) (pv 5) (nomark _)) (pw_or1 (pt_not (pt_val (pe_fn c_wires_good (hr.mono (by decide)) rfl (pa_cons (pv 0) (pa_cons (pv 1) (pa_cons (pv 2) (pa_cons (pv 3) pa_nil))))))))))) (pss_one (ps_ret pe_bl)) pss_nil) (pss_cons (ps_set (i := 7) nd rfl (Or.inl rfl) (pe_lst (pa_cons (pe_md0 c_Net_in_names T.cl_Net (hr.mono (by decide)) (pv 0)) (pa_cons (pe_md0 c_Net_sum_rows T.cl_Net (hr.mono (by decide)) (pv 0)) (pa_cons (pe_md0 c_Net_store_rows T.cl_Net (hr.mono (by decide)) (pv 0)) (pa_cons (pe_md0 c_Net_out_wires T.cl_Net (hr.mono (by decide)) (pv 0)) pa_nil)))))) (pss_cons (ps_set (i := 8) nd rfl (Or.inl rfl) (pe_md0 c_Net_wire_names T.cl_Net (hr.mono (by decide)) (pv 0))) (pss_cons (ps_set (i := 9) nd rfl (Or.inl rfl) (pe_md0 c_Net_order T.cl_Net (hr.mono (by decide)) (pv 0))) (pss_cons (ps_if (pt_cmpR (op_neD hr.units) (pv 7) (pe_callTy call_list_of (by rfl) n_list PyProof.Rows.boot_list (pa_cons (pv 5) pa_nil)) (nomark _)) (pss_one (ps_ret pe_bl)) pss_nil) (pss_cons (ps_if (pt_cmpR (op_neD hr.units) (pv 8) (pe_op op_cat (pe_op op_cat (pv 1) (pe_lc (own := [("_law_row", 10)]) (wi := (iList K (tVar 2))) (g := (gName 10)) (tt := tYes) (te := (tOp (L2.rIxT K) (tVar 10) (tC (.int 0)))) rfl nd (pi_list (pv 2)) (blkOk_by (N := N_good) (sc := defScope s_good) (by decide +kernel)) (fun _ _ _ _ _ => (pg_name (i := 10) nd rfl (Or.inl rfl))) (fun _ _ _ _ _ => pts_nil) (fun _ _ _ _ _ => (pe_ix ix_tup (pv 10) pe_int (fun _ _ => rfl))))) (pe_lc (own := [("_law_row", 10)]) (wi := (iList K (tVar 3))) (g := (gName 10)) (tt := tYes) (te := (tOp (L2.rIxT K) (tVar 10) (tC (.int 0)))) rfl nd (pi_list (pv 3)) (blkOk_by (N := N_good) (sc := defScope s_good) (by decide +kernel)) (fun _ _ _ _ _ => (pg_name (i := 10) nd rfl (Or.inl rfl))) (fun _ _ _ _ _ => pts_nil) (fun _ _ _ _ _ => (pe_ix ix_tup (pv 10) pe_int (fun _ _ => rfl))))) (nomark _)) (pss_one (ps_ret pe_bl)) pss_nil) (pss_cons (ps_if (pt_not (pt_val (pe_fn c_order_good (hr.mono (by decide)) rfl (pa_cons (pv 9) (pa_cons (pv 2) pa_nil))))) (pss_one (ps_ret pe_bl)) pss_nil) (pss_cons (ps_for PassesOwn.never rfl (pi_list (pe_op op_cat (pe_op op_cat (pv 7) (pe_lst (pa_cons (pv 8) (pa_cons (pv 9) pa_nil)))) (pe_callTy call_list_of (by rfl) n_list PyProof.Rows.boot_list (pa_cons (pv 6) pa_nil)))) (pg_name (i := 11) nd rfl (Or.inl rfl)) (pss_one (ps_expr (pe_bm0 PySem.F.plainAttrs_list PySem.F.slot_list_clear PySem.F.type_list_clear mt_clear (pv 11))))) (pss_one (ps_ret pe_bl)))))))))))), ?_⟩
    have w := Wf.id wf
    refine q_sq fun N1 hN1 => ?_
    refine a_asgE ?_
    refine e_call ?_
    refine a_val (v := v2) (val_var rfl) ?_
    refine a_val (v := v3) (val_var rfl) ?_
    refine a_val (v := v4) (val_var rfl) ?_
    refine a_val (v := v5) (val_var rfl) ?_
    refine a_nil ?_
    refine ⟨F0, (v2), (ins1), (v3), (sums1), (v4), (stores1), (v5), (outs1), _, rfl, w.f, r2, r3, r4, r5, hW, ?_⟩
    intro z1 hW v6 F1 H1 s1 r6
    replace r1 := Rep.mono _ s1.g r1
    replace r2 := Rep.mono _ s1.g r2
    replace r3 := Rep.mono _ s1.g r3
    replace r4 := Rep.mono _ s1.g r4
    replace r5 := Rep.mono _ s1.g r5
    replace w := w.tr s1
    refine hN1 _ _ ?_
    refine q_sq fun N2 hN2 => ?_
    refine a_asgE ?_
    refine e_md ?_
    refine e_val (v := v1) (val_var rfl) ?_
    obtain ⟨p1, dx1, fs1, ev1, ho1, lm1⟩ := me_4 (m := "told") r1 w.f
    refine ⟨_, _, _, ev1, ho1, lm1, ?_⟩
    refine a_nil ?_
    refine ⟨F1, (v1), (net_here1), _, rfl, w.f, r1, hW, ?_⟩
    intro z2 hW l1 l2 l3 l4 v7 F2 H2 s2 r7 x1 x2 x3 x4 ne1 ne2 ne3 ne4 ne5 ne6
    replace x1 := x1.base w
    replace x2 := x2.base w
    replace x3 := x3.base w
    replace x4 := x4.base w
    replace r1 := Rep.mono _ s2.g r1
    replace r2 := Rep.mono _ s2.g r2
    replace r3 := Rep.mono _ s2.g r3
    replace r4 := Rep.mono _ s2.g r4
    replace r5 := Rep.mono _ s2.g r5
    replace r6 := Rep.mono _ s2.g r6
    replace w := w.tr s2
    have nz1 := XL.nw1 x1 w.g
    obtain ⟨F3, w1, g1, r8, fz1⟩ := x1.frzE w
    replace r1 := Rep.mono _ g1 r1
    replace r2 := Rep.mono _ g1 r2
    replace r3 := Rep.mono _ g1 r3
    replace r4 := Rep.mono _ g1 r4
    replace r5 := Rep.mono _ g1 r5
    replace r6 := Rep.mono _ g1 r6
    replace x2 := x2.frzO fz1 (Ne.symm ne1) g1
    replace x3 := x3.frzO fz1 (Ne.symm ne2) g1
    replace x4 := x4.frzO fz1 (Ne.symm ne3) g1
    replace r7 := Rep.mono _ g1 r7
    replace w := w1
    have nz2 := XL.nw1 x2 w.g
    obtain ⟨F4, w2, g2, r9, fz2⟩ := x2.frzE w
    replace r1 := Rep.mono _ g2 r1
    replace r2 := Rep.mono _ g2 r2
    replace r3 := Rep.mono _ g2 r3
    replace r4 := Rep.mono _ g2 r4
    replace r5 := Rep.mono _ g2 r5
    replace r6 := Rep.mono _ g2 r6
    replace r8 := Rep.mono _ g2 r8
    replace x3 := x3.frzO fz2 (Ne.symm ne4) g2
    replace x4 := x4.frzO fz2 (Ne.symm ne5) g2
    replace r7 := Rep.mono _ g2 r7
    replace w := w2
    have nz3 := XL.nw1 x3 w.g
    obtain ⟨F5, w3, g3, r10, fz3⟩ := x3.frzE w
    replace r1 := Rep.mono _ g3 r1
    replace r2 := Rep.mono _ g3 r2
    replace r3 := Rep.mono _ g3 r3
    replace r4 := Rep.mono _ g3 r4
    replace r5 := Rep.mono _ g3 r5
    replace r6 := Rep.mono _ g3 r6
    replace r8 := Rep.mono _ g3 r8
    replace r9 := Rep.mono _ g3 r9
    replace x4 := x4.frzO fz3 (Ne.symm ne6) g3
    replace r7 := Rep.mono _ g3 r7
    replace w := w3
    have nz4 := XL.nw1 x4 w.g
    obtain ⟨F6, w4, g4, r11, fz4⟩ := x4.frzE w
    replace r1 := Rep.mono _ g4 r1
    replace r2 := Rep.mono _ g4 r2
    replace r3 := Rep.mono _ g4 r3
    replace r4 := Rep.mono _ g4 r4
    replace r5 := Rep.mono _ g4 r5
    replace r6 := Rep.mono _ g4 r6
    replace r8 := Rep.mono _ g4 r8
    replace r9 := Rep.mono _ g4 r9
    replace r10 := Rep.mono _ g4 r10
    replace r7 := Rep.mono _ g4 r7
    replace w := w4
    have r12 := T4_up r7 r8 r9 r10 r11
    refine hN2 _ _ ?_
    refine q_sq fun N3 hN3 => ?_
    refine a_ifE ?_
    refine e_jnT hW (fun b F' H' => b = b ∧ Wf F0 H0 F' H' ∧ Ex F6 F') ?_ ?_
    · intro N4 hN4 hW
      have gx1 : Ex F6 F6 := Ex.rfl'
      refine e_tOr ?_
      refine e_ans (b := false) (t_dec (t_iff (p := ¬ (True)) (q := False) (t_not (t_ofB (vb_of (v_isi (b := true) (val_var rfl) (ty_T4 r12 w.f) (by decide +kernel)) dec_T))) (by simp)) dec_F.symm) ?_
      refine if_f ?_
      refine e_tOr ?_
      obtain ⟨c1, hW⟩ := hW
      refine e_ans (b := decide ((z2.1, z2.2.1, z2.2.2.1, z2.2.2.2) ≠ z1)) (t_of (c_neO (K := K) (e := (pT4 (pL pS) (pL (pT2 pS (pTL pS))) (pL (pT2 pS pS)) (pL pS))) (val_var rfl) (val_var rfl) w.f r12 w.f r6 c1)) ?_
      refine b_if (fun hc1 => ?_) (fun hc1 => ?_)
      · have hW := ifP hW hc1
        exact hN4 true _ _ ⟨rfl, w, gx1⟩ hW
      · have hW := ifN hW hc1
        refine e_tNot ?_
        refine e_tB ?_
        refine e_call ?_
        refine a_val (v := v1) (val_var rfl) ?_
        refine a_val (v := v2) (val_var rfl) ?_
        refine a_val (v := v3) (val_var rfl) ?_
        refine a_val (v := v4) (val_var rfl) ?_
        refine a_nil ?_
        refine ⟨F6, (v1), (net_here1), (v2), (ins1), (v3), (sums1), (v4), (stores1), _, rfl, w.f, r1, r2, r3, r4, hW, ?_⟩
        intro z3 hW F7 H3 s3
        replace r1 := Rep.mono _ s3.g r1
        replace r2 := Rep.mono _ s3.g r2
        replace r3 := Rep.mono _ s3.g r3
        replace r4 := Rep.mono _ s3.g r4
        replace r5 := Rep.mono _ s3.g r5
        replace r6 := Rep.mono _ s3.g r6
        replace r8 := Rep.mono _ s3.g r8
        replace r9 := Rep.mono _ s3.g r9
        replace r10 := Rep.mono _ s3.g r10
        replace r11 := Rep.mono _ s3.g r11
        replace r7 := Rep.mono _ s3.g r7
        replace r12 := Rep.mono _ s3.g r12
        replace w := w.tr s3
        replace gx1 := Ex.tr gx1 s3.g
        refine bl_v ?_
        exact hN4 (!z3) _ _ ⟨rfl, w, gx1⟩ hW
    intro b1 F8 H4 hI1 hW
    obtain ⟨_, w, gx2⟩ := hI1
    have r1 := Rep.mono _ gx2 r1
    have r2 := Rep.mono _ gx2 r2
    have r3 := Rep.mono _ gx2 r3
    have r4 := Rep.mono _ gx2 r4
    have r5 := Rep.mono _ gx2 r5
    have r6 := Rep.mono _ gx2 r6
    have r8 := Rep.mono _ gx2 r8
    have r9 := Rep.mono _ gx2 r9
    have r10 := Rep.mono _ gx2 r10
    have r11 := Rep.mono _ gx2 r11
    have r7 := Rep.mono _ gx2 r7
    have r12 := Rep.mono _ gx2 r12
    refine bb_if (fun hc2 => ?_) (fun hc2 => ?_)
    · have hW := ifP hW hc2
      refine a_ret (v := (.bl (false))) val_c ?_
      exact hQ _ hW _ _ w
    · have hW := ifN hW hc2
      refine hN3 _ _ ?_
      refine q_sq fun N5 hN5 => ?_
      refine a_asgE ?_
      refine e_lst ?_
      refine a_cons ?_
      refine e_md ?_
      refine e_val (v := v1) (val_var rfl) ?_
      obtain ⟨p2, dx2, fs2, ev2, ho2, lm2⟩ := me_4 (m := "in_names") r1 w.f
      refine ⟨_, _, _, ev2, ho2, lm2, ?_⟩
      refine a_nil ?_
      refine ⟨F8, (v1), (net_here1), _, rfl, w.f, r1, hW, ?_⟩
      intro z4 hW p3 F9 H5 s4 x5
      replace x5 := x5.base w
      replace r1 := Rep.mono _ s4.g r1
      replace r2 := Rep.mono _ s4.g r2
      replace r3 := Rep.mono _ s4.g r3
      replace r4 := Rep.mono _ s4.g r4
      replace r5 := Rep.mono _ s4.g r5
      replace r6 := Rep.mono _ s4.g r6
      replace r8 := Rep.mono _ s4.g r8
      replace r9 := Rep.mono _ s4.g r9
      replace r10 := Rep.mono _ s4.g r10
      replace r11 := Rep.mono _ s4.g r11
      replace r7 := Rep.mono _ s4.g r7
      replace r12 := Rep.mono _ s4.g r12
      replace w := w.tr s4
      refine a_cons ?_
      refine e_md ?_
      refine e_val (v := v1) (val_var rfl) ?_
      obtain ⟨p4, dx3, fs3, ev3, ho3, lm3⟩ := me_4 (m := "sum_rows") r1 w.f
      refine ⟨_, _, _, ev3, ho3, lm3, ?_⟩
      refine a_nil ?_
      refine ⟨F9, (v1), (net_here1), _, rfl, w.f, r1, hW, ?_⟩
      intro z5 hW p5 F10 H6 s5 x6
      have ne7 := x5.ne x6.zero
      replace x6 := x6.base w
      replace r1 := Rep.mono _ s5.g r1
      replace r2 := Rep.mono _ s5.g r2
      replace r3 := Rep.mono _ s5.g r3
      replace r4 := Rep.mono _ s5.g r4
      replace r5 := Rep.mono _ s5.g r5
      replace r6 := Rep.mono _ s5.g r6
      replace r8 := Rep.mono _ s5.g r8
      replace r9 := Rep.mono _ s5.g r9
      replace r10 := Rep.mono _ s5.g r10
      replace r11 := Rep.mono _ s5.g r11
      replace r7 := Rep.mono _ s5.g r7
      replace r12 := Rep.mono _ s5.g r12
      replace x5 := x5.step s5
      replace w := w.tr s5
      refine a_cons ?_
      refine e_md ?_
      refine e_val (v := v1) (val_var rfl) ?_
      obtain ⟨p6, dx4, fs4, ev4, ho4, lm4⟩ := me_4 (m := "store_rows") r1 w.f
      refine ⟨_, _, _, ev4, ho4, lm4, ?_⟩
      refine a_nil ?_
      refine ⟨F10, (v1), (net_here1), _, rfl, w.f, r1, hW, ?_⟩
      intro z6 hW p7 F11 H7 s6 x7
      have ne8 := x5.ne x7.zero
      have ne9 := x6.ne x7.zero
      replace x7 := x7.base w
      replace r1 := Rep.mono _ s6.g r1
      replace r2 := Rep.mono _ s6.g r2
      replace r3 := Rep.mono _ s6.g r3
      replace r4 := Rep.mono _ s6.g r4
      replace r5 := Rep.mono _ s6.g r5
      replace r6 := Rep.mono _ s6.g r6
      replace r8 := Rep.mono _ s6.g r8
      replace r9 := Rep.mono _ s6.g r9
      replace r10 := Rep.mono _ s6.g r10
      replace r11 := Rep.mono _ s6.g r11
      replace r7 := Rep.mono _ s6.g r7
      replace r12 := Rep.mono _ s6.g r12
      replace x5 := x5.step s6
      replace x6 := x6.step s6
      replace w := w.tr s6
      refine a_cons ?_
      refine e_md ?_
      refine e_val (v := v1) (val_var rfl) ?_
      obtain ⟨p8, dx5, fs5, ev5, ho5, lm5⟩ := me_4 (m := "out_wires") r1 w.f
      refine ⟨_, _, _, ev5, ho5, lm5, ?_⟩
      refine a_nil ?_
      refine ⟨F11, (v1), (net_here1), _, rfl, w.f, r1, hW, ?_⟩
      intro z7 hW p9 F12 H8 s7 x8
      have ne10 := x5.ne x8.zero
      have ne11 := x6.ne x8.zero
      have ne12 := x7.ne x8.zero
      replace x8 := x8.base w
      replace r1 := Rep.mono _ s7.g r1
      replace r2 := Rep.mono _ s7.g r2
      replace r3 := Rep.mono _ s7.g r3
      replace r4 := Rep.mono _ s7.g r4
      replace r5 := Rep.mono _ s7.g r5
      replace r6 := Rep.mono _ s7.g r6
      replace r8 := Rep.mono _ s7.g r8
      replace r9 := Rep.mono _ s7.g r9
      replace r10 := Rep.mono _ s7.g r10
      replace r11 := Rep.mono _ s7.g r11
      replace r7 := Rep.mono _ s7.g r7
      replace r12 := Rep.mono _ s7.g r12
      replace x5 := x5.step s7
      replace x6 := x6.step s7
      replace x7 := x7.step s7
      replace w := w.tr s7
      refine a_nil ?_
      have nz5 := XL.nw1 x5 w.g
      obtain ⟨F13, w5, g5, r13, fz5⟩ := x5.frzE w
      replace r1 := Rep.mono _ g5 r1
      replace r2 := Rep.mono _ g5 r2
      replace r3 := Rep.mono _ g5 r3
      replace r4 := Rep.mono _ g5 r4
      replace r5 := Rep.mono _ g5 r5
      replace r6 := Rep.mono _ g5 r6
      replace r8 := Rep.mono _ g5 r8
      replace r9 := Rep.mono _ g5 r9
      replace r10 := Rep.mono _ g5 r10
      replace r11 := Rep.mono _ g5 r11
      replace r7 := Rep.mono _ g5 r7
      replace r12 := Rep.mono _ g5 r12
      replace x6 := x6.frzO fz5 (Ne.symm ne7) g5
      replace x7 := x7.frzO fz5 (Ne.symm ne8) g5
      replace x8 := x8.frzO fz5 (Ne.symm ne10) g5
      replace w := w5
      have nz6 := XL.nw1 x6 w.g
      obtain ⟨F14, w6, g6, r14, fz6⟩ := x6.frzE w
      replace r1 := Rep.mono _ g6 r1
      replace r2 := Rep.mono _ g6 r2
      replace r3 := Rep.mono _ g6 r3
      replace r4 := Rep.mono _ g6 r4
      replace r5 := Rep.mono _ g6 r5
      replace r6 := Rep.mono _ g6 r6
      replace r8 := Rep.mono _ g6 r8
      replace r9 := Rep.mono _ g6 r9
      replace r10 := Rep.mono _ g6 r10
      replace r11 := Rep.mono _ g6 r11
      replace r7 := Rep.mono _ g6 r7
      replace r12 := Rep.mono _ g6 r12
      replace r13 := Rep.mono _ g6 r13
      replace x7 := x7.frzO fz6 (Ne.symm ne9) g6
      replace x8 := x8.frzO fz6 (Ne.symm ne11) g6
      replace w := w6
      have nz7 := XL.nw1 x7 w.g
      obtain ⟨F15, w7, g7, r15, fz7⟩ := x7.frzE w
      replace r1 := Rep.mono _ g7 r1
      replace r2 := Rep.mono _ g7 r2
      replace r3 := Rep.mono _ g7 r3
      replace r4 := Rep.mono _ g7 r4
      replace r5 := Rep.mono _ g7 r5
      replace r6 := Rep.mono _ g7 r6
      replace r8 := Rep.mono _ g7 r8
      replace r9 := Rep.mono _ g7 r9
      replace r10 := Rep.mono _ g7 r10
      replace r11 := Rep.mono _ g7 r11
      replace r7 := Rep.mono _ g7 r7
      replace r12 := Rep.mono _ g7 r12
      replace r13 := Rep.mono _ g7 r13
      replace r14 := Rep.mono _ g7 r14
      replace x8 := x8.frzO fz7 (Ne.symm ne12) g7
      replace w := w7
      have nz8 := XL.nw1 x8 w.g
      obtain ⟨F16, w8, g8, r16, fz8⟩ := x8.frzE w
      replace r1 := Rep.mono _ g8 r1
      replace r2 := Rep.mono _ g8 r2
      replace r3 := Rep.mono _ g8 r3
      replace r4 := Rep.mono _ g8 r4
      replace r5 := Rep.mono _ g8 r5
      replace r6 := Rep.mono _ g8 r6
      replace r8 := Rep.mono _ g8 r8
      replace r9 := Rep.mono _ g8 r9
      replace r10 := Rep.mono _ g8 r10
      replace r11 := Rep.mono _ g8 r11
      replace r7 := Rep.mono _ g8 r7
      replace r12 := Rep.mono _ g8 r12
      replace r13 := Rep.mono _ g8 r13
      replace r14 := Rep.mono _ g8 r14
      replace r15 := Rep.mono _ g8 r15
      replace w := w8
      refine n_lstX (e := pV) (xs := [V.ref p3, V.ref p5, V.ref p7, V.ref p9]) (vs := [V.ref p3, V.ref p5, V.ref p7, V.ref p9]) (all_raw _) (show 4 < 1000000 from by decide) w ?_
      intro p10 H9 hp1 s8 x9
      replace r1 := Rep.mono _ s8.g r1
      replace r2 := Rep.mono _ s8.g r2
      replace r3 := Rep.mono _ s8.g r3
      replace r4 := Rep.mono _ s8.g r4
      replace r5 := Rep.mono _ s8.g r5
      replace r6 := Rep.mono _ s8.g r6
      replace r8 := Rep.mono _ s8.g r8
      replace r9 := Rep.mono _ s8.g r9
      replace r10 := Rep.mono _ s8.g r10
      replace r11 := Rep.mono _ s8.g r11
      replace r7 := Rep.mono _ s8.g r7
      replace r12 := Rep.mono _ s8.g r12
      replace r13 := Rep.mono _ s8.g r13
      replace r14 := Rep.mono _ s8.g r14
      replace r15 := Rep.mono _ s8.g r15
      replace r16 := Rep.mono _ s8.g r16
      replace w := w.tr s8
      obtain ⟨F17, w9, g9, r17, fz9⟩ := x9.frzE w
      replace r1 := Rep.mono _ g9 r1
      replace r2 := Rep.mono _ g9 r2
      replace r3 := Rep.mono _ g9 r3
      replace r4 := Rep.mono _ g9 r4
      replace r5 := Rep.mono _ g9 r5
      replace r6 := Rep.mono _ g9 r6
      replace r8 := Rep.mono _ g9 r8
      replace r9 := Rep.mono _ g9 r9
      replace r10 := Rep.mono _ g9 r10
      replace r11 := Rep.mono _ g9 r11
      replace r7 := Rep.mono _ g9 r7
      replace r12 := Rep.mono _ g9 r12
      replace r13 := Rep.mono _ g9 r13
      replace r14 := Rep.mono _ g9 r14
      replace r15 := Rep.mono _ g9 r15
      replace r16 := Rep.mono _ g9 r16
      replace w := w9
      have r18 := H4_up r17 r13 r14 r15 r16
      refine hN5 _ _ ?_
      refine q_sq fun N6 hN6 => ?_
      refine a_asgE ?_
      refine e_md ?_
      refine e_val (v := v1) (val_var rfl) ?_
      obtain ⟨p11, dx6, fs6, ev6, ho6, lm6⟩ := me_4 (m := "wire_names") r1 w.f
      refine ⟨_, _, _, ev6, ho6, lm6, ?_⟩
      refine a_nil ?_
      refine ⟨F17, (v1), (net_here1), _, rfl, w.f, r1, hW, ?_⟩
      intro z8 hW p12 F18 H10 s9 x10
      replace x10 := x10.base w
      replace r1 := Rep.mono _ s9.g r1
      replace r2 := Rep.mono _ s9.g r2
      replace r3 := Rep.mono _ s9.g r3
      replace r4 := Rep.mono _ s9.g r4
      replace r5 := Rep.mono _ s9.g r5
      replace r6 := Rep.mono _ s9.g r6
      replace r8 := Rep.mono _ s9.g r8
      replace r9 := Rep.mono _ s9.g r9
      replace r10 := Rep.mono _ s9.g r10
      replace r11 := Rep.mono _ s9.g r11
      replace r7 := Rep.mono _ s9.g r7
      replace r12 := Rep.mono _ s9.g r12
      replace r13 := Rep.mono _ s9.g r13
      replace r14 := Rep.mono _ s9.g r14
      replace r15 := Rep.mono _ s9.g r15
      replace r16 := Rep.mono _ s9.g r16
      replace r17 := Rep.mono _ s9.g r17
      replace r18 := Rep.mono _ s9.g r18
      replace w := w.tr s9
      have nz9 := XL.nw1 x10 w.g
      obtain ⟨F19, w10, g10, r19, fz10⟩ := x10.frzE w
      replace r1 := Rep.mono _ g10 r1
      replace r2 := Rep.mono _ g10 r2
      replace r3 := Rep.mono _ g10 r3
      replace r4 := Rep.mono _ g10 r4
      replace r5 := Rep.mono _ g10 r5
      replace r6 := Rep.mono _ g10 r6
      replace r8 := Rep.mono _ g10 r8
      replace r9 := Rep.mono _ g10 r9
      replace r10 := Rep.mono _ g10 r10
      replace r11 := Rep.mono _ g10 r11
      replace r7 := Rep.mono _ g10 r7
      replace r12 := Rep.mono _ g10 r12
      replace r13 := Rep.mono _ g10 r13
      replace r14 := Rep.mono _ g10 r14
      replace r15 := Rep.mono _ g10 r15
      replace r16 := Rep.mono _ g10 r16
      replace r17 := Rep.mono _ g10 r17
      replace r18 := Rep.mono _ g10 r18
      replace w := w10
      refine hN6 _ _ ?_
      refine q_sq fun N7 hN7 => ?_
      refine a_asgE ?_
      refine e_md ?_
      refine e_val (v := v1) (val_var rfl) ?_
      obtain ⟨p13, dx7, fs7, ev7, ho7, lm7⟩ := me_4 (m := "order") r1 w.f
      refine ⟨_, _, _, ev7, ho7, lm7, ?_⟩
      refine a_nil ?_
      refine ⟨F19, (v1), (net_here1), _, rfl, w.f, r1, hW, ?_⟩
      intro z9 hW p14 F20 H11 s10 x11
      replace x11 := x11.base w
      replace r1 := Rep.mono _ s10.g r1
      replace r2 := Rep.mono _ s10.g r2
      replace r3 := Rep.mono _ s10.g r3
      replace r4 := Rep.mono _ s10.g r4
      replace r5 := Rep.mono _ s10.g r5
      replace r6 := Rep.mono _ s10.g r6
      replace r8 := Rep.mono _ s10.g r8
      replace r9 := Rep.mono _ s10.g r9
      replace r10 := Rep.mono _ s10.g r10
      replace r11 := Rep.mono _ s10.g r11
      replace r7 := Rep.mono _ s10.g r7
      replace r12 := Rep.mono _ s10.g r12
      replace r13 := Rep.mono _ s10.g r13
      replace r14 := Rep.mono _ s10.g r14
      replace r15 := Rep.mono _ s10.g r15
      replace r16 := Rep.mono _ s10.g r16
      replace r17 := Rep.mono _ s10.g r17
      replace r18 := Rep.mono _ s10.g r18
      replace r19 := Rep.mono _ s10.g r19
      replace w := w.tr s10
      have nz10 := XL.nw1 x11 w.g
      obtain ⟨F21, w11, g11, r20, fz11⟩ := x11.frzE w
      replace r1 := Rep.mono _ g11 r1
      replace r2 := Rep.mono _ g11 r2
      replace r3 := Rep.mono _ g11 r3
      replace r4 := Rep.mono _ g11 r4
      replace r5 := Rep.mono _ g11 r5
      replace r6 := Rep.mono _ g11 r6
      replace r8 := Rep.mono _ g11 r8
      replace r9 := Rep.mono _ g11 r9
      replace r10 := Rep.mono _ g11 r10
      replace r11 := Rep.mono _ g11 r11
      replace r7 := Rep.mono _ g11 r7
      replace r12 := Rep.mono _ g11 r12
      replace r13 := Rep.mono _ g11 r13
      replace r14 := Rep.mono _ g11 r14
      replace r15 := Rep.mono _ g11 r15
      replace r16 := Rep.mono _ g11 r16
      replace r17 := Rep.mono _ g11 r17
      replace r18 := Rep.mono _ g11 r18
      replace r19 := Rep.mono _ g11 r19
      replace w := w11
      refine hN7 _ _ ?_
      refine q_sq fun N8 hN8 => ?_
      refine a_ifE ?_
      refine e_tT ?_
      refine e_op ?_
      refine e_val (v := (.ref p10)) (val_var rfl) ?_
      refine e_cb ?_
      refine a_val (v := v6) (val_var rfl) ?_
      refine a_nil ?_
      refine n_listH4 r6 w ?_
      intro p15 F22 H12 s11 r21
      replace r1 := Rep.mono _ s11.g r1
      replace r2 := Rep.mono _ s11.g r2
      replace r3 := Rep.mono _ s11.g r3
      replace r4 := Rep.mono _ s11.g r4
      replace r5 := Rep.mono _ s11.g r5
      replace r6 := Rep.mono _ s11.g r6
      replace r8 := Rep.mono _ s11.g r8
      replace r9 := Rep.mono _ s11.g r9
      replace r10 := Rep.mono _ s11.g r10
      replace r11 := Rep.mono _ s11.g r11
      replace r7 := Rep.mono _ s11.g r7
      replace r12 := Rep.mono _ s11.g r12
      replace r13 := Rep.mono _ s11.g r13
      replace r14 := Rep.mono _ s11.g r14
      replace r15 := Rep.mono _ s11.g r15
      replace r16 := Rep.mono _ s11.g r16
      replace r17 := Rep.mono _ s11.g r17
      replace r18 := Rep.mono _ s11.g r18
      replace r19 := Rep.mono _ s11.g r19
      replace r20 := Rep.mono _ s11.g r20
      replace w := w.tr s11
      obtain ⟨c2, hW⟩ := hW
      refine rv2T (b := decide ((z4, z5, z6, z7) ≠ z1)) (c_neO (K := K) (e := (pH4 (pL pS) (pL (pT2 pS (pTL pS))) (pL (pT2 pS pS)) (pL pS))) val_c val_c w.f r18 w.f r21 c2) ?_
      refine b_if (fun hc3 => ?_) (fun hc3 => ?_)
      · have hW := ifP hW hc3
        refine a_ret (v := (.bl (false))) val_c ?_
        exact hQ _ hW _ _ w
      · have hW := ifN hW hc3
        refine hN8 _ _ ?_
        refine q_sq fun N9 hN9 => ?_
        refine a_ifE ?_
        refine e_tT ?_
        refine e_op ?_
        refine e_val (v := (.ref p12)) (val_var rfl) ?_
        refine e_op ?_
        refine e_op ?_
        refine e_val (v := v2) (val_var rfl) ?_
        refine c_LE ?_
        refine e_val (v := v3) (val_var rfl) ?_
        obtain ⟨c3, hW⟩ := hW
        refine w_compL (e := pS) r3 w c3 hW ?_ ?_
        · intro Qy Qn row1 u1 F23 H13 R1 q1 hx1 ru1 hW hy1 hn1
          have r1 := Rep.mono _ q1.g r1
          have r2 := Rep.mono _ q1.g r2
          have r3 := Rep.mono _ q1.g r3
          have r4 := Rep.mono _ q1.g r4
          have r5 := Rep.mono _ q1.g r5
          have r6 := Rep.mono _ q1.g r6
          have r8 := Rep.mono _ q1.g r8
          have r9 := Rep.mono _ q1.g r9
          have r10 := Rep.mono _ q1.g r10
          have r11 := Rep.mono _ q1.g r11
          have r7 := Rep.mono _ q1.g r7
          have r12 := Rep.mono _ q1.g r12
          have r13 := Rep.mono _ q1.g r13
          have r14 := Rep.mono _ q1.g r14
          have r15 := Rep.mono _ q1.g r15
          have r16 := Rep.mono _ q1.g r16
          have r17 := Rep.mono _ q1.g r17
          have r18 := Rep.mono _ q1.g r18
          have r19 := Rep.mono _ q1.g r19
          have r20 := Rep.mono _ q1.g r20
          have w := Wf.id q1.f
          refine ⟨rfl, ?_⟩
          refine c_yes ?_
          obtain ⟨_, rfl, ix1⟩ := ix_2a (K := K) ru1 w.f
          refine e_val (v := (.str (row1.1))) (ix1 (val_var rfl) val_c) ?_
          exact hy1 _ _ _ _ w rfl hW
        intro p16 ys1 F24 H14 hp2 s12 x12 hW
        replace r1 := Rep.mono _ s12.g r1
        replace r2 := Rep.mono _ s12.g r2
        replace r3 := Rep.mono _ s12.g r3
        replace r4 := Rep.mono _ s12.g r4
        replace r5 := Rep.mono _ s12.g r5
        replace r6 := Rep.mono _ s12.g r6
        replace r8 := Rep.mono _ s12.g r8
        replace r9 := Rep.mono _ s12.g r9
        replace r10 := Rep.mono _ s12.g r10
        replace r11 := Rep.mono _ s12.g r11
        replace r7 := Rep.mono _ s12.g r7
        replace r12 := Rep.mono _ s12.g r12
        replace r13 := Rep.mono _ s12.g r13
        replace r14 := Rep.mono _ s12.g r14
        replace r15 := Rep.mono _ s12.g r15
        replace r16 := Rep.mono _ s12.g r16
        replace r17 := Rep.mono _ s12.g r17
        replace r18 := Rep.mono _ s12.g r18
        replace r19 := Rep.mono _ s12.g r19
        replace r20 := Rep.mono _ s12.g r20
        replace w := w.tr s12
        have nz11 := XL.nw1 x12 w.g
        obtain ⟨F25, w12, g12, r23, fz12⟩ := x12.frzE w
        replace r1 := Rep.mono _ g12 r1
        replace r2 := Rep.mono _ g12 r2
        replace r3 := Rep.mono _ g12 r3
        replace r4 := Rep.mono _ g12 r4
        replace r5 := Rep.mono _ g12 r5
        replace r6 := Rep.mono _ g12 r6
        replace r8 := Rep.mono _ g12 r8
        replace r9 := Rep.mono _ g12 r9
        replace r10 := Rep.mono _ g12 r10
        replace r11 := Rep.mono _ g12 r11
        replace r7 := Rep.mono _ g12 r7
        replace r12 := Rep.mono _ g12 r12
        replace r13 := Rep.mono _ g12 r13
        replace r14 := Rep.mono _ g12 r14
        replace r15 := Rep.mono _ g12 r15
        replace r16 := Rep.mono _ g12 r16
        replace r17 := Rep.mono _ g12 r17
        replace r18 := Rep.mono _ g12 r18
        replace r19 := Rep.mono _ g12 r19
        replace r20 := Rep.mono _ g12 r20
        replace w := w12
        obtain ⟨c4, hW⟩ := hW
        refine n_cat r2 r23 w c4 ?_
        intro p17 H15 hp3 s13 x13
        replace r1 := Rep.mono _ s13.g r1
        replace r2 := Rep.mono _ s13.g r2
        replace r3 := Rep.mono _ s13.g r3
        replace r4 := Rep.mono _ s13.g r4
        replace r5 := Rep.mono _ s13.g r5
        replace r6 := Rep.mono _ s13.g r6
        replace r8 := Rep.mono _ s13.g r8
        replace r9 := Rep.mono _ s13.g r9
        replace r10 := Rep.mono _ s13.g r10
        replace r11 := Rep.mono _ s13.g r11
        replace r7 := Rep.mono _ s13.g r7
        replace r12 := Rep.mono _ s13.g r12
        replace r13 := Rep.mono _ s13.g r13
        replace r14 := Rep.mono _ s13.g r14
        replace r15 := Rep.mono _ s13.g r15
        replace r16 := Rep.mono _ s13.g r16
        replace r17 := Rep.mono _ s13.g r17
        replace r18 := Rep.mono _ s13.g r18
        replace r19 := Rep.mono _ s13.g r19
        replace r20 := Rep.mono _ s13.g r20
        replace r23 := Rep.mono _ s13.g r23
        replace w := w.tr s13
        refine c_LE ?_
        refine e_val (v := v4) (val_var rfl) ?_
        obtain ⟨c5, hW⟩ := hW
        refine w_compL (e := pS) r4 w c5 hW ?_ ?_
        · intro Qy Qn row2 u2 F26 H16 R2 q2 hx2 ru2 hW hy2 hn2
          have r1 := Rep.mono _ q2.g r1
          have r2 := Rep.mono _ q2.g r2
          have r3 := Rep.mono _ q2.g r3
          have r4 := Rep.mono _ q2.g r4
          have r5 := Rep.mono _ q2.g r5
          have r6 := Rep.mono _ q2.g r6
          have r8 := Rep.mono _ q2.g r8
          have r9 := Rep.mono _ q2.g r9
          have r10 := Rep.mono _ q2.g r10
          have r11 := Rep.mono _ q2.g r11
          have r7 := Rep.mono _ q2.g r7
          have r12 := Rep.mono _ q2.g r12
          have r13 := Rep.mono _ q2.g r13
          have r14 := Rep.mono _ q2.g r14
          have r15 := Rep.mono _ q2.g r15
          have r16 := Rep.mono _ q2.g r16
          have r17 := Rep.mono _ q2.g r17
          have r18 := Rep.mono _ q2.g r18
          have r19 := Rep.mono _ q2.g r19
          have r20 := Rep.mono _ q2.g r20
          have r23 := Rep.mono _ q2.g r23
          have x13 := x13.step q2
          have w := Wf.id q2.f
          refine ⟨rfl, ?_⟩
          refine c_yes ?_
          obtain ⟨_, rfl, ix2⟩ := ix_2a (K := K) ru2 w.f
          refine e_val (v := (.str (row2.1))) (ix2 (val_var rfl) val_c) ?_
          exact hy2 _ _ _ _ w rfl hW
        intro p18 ys2 F27 H17 hp4 s14 x14 hW
        have ne13 := x13.ne hp4
        replace r1 := Rep.mono _ s14.g r1
        replace r2 := Rep.mono _ s14.g r2
        replace r3 := Rep.mono _ s14.g r3
        replace r4 := Rep.mono _ s14.g r4
        replace r5 := Rep.mono _ s14.g r5
        replace r6 := Rep.mono _ s14.g r6
        replace r8 := Rep.mono _ s14.g r8
        replace r9 := Rep.mono _ s14.g r9
        replace r10 := Rep.mono _ s14.g r10
        replace r11 := Rep.mono _ s14.g r11
        replace r7 := Rep.mono _ s14.g r7
        replace r12 := Rep.mono _ s14.g r12
        replace r13 := Rep.mono _ s14.g r13
        replace r14 := Rep.mono _ s14.g r14
        replace r15 := Rep.mono _ s14.g r15
        replace r16 := Rep.mono _ s14.g r16
        replace r17 := Rep.mono _ s14.g r17
        replace r18 := Rep.mono _ s14.g r18
        replace r19 := Rep.mono _ s14.g r19
        replace r20 := Rep.mono _ s14.g r20
        replace r23 := Rep.mono _ s14.g r23
        replace x13 := x13.step s14
        replace w := w.tr s14
        have nz12 := XL.nw1 x13 w.g
        obtain ⟨F28, w13, g13, r25, fz13⟩ := x13.frzE w
        replace r1 := Rep.mono _ g13 r1
        replace r2 := Rep.mono _ g13 r2
        replace r3 := Rep.mono _ g13 r3
        replace r4 := Rep.mono _ g13 r4
        replace r5 := Rep.mono _ g13 r5
        replace r6 := Rep.mono _ g13 r6
        replace r8 := Rep.mono _ g13 r8
        replace r9 := Rep.mono _ g13 r9
        replace r10 := Rep.mono _ g13 r10
        replace r11 := Rep.mono _ g13 r11
        replace r7 := Rep.mono _ g13 r7
        replace r12 := Rep.mono _ g13 r12
        replace r13 := Rep.mono _ g13 r13
        replace r14 := Rep.mono _ g13 r14
        replace r15 := Rep.mono _ g13 r15
        replace r16 := Rep.mono _ g13 r16
        replace r17 := Rep.mono _ g13 r17
        replace r18 := Rep.mono _ g13 r18
        replace r19 := Rep.mono _ g13 r19
        replace r20 := Rep.mono _ g13 r20
        replace r23 := Rep.mono _ g13 r23
        replace x14 := x14.frzO fz13 (Ne.symm ne13) g13
        replace w := w13
        have nz13 := XL.nw1 x14 w.g
        obtain ⟨F29, w14, g14, r26, fz14⟩ := x14.frzE w
        replace r1 := Rep.mono _ g14 r1
        replace r2 := Rep.mono _ g14 r2
        replace r3 := Rep.mono _ g14 r3
        replace r4 := Rep.mono _ g14 r4
        replace r5 := Rep.mono _ g14 r5
        replace r6 := Rep.mono _ g14 r6
        replace r8 := Rep.mono _ g14 r8
        replace r9 := Rep.mono _ g14 r9
        replace r10 := Rep.mono _ g14 r10
        replace r11 := Rep.mono _ g14 r11
        replace r7 := Rep.mono _ g14 r7
        replace r12 := Rep.mono _ g14 r12
        replace r13 := Rep.mono _ g14 r13
        replace r14 := Rep.mono _ g14 r14
        replace r15 := Rep.mono _ g14 r15
        replace r16 := Rep.mono _ g14 r16
        replace r17 := Rep.mono _ g14 r17
        replace r18 := Rep.mono _ g14 r18
        replace r19 := Rep.mono _ g14 r19
        replace r20 := Rep.mono _ g14 r20
        replace r23 := Rep.mono _ g14 r23
        replace r25 := Rep.mono _ g14 r25
        replace w := w14
        obtain ⟨c6, hW⟩ := hW
        refine n_cat r25 r26 w c6 ?_
        intro p19 H18 hp5 s15 x15
        replace r1 := Rep.mono _ s15.g r1
        replace r2 := Rep.mono _ s15.g r2
        replace r3 := Rep.mono _ s15.g r3
        replace r4 := Rep.mono _ s15.g r4
        replace r5 := Rep.mono _ s15.g r5
        replace r6 := Rep.mono _ s15.g r6
        replace r8 := Rep.mono _ s15.g r8
        replace r9 := Rep.mono _ s15.g r9
        replace r10 := Rep.mono _ s15.g r10
        replace r11 := Rep.mono _ s15.g r11
        replace r7 := Rep.mono _ s15.g r7
        replace r12 := Rep.mono _ s15.g r12
        replace r13 := Rep.mono _ s15.g r13
        replace r14 := Rep.mono _ s15.g r14
        replace r15 := Rep.mono _ s15.g r15
        replace r16 := Rep.mono _ s15.g r16
        replace r17 := Rep.mono _ s15.g r17
        replace r18 := Rep.mono _ s15.g r18
        replace r19 := Rep.mono _ s15.g r19
        replace r20 := Rep.mono _ s15.g r20
        replace r23 := Rep.mono _ s15.g r23
        replace r25 := Rep.mono _ s15.g r25
        replace r26 := Rep.mono _ s15.g r26
        replace w := w.tr s15
        have nz14 := XL.nw1 x15 w.g
        obtain ⟨F30, w15, g15, r27, fz15⟩ := x15.frzE w
        replace r1 := Rep.mono _ g15 r1
        replace r2 := Rep.mono _ g15 r2
        replace r3 := Rep.mono _ g15 r3
        replace r4 := Rep.mono _ g15 r4
        replace r5 := Rep.mono _ g15 r5
        replace r6 := Rep.mono _ g15 r6
        replace r8 := Rep.mono _ g15 r8
        replace r9 := Rep.mono _ g15 r9
        replace r10 := Rep.mono _ g15 r10
        replace r11 := Rep.mono _ g15 r11
        replace r7 := Rep.mono _ g15 r7
        replace r12 := Rep.mono _ g15 r12
        replace r13 := Rep.mono _ g15 r13
        replace r14 := Rep.mono _ g15 r14
        replace r15 := Rep.mono _ g15 r15
        replace r16 := Rep.mono _ g15 r16
        replace r17 := Rep.mono _ g15 r17
        replace r18 := Rep.mono _ g15 r18
        replace r19 := Rep.mono _ g15 r19
        replace r20 := Rep.mono _ g15 r20
        replace r23 := Rep.mono _ g15 r23
        replace r25 := Rep.mono _ g15 r25
        replace r26 := Rep.mono _ g15 r26
        replace w := w15
        obtain ⟨c7, hW⟩ := hW
        refine rv2T (b := decide (z8 ≠ ((ins1 ++ ys1) ++ ys2))) (c_neO (K := K) (e := (pL pS)) val_c val_c w.f r19 w.f r27 c7) ?_
        refine b_if (fun hc4 => ?_) (fun hc4 => ?_)
        · have hW := ifP hW hc4
          refine a_ret (v := (.bl (false))) val_c ?_
          exact hQ _ hW _ _ w
        · have hW := ifN hW hc4
          refine hN9 _ _ ?_
          refine q_sq fun N10 hN10 => ?_
          refine a_ifE ?_
          refine e_tNot ?_
          refine e_tB ?_
          refine e_call ?_
          refine a_val (v := (.ref p14)) (val_var rfl) ?_
          refine a_val (v := v3) (val_var rfl) ?_
          refine a_nil ?_
          refine ⟨F30, ((.ref p14)), (z9), (v3), (sums1), _, rfl, w.f, r20, r3, hW, ?_⟩
          intro z10 hW F31 H19 s16
          replace r1 := Rep.mono _ s16.g r1
          replace r2 := Rep.mono _ s16.g r2
          replace r3 := Rep.mono _ s16.g r3
          replace r4 := Rep.mono _ s16.g r4
          replace r5 := Rep.mono _ s16.g r5
          replace r6 := Rep.mono _ s16.g r6
          replace r8 := Rep.mono _ s16.g r8
          replace r9 := Rep.mono _ s16.g r9
          replace r10 := Rep.mono _ s16.g r10
          replace r11 := Rep.mono _ s16.g r11
          replace r7 := Rep.mono _ s16.g r7
          replace r12 := Rep.mono _ s16.g r12
          replace r13 := Rep.mono _ s16.g r13
          replace r14 := Rep.mono _ s16.g r14
          replace r15 := Rep.mono _ s16.g r15
          replace r16 := Rep.mono _ s16.g r16
          replace r17 := Rep.mono _ s16.g r17
          replace r18 := Rep.mono _ s16.g r18
          replace r19 := Rep.mono _ s16.g r19
          replace r20 := Rep.mono _ s16.g r20
          replace w := w.tr s16
          refine bl_v ?_
          refine bb_ifn (fun hc5 => ?_) (fun hc5 => ?_)
          · have hW := ifP hW hc5
            refine hN10 _ _ ?_
            refine q_sq fun N11 hN11 => ?_
            refine f_LE ?_
            refine e_op ?_
            refine e_op ?_
            refine e_val (v := (.ref p10)) (val_var rfl) ?_
            refine e_lst ?_
            refine a_val (v := (.ref p12)) (val_var rfl) ?_
            refine a_val (v := (.ref p14)) (val_var rfl) ?_
            refine a_nil ?_
            refine n_lstX (e := pV) (xs := [V.ref p12, V.ref p14]) (vs := [V.ref p12, V.ref p14]) (all_raw _) (show 2 < 1000000 from by decide) w ?_
            intro p20 H20 hp6 s17 x16
            replace r1 := Rep.mono _ s17.g r1
            replace r2 := Rep.mono _ s17.g r2
            replace r3 := Rep.mono _ s17.g r3
            replace r4 := Rep.mono _ s17.g r4
            replace r5 := Rep.mono _ s17.g r5
            replace r6 := Rep.mono _ s17.g r6
            replace r8 := Rep.mono _ s17.g r8
            replace r9 := Rep.mono _ s17.g r9
            replace r10 := Rep.mono _ s17.g r10
            replace r11 := Rep.mono _ s17.g r11
            replace r7 := Rep.mono _ s17.g r7
            replace r12 := Rep.mono _ s17.g r12
            replace r13 := Rep.mono _ s17.g r13
            replace r14 := Rep.mono _ s17.g r14
            replace r15 := Rep.mono _ s17.g r15
            replace r16 := Rep.mono _ s17.g r16
            replace r17 := Rep.mono _ s17.g r17
            replace r18 := Rep.mono _ s17.g r18
            replace r19 := Rep.mono _ s17.g r19
            replace r20 := Rep.mono _ s17.g r20
            replace w := w.tr s17
            obtain ⟨F32, w16, g16, r28, fz16⟩ := x16.frzE w
            replace r1 := Rep.mono _ g16 r1
            replace r2 := Rep.mono _ g16 r2
            replace r3 := Rep.mono _ g16 r3
            replace r4 := Rep.mono _ g16 r4
            replace r5 := Rep.mono _ g16 r5
            replace r6 := Rep.mono _ g16 r6
            replace r8 := Rep.mono _ g16 r8
            replace r9 := Rep.mono _ g16 r9
            replace r10 := Rep.mono _ g16 r10
            replace r11 := Rep.mono _ g16 r11
            replace r7 := Rep.mono _ g16 r7
            replace r12 := Rep.mono _ g16 r12
            replace r13 := Rep.mono _ g16 r13
            replace r14 := Rep.mono _ g16 r14
            replace r15 := Rep.mono _ g16 r15
            replace r16 := Rep.mono _ g16 r16
            replace r17 := Rep.mono _ g16 r17
            replace r18 := Rep.mono _ g16 r18
            replace r19 := Rep.mono _ g16 r19
            replace r20 := Rep.mono _ g16 r20
            replace w := w16
            have hl1 : ([V.ref p3, V.ref p5, V.ref p7, V.ref p9]).length + ([V.ref p12, V.ref p14]).length < 1000000 := by simp only [List.length_append, List.length_map, List.length_cons, List.length_nil]; omega
            refine n_cat (e := pV) r17 r28 w hl1 ?_
            intro p21 H21 hp7 s18 x17
            replace r1 := Rep.mono _ s18.g r1
            replace r2 := Rep.mono _ s18.g r2
            replace r3 := Rep.mono _ s18.g r3
            replace r4 := Rep.mono _ s18.g r4
            replace r5 := Rep.mono _ s18.g r5
            replace r6 := Rep.mono _ s18.g r6
            replace r8 := Rep.mono _ s18.g r8
            replace r9 := Rep.mono _ s18.g r9
            replace r10 := Rep.mono _ s18.g r10
            replace r11 := Rep.mono _ s18.g r11
            replace r7 := Rep.mono _ s18.g r7
            replace r12 := Rep.mono _ s18.g r12
            replace r13 := Rep.mono _ s18.g r13
            replace r14 := Rep.mono _ s18.g r14
            replace r15 := Rep.mono _ s18.g r15
            replace r16 := Rep.mono _ s18.g r16
            replace r17 := Rep.mono _ s18.g r17
            replace r18 := Rep.mono _ s18.g r18
            replace r19 := Rep.mono _ s18.g r19
            replace r20 := Rep.mono _ s18.g r20
            replace r28 := Rep.mono _ s18.g r28
            replace w := w.tr s18
            refine e_cb ?_
            refine a_val (v := v7) (val_var rfl) ?_
            refine a_nil ?_
            refine n_listR4 r7 w ?_
            intro p22 F33 H22 hp8 s19 r29
            have ne14 := x17.ne hp8
            replace r1 := Rep.mono _ s19.g r1
            replace r2 := Rep.mono _ s19.g r2
            replace r3 := Rep.mono _ s19.g r3
            replace r4 := Rep.mono _ s19.g r4
            replace r5 := Rep.mono _ s19.g r5
            replace r6 := Rep.mono _ s19.g r6
            replace r8 := Rep.mono _ s19.g r8
            replace r9 := Rep.mono _ s19.g r9
            replace r10 := Rep.mono _ s19.g r10
            replace r11 := Rep.mono _ s19.g r11
            replace r7 := Rep.mono _ s19.g r7
            replace r12 := Rep.mono _ s19.g r12
            replace r13 := Rep.mono _ s19.g r13
            replace r14 := Rep.mono _ s19.g r14
            replace r15 := Rep.mono _ s19.g r15
            replace r16 := Rep.mono _ s19.g r16
            replace r17 := Rep.mono _ s19.g r17
            replace r18 := Rep.mono _ s19.g r18
            replace r19 := Rep.mono _ s19.g r19
            replace r20 := Rep.mono _ s19.g r20
            replace r28 := Rep.mono _ s19.g r28
            replace x17 := x17.step s19
            replace w := w.tr s19
            obtain ⟨F34, w17, g17, r30, fz17⟩ := x17.frzE w
            replace r1 := Rep.mono _ g17 r1
            replace r2 := Rep.mono _ g17 r2
            replace r3 := Rep.mono _ g17 r3
            replace r4 := Rep.mono _ g17 r4
            replace r5 := Rep.mono _ g17 r5
            replace r6 := Rep.mono _ g17 r6
            replace r8 := Rep.mono _ g17 r8
            replace r9 := Rep.mono _ g17 r9
            replace r10 := Rep.mono _ g17 r10
            replace r11 := Rep.mono _ g17 r11
            replace r7 := Rep.mono _ g17 r7
            replace r12 := Rep.mono _ g17 r12
            replace r13 := Rep.mono _ g17 r13
            replace r14 := Rep.mono _ g17 r14
            replace r15 := Rep.mono _ g17 r15
            replace r16 := Rep.mono _ g17 r16
            replace r17 := Rep.mono _ g17 r17
            replace r18 := Rep.mono _ g17 r18
            replace r19 := Rep.mono _ g17 r19
            replace r20 := Rep.mono _ g17 r20
            replace r28 := Rep.mono _ g17 r28
            replace r29 := Rep.mono _ g17 r29
            replace w := w17
            have wf2 := w.f
            have nw2 : Nws H0 F0 F34 [p3, p5, p7, p9, p12, p14, l1, l2, l3, l4] := (Nws.cons nz5 r13 (Nws.cons nz6 r14 (Nws.cons nz7 r15 (Nws.cons nz8 r16 (Nws.cons nz9 r19 (Nws.cons nz10 r20 (Nws.cons nz1 r8 (Nws.cons nz2 r9 (Nws.cons nz3 r10 (Nws.cons nz4 r11 Nws.nil))))))))))
            have hl2 : ([V.ref p3, V.ref p5, V.ref p7, V.ref p9] ++ [V.ref p12, V.ref p14]).length + ([V.ref l1, V.ref l2, V.ref l3, V.ref l4]).length < 1000000 := by simp only [List.length_append, List.length_map, List.length_cons, List.length_nil]; omega
            refine n_cat (e := pV) r30 r29 w hl2 ?_
            intro p23 H23 hp9 s20 x18
            replace r1 := Rep.mono _ s20.g r1
            replace r2 := Rep.mono _ s20.g r2
            replace r3 := Rep.mono _ s20.g r3
            replace r4 := Rep.mono _ s20.g r4
            replace r5 := Rep.mono _ s20.g r5
            replace r6 := Rep.mono _ s20.g r6
            replace r8 := Rep.mono _ s20.g r8
            replace r9 := Rep.mono _ s20.g r9
            replace r10 := Rep.mono _ s20.g r10
            replace r11 := Rep.mono _ s20.g r11
            replace r7 := Rep.mono _ s20.g r7
            replace r12 := Rep.mono _ s20.g r12
            replace r13 := Rep.mono _ s20.g r13
            replace r14 := Rep.mono _ s20.g r14
            replace r15 := Rep.mono _ s20.g r15
            replace r16 := Rep.mono _ s20.g r16
            replace r17 := Rep.mono _ s20.g r17
            replace r18 := Rep.mono _ s20.g r18
            replace r19 := Rep.mono _ s20.g r19
            replace r20 := Rep.mono _ s20.g r20
            replace r28 := Rep.mono _ s20.g r28
            replace r30 := Rep.mono _ s20.g r30
            replace r29 := Rep.mono _ s20.g r29
            replace w := w.tr s20
            have nn1 := new_notin hp9 nw2 wf2
            obtain ⟨F35, w18, g18, r31, fz18⟩ := x18.frzE w
            replace r1 := Rep.mono _ g18 r1
            replace r2 := Rep.mono _ g18 r2
            replace r3 := Rep.mono _ g18 r3
            replace r4 := Rep.mono _ g18 r4
            replace r5 := Rep.mono _ g18 r5
            replace r6 := Rep.mono _ g18 r6
            replace r8 := Rep.mono _ g18 r8
            replace r9 := Rep.mono _ g18 r9
            replace r10 := Rep.mono _ g18 r10
            replace r11 := Rep.mono _ g18 r11
            replace r7 := Rep.mono _ g18 r7
            replace r12 := Rep.mono _ g18 r12
            replace r13 := Rep.mono _ g18 r13
            replace r14 := Rep.mono _ g18 r14
            replace r15 := Rep.mono _ g18 r15
            replace r16 := Rep.mono _ g18 r16
            replace r17 := Rep.mono _ g18 r17
            replace r18 := Rep.mono _ g18 r18
            replace r19 := Rep.mono _ g18 r19
            replace r20 := Rep.mono _ g18 r20
            replace r28 := Rep.mono _ g18 r28
            replace r30 := Rep.mono _ g18 r30
            replace r29 := Rep.mono _ g18 r29
            replace w := w18
            have nw3 : Nws H0 F0 F35 [p3, p5, p7, p9, p12, p14, l1, l2, l3, l4] := (Nws.cons nz5 r13 (Nws.cons nz6 r14 (Nws.cons nz7 r15 (Nws.cons nz8 r16 (Nws.cons nz9 r19 (Nws.cons nz10 r20 (Nws.cons nz1 r8 (Nws.cons nz2 r9 (Nws.cons nz3 r10 (Nws.cons nz4 r11 Nws.nil))))))))))
            have rr1 : (pL pV).r F35 (.ref p23) (List.map V.ref [p3, p5, p7, p9, p12, p14, l1, l2, l3, l4]) := by simpa only [List.map_append, List.map_cons, List.map_nil, List.append_assoc, List.cons_append, List.nil_append] using r31
            have rr2 := raw_drop rr1 nn1
            have gd1 := drop_ex w.g nw3
            have lks1 := Lks.start (F := F35) nw3 w.f
            replace w := Wf.drop w (fun q hq => (nw3 q hq).2.1)
            replace hW := forW_skip (S := Unit) (xs := List.map V.ref [p3, p5, p7, p9, p12, p14, l1, l2, l3, l4]) hW
            refine w_forL (S := Unit) (fun _ σ' F' H' => ∃ (o1 : Option V), Wf F0 H0 F' H' ∧ Ex (woL F35 [p3, p5, p7, p9, p12, p14, l1, l2, l3, l4]) F' ∧ σ' = [some v1, some v2, some v3, some v4, some v5, some v6, some v7, some (.ref p10), some (.ref p12), some (.ref p14), none, o1] ∧ Lks H0 F' H' [p3, p5, p7, p9, p12, p14, l1, l2, l3, l4]) rr2 hW ⟨_, w, Ex.rfl', rfl, lks1⟩ (fun s σ' F' H' hI => by obtain ⟨_, w', gx', _⟩ := hI; exact ⟨gx', w'.f⟩) w.f ?_ ?_
            · intro N12 Bk1 x20 u3 s21 σ' F36 H24 nx1 bk1 hI2 hx3 ru3 hW hN12 hB1
              obtain ⟨o1, w, gx3, rfl, x19⟩ := hI2
              obtain ⟨q3, hq1, eq1⟩ := List.mem_map.mp hx3
              obtain rfl : u3 = V.ref q3 := Eq.trans ru3 (Eq.symm eq1)
              refine g_name ?_
              obtain ⟨us1, xq1⟩ := Lks.one x19 hq1
              refine a_dropE ?_
              refine m_list0 xq1 (val_var rfl) ?_
              refine a_clr xq1 w (fun H25 w19 x21 kp1 => ?_)
              have lks2 := Lks.clr x19 hq1 x21 kp1
              replace w := w19
              exact hN12 () _ _ _ ⟨_, w, gx3, rfl, lks2⟩ hW
            · intro _ σ' F37 H26 hI3 hW
              obtain ⟨o1, w, gx4, rfl, x19⟩ := hI3
              refine hN11 _ _ ?_
              refine a_ret (v := (.bl (true))) val_c ?_
              exact hQ _ hW _ _ w
          · have hW := ifN hW hc5
            refine a_ret (v := (.bl (false))) val_c ?_
            exact hQ _ hW _ _ w
abbrev s_law : Stmt := topS 36
def W_law (script1 : List Int) (R : Bool → Prop) : Prop := W_net script1 1 6 fun z1 => jn (fun kk => W_cell script1 0 fun z2 => if (modN (z2 / ((2 : Nat) : Int)) 8) = 5 then (W_ladder z1.2.1 fun z3 => kk z3) else (kk z1.2.1)) fun sums2 => (sums2.length < 1000000) ∧ compW sums2 (fun row1 kk => kk (some row1.2)) fun ys1 => (sums2.length < 1000000) ∧ compW (List.range sums2.length) (fun k1 kk => ∃ x5, sums2[k1]? = some x5 ∧ ∃ x6, sums2[k1]? = some x6 ∧ ∃ x7, ys1[k1]? = some x7 ∧ kk (some (x6.1, x7))) fun ys2 => W_cell script1 0 fun z4 => if (modN z4 2) = 1 then ((sums2.length < 1000000) ∧ compW sums2 (fun row2 kk => kk (some (row2.1, row2.2))) fun ys3 => W_Net___init__ z1.1 ys3 z1.2.2.1 z1.2.2.2 fun z5 => (ys1.length + 4 < 1000000) ∧ jn (fun kk => W_good z5 z1.1 sums2 z1.2.2.1 z1.2.2.2 fun z6 => if z6 = true then (W_good z5 z1.1 sums2 z1.2.2.1 z1.2.2.2 fun z7 => kk (!z7)) else (kk true)) fun b1 => if b1 = true then (R false) else (W_cell script1 1 fun z8 => W_name z8 60 fun z9 => forW [(An.s z9), (An.s (PySem.Str.ofString "")), (An.s (PySem.Str.ofString "A")), An.n, (An.i ((7 : Nat) : Int)), (An.l (([] : List (List An)).map (fun xs => An.l (xs.map (fun x : An => x))))), (An.b true)] () (fun thing1 _ nx3 bk2 => W_missing z5 thing1 fun z10 => if z10 = true then (nx3 ()) else (R false)) fun _ => R true)) else (W_Net___init__ z1.1 ys2 z1.2.2.1 z1.2.2.2 fun z11 => (ys1.length + 4 < 1000000) ∧ jn (fun kk => W_good z11 z1.1 sums2 z1.2.2.1 z1.2.2.2 fun z12 => if z12 = true then (W_good z11 z1.1 sums2 z1.2.2.1 z1.2.2.2 fun z13 => kk (!z13)) else (kk true)) fun b2 => if b2 = true then (R false) else (W_cell script1 1 fun z14 => W_name z14 60 fun z15 => forW [(An.s z15), (An.s (PySem.Str.ofString "")), (An.s (PySem.Str.ofString "A")), An.n, (An.i ((7 : Nat) : Int)), (An.l (([] : List (List An)).map (fun xs => An.l (xs.map (fun x : An => x))))), (An.b true)] () (fun thing2 _ nx6 bk4 => W_missing z11 thing2 fun z16 => if z16 = true then (nx6 ()) else (R false)) fun _ => R true))
def sp_law (K : PySem.W.Frag) (cc : Cz) : Sp := fun vs H Q _ => ∃ (F : Hp) (v1 : V) (script1 : List Int) (R : Bool → Prop), vs = [v1] ∧ Ex F H ∧ (pScr K).r F v1 script1 ∧ W_law script1 R ∧ ∀ z, R z → ∀ F' H', Wf F H F' H' → Q (.bl (z)) H'
abbrev N_law : List Str := ["_law_script", "_law_ins", "_law_sums", "_law_stores", "_law_outs", "_law_wires_here", "_law_row", "_law_handed", "_law_k", "_law_net_here", "_law_some", "_law_thing"]
theorem sc_law : FnScope N_law ["_law_script"] (defScope s_law) := ⟨rfl, rfl, rfl, by decide +kernel, rfl, by decide +kernel, by decide +kernel⟩
theorem ok_law {P : Program} {w0 : World} {K : PySem.W.Frag} {mg : Str → Option Value} {base : Heap} {f : Addr} {fd : FuncData} {cc : Cz} (T : Tz K mg cc) (FU : Fun K "law" "law" s_law f fd) (c_net : Fn P w0 K mg base CX0 3 "_law_net" ["_law_script", "_law_start", "_law_most"] (sp_net K cc)) (c_cell : Fn P w0 K mg base CX0 1 "_law_cell" ["_law_script", "_law_k"] (sp_cell K cc)) (c_ladder : Fn P w0 K mg base CX0 1 "_law_ladder" ["_law_sums"] (sp_ladder K cc)) (c_Net___init__ : Nw P w0 K mg base CX0 5 cc.Net "Net" ["self", "ins", "sums", "stores", "outs"] (sp_Net___init__ K cc)) (c_good : Fn P w0 K mg base CX0 6 "_law_good" ["_law_net_here", "_law_ins", "_law_sums", "_law_stores", "_law_outs"] (sp_good K cc)) (c_name : Fn P w0 K mg base CX0 2 "_law_name" ["_law_cell_here", "_law_k"] (sp_name K cc)) (c_missing : Fn P w0 K mg base CX0 5 "_law_missing" ["_law_net_here", "_law_thing"] (sp_missing K cc)) (n_len : mg "len" = none) (n_list : mg "list" = none) (n_range : mg "range" = none) (n_tuple : mg "tuple" = none) : FnOk P w0 K mg base CX0 7 f fd ["_law_script"] (sp_law K cc) := by
  refine FU.ok sc_law (fun vs H Q E h => ?_) (fun cdv A outer s H0 vs Q E hr h => ?_)
  · obtain ⟨_, _, _, _, rfl, _⟩ := h; rfl
  · obtain ⟨F0, v1, script1, R, rfl, wf, r1, hW, hQ⟩ := h
    have nd := sc_law.nd
    refine ⟨(tSeq (tAsg (tCall (sp_net K cc) [] E0 (tCons (tVar 0) (tCons (tC (.int 1)) (tCons (tC (.int 6)) tNil)))) (gTup K 4 (gCons (gName 1) (gCons (gName 2) (gCons (gName 3) (gCons (gName 4) gNil)))))) (tSeq (tIfS (tTest (tOp L2.rEq (tOp kMod (tOp kDiv (tCall (sp_cell K cc) [] E0 (tCons (tVar 0) (tCons (tC (.int 0)) tNil))) (tC (.int 2))) (tC (.int 8))) (tC (.int 5)))) (tAsg (tCall (sp_ladder K cc) [] E0 (tCons (tVar 2) tNil)) (gName 2)) tNext) (tSeq (tAsg (tLc (iList K (tVar 2)) (gName 6) tYes (tCB (rListOf K) (tCons (tOp (L2.rIxT K) (tVar 6) (tC (.int 1))) tNil)) [6]) (gName 5)) (tSeq (tAsg (tLst (tCons (tCB (rListOf K) (tCons (tVar 1) tNil)) (tCons (tLc (iRng1 (tCons (tCB (Wk.rLen K) (tCons (tVar 2) tNil)) tNil)) (gName 8) tYes (tTup (tCons (tOp (L2.rIxT K) (tOp (L2.rIxL K) (tVar 2) (tVar 8)) (tC (.int 0))) (tCons (tOp (L2.rIxL K) (tVar 5) (tVar 8)) tNil))) [8]) (tCons (tCB (rListOf K) (tCons (tVar 3) tNil)) (tCons (tCB (rListOf K) (tCons (tVar 4) tNil)) tNil))))) (gName 7)) (tSeq (tIfS (tTest (tOp L2.rEq (tOp kMod (tCall (sp_cell K cc) [] E0 (tCons (tVar 0) (tCons (tC (.int 0)) tNil))) (tC (.int 2))) (tC (.int 1)))) (tAsg (tLc (iList K (tVar 2)) (gName 6) tYes (tTup (tCons (tOp (L2.rIxT K) (tVar 6) (tC (.int 0))) (tCons (tCB (rTupOf K) (tCons (tOp (L2.rIxT K) (tVar 6) (tC (.int 1))) tNil)) tNil))) [6]) (gSub (tVar 7) (tC (.int 1)) rSetL)) tNext) (tSeq (tAsg (tMake cc.Net (sp_Net___init__ K cc) [] E0 (tCons (tOp (L2.rIxL K) (tVar 7) (tC (.int 0))) (tCons (tOp (L2.rIxL K) (tVar 7) (tC (.int 1))) (tCons (tOp (L2.rIxL K) (tVar 7) (tC (.int 2))) (tCons (tOp (L2.rIxL K) (tVar 7) (tC (.int 3))) tNil))))) (gName 9)) (tSeq (tFor (iList K (tOp L2.rCat (tVar 5) (tVar 7))) (gName 10) (tDrop (tBM0 K "list" rClear (tVar 10)))) (tSeq (tIfS (tOr (tNot (tB (tCall (sp_good K cc) [] E0 (tCons (tVar 9) (tCons (tVar 1) (tCons (tVar 2) (tCons (tVar 3) (tCons (tVar 4) tNil)))))))) (tNot (tB (tCall (sp_good K cc) [] E0 (tCons (tVar 9) (tCons (tVar 1) (tCons (tVar 2) (tCons (tVar 3) (tCons (tVar 4) tNil))))))))) (tRet (tC (.bl false))) tNext) (tSeq (tFor (iList K (tLst (tCons (tCall (sp_name K cc) [] E0 (tCons (tCall (sp_cell K cc) [] E0 (tCons (tVar 0) (tCons (tC (.int 1)) tNil))) (tCons (tC (.int 60)) tNil))) (tCons (tC (.str (PySem.Str.ofString ""))) (tCons (tC (.str (PySem.Str.ofString "A"))) (tCons (tC .non) (tCons (tC (.int 7)) (tCons (tLst tNil) (tCons (tC (.bl true)) tNil))))))))) (gName 11) (tIfS (tNot (tB (tCall (sp_missing K cc) [] E0 (tCons (tVar 9) (tCons (tVar 11) tNil))))) (tRet (tC (.bl false))) tNext)) (tRet (tC (.bl true)))))))))))), (pss_cons (ps_asg (pe_fn c_net (hr.mono (by decide)) rfl (pa_cons (pv 0) (pa_cons pe_int (pa_cons pe_int pa_nil)))) (pg_tup rfl (pgs_cons (pg_name (i := 1) nd rfl (Or.inl rfl)) (pgs_cons (pg_name (i := 2) nd rfl (Or.inr rfl)) (pgs_cons (pg_name (i := 3) nd rfl (Or.inl rfl)) (pgs_cons (pg_name (i := 4) nd rfl (Or.inl rfl)) pgs_nil)))) (by rfl))) (pss_cons (ps_if (pt_cmpR op_eq (pe_op op_mod (pe_op op_fdivW (pe_fn c_cell (hr.mono (by decide)) rfl (pa_cons (pv 0) (pa_cons pe_int pa_nil))) pe_int) pe_int) pe_int (nomark _)) (pss_one (ps_set (i := 2) nd rfl (Or.inr rfl) (pe_fn c_ladder (hr.mono (by decide)) rfl (pa_cons (pv 2) pa_nil)))) pss_nil) (pss_cons (ps_set (i := 5) nd rfl (Or.inr rfl) (pe_lc (own := [("_law_row", 6)]) (wi := (iList K (tVar 2))) (g := (gName 6)) (tt := tYes) (te := (tCB (rListOf K) (tCons (tOp (L2.rIxT K) (tVar 6) (tC (.int 1))) tNil))) rfl nd (pi_list (pv 2)) (blkOk_by (N := N_law) (sc := defScope s_law) (by decide +kernel)) (fun _ _ _ _ _ => (pg_name (i := 6) nd rfl (Or.inl rfl))) (fun _ _ _ _ _ => pts_nil) (fun _ _ _ _ _ => (pe_callTy call_list_of (by rfl) n_list PyProof.Rows.boot_list (pa_cons (pe_ix ix_tup (pv 6) pe_int (fun _ _ => rfl)) pa_nil))))) (pss_cons (ps_set (i := 7) nd rfl (Or.inl rfl) (pe_lst (pa_cons (pe_callTy call_list_of (by rfl) n_list PyProof.Rows.boot_list (pa_cons (pv 1) pa_nil)) (pa_cons (pe_lc (own := [("_law_k", 8)]) (wi := (iRng1 (tCons (tCB (Wk.rLen K) (tCons (tVar 2) tNil)) tNil))) (g := (gName 8)) (tt := tYes) (te := (tTup (tCons (tOp (L2.rIxT K) (tOp (L2.rIxL K) (tVar 2) (tVar 8)) (tC (.int 0))) (tCons (tOp (L2.rIxL K) (tVar 5) (tVar 8)) tNil)))) rfl nd (pi_range1 rfl n_range (pa_cons (pe_callB call_len_seq (by rfl) n_len PySem.boot_len (pa_cons (pv 2) pa_nil)) pa_nil)) (blkOk_by (N := N_law) (sc := defScope s_law) (by decide +kernel)) (fun _ _ _ _ _ => (pg_name (i := 8) nd rfl (Or.inl rfl))) (fun _ _ _ _ _ => pts_nil) (fun _ _ _ _ _ => (pe_tup (pa_cons (pe_ix ix_tup (pe_ix ix_list (pv 2) (pv 8) (fun _ _ => rfl)) pe_int (fun _ _ => rfl)) (pa_cons (pe_ix ix_list (pv 5) (pv 8) (fun _ _ => rfl)) pa_nil))))) (pa_cons (pe_callTy call_list_of (by rfl) n_list PyProof.Rows.boot_list (pa_cons (pv 3) pa_nil)) (pa_cons (pe_callTy call_list_of (by rfl) n_list PyProof.Rows.boot_list (pa_cons (pv 4) pa_nil)) pa_nil)))))) (pss_cons (ps_if (pt_cmpR op_eq (pe_op op_mod (pe_fn c_cell (hr.mono (by decide)) rfl (pa_cons (pv 0) (pa_cons pe_int pa_nil))) pe_int) pe_int (nomark _)) (pss_one (ps_asg (pe_lc (own := [("_law_row", 6)]) (wi := (iList K (tVar 2))) (g := (gName 6)) (tt := tYes) (te := (tTup (tCons (tOp (L2.rIxT K) (tVar 6) (tC (.int 0))) (tCons (tCB (rTupOf K) (tCons (tOp (L2.rIxT K) (tVar 6) (tC (.int 1))) tNil)) tNil)))) rfl nd (pi_list (pv 2)) (blkOk_by (N := N_law) (sc := defScope s_law) (by decide +kernel)) (fun _ _ _ _ _ => (pg_name (i := 6) nd rfl (Or.inl rfl))) (fun _ _ _ _ _ => pts_nil) (fun _ _ _ _ _ => (pe_tup (pa_cons (pe_ix ix_tup (pv 6) pe_int (fun _ _ => rfl)) (pa_cons (pe_callTy call_tuple_of (by rfl) n_tuple PyProof.Rows.boot_tuple (pa_cons (pe_ix ix_tup (pv 6) pe_int (fun _ _ => rfl)) pa_nil)) pa_nil))))) (pg_sub (pv 7) pe_int set_list))) pss_nil) (pss_cons (ps_set (i := 9) nd rfl (Or.inl rfl) (pe_nw c_Net___init__ (hr.mono (by decide)) rfl (pa_cons (pe_ix ix_list (pv 7) pe_int (fun _ _ => rfl)) (pa_cons (pe_ix ix_list (pv 7) pe_int (fun _ _ => rfl)) (pa_cons (pe_ix ix_list (pv 7) pe_int (fun _ _ => rfl)) (pa_cons (pe_ix ix_list (pv 7) pe_int (fun _ _ => rfl)) pa_nil)))))) (pss_cons (ps_for PassesOwn.never rfl (pi_list (pe_op op_cat (pv 5) (pv 7))) (pg_name (i := 10) nd rfl (Or.inl rfl)) (pss_one (ps_expr (pe_bm0 PySem.F.plainAttrs_list PySem.F.slot_list_clear PySem.F.type_list_clear mt_clear (pv 10))))) (pss_cons (ps_if (PW.pt (pw_or (pt_not (pt_val (pe_fn c_good (hr.mono (by decide)) rfl (pa_cons (pv 9) (pa_cons (pv 1) (pa_cons (pv 2) (pa_cons (pv 3) (pa_cons (pv 4) pa_nil)))))))) (pw_or1 (pt_not (pt_val (pe_fn c_good (hr.mono (by decide)) rfl (pa_cons (pv 9) (pa_cons (pv 1) (pa_cons (pv 2) (pa_cons (pv 3) (pa_cons (pv 4) pa_nil))))))))))) (pss_one (ps_ret pe_bl)) pss_nil) (pss_cons (ps_for PassesOwn.never rfl (pi_list (pe_lst (pa_cons (pe_fn c_name (hr.mono (by decide)) rfl (pa_cons (pe_fn c_cell (hr.mono (by decide)) rfl (pa_cons (pv 0) (pa_cons pe_int pa_nil))) (pa_cons pe_int pa_nil))) (pa_cons pe_str (pa_cons pe_str (pa_cons pe_non (pa_cons pe_int (pa_cons (pe_lst pa_nil) (pa_cons pe_bl pa_nil))))))))) (pg_name (i := 11) nd rfl (Or.inl rfl)) (pss_one (ps_if (pt_not (pt_val (pe_fn c_missing (hr.mono (by decide)) rfl (pa_cons (pv 9) (pa_cons (pv 11) pa_nil))))) (pss_one (ps_ret pe_bl)) pss_nil))) (pss_one (ps_ret pe_bl))))))))))), ?_⟩
    have w := Wf.id wf
    refine q_sq fun N1 hN1 => ?_
    refine a_asgG ?_
    refine e_call ?_
    refine a_val (v := v1) (val_var rfl) ?_
    refine a_val (v := (.int ((1 : Nat) : Int))) val_c ?_
    refine a_val (v := (.int ((6 : Nat) : Int))) val_c ?_
    refine a_nil ?_
    refine ⟨F0, (v1), (script1), (1), (6), _, rfl, w.f, r1, hW, ?_⟩
    intro z1 hW v2 F1 H1 s1 r2
    replace r1 := Rep.mono _ s1.g r1
    replace w := w.tr s1
    obtain ⟨p1, u1, u2, u3, u4, rfl, h1, r3, r4, r5, r6⟩ := r2
    refine ⟨p1, _, rfl, SqT.of (w.f _ _ h1), rfl, _, _, rfl, _, _, rfl, _, _, rfl, _, _, rfl, rfl, ?_⟩
    refine hN1 _ _ ?_
    refine q_jn (S := List (Str × List Str)) hW (fun sums2 σ' F' H' => ∃ (v3 : V), Wf F0 H0 F' H' ∧ Ex F1 F' ∧ σ' = [some v1, some u1, some v3, some u3, some u4, none, none, none, none, none, none, none] ∧ (pL (pT2 pS (pL pS))).r F' v3 sums2) ?_ ?_
    · intro N2 hN2 hW
      have gx1 : Ex F1 F1 := Ex.rfl'
      refine a_ifE ?_
      refine e_tT ?_
      refine e_op ?_
      refine e_op ?_
      refine e_op ?_
      refine e_call ?_
      refine a_val (v := v1) (val_var rfl) ?_
      refine a_val (v := (.int ((0 : Nat) : Int))) val_c ?_
      refine a_nil ?_
      refine ⟨F1, (v1), (script1), (0), _, rfl, w.f, r1, hW, ?_⟩
      intro z2 hW F2 H2 s2
      replace r1 := Rep.mono _ s2.g r1
      replace r3 := Rep.mono _ s2.g r3
      replace r4 := Rep.mono _ s2.g r4
      replace r5 := Rep.mono _ s2.g r5
      replace r6 := Rep.mono _ s2.g r6
      replace w := w.tr s2
      replace gx1 := Ex.tr gx1 s2.g
      refine e_val (v := (.int ((2 : Nat) : Int))) val_c ?_
      refine rv2 (z := (.int (z2 / ((2 : Nat) : Int)))) (vi_div val_c val_c ⟨by decide, by decide +kernel⟩) ?_
      refine e_val (v := (.int ((8 : Nat) : Int))) val_c ?_
      refine rv2 (z := (.int ((modN (z2 / ((2 : Nat) : Int)) 8 : Nat) : Int))) (vm_mod val_c val_c (by decide)) ?_
      refine e_val (v := (.int ((5 : Nat) : Int))) val_c ?_
      refine rv2T (b := decide ((modN (z2 / ((2 : Nat) : Int)) 8) = 5)) (vb_dec (c_eqI val_c val_c) n_eq) ?_
      refine b_if (fun hc1 => ?_) (fun hc1 => ?_)
      · have hW := ifP hW hc1
        refine a_asgE ?_
        refine e_call ?_
        refine a_val (v := u2) (val_var rfl) ?_
        refine a_nil ?_
        refine ⟨F2, (u2), (z1.2.1), _, rfl, w.f, r4, hW, ?_⟩
        intro z3 hW p2 F3 H3 s3 x1
        replace x1 := x1.base w
        replace r1 := Rep.mono _ s3.g r1
        replace r3 := Rep.mono _ s3.g r3
        replace r4 := Rep.mono _ s3.g r4
        replace r5 := Rep.mono _ s3.g r5
        replace r6 := Rep.mono _ s3.g r6
        replace w := w.tr s3
        replace gx1 := Ex.tr gx1 s3.g
        have nz1 := XL.nw1 x1 w.g
        obtain ⟨F4, w1, g1, r8, fz1⟩ := x1.frzE w
        replace r1 := Rep.mono _ g1 r1
        replace r3 := Rep.mono _ g1 r3
        replace r4 := Rep.mono _ g1 r4
        replace r5 := Rep.mono _ g1 r5
        replace r6 := Rep.mono _ g1 r6
        replace w := w1
        replace gx1 := Ex.tr gx1 g1
        exact hN2 z3 _ _ _ ⟨_, w, gx1, rfl, r8⟩ hW
      · have hW := ifN hW hc1
        exact hN2 z1.2.1 _ _ _ ⟨_, w, gx1, rfl, r4⟩ hW
    · intro sums2 σ' F5 H4 hI1 hW
      obtain ⟨v3, w, gx2, rfl, r7⟩ := hI1
      have r1 := Rep.mono _ gx2 r1
      have r3 := Rep.mono _ gx2 r3
      have r5 := Rep.mono _ gx2 r5
      have r6 := Rep.mono _ gx2 r6
      refine q_sq fun N3 hN3 => ?_
      have gc1 : Ex F5 F5 := Ex.rfl'
      have hg1 := w.g
      have ck1 := r1
      have ck2 := r3
      have ck3 := r7
      have ck4 := r5
      have ck5 := r6
      refine a_asgE ?_
      have wb := w
      have gb1 := gc1
      refine c_LE ?_
      refine e_val (v := v3) (val_var rfl) ?_
      obtain ⟨c1, hW⟩ := hW
      refine w_compL (e := (pFr H0 F5 (pL pS))) r7 w c1 hW ?_ ?_
      · intro Qy Qn row1 u5 F6 H5 R1 q1 hx1 ru1 hW hy1 hn1
        have r1 := Rep.mono _ q1.g r1
        have r3 := Rep.mono _ q1.g r3
        have r7 := Rep.mono _ q1.g r7
        have r5 := Rep.mono _ q1.g r5
        have r6 := Rep.mono _ q1.g r6
        have w := Wf.id q1.f
        refine ⟨rfl, ?_⟩
        refine c_yes ?_
        refine e_cb ?_
        obtain ⟨v4, r9, ix1⟩ := ix_2b (K := K) ru1 w.f
        refine a_val (v := v4) (ix1 (val_var rfl) val_c) ?_
        refine a_nil ?_
        refine n_listX r9 w ?_
        intro p3 H6 hp1 s5 x2
        replace r1 := Rep.mono _ s5.g r1
        replace r3 := Rep.mono _ s5.g r3
        replace r7 := Rep.mono _ s5.g r7
        replace r5 := Rep.mono _ s5.g r5
        replace r6 := Rep.mono _ s5.g r6
        replace ru1 := Rep.mono _ s5.g ru1
        replace r9 := Rep.mono _ s5.g r9
        replace w := w.tr s5
        have nz2 := XL.nw1c x2 wb q1 gb1
        obtain ⟨F7, w2, g2, r10, fz2⟩ := x2.frzE w
        replace r1 := Rep.mono _ g2 r1
        replace r3 := Rep.mono _ g2 r3
        replace r7 := Rep.mono _ g2 r7
        replace r5 := Rep.mono _ g2 r5
        replace r6 := Rep.mono _ g2 r6
        replace ru1 := Rep.mono _ g2 ru1
        replace r9 := Rep.mono _ g2 r9
        replace w := w2
        have r11 : (pFr H0 F5 (pL pS)).r _ (.ref p3) row1.2 := ⟨r10, _, rfl, nz2⟩
        exact hy1 _ _ _ _ w r11 hW
      intro p4 ys1 F8 H7 hp2 s6 x3 hW
      replace r1 := Rep.mono _ s6.g r1
      replace r3 := Rep.mono _ s6.g r3
      replace r7 := Rep.mono _ s6.g r7
      replace r5 := Rep.mono _ s6.g r5
      replace r6 := Rep.mono _ s6.g r6
      replace w := w.tr s6
      replace gc1 := Ex.tr gc1 s6.g
      replace gx2 := Ex.tr gx2 s6.g
      have nz3 := XL.nw1 x3 gc1
      obtain ⟨F9, w3, g3, r12, fz3⟩ := x3.frzE w
      replace r1 := Rep.mono _ g3 r1
      replace r3 := Rep.mono _ g3 r3
      replace r7 := Rep.mono _ g3 r7
      replace r5 := Rep.mono _ g3 r5
      replace r6 := Rep.mono _ g3 r6
      replace w := w3
      replace gc1 := Ex.tr gc1 g3
      replace gx2 := Ex.tr gx2 g3
      refine hN3 _ _ ?_
      refine q_sq fun N4 hN4 => ?_
      refine a_asgE ?_
      refine e_lst ?_
      refine a_cons ?_
      refine e_cb ?_
      refine a_val (v := u1) (val_var rfl) ?_
      refine a_nil ?_
      refine n_listX r3 w ?_
      intro p5 H8 hp3 s7 x4
      replace r1 := Rep.mono _ s7.g r1
      replace r3 := Rep.mono _ s7.g r3
      replace r7 := Rep.mono _ s7.g r7
      replace r5 := Rep.mono _ s7.g r5
      replace r6 := Rep.mono _ s7.g r6
      replace r12 := Rep.mono _ s7.g r12
      replace w := w.tr s7
      replace gc1 := Ex.tr gc1 s7.g
      replace gx2 := Ex.tr gx2 s7.g
      refine a_cons ?_
      refine c_RE ?_
      refine e_val (v := (.int ((sums2.length : Nat) : Int))) (len_L r7 w.f (val_var rfl)) ?_
      obtain ⟨c2, hW⟩ := hW
      refine w_compR (e := (pT2 pS (pL pS))) w c2 hW ?_ ?_
      · intro Qy Qn k1 F10 H9 R2 q2 hx2 hW hy2 hn2
        have r1 := Rep.mono _ q2.g r1
        have r3 := Rep.mono _ q2.g r3
        have r7 := Rep.mono _ q2.g r7
        have r5 := Rep.mono _ q2.g r5
        have r6 := Rep.mono _ q2.g r6
        have r12 := Rep.mono _ q2.g r12
        have x4 := x4.step q2
        have w := Wf.id q2.f
        refine ⟨rfl, ?_⟩
        refine c_yes ?_
        refine e_tup ?_
        obtain ⟨x5, hx5_1, hW⟩ := hW
        obtain ⟨v5, r13, ix2⟩ := ix_L (K := K) r7 w.f hx5_1
        obtain ⟨x6, hx6_1, hW⟩ := hW
        obtain ⟨v6, r14, ix3⟩ := ix_L (K := K) r7 w.f hx6_1
        obtain ⟨_, rfl, ix4⟩ := ix_2a (K := K) r14 w.f
        refine a_val (v := (.str (x6.1))) (ix4 (ix3 (val_var rfl) (val_var rfl)) val_c) ?_
        obtain ⟨x7, hx7_1, hW⟩ := hW
        obtain ⟨v8, r16, ix5⟩ := ix_L (K := K) r12 w.f hx7_1
        have r17 := r16.1
        refine a_val (v := v8) (ix5 (val_var rfl) (val_var rfl)) ?_
        refine a_nil ?_
        refine n_tup2 (e := pS) (f := (pL pS)) (x := x6.1) (y := x7) rfl r17 w ?_
        intro p6 F11 H10 s8 r18
        replace r1 := Rep.mono _ s8.g r1
        replace r3 := Rep.mono _ s8.g r3
        replace r7 := Rep.mono _ s8.g r7
        replace r5 := Rep.mono _ s8.g r5
        replace r6 := Rep.mono _ s8.g r6
        replace r12 := Rep.mono _ s8.g r12
        replace x4 := x4.step s8
        replace r13 := Rep.mono _ s8.g r13
        replace r14 := Rep.mono _ s8.g r14
        replace r17 := Rep.mono _ s8.g r17
        replace w := w.tr s8
        exact hy2 _ _ _ _ w r18 hW
      intro p7 ys2 F12 H11 hp4 s9 x8 hW
      have ne1 := x4.ne hp4
      replace r1 := Rep.mono _ s9.g r1
      replace r3 := Rep.mono _ s9.g r3
      replace r7 := Rep.mono _ s9.g r7
      replace r5 := Rep.mono _ s9.g r5
      replace r6 := Rep.mono _ s9.g r6
      replace r12 := Rep.mono _ s9.g r12
      replace x4 := x4.step s9
      replace w := w.tr s9
      replace gc1 := Ex.tr gc1 s9.g
      replace gx2 := Ex.tr gx2 s9.g
      refine a_cons ?_
      refine e_cb ?_
      refine a_val (v := u3) (val_var rfl) ?_
      refine a_nil ?_
      refine n_listX r5 w ?_
      intro p8 H12 hp5 s10 x9
      have ne2 := x4.ne hp5
      have ne3 := x8.ne hp5
      replace r1 := Rep.mono _ s10.g r1
      replace r3 := Rep.mono _ s10.g r3
      replace r7 := Rep.mono _ s10.g r7
      replace r5 := Rep.mono _ s10.g r5
      replace r6 := Rep.mono _ s10.g r6
      replace r12 := Rep.mono _ s10.g r12
      replace x4 := x4.step s10
      replace x8 := x8.step s10
      replace w := w.tr s10
      replace gc1 := Ex.tr gc1 s10.g
      replace gx2 := Ex.tr gx2 s10.g
      refine a_cons ?_
      refine e_cb ?_
      refine a_val (v := u4) (val_var rfl) ?_
      refine a_nil ?_
      refine n_listX r6 w ?_
      intro p9 H13 hp6 s11 x10
      have ne4 := x4.ne hp6
      have ne5 := x8.ne hp6
      have ne6 := x9.ne hp6
      replace r1 := Rep.mono _ s11.g r1
      replace r3 := Rep.mono _ s11.g r3
      replace r7 := Rep.mono _ s11.g r7
      replace r5 := Rep.mono _ s11.g r5
      replace r6 := Rep.mono _ s11.g r6
      replace r12 := Rep.mono _ s11.g r12
      replace x4 := x4.step s11
      replace x8 := x8.step s11
      replace x9 := x9.step s11
      replace w := w.tr s11
      replace gc1 := Ex.tr gc1 s11.g
      replace gx2 := Ex.tr gx2 s11.g
      refine a_nil ?_
      have nz4 := XL.nw1 x4 gc1
      obtain ⟨F13, w4, g4, r19, fz4⟩ := x4.frzE w
      replace r1 := Rep.mono _ g4 r1
      replace r3 := Rep.mono _ g4 r3
      replace r7 := Rep.mono _ g4 r7
      replace r5 := Rep.mono _ g4 r5
      replace r6 := Rep.mono _ g4 r6
      replace r12 := Rep.mono _ g4 r12
      replace x8 := x8.frzO fz4 (Ne.symm ne1) g4
      replace x9 := x9.frzO fz4 (Ne.symm ne2) g4
      replace x10 := x10.frzO fz4 (Ne.symm ne4) g4
      replace w := w4
      replace gc1 := Ex.tr gc1 g4
      replace gx2 := Ex.tr gx2 g4
      have nz5 := XL.nw1 x8 gc1
      obtain ⟨F14, w5, g5, r20, fz5⟩ := x8.frzE w
      replace r1 := Rep.mono _ g5 r1
      replace r3 := Rep.mono _ g5 r3
      replace r7 := Rep.mono _ g5 r7
      replace r5 := Rep.mono _ g5 r5
      replace r6 := Rep.mono _ g5 r6
      replace r12 := Rep.mono _ g5 r12
      replace r19 := Rep.mono _ g5 r19
      replace x9 := x9.frzO fz5 (Ne.symm ne3) g5
      replace x10 := x10.frzO fz5 (Ne.symm ne5) g5
      replace w := w5
      replace gc1 := Ex.tr gc1 g5
      replace gx2 := Ex.tr gx2 g5
      have nz6 := XL.nw1 x9 gc1
      obtain ⟨F15, w6, g6, r21, fz6⟩ := x9.frzE w
      replace r1 := Rep.mono _ g6 r1
      replace r3 := Rep.mono _ g6 r3
      replace r7 := Rep.mono _ g6 r7
      replace r5 := Rep.mono _ g6 r5
      replace r6 := Rep.mono _ g6 r6
      replace r12 := Rep.mono _ g6 r12
      replace r19 := Rep.mono _ g6 r19
      replace r20 := Rep.mono _ g6 r20
      replace x10 := x10.frzO fz6 (Ne.symm ne6) g6
      replace w := w6
      replace gc1 := Ex.tr gc1 g6
      replace gx2 := Ex.tr gx2 g6
      have nz7 := XL.nw1 x10 gc1
      obtain ⟨F16, w7, g7, r22, fz7⟩ := x10.frzE w
      replace r1 := Rep.mono _ g7 r1
      replace r3 := Rep.mono _ g7 r3
      replace r7 := Rep.mono _ g7 r7
      replace r5 := Rep.mono _ g7 r5
      replace r6 := Rep.mono _ g7 r6
      replace r12 := Rep.mono _ g7 r12
      replace r19 := Rep.mono _ g7 r19
      replace r20 := Rep.mono _ g7 r20
      replace r21 := Rep.mono _ g7 r21
      replace w := w7
      replace gc1 := Ex.tr gc1 g7
      replace gx2 := Ex.tr gx2 g7
      refine n_lstX (e := pV) (xs := [V.ref p5, V.ref p7, V.ref p8, V.ref p9]) (vs := [V.ref p5, V.ref p7, V.ref p8, V.ref p9]) (all_raw _) (show 4 < 1000000 from by decide) w ?_
      intro p10 H14 hp7 s12 x11
      replace r1 := Rep.mono _ s12.g r1
      replace r3 := Rep.mono _ s12.g r3
      replace r7 := Rep.mono _ s12.g r7
      replace r5 := Rep.mono _ s12.g r5
      replace r6 := Rep.mono _ s12.g r6
      replace r12 := Rep.mono _ s12.g r12
      replace r19 := Rep.mono _ s12.g r19
      replace r20 := Rep.mono _ s12.g r20
      replace r21 := Rep.mono _ s12.g r21
      replace r22 := Rep.mono _ s12.g r22
      replace w := w.tr s12
      replace gc1 := Ex.tr gc1 s12.g
      replace gx2 := Ex.tr gx2 s12.g
      refine hN4 _ _ ?_
      refine q_sq fun N5 hN5 => ?_
      refine a_ifE ?_
      refine e_tT ?_
      refine e_op ?_
      refine e_op ?_
      refine e_call ?_
      refine a_val (v := v1) (val_var rfl) ?_
      refine a_val (v := (.int ((0 : Nat) : Int))) val_c ?_
      refine a_nil ?_
      refine ⟨F16, (v1), (script1), (0), _, rfl, w.f, r1, hW, ?_⟩
      intro z4 hW F17 H15 s13
      replace r1 := Rep.mono _ s13.g r1
      replace r3 := Rep.mono _ s13.g r3
      replace r7 := Rep.mono _ s13.g r7
      replace r5 := Rep.mono _ s13.g r5
      replace r6 := Rep.mono _ s13.g r6
      replace r12 := Rep.mono _ s13.g r12
      replace r19 := Rep.mono _ s13.g r19
      replace r20 := Rep.mono _ s13.g r20
      replace r21 := Rep.mono _ s13.g r21
      replace r22 := Rep.mono _ s13.g r22
      replace x11 := x11.step s13
      replace w := w.tr s13
      replace gc1 := Ex.tr gc1 s13.g
      replace gx2 := Ex.tr gx2 s13.g
      refine e_val (v := (.int ((2 : Nat) : Int))) val_c ?_
      refine rv2 (z := (.int ((modN z4 2 : Nat) : Int))) (vm_mod val_c val_c (by decide)) ?_
      refine e_val (v := (.int ((1 : Nat) : Int))) val_c ?_
      refine rv2T (b := decide ((modN z4 2) = 1)) (vb_dec (c_eqI val_c val_c) n_eq) ?_
      refine b_if (fun hc2 => ?_) (fun hc2 => ?_)
      · have hW := ifP hW hc2
        refine a_asgG ?_
        refine c_LE ?_
        refine e_val (v := v3) (val_var rfl) ?_
        obtain ⟨c3, hW⟩ := hW
        refine w_compL (e := (pT2 pS (pTL pS))) r7 w c3 hW ?_ ?_
        · intro Qy Qn row2 u7 F18 H16 R3 q3 hx3 ru3 hW hy3 hn3
          have r1 := Rep.mono _ q3.g r1
          have r3 := Rep.mono _ q3.g r3
          have r7 := Rep.mono _ q3.g r7
          have r5 := Rep.mono _ q3.g r5
          have r6 := Rep.mono _ q3.g r6
          have r12 := Rep.mono _ q3.g r12
          have r19 := Rep.mono _ q3.g r19
          have r20 := Rep.mono _ q3.g r20
          have r21 := Rep.mono _ q3.g r21
          have r22 := Rep.mono _ q3.g r22
          have x11 := x11.step q3
          have w := Wf.id q3.f
          refine ⟨rfl, ?_⟩
          refine c_yes ?_
          refine e_tup ?_
          obtain ⟨_, rfl, ix6⟩ := ix_2a (K := K) ru3 w.f
          refine a_val (v := (.str (row2.1))) (ix6 (val_var rfl) val_c) ?_
          refine a_cons ?_
          refine e_cb ?_
          obtain ⟨v10, r24, ix7⟩ := ix_2b (K := K) ru3 w.f
          refine a_val (v := v10) (ix7 (val_var rfl) val_c) ?_
          refine a_nil ?_
          refine n_tupOf r24 w ?_
          intro p11 F19 H17 s14 r25
          replace r1 := Rep.mono _ s14.g r1
          replace r3 := Rep.mono _ s14.g r3
          replace r7 := Rep.mono _ s14.g r7
          replace r5 := Rep.mono _ s14.g r5
          replace r6 := Rep.mono _ s14.g r6
          replace r12 := Rep.mono _ s14.g r12
          replace r19 := Rep.mono _ s14.g r19
          replace r20 := Rep.mono _ s14.g r20
          replace r21 := Rep.mono _ s14.g r21
          replace r22 := Rep.mono _ s14.g r22
          replace x11 := x11.step s14
          replace ru3 := Rep.mono _ s14.g ru3
          replace r24 := Rep.mono _ s14.g r24
          replace w := w.tr s14
          refine a_nil ?_
          refine n_tup2 (e := pS) (f := (pTL pS)) (x := row2.1) (y := row2.2) rfl r25 w ?_
          intro p12 F20 H18 s15 r26
          replace r1 := Rep.mono _ s15.g r1
          replace r3 := Rep.mono _ s15.g r3
          replace r7 := Rep.mono _ s15.g r7
          replace r5 := Rep.mono _ s15.g r5
          replace r6 := Rep.mono _ s15.g r6
          replace r12 := Rep.mono _ s15.g r12
          replace r19 := Rep.mono _ s15.g r19
          replace r20 := Rep.mono _ s15.g r20
          replace r21 := Rep.mono _ s15.g r21
          replace r22 := Rep.mono _ s15.g r22
          replace x11 := x11.step s15
          replace ru3 := Rep.mono _ s15.g ru3
          replace r24 := Rep.mono _ s15.g r24
          replace r25 := Rep.mono _ s15.g r25
          replace w := w.tr s15
          exact hy3 _ _ _ _ w r26 hW
        intro p13 ys3 F21 H19 hp8 s16 x12 hW
        have ne7 := x11.ne hp8
        replace r1 := Rep.mono _ s16.g r1
        replace r3 := Rep.mono _ s16.g r3
        replace r7 := Rep.mono _ s16.g r7
        replace r5 := Rep.mono _ s16.g r5
        replace r6 := Rep.mono _ s16.g r6
        replace r12 := Rep.mono _ s16.g r12
        replace r19 := Rep.mono _ s16.g r19
        replace r20 := Rep.mono _ s16.g r20
        replace r21 := Rep.mono _ s16.g r21
        replace r22 := Rep.mono _ s16.g r22
        replace x11 := x11.step s16
        replace w := w.tr s16
        replace gc1 := Ex.tr gc1 s16.g
        replace gx2 := Ex.tr gx2 s16.g
        have nz8 := XL.nw1 x12 gc1
        obtain ⟨F22, w8, g8, r27, fz8⟩ := x12.frzE w
        replace r1 := Rep.mono _ g8 r1
        replace r3 := Rep.mono _ g8 r3
        replace r7 := Rep.mono _ g8 r7
        replace r5 := Rep.mono _ g8 r5
        replace r6 := Rep.mono _ g8 r6
        replace r12 := Rep.mono _ g8 r12
        replace r19 := Rep.mono _ g8 r19
        replace r21 := Rep.mono _ g8 r21
        replace r22 := Rep.mono _ g8 r22
        replace x11 := x11.frzO fz8 ne7 g8
        replace w := w8
        replace gc1 := Ex.tr gc1 g8
        replace gx2 := Ex.tr gx2 g8
        refine a_lset (y := V.ref p13) x11 w (show 1 < ([V.ref p5, V.ref p7, V.ref p8, V.ref p9]).length from by simp) rfl (val_var rfl) val_c (fun H20 w9 x13 kp1 => ?_)
        replace w := w9
        have x14 : XL pV H0 F22 H20 p10 [V.ref p5, V.ref p13, V.ref p8, V.ref p9] := x13
        refine hN5 _ _ ?_
        refine q_sq fun N6 hN6 => ?_
        refine a_asgE ?_
        obtain ⟨ps1, rr1, nw1⟩ := fr_raw r12
        have nwb1 : Nws H0 F5 F22 (ps1 ++ [p5, p13, p8, p9]) := (Nws.app nw1 (Nws.cons nz4 r19 (Nws.cons nz8 r27 (Nws.cons nz6 r21 (Nws.cons nz7 r22 Nws.nil)))))
        have wfb1 := w.f
        have gb2 : Ex F22 F22 := Ex.rfl'
        refine e_nw ?_
        obtain ⟨_, rfl, ix8⟩ := ix_X (K := K) x14 (show ([V.ref p5, V.ref p13, V.ref p8, V.ref p9])[0]? = some (V.ref p5) from rfl)
        refine a_val (v := (.ref p5)) (ix8 (val_var rfl) val_c) ?_
        obtain ⟨_, rfl, ix9⟩ := ix_X (K := K) x14 (show ([V.ref p5, V.ref p13, V.ref p8, V.ref p9])[1]? = some (V.ref p13) from rfl)
        refine a_val (v := (.ref p13)) (ix9 (val_var rfl) val_c) ?_
        obtain ⟨_, rfl, ix10⟩ := ix_X (K := K) x14 (show ([V.ref p5, V.ref p13, V.ref p8, V.ref p9])[2]? = some (V.ref p8) from rfl)
        refine a_val (v := (.ref p8)) (ix10 (val_var rfl) val_c) ?_
        obtain ⟨_, rfl, ix11⟩ := ix_X (K := K) x14 (show ([V.ref p5, V.ref p13, V.ref p8, V.ref p9])[3]? = some (V.ref p9) from rfl)
        refine a_val (v := (.ref p9)) (ix11 (val_var rfl) val_c) ?_
        refine a_nil ?_
        have r28 := (show Cy (pL (pT2 pS (pTL pS))) (pL (pT2 pS (pSq pS))) from (cy_L (cy_T2 cy_id (cy_TS cy_id)))) r27
        intro ob1 dx1 nx1 nd1 ne8
        refine ⟨F22, ob1, dx1, ((.ref p5)), (z1.1), ((.ref p13)), (ys3), ((.ref p8)), (z1.2.2.1), ((.ref p9)), (z1.2.2.2), _, rfl, upd_same, (w.f.non nx1), (Ex.made w.f nx1 nd1), r19, r28, r21, r22, hW, ?_⟩
        intro z5 hW F23 H21 s17 rn1
        refine ⟨rfl, ?_⟩
        rw [nlh_call nx1 nd1 ne8] at rn1
        replace s17 := Wf.made nx1 nd1 s17
        have ne9 := x14.ne nx1
        replace r1 := Rep.mono _ s17.g r1
        replace r3 := Rep.mono _ s17.g r3
        replace r7 := Rep.mono _ s17.g r7
        replace r5 := Rep.mono _ s17.g r5
        replace r6 := Rep.mono _ s17.g r6
        replace r12 := Rep.mono _ s17.g r12
        replace r19 := Rep.mono _ s17.g r19
        replace r27 := Rep.mono _ s17.g r27
        replace r21 := Rep.mono _ s17.g r21
        replace r22 := Rep.mono _ s17.g r22
        replace x14 := x14.step s17
        replace rr1 := Rep.mono _ s17.g rr1
        replace r28 := Rep.mono _ s17.g r28
        replace w := w.tr s17
        replace gb2 := Ex.tr gb2 s17.g
        replace gc1 := Ex.tr gc1 s17.g
        replace gx2 := Ex.tr gx2 s17.g
        have r29 := Rep.mono _ nlh_sub rn1
        have gF1 : Ex F23 F23 := Ex.rfl'
        refine hN6 _ _ ?_
        refine q_sq fun N7 hN7 => ?_
        refine f_LE ?_
        refine e_op ?_
        refine e_val (v := (.ref p4)) (val_var rfl) ?_
        refine e_val (v := (.ref p10)) (val_var rfl) ?_
        obtain ⟨F24, w10, g9, r30, fz9⟩ := x14.frzE w
        replace r1 := Rep.mono _ g9 r1
        replace r3 := Rep.mono _ g9 r3
        replace r7 := Rep.mono _ g9 r7
        replace r5 := Rep.mono _ g9 r5
        replace r6 := Rep.mono _ g9 r6
        replace r12 := Rep.mono _ g9 r12
        replace r19 := Rep.mono _ g9 r19
        replace r27 := Rep.mono _ g9 r27
        replace r21 := Rep.mono _ g9 r21
        replace r22 := Rep.mono _ g9 r22
        replace rr1 := Rep.mono _ g9 rr1
        replace r29 := Rep.mono _ g9 r29
        replace w := w10
        replace gF1 := Ex.tr gF1 g9
        replace gb2 := Ex.tr gb2 g9
        replace gc1 := Ex.tr gc1 g9
        replace gx2 := Ex.tr gx2 g9
        have wf1 := w.f
        have nw2 : Nws H0 F5 F24 (ps1 ++ [p5, p13, p8, p9]) := Nws.mono gb2 nwb1
        have hl2 := raw_len rr1 r12
        obtain ⟨c4, hW⟩ := hW
        have hl1 : (ps1.map V.ref).length + ([V.ref p5, V.ref p13, V.ref p8, V.ref p9]).length < 1000000 := by simp only [List.length_append, List.length_map, List.length_cons, List.length_nil]; omega
        refine n_cat (e := pV) rr1 r30 w hl1 ?_
        intro p14 H22 hp9 s18 x15
        replace r1 := Rep.mono _ s18.g r1
        replace r3 := Rep.mono _ s18.g r3
        replace r7 := Rep.mono _ s18.g r7
        replace r5 := Rep.mono _ s18.g r5
        replace r6 := Rep.mono _ s18.g r6
        replace r12 := Rep.mono _ s18.g r12
        replace r19 := Rep.mono _ s18.g r19
        replace r27 := Rep.mono _ s18.g r27
        replace r21 := Rep.mono _ s18.g r21
        replace r22 := Rep.mono _ s18.g r22
        replace r30 := Rep.mono _ s18.g r30
        replace rr1 := Rep.mono _ s18.g rr1
        replace r29 := Rep.mono _ s18.g r29
        replace w := w.tr s18
        replace gF1 := Ex.tr gF1 s18.g
        replace gb2 := Ex.tr gb2 s18.g
        replace gc1 := Ex.tr gc1 s18.g
        replace gx2 := Ex.tr gx2 s18.g
        have nn1 := new_notin hp9 nw2 wf1
        obtain ⟨F25, w11, g10, r31, fz10⟩ := x15.frzE w
        replace r1 := Rep.mono _ g10 r1
        replace r3 := Rep.mono _ g10 r3
        replace r7 := Rep.mono _ g10 r7
        replace r5 := Rep.mono _ g10 r5
        replace r6 := Rep.mono _ g10 r6
        replace r12 := Rep.mono _ g10 r12
        replace r19 := Rep.mono _ g10 r19
        replace r27 := Rep.mono _ g10 r27
        replace r21 := Rep.mono _ g10 r21
        replace r22 := Rep.mono _ g10 r22
        replace r30 := Rep.mono _ g10 r30
        replace rr1 := Rep.mono _ g10 rr1
        replace r29 := Rep.mono _ g10 r29
        replace w := w11
        replace gF1 := Ex.tr gF1 g10
        replace gb2 := Ex.tr gb2 g10
        replace gc1 := Ex.tr gc1 g10
        replace gx2 := Ex.tr gx2 g10
        have nw3 : Nws H0 F5 F25 (ps1 ++ [p5, p13, p8, p9]) := Nws.mono gb2 nwb1
        have rr2 : (pL pV).r F25 (.ref p14) (List.map V.ref (ps1 ++ [p5, p13, p8, p9])) := by simpa only [List.map_append, List.map_cons, List.map_nil, List.append_assoc, List.cons_append, List.nil_append] using r31
        have rr3 := raw_drop rr2 nn1
        have gd1 := drop_ex gc1 nw3
        have lks1 := Lks.start (F := F25) nw3 w.f
        have r32 := Rep.mono _ (nlh_drop gF1 nwb1 wfb1) rn1
        have r33 := Rep.mono _ gd1 ck1
        have r34 := Rep.mono _ gd1 ck2
        have r35 := Rep.mono _ gd1 ck3
        have r36 := Rep.mono _ gd1 ck4
        have r37 := Rep.mono _ gd1 ck5
        replace w := Wf.drop w (fun q hq => hg1.non (nw3 q hq).2.1)
        replace hW := forW_skip (S := Unit) (xs := List.map V.ref (ps1 ++ [p5, p13, p8, p9])) hW
        refine w_forL (S := Unit) (fun _ σ' F' H' => ∃ (o1 : Option V), Wf F0 H0 F' H' ∧ Ex (woL F25 (ps1 ++ [p5, p13, p8, p9])) F' ∧ σ' = [some v1, some u1, some v3, some u3, some u4, some (.ref p4), none, some (.ref p10), none, some (.ref ob1), o1, none] ∧ Lks H0 F' H' (ps1 ++ [p5, p13, p8, p9])) rr3 hW ⟨_, w, Ex.rfl', rfl, lks1⟩ (fun s σ' F' H' hI => by obtain ⟨_, w', gx', _⟩ := hI; exact ⟨gx', w'.f⟩) w.f ?_ ?_
        · intro N8 Bk1 x17 u8 s19 σ' F26 H23 nx2 bk1 hI2 hx4 ru4 hW hN8 hB1
          obtain ⟨o1, w, gx3, rfl, x16⟩ := hI2
          have r32 := Rep.mono _ gx3 r32
          have r33 := Rep.mono _ gx3 r33
          have r34 := Rep.mono _ gx3 r34
          have r35 := Rep.mono _ gx3 r35
          have r36 := Rep.mono _ gx3 r36
          have r37 := Rep.mono _ gx3 r37
          obtain ⟨q4, hq1, eq1⟩ := List.mem_map.mp hx4
          obtain rfl : u8 = V.ref q4 := Eq.trans ru4 (Eq.symm eq1)
          refine g_name ?_
          obtain ⟨us1, xq1⟩ := Lks.one x16 hq1
          refine a_dropE ?_
          refine m_list0 xq1 (val_var rfl) ?_
          refine a_clr xq1 w (fun H24 w12 x18 kp2 => ?_)
          have lks2 := Lks.clr x16 hq1 x18 kp2
          replace w := w12
          exact hN8 () _ _ _ ⟨_, w, gx3, rfl, lks2⟩ hW
        · intro _ σ' F27 H25 hI3 hW
          obtain ⟨o1, w, gx4, rfl, x16⟩ := hI3
          have r32 := Rep.mono _ gx4 r32
          have r33 := Rep.mono _ gx4 r33
          have r34 := Rep.mono _ gx4 r34
          have r35 := Rep.mono _ gx4 r35
          have r36 := Rep.mono _ gx4 r36
          have r37 := Rep.mono _ gx4 r37
          refine hN7 _ _ ?_
          refine q_sq fun N9 hN9 => ?_
          refine a_ifE ?_
          refine e_jnT hW (fun b F' H' => b = b ∧ Wf F0 H0 F' H' ∧ Ex F27 F') ?_ ?_
          · intro N10 hN10 hW
            have gx5 : Ex F27 F27 := Ex.rfl'
            refine e_tOr ?_
            refine e_tNot ?_
            refine e_tB ?_
            refine e_call ?_
            refine a_val (v := (.ref ob1)) (val_var rfl) ?_
            refine a_val (v := u1) (val_var rfl) ?_
            refine a_val (v := v3) (val_var rfl) ?_
            refine a_val (v := u3) (val_var rfl) ?_
            refine a_val (v := u4) (val_var rfl) ?_
            refine a_nil ?_
            refine ⟨F27, ((.ref ob1)), (z5), (u1), (z1.1), (v3), (sums2), (u3), (z1.2.2.1), (u4), (z1.2.2.2), _, rfl, w.f, r32, r34, r35, r36, r37, hW, ?_⟩
            intro z6 hW F28 H26 s20
            replace r32 := Rep.mono _ s20.g r32
            replace r33 := Rep.mono _ s20.g r33
            replace r34 := Rep.mono _ s20.g r34
            replace r35 := Rep.mono _ s20.g r35
            replace r36 := Rep.mono _ s20.g r36
            replace r37 := Rep.mono _ s20.g r37
            replace w := w.tr s20
            replace gx5 := Ex.tr gx5 s20.g
            refine bl_v ?_
            refine bb_ifn (fun hc3 => ?_) (fun hc3 => ?_)
            · have hW := ifP hW hc3
              refine e_tNot ?_
              refine e_tB ?_
              refine e_call ?_
              refine a_val (v := (.ref ob1)) (val_var rfl) ?_
              refine a_val (v := u1) (val_var rfl) ?_
              refine a_val (v := v3) (val_var rfl) ?_
              refine a_val (v := u3) (val_var rfl) ?_
              refine a_val (v := u4) (val_var rfl) ?_
              refine a_nil ?_
              refine ⟨F28, ((.ref ob1)), (z5), (u1), (z1.1), (v3), (sums2), (u3), (z1.2.2.1), (u4), (z1.2.2.2), _, rfl, w.f, r32, r34, r35, r36, r37, hW, ?_⟩
              intro z7 hW F29 H27 s21
              replace r32 := Rep.mono _ s21.g r32
              replace r33 := Rep.mono _ s21.g r33
              replace r34 := Rep.mono _ s21.g r34
              replace r35 := Rep.mono _ s21.g r35
              replace r36 := Rep.mono _ s21.g r36
              replace r37 := Rep.mono _ s21.g r37
              replace w := w.tr s21
              replace gx5 := Ex.tr gx5 s21.g
              refine bl_v ?_
              exact hN10 (!z7) _ _ ⟨rfl, w, gx5⟩ hW
            · have hW := ifN hW hc3
              exact hN10 true _ _ ⟨rfl, w, gx5⟩ hW
          intro b1 F30 H28 hI4 hW
          obtain ⟨_, w, gx6⟩ := hI4
          have r32 := Rep.mono _ gx6 r32
          have r33 := Rep.mono _ gx6 r33
          have r34 := Rep.mono _ gx6 r34
          have r35 := Rep.mono _ gx6 r35
          have r36 := Rep.mono _ gx6 r36
          have r37 := Rep.mono _ gx6 r37
          refine bb_if (fun hc4 => ?_) (fun hc4 => ?_)
          · have hW := ifP hW hc4
            refine a_ret (v := (.bl (false))) val_c ?_
            exact hQ _ hW _ _ w
          · have hW := ifN hW hc4
            refine hN9 _ _ ?_
            refine q_sq fun N11 hN11 => ?_
            refine f_LE ?_
            refine e_lst ?_
            refine a_cons ?_
            refine e_call ?_
            refine a_cons ?_
            refine e_call ?_
            refine a_val (v := v1) (val_var rfl) ?_
            refine a_val (v := (.int ((1 : Nat) : Int))) val_c ?_
            refine a_nil ?_
            refine ⟨F30, (v1), (script1), (1), _, rfl, w.f, r33, hW, ?_⟩
            intro z8 hW F31 H29 s22
            replace r32 := Rep.mono _ s22.g r32
            replace r33 := Rep.mono _ s22.g r33
            replace r34 := Rep.mono _ s22.g r34
            replace r35 := Rep.mono _ s22.g r35
            replace r36 := Rep.mono _ s22.g r36
            replace r37 := Rep.mono _ s22.g r37
            replace w := w.tr s22
            refine a_val (v := (.int ((60 : Nat) : Int))) val_c ?_
            refine a_nil ?_
            refine ⟨F31, (z8), (60), _, rfl, w.f, hW, ?_⟩
            intro z9 hW F32 H30 s23
            replace r32 := Rep.mono _ s23.g r32
            replace r33 := Rep.mono _ s23.g r33
            replace r34 := Rep.mono _ s23.g r34
            replace r35 := Rep.mono _ s23.g r35
            replace r36 := Rep.mono _ s23.g r36
            replace r37 := Rep.mono _ s23.g r37
            replace w := w.tr s23
            refine a_val (v := (.str ((PySem.Str.ofString "")))) val_c ?_
            refine a_val (v := (.str ((PySem.Str.ofString "A")))) val_c ?_
            refine a_val (v := .non) val_c ?_
            refine a_val (v := (.int ((7 : Nat) : Int))) val_c ?_
            refine a_cons ?_
            refine e_lst ?_
            refine a_nil ?_
            refine n_lstX (e := (pL pA)) (xs := []) (vs := []) (show All (pL pA) _ [] [] from trivial) (show 0 < 1000000 from by decide) w ?_
            intro p15 H31 hp10 s24 x19
            replace r32 := Rep.mono _ s24.g r32
            replace r33 := Rep.mono _ s24.g r33
            replace r34 := Rep.mono _ s24.g r34
            replace r35 := Rep.mono _ s24.g r35
            replace r36 := Rep.mono _ s24.g r36
            replace r37 := Rep.mono _ s24.g r37
            replace w := w.tr s24
            refine a_val (v := (.bl (true))) val_c ?_
            refine a_nil ?_
            have nz9 := XL.nw1 x19 w.g
            obtain ⟨F33, w13, g11, r38, fz11⟩ := x19.frzE w
            replace r32 := Rep.mono _ g11 r32
            replace r33 := Rep.mono _ g11 r33
            replace r34 := Rep.mono _ g11 r34
            replace r35 := Rep.mono _ g11 r35
            replace r36 := Rep.mono _ g11 r36
            replace r37 := Rep.mono _ g11 r37
            replace w := w13
            have r39 : pA.r _ (.ref p15) (An.l (([] : List (List An)).map (fun xs => An.l (xs.map (fun x : An => x))))) := (cv_L (cv_L cv_any)) r38
            refine n_lstX (e := pA) (xs := [(An.s z9), (An.s (PySem.Str.ofString "")), (An.s (PySem.Str.ofString "A")), An.n, (An.i ((7 : Nat) : Int)), (An.l (([] : List (List An)).map (fun xs => An.l (xs.map (fun x : An => x))))), (An.b true)]) (vs := [(.str (z9)), (.str ((PySem.Str.ofString ""))), (.str ((PySem.Str.ofString "A"))), .non, (.int ((7 : Nat) : Int)), (.ref p15), (.bl (true))]) (show All pA _ [(.str (z9)), (.str ((PySem.Str.ofString ""))), (.str ((PySem.Str.ofString "A"))), .non, (.int ((7 : Nat) : Int)), (.ref p15), (.bl (true))] [(An.s z9), (An.s (PySem.Str.ofString "")), (An.s (PySem.Str.ofString "A")), An.n, (An.i ((7 : Nat) : Int)), (An.l (([] : List (List An)).map (fun xs => An.l (xs.map (fun x : An => x))))), (An.b true)] from ⟨(show pA.r _ (.str (z9)) (An.s z9) from rfl), ⟨(show pA.r _ (.str ((PySem.Str.ofString ""))) (An.s (PySem.Str.ofString "")) from rfl), ⟨(show pA.r _ (.str ((PySem.Str.ofString "A"))) (An.s (PySem.Str.ofString "A")) from rfl), ⟨(show pA.r _ V.non An.n from rfl), ⟨(show pA.r _ (.int ((7 : Nat) : Int)) (An.i ((7 : Nat) : Int)) from rfl), ⟨r39, ⟨(show pA.r _ (.bl (true)) (An.b true) from rfl), trivial⟩⟩⟩⟩⟩⟩⟩) (show 7 < 1000000 from by decide) w ?_
            intro p16 H32 hp11 s25 x20
            replace r32 := Rep.mono _ s25.g r32
            replace r33 := Rep.mono _ s25.g r33
            replace r34 := Rep.mono _ s25.g r34
            replace r35 := Rep.mono _ s25.g r35
            replace r36 := Rep.mono _ s25.g r36
            replace r37 := Rep.mono _ s25.g r37
            replace r38 := Rep.mono _ s25.g r38
            replace w := w.tr s25
            have nz10 := XL.nw1 x20 w.g
            obtain ⟨F34, w14, g12, r40, fz12⟩ := x20.frzE w
            replace r32 := Rep.mono _ g12 r32
            replace r33 := Rep.mono _ g12 r33
            replace r34 := Rep.mono _ g12 r34
            replace r35 := Rep.mono _ g12 r35
            replace r36 := Rep.mono _ g12 r36
            replace r37 := Rep.mono _ g12 r37
            replace r38 := Rep.mono _ g12 r38
            replace w := w14
            refine w_forL (S := Unit) (fun _ σ' F' H' => ∃ (o2 : Option V), Wf F0 H0 F' H' ∧ Ex F34 F' ∧ σ' = [some v1, some u1, some v3, some u3, some u4, some (.ref p4), none, some (.ref p10), none, some (.ref ob1), o1, o2]) r40 hW ⟨_, w, Ex.rfl', rfl⟩ (fun s σ' F' H' hI => by obtain ⟨_, w', gx', _⟩ := hI; exact ⟨gx', w'.f⟩) w.f ?_ ?_
            · intro N12 Bk2 thing1 u9 s26 σ' F35 H33 nx3 bk2 hI5 hx5 ru5 hW hN12 hB2
              obtain ⟨o2, w, gx7, rfl⟩ := hI5
              have r32 := Rep.mono _ gx7 r32
              have r33 := Rep.mono _ gx7 r33
              have r34 := Rep.mono _ gx7 r34
              have r35 := Rep.mono _ gx7 r35
              have r36 := Rep.mono _ gx7 r36
              have r37 := Rep.mono _ gx7 r37
              have r38 := Rep.mono _ gx7 r38
              have r40 := Rep.mono _ gx7 r40
              refine g_name ?_
              refine a_ifE ?_
              refine e_tNot ?_
              refine e_tB ?_
              refine e_call ?_
              refine a_val (v := (.ref ob1)) (val_var rfl) ?_
              refine a_val (v := u9) (val_var rfl) ?_
              refine a_nil ?_
              refine ⟨F35, ((.ref ob1)), (z5), (u9), (thing1), _, rfl, w.f, r32, ru5, hW, ?_⟩
              intro z10 hW F36 H34 s27
              replace r32 := Rep.mono _ s27.g r32
              replace r33 := Rep.mono _ s27.g r33
              replace r34 := Rep.mono _ s27.g r34
              replace r35 := Rep.mono _ s27.g r35
              replace r36 := Rep.mono _ s27.g r36
              replace r37 := Rep.mono _ s27.g r37
              replace ru5 := Rep.mono _ s27.g ru5
              replace w := w.tr s27
              replace gx7 := Ex.tr gx7 s27.g
              refine bl_v ?_
              refine bb_ifn (fun hc5 => ?_) (fun hc5 => ?_)
              · have hW := ifP hW hc5
                exact hN12 () _ _ _ ⟨_, w, gx7, rfl⟩ hW
              · have hW := ifN hW hc5
                refine a_ret (v := (.bl (false))) val_c ?_
                exact hQ _ hW _ _ w
            · intro s28 σ' F37 H35 hI6 hW
              obtain ⟨o2, w, gx8, rfl⟩ := hI6
              have r32 := Rep.mono _ gx8 r32
              have r33 := Rep.mono _ gx8 r33
              have r34 := Rep.mono _ gx8 r34
              have r35 := Rep.mono _ gx8 r35
              have r36 := Rep.mono _ gx8 r36
              have r37 := Rep.mono _ gx8 r37
              have r38 := Rep.mono _ gx8 r38
              have r40 := Rep.mono _ gx8 r40
              refine hN11 _ _ ?_
              refine a_ret (v := (.bl (true))) val_c ?_
              exact hQ _ hW _ _ w
      · have hW := ifN hW hc2
        refine hN5 _ _ ?_
        refine q_sq fun N13 hN13 => ?_
        refine a_asgE ?_
        obtain ⟨ps2, rr4, nw4⟩ := fr_raw r12
        have nwb2 : Nws H0 F5 F17 (ps2 ++ [p5, p7, p8, p9]) := (Nws.app nw4 (Nws.cons nz4 r19 (Nws.cons nz5 r20 (Nws.cons nz6 r21 (Nws.cons nz7 r22 Nws.nil)))))
        have wfb2 := w.f
        have gb3 : Ex F17 F17 := Ex.rfl'
        refine e_nw ?_
        obtain ⟨_, rfl, ix12⟩ := ix_X (K := K) x11 (show ([V.ref p5, V.ref p7, V.ref p8, V.ref p9])[0]? = some (V.ref p5) from rfl)
        refine a_val (v := (.ref p5)) (ix12 (val_var rfl) val_c) ?_
        obtain ⟨_, rfl, ix13⟩ := ix_X (K := K) x11 (show ([V.ref p5, V.ref p7, V.ref p8, V.ref p9])[1]? = some (V.ref p7) from rfl)
        refine a_val (v := (.ref p7)) (ix13 (val_var rfl) val_c) ?_
        obtain ⟨_, rfl, ix14⟩ := ix_X (K := K) x11 (show ([V.ref p5, V.ref p7, V.ref p8, V.ref p9])[2]? = some (V.ref p8) from rfl)
        refine a_val (v := (.ref p8)) (ix14 (val_var rfl) val_c) ?_
        obtain ⟨_, rfl, ix15⟩ := ix_X (K := K) x11 (show ([V.ref p5, V.ref p7, V.ref p8, V.ref p9])[3]? = some (V.ref p9) from rfl)
        refine a_val (v := (.ref p9)) (ix15 (val_var rfl) val_c) ?_
        refine a_nil ?_
        have r41 := (show Cy (pL (pT2 pS (pL pS))) (pL (pT2 pS (pSq pS))) from (cy_L (cy_T2 cy_id (cy_LS cy_id)))) r20
        intro ob2 dx2 nx4 nd2 ne10
        refine ⟨F17, ob2, dx2, ((.ref p5)), (z1.1), ((.ref p7)), (ys2), ((.ref p8)), (z1.2.2.1), ((.ref p9)), (z1.2.2.2), _, rfl, upd_same, (w.f.non nx4), (Ex.made w.f nx4 nd2), r19, r41, r21, r22, hW, ?_⟩
        intro z11 hW F38 H36 s29 rn2
        refine ⟨rfl, ?_⟩
        rw [nlh_call nx4 nd2 ne10] at rn2
        replace s29 := Wf.made nx4 nd2 s29
        have ne11 := x11.ne nx4
        replace r1 := Rep.mono _ s29.g r1
        replace r3 := Rep.mono _ s29.g r3
        replace r7 := Rep.mono _ s29.g r7
        replace r5 := Rep.mono _ s29.g r5
        replace r6 := Rep.mono _ s29.g r6
        replace r12 := Rep.mono _ s29.g r12
        replace r19 := Rep.mono _ s29.g r19
        replace r20 := Rep.mono _ s29.g r20
        replace r21 := Rep.mono _ s29.g r21
        replace r22 := Rep.mono _ s29.g r22
        replace x11 := x11.step s29
        replace rr4 := Rep.mono _ s29.g rr4
        replace r41 := Rep.mono _ s29.g r41
        replace w := w.tr s29
        replace gb3 := Ex.tr gb3 s29.g
        replace gc1 := Ex.tr gc1 s29.g
        replace gx2 := Ex.tr gx2 s29.g
        have r42 := Rep.mono _ nlh_sub rn2
        have gF2 : Ex F38 F38 := Ex.rfl'
        refine hN13 _ _ ?_
        refine q_sq fun N14 hN14 => ?_
        refine f_LE ?_
        refine e_op ?_
        refine e_val (v := (.ref p4)) (val_var rfl) ?_
        refine e_val (v := (.ref p10)) (val_var rfl) ?_
        obtain ⟨F39, w15, g13, r43, fz13⟩ := x11.frzE w
        replace r1 := Rep.mono _ g13 r1
        replace r3 := Rep.mono _ g13 r3
        replace r7 := Rep.mono _ g13 r7
        replace r5 := Rep.mono _ g13 r5
        replace r6 := Rep.mono _ g13 r6
        replace r12 := Rep.mono _ g13 r12
        replace r19 := Rep.mono _ g13 r19
        replace r20 := Rep.mono _ g13 r20
        replace r21 := Rep.mono _ g13 r21
        replace r22 := Rep.mono _ g13 r22
        replace rr4 := Rep.mono _ g13 rr4
        replace r42 := Rep.mono _ g13 r42
        replace w := w15
        replace gF2 := Ex.tr gF2 g13
        replace gb3 := Ex.tr gb3 g13
        replace gc1 := Ex.tr gc1 g13
        replace gx2 := Ex.tr gx2 g13
        have wf2 := w.f
        have nw5 : Nws H0 F5 F39 (ps2 ++ [p5, p7, p8, p9]) := Nws.mono gb3 nwb2
        have hl4 := raw_len rr4 r12
        obtain ⟨c5, hW⟩ := hW
        have hl3 : (ps2.map V.ref).length + ([V.ref p5, V.ref p7, V.ref p8, V.ref p9]).length < 1000000 := by simp only [List.length_append, List.length_map, List.length_cons, List.length_nil]; omega
        refine n_cat (e := pV) rr4 r43 w hl3 ?_
        intro p17 H37 hp12 s30 x21
        replace r1 := Rep.mono _ s30.g r1
        replace r3 := Rep.mono _ s30.g r3
        replace r7 := Rep.mono _ s30.g r7
        replace r5 := Rep.mono _ s30.g r5
        replace r6 := Rep.mono _ s30.g r6
        replace r12 := Rep.mono _ s30.g r12
        replace r19 := Rep.mono _ s30.g r19
        replace r20 := Rep.mono _ s30.g r20
        replace r21 := Rep.mono _ s30.g r21
        replace r22 := Rep.mono _ s30.g r22
        replace r43 := Rep.mono _ s30.g r43
        replace rr4 := Rep.mono _ s30.g rr4
        replace r42 := Rep.mono _ s30.g r42
        replace w := w.tr s30
        replace gF2 := Ex.tr gF2 s30.g
        replace gb3 := Ex.tr gb3 s30.g
        replace gc1 := Ex.tr gc1 s30.g
        replace gx2 := Ex.tr gx2 s30.g
        have nn2 := new_notin hp12 nw5 wf2
        obtain ⟨F40, w16, g14, r44, fz14⟩ := x21.frzE w
        replace r1 := Rep.mono _ g14 r1
        replace r3 := Rep.mono _ g14 r3
        replace r7 := Rep.mono _ g14 r7
        replace r5 := Rep.mono _ g14 r5
        replace r6 := Rep.mono _ g14 r6
        replace r12 := Rep.mono _ g14 r12
        replace r19 := Rep.mono _ g14 r19
        replace r20 := Rep.mono _ g14 r20
        replace r21 := Rep.mono _ g14 r21
        replace r22 := Rep.mono _ g14 r22
        replace r43 := Rep.mono _ g14 r43
        replace rr4 := Rep.mono _ g14 rr4
        replace r42 := Rep.mono _ g14 r42
        replace w := w16
        replace gF2 := Ex.tr gF2 g14
        replace gb3 := Ex.tr gb3 g14
        replace gc1 := Ex.tr gc1 g14
        replace gx2 := Ex.tr gx2 g14
        have nw6 : Nws H0 F5 F40 (ps2 ++ [p5, p7, p8, p9]) := Nws.mono gb3 nwb2
        have rr5 : (pL pV).r F40 (.ref p17) (List.map V.ref (ps2 ++ [p5, p7, p8, p9])) := by simpa only [List.map_append, List.map_cons, List.map_nil, List.append_assoc, List.cons_append, List.nil_append] using r44
        have rr6 := raw_drop rr5 nn2
        have gd2 := drop_ex gc1 nw6
        have lks3 := Lks.start (F := F40) nw6 w.f
        have r45 := Rep.mono _ (nlh_drop gF2 nwb2 wfb2) rn2
        have r46 := Rep.mono _ gd2 ck1
        have r47 := Rep.mono _ gd2 ck2
        have r48 := Rep.mono _ gd2 ck3
        have r49 := Rep.mono _ gd2 ck4
        have r50 := Rep.mono _ gd2 ck5
        replace w := Wf.drop w (fun q hq => hg1.non (nw6 q hq).2.1)
        replace hW := forW_skip (S := Unit) (xs := List.map V.ref (ps2 ++ [p5, p7, p8, p9])) hW
        refine w_forL (S := Unit) (fun _ σ' F' H' => ∃ (o3 : Option V), Wf F0 H0 F' H' ∧ Ex (woL F40 (ps2 ++ [p5, p7, p8, p9])) F' ∧ σ' = [some v1, some u1, some v3, some u3, some u4, some (.ref p4), none, some (.ref p10), none, some (.ref ob2), o3, none] ∧ Lks H0 F' H' (ps2 ++ [p5, p7, p8, p9])) rr6 hW ⟨_, w, Ex.rfl', rfl, lks3⟩ (fun s σ' F' H' hI => by obtain ⟨_, w', gx', _⟩ := hI; exact ⟨gx', w'.f⟩) w.f ?_ ?_
        · intro N15 Bk3 x23 u10 s31 σ' F41 H38 nx5 bk3 hI7 hx6 ru6 hW hN15 hB3
          obtain ⟨o3, w, gx9, rfl, x22⟩ := hI7
          have r45 := Rep.mono _ gx9 r45
          have r46 := Rep.mono _ gx9 r46
          have r47 := Rep.mono _ gx9 r47
          have r48 := Rep.mono _ gx9 r48
          have r49 := Rep.mono _ gx9 r49
          have r50 := Rep.mono _ gx9 r50
          obtain ⟨q5, hq2, eq2⟩ := List.mem_map.mp hx6
          obtain rfl : u10 = V.ref q5 := Eq.trans ru6 (Eq.symm eq2)
          refine g_name ?_
          obtain ⟨us2, xq2⟩ := Lks.one x22 hq2
          refine a_dropE ?_
          refine m_list0 xq2 (val_var rfl) ?_
          refine a_clr xq2 w (fun H39 w17 x24 kp3 => ?_)
          have lks4 := Lks.clr x22 hq2 x24 kp3
          replace w := w17
          exact hN15 () _ _ _ ⟨_, w, gx9, rfl, lks4⟩ hW
        · intro _ σ' F42 H40 hI8 hW
          obtain ⟨o3, w, gx10, rfl, x22⟩ := hI8
          have r45 := Rep.mono _ gx10 r45
          have r46 := Rep.mono _ gx10 r46
          have r47 := Rep.mono _ gx10 r47
          have r48 := Rep.mono _ gx10 r48
          have r49 := Rep.mono _ gx10 r49
          have r50 := Rep.mono _ gx10 r50
          refine hN14 _ _ ?_
          refine q_sq fun N16 hN16 => ?_
          refine a_ifE ?_
          refine e_jnT hW (fun b F' H' => b = b ∧ Wf F0 H0 F' H' ∧ Ex F42 F') ?_ ?_
          · intro N17 hN17 hW
            have gx11 : Ex F42 F42 := Ex.rfl'
            refine e_tOr ?_
            refine e_tNot ?_
            refine e_tB ?_
            refine e_call ?_
            refine a_val (v := (.ref ob2)) (val_var rfl) ?_
            refine a_val (v := u1) (val_var rfl) ?_
            refine a_val (v := v3) (val_var rfl) ?_
            refine a_val (v := u3) (val_var rfl) ?_
            refine a_val (v := u4) (val_var rfl) ?_
            refine a_nil ?_
            refine ⟨F42, ((.ref ob2)), (z11), (u1), (z1.1), (v3), (sums2), (u3), (z1.2.2.1), (u4), (z1.2.2.2), _, rfl, w.f, r45, r47, r48, r49, r50, hW, ?_⟩
            intro z12 hW F43 H41 s32
            replace r45 := Rep.mono _ s32.g r45
            replace r46 := Rep.mono _ s32.g r46
            replace r47 := Rep.mono _ s32.g r47
            replace r48 := Rep.mono _ s32.g r48
            replace r49 := Rep.mono _ s32.g r49
            replace r50 := Rep.mono _ s32.g r50
            replace w := w.tr s32
            replace gx11 := Ex.tr gx11 s32.g
            refine bl_v ?_
            refine bb_ifn (fun hc6 => ?_) (fun hc6 => ?_)
            · have hW := ifP hW hc6
              refine e_tNot ?_
              refine e_tB ?_
              refine e_call ?_
              refine a_val (v := (.ref ob2)) (val_var rfl) ?_
              refine a_val (v := u1) (val_var rfl) ?_
              refine a_val (v := v3) (val_var rfl) ?_
              refine a_val (v := u3) (val_var rfl) ?_
              refine a_val (v := u4) (val_var rfl) ?_
              refine a_nil ?_
              refine ⟨F43, ((.ref ob2)), (z11), (u1), (z1.1), (v3), (sums2), (u3), (z1.2.2.1), (u4), (z1.2.2.2), _, rfl, w.f, r45, r47, r48, r49, r50, hW, ?_⟩
              intro z13 hW F44 H42 s33
              replace r45 := Rep.mono _ s33.g r45
              replace r46 := Rep.mono _ s33.g r46
              replace r47 := Rep.mono _ s33.g r47
              replace r48 := Rep.mono _ s33.g r48
              replace r49 := Rep.mono _ s33.g r49
              replace r50 := Rep.mono _ s33.g r50
              replace w := w.tr s33
              replace gx11 := Ex.tr gx11 s33.g
              refine bl_v ?_
              exact hN17 (!z13) _ _ ⟨rfl, w, gx11⟩ hW
            · have hW := ifN hW hc6
              exact hN17 true _ _ ⟨rfl, w, gx11⟩ hW
          intro b2 F45 H43 hI9 hW
          obtain ⟨_, w, gx12⟩ := hI9
          have r45 := Rep.mono _ gx12 r45
          have r46 := Rep.mono _ gx12 r46
          have r47 := Rep.mono _ gx12 r47
          have r48 := Rep.mono _ gx12 r48
          have r49 := Rep.mono _ gx12 r49
          have r50 := Rep.mono _ gx12 r50
          refine bb_if (fun hc7 => ?_) (fun hc7 => ?_)
          · have hW := ifP hW hc7
            refine a_ret (v := (.bl (false))) val_c ?_
            exact hQ _ hW _ _ w
          · have hW := ifN hW hc7
            refine hN16 _ _ ?_
            refine q_sq fun N18 hN18 => ?_
            refine f_LE ?_
            refine e_lst ?_
            refine a_cons ?_
            refine e_call ?_
            refine a_cons ?_
            refine e_call ?_
            refine a_val (v := v1) (val_var rfl) ?_
            refine a_val (v := (.int ((1 : Nat) : Int))) val_c ?_
            refine a_nil ?_
            refine ⟨F45, (v1), (script1), (1), _, rfl, w.f, r46, hW, ?_⟩
            intro z14 hW F46 H44 s34
            replace r45 := Rep.mono _ s34.g r45
            replace r46 := Rep.mono _ s34.g r46
            replace r47 := Rep.mono _ s34.g r47
            replace r48 := Rep.mono _ s34.g r48
            replace r49 := Rep.mono _ s34.g r49
            replace r50 := Rep.mono _ s34.g r50
            replace w := w.tr s34
            refine a_val (v := (.int ((60 : Nat) : Int))) val_c ?_
            refine a_nil ?_
            refine ⟨F46, (z14), (60), _, rfl, w.f, hW, ?_⟩
            intro z15 hW F47 H45 s35
            replace r45 := Rep.mono _ s35.g r45
            replace r46 := Rep.mono _ s35.g r46
            replace r47 := Rep.mono _ s35.g r47
            replace r48 := Rep.mono _ s35.g r48
            replace r49 := Rep.mono _ s35.g r49
            replace r50 := Rep.mono _ s35.g r50
            replace w := w.tr s35
            refine a_val (v := (.str ((PySem.Str.ofString "")))) val_c ?_
            refine a_val (v := (.str ((PySem.Str.ofString "A")))) val_c ?_
            refine a_val (v := .non) val_c ?_
            refine a_val (v := (.int ((7 : Nat) : Int))) val_c ?_
            refine a_cons ?_
            refine e_lst ?_
            refine a_nil ?_
            refine n_lstX (e := (pL pA)) (xs := []) (vs := []) (show All (pL pA) _ [] [] from trivial) (show 0 < 1000000 from by decide) w ?_
            intro p18 H46 hp13 s36 x25
            replace r45 := Rep.mono _ s36.g r45
            replace r46 := Rep.mono _ s36.g r46
            replace r47 := Rep.mono _ s36.g r47
            replace r48 := Rep.mono _ s36.g r48
            replace r49 := Rep.mono _ s36.g r49
            replace r50 := Rep.mono _ s36.g r50
            replace w := w.tr s36
            refine a_val (v := (.bl (true))) val_c ?_
            refine a_nil ?_
            have nz11 := XL.nw1 x25 w.g
            obtain ⟨F48, w18, g15, r51, fz15⟩ := x25.frzE w
            replace r45 := Rep.mono _ g15 r45
            replace r46 := Rep.mono _ g15 r46
            replace r47 := Rep.mono _ g15 r47
            replace r48 := Rep.mono _ g15 r48
            replace r49 := Rep.mono _ g15 r49
            replace r50 := Rep.mono _ g15 r50
            replace w := w18
            have r52 : pA.r _ (.ref p18) (An.l (([] : List (List An)).map (fun xs => An.l (xs.map (fun x : An => x))))) := (cv_L (cv_L cv_any)) r51
            refine n_lstX (e := pA) (xs := [(An.s z15), (An.s (PySem.Str.ofString "")), (An.s (PySem.Str.ofString "A")), An.n, (An.i ((7 : Nat) : Int)), (An.l (([] : List (List An)).map (fun xs => An.l (xs.map (fun x : An => x))))), (An.b true)]) (vs := [(.str (z15)), (.str ((PySem.Str.ofString ""))), (.str ((PySem.Str.ofString "A"))), .non, (.int ((7 : Nat) : Int)), (.ref p18), (.bl (true))]) (show All pA _ [(.str (z15)), (.str ((PySem.Str.ofString ""))), (.str ((PySem.Str.ofString "A"))), .non, (.int ((7 : Nat) : Int)), (.ref p18), (.bl (true))] [(An.s z15), (An.s (PySem.Str.ofString "")), (An.s (PySem.Str.ofString "A")), An.n, (An.i ((7 : Nat) : Int)), (An.l (([] : List (List An)).map (fun xs => An.l (xs.map (fun x : An => x))))), (An.b true)] from ⟨(show pA.r _ (.str (z15)) (An.s z15) from rfl), ⟨(show pA.r _ (.str ((PySem.Str.ofString ""))) (An.s (PySem.Str.ofString "")) from rfl), ⟨(show pA.r _ (.str ((PySem.Str.ofString "A"))) (An.s (PySem.Str.ofString "A")) from rfl), ⟨(show pA.r _ V.non An.n from rfl), ⟨(show pA.r _ (.int ((7 : Nat) : Int)) (An.i ((7 : Nat) : Int)) from rfl), ⟨r52, ⟨(show pA.r _ (.bl (true)) (An.b true) from rfl), trivial⟩⟩⟩⟩⟩⟩⟩) (show 7 < 1000000 from by decide) w ?_
            intro p19 H47 hp14 s37 x26
            replace r45 := Rep.mono _ s37.g r45
            replace r46 := Rep.mono _ s37.g r46
            replace r47 := Rep.mono _ s37.g r47
            replace r48 := Rep.mono _ s37.g r48
            replace r49 := Rep.mono _ s37.g r49
            replace r50 := Rep.mono _ s37.g r50
            replace r51 := Rep.mono _ s37.g r51
            replace w := w.tr s37
            have nz12 := XL.nw1 x26 w.g
            obtain ⟨F49, w19, g16, r53, fz16⟩ := x26.frzE w
            replace r45 := Rep.mono _ g16 r45
            replace r46 := Rep.mono _ g16 r46
            replace r47 := Rep.mono _ g16 r47
            replace r48 := Rep.mono _ g16 r48
            replace r49 := Rep.mono _ g16 r49
            replace r50 := Rep.mono _ g16 r50
            replace r51 := Rep.mono _ g16 r51
            replace w := w19
            refine w_forL (S := Unit) (fun _ σ' F' H' => ∃ (o4 : Option V), Wf F0 H0 F' H' ∧ Ex F49 F' ∧ σ' = [some v1, some u1, some v3, some u3, some u4, some (.ref p4), none, some (.ref p10), none, some (.ref ob2), o3, o4]) r53 hW ⟨_, w, Ex.rfl', rfl⟩ (fun s σ' F' H' hI => by obtain ⟨_, w', gx', _⟩ := hI; exact ⟨gx', w'.f⟩) w.f ?_ ?_
            · intro N19 Bk4 thing2 u11 s38 σ' F50 H48 nx6 bk4 hI10 hx7 ru7 hW hN19 hB4
              obtain ⟨o4, w, gx13, rfl⟩ := hI10
              have r45 := Rep.mono _ gx13 r45
              have r46 := Rep.mono _ gx13 r46
              have r47 := Rep.mono _ gx13 r47
              have r48 := Rep.mono _ gx13 r48
              have r49 := Rep.mono _ gx13 r49
              have r50 := Rep.mono _ gx13 r50
              have r51 := Rep.mono _ gx13 r51
              have r53 := Rep.mono _ gx13 r53
              refine g_name ?_
              refine a_ifE ?_
              refine e_tNot ?_
              refine e_tB ?_
              refine e_call ?_
              refine a_val (v := (.ref ob2)) (val_var rfl) ?_
              refine a_val (v := u11) (val_var rfl) ?_
              refine a_nil ?_
              refine ⟨F50, ((.ref ob2)), (z11), (u11), (thing2), _, rfl, w.f, r45, ru7, hW, ?_⟩
              intro z16 hW F51 H49 s39
              replace r45 := Rep.mono _ s39.g r45
              replace r46 := Rep.mono _ s39.g r46
              replace r47 := Rep.mono _ s39.g r47
              replace r48 := Rep.mono _ s39.g r48
              replace r49 := Rep.mono _ s39.g r49
              replace r50 := Rep.mono _ s39.g r50
              replace ru7 := Rep.mono _ s39.g ru7
              replace w := w.tr s39
              replace gx13 := Ex.tr gx13 s39.g
              refine bl_v ?_
              refine bb_ifn (fun hc8 => ?_) (fun hc8 => ?_)
              · have hW := ifP hW hc8
                exact hN19 () _ _ _ ⟨_, w, gx13, rfl⟩ hW
              · have hW := ifN hW hc8
                refine a_ret (v := (.bl (false))) val_c ?_
                exact hQ _ hW _ _ w
            · intro s40 σ' F52 H50 hI11 hW
              obtain ⟨o4, w, gx14, rfl⟩ := hI11
              have r45 := Rep.mono _ gx14 r45
              have r46 := Rep.mono _ gx14 r46
              have r47 := Rep.mono _ gx14 r47
              have r48 := Rep.mono _ gx14 r48
              have r49 := Rep.mono _ gx14 r49
              have r50 := Rep.mono _ gx14 r50
              have r51 := Rep.mono _ gx14 r51
              have r53 := Rep.mono _ gx14 r53
              refine hN18 _ _ ?_
              refine a_ret (v := (.bl (true))) val_c ?_
              exact hQ _ hW _ _ w
end My
namespace My
open Wk
def cellV (s : List Int) (k : Nat) : Int := if h : k < s.length then s[k] else ((41 * k + 3 : Nat) : Int)
theorem w_cell {s : List Int} {k : Nat} {R : Int → Prop} (h : R (cellV s k)) : W_cell s k R := by
  unfold W_cell
  unfold cellV at h
  by_cases e : k < s.length
  · rw [dif_pos e] at h; rw [if_pos e]; exact ⟨_, List.getElem?_eq_getElem e, h⟩
  · rw [dif_neg e] at h; rw [if_neg e]; exact h
def mixN (c : Int) (k : Nat) : Nat := (((modN c 2147483647) * 48271) + (7919 * k) + 11) % 2147483647
def mixV (c : Int) (k : Nat) : Nat := ((mixN c k * mixN c k % 2147483629) * ((mixN c k * mixN c k % 2147483629 + 48271 * k) + 7)) % 2147483587
theorem w_mix {c : Int} {k : Nat} {R : Nat → Prop} (h : R (mixV c k)) : W_mix c k R := by
  rintro _ rfl
  have b : mixN c k < 2 ^ 64 := Nat.lt_trans (Nat.mod_lt _ (by decide)) (by decide)
  refine ⟨.inl b, ?_⟩
  rintro _ rfl
  exact ⟨.inl (Nat.lt_trans (Nat.mod_lt _ (by decide)) (by decide)), h⟩
end My
namespace My
open Wk PySem
theorem forW_all {α : Type} {p : α → Prop} [DecidablePred p] {r k : Prop} : ∀ {xs : List α}, (if (∀ x ∈ xs, ¬ p x) then k else r) → forW xs () (fun x _ nx _ => if p x then r else nx ()) (fun _ => k)
  | [], h => by
    rw [if_pos (by simp)] at h; exact h
  | x :: xs, h => by
    show (if p x then r else forW xs () _ _)
    by_cases hp : p x
    · rw [if_pos hp]; rw [if_neg (fun q => q x (by simp) hp)] at h; exact h
    · rw [if_neg hp]
      refine forW_all ?_
      by_cases ha : ∀ y ∈ xs, ¬ p y
      · rw [if_pos ha]; rw [if_pos (fun y hy => by rcases List.mem_cons.mp hy with e | e; exact e ▸ hp; exact ha y e)] at h; exact h
      · rw [if_neg ha]; rw [if_neg (fun q => ha fun y hy => q y (List.mem_cons_of_mem _ hy))] at h; exact h
theorem bT {A B : Prop} (h : A) : (if (true = true) then A else B) := by rw [if_pos rfl]; exact h
theorem bF {A B : Prop} (h : B) : (if (false = true) then A else B) := by rw [if_neg (by decide)]; exact h
theorem len_sg (c : Nat) : (sg c).length = 1 := rfl
theorem len_app (x y : Str) : (x ++ y).length = x.length + y.length := Str.length_append x y
theorem cps_lit (s : String) : (Str.ofString s).cps.toList = s.toList.map Char.toNat := PyProof.Rows.signs_ofString s
theorem len_lit (s : String) : (Str.ofString s).length = (s.toList.map Char.toNat).length := by
  show (Str.ofString s).cps.toList.length = _
  rw [cps_lit]
theorem in_letters (c : Nat) : c ∈ (Str.ofString "abcdefghijklmnopqrstuvwxyz").cps.toList ↔ 97 ≤ c ∧ c ≤ 122 := by
  rw [cps_lit, show ("abcdefghijklmnopqrstuvwxyz".toList.map Char.toNat) = List.range' 97 26 from by decide +kernel, List.mem_range'_1]
  omega
theorem in_figures (c : Nat) : c ∈ (Str.ofString "0123456789").cps.toList ↔ 48 ≤ c ∧ c ≤ 57 := by
  rw [cps_lit, show ("0123456789".toList.map Char.toNat) = List.range' 48 10 from by decide +kernel, List.mem_range'_1]
  omega
theorem at_len {t : Str} {i : Nat} (h : i < t.length) : ∃ c, t.cps.toList[i]? = some c := ⟨_, List.getElem?_eq_getElem (l := t.cps.toList) h⟩
def isN (t : Str) : Prop := 1 ≤ t.length ∧ t.length ≤ 6 ∧ (∀ c, t.cps.toList[0]? = some c → 97 ≤ c ∧ c ≤ 122) ∧ ∀ c ∈ t.cps.toList, (97 ≤ c ∧ c ≤ 122) ∨ (48 ≤ c ∧ c ≤ 57)
theorem w_is_name {t : Str} (hl : t.length < 1000000) {R : Bool → Prop} (h1 : isN t → R true) (h0 : ¬ isN t → R false) : W_is_name (An.s t) R := by
  refine jnI ?_
  rw [if_neg (show ¬ ¬ (isA "str" (An.s t) = true) from fun q => q rfl)]
  refine ⟨t, rfl, hl, ?_⟩
  by_cases hb : 1 ≤ t.length ∧ t.length ≤ 6
  · rw [decide_eq_false (fun q => q hb)]; refine bF ?_
    refine ⟨t, rfl, forW_all (p := fun s => (¬ (s ∈ (Str.ofString "abcdefghijklmnopqrstuvwxyz").cps.toList)) ∧ (¬ (s ∈ (Str.ofString "0123456789").cps.toList))) ?_⟩
    by_cases ha : ∀ c ∈ t.cps.toList, (97 ≤ c ∧ c ≤ 122) ∨ (48 ≤ c ∧ c ≤ 57)
    · rw [if_pos (fun c hc q => by
        rcases ha c hc with z | z
        · exact q.1 ((in_letters c).mpr z)
        · exact q.2 ((in_figures c).mpr z))]
      obtain ⟨x, hx⟩ := at_len (t := t) (i := 0) (by omega)
      refine ⟨hl, x, hx, ?_⟩
      by_cases hc : 97 ≤ x ∧ x ≤ 122
      · rw [decide_eq_true ((in_letters x).mpr hc)]
        exact h1 ⟨hb.1, hb.2, fun c e => by rw [hx] at e; cases e; exact hc, ha⟩
      · rw [decide_eq_false (fun q => hc ((in_letters x).mp q))]
        exact h0 fun q => hc (q.2.2.1 x hx)
    · rw [if_neg (fun q => ha fun c hc => ?_)]
      · exact h0 fun q => ha q.2.2.2
      · by_cases z : 97 ≤ c ∧ c ≤ 122
        · exact .inl z
        · by_cases z2 : 48 ≤ c ∧ c ≤ 57
          · exact .inr z2
          · exact absurd ⟨fun y => z ((in_letters c).mp y), fun y => z2 ((in_figures c).mp y)⟩ (q c hc)
  · rw [decide_eq_true hb]; refine bT ?_
    exact h0 fun q => hb ⟨q.1, q.2.1⟩
end My
namespace My
open Wk PySem
theorem str_ext {x y : Str} (h : x.cps.toList = y.cps.toList) : x = y := by
  cases x; cases y; congr 1; exact Array.toList_inj.mp h
/-- the number that figures write -/
def valD : List Nat → Nat
  | [] => 0
  | c :: cs => (c - 48) * 10 ^ cs.length + valD cs
theorem digit_chr : ∀ k, k < 10 → (Nat.digitChar k).toNat = 48 + k := by decide
theorem valD_core : ∀ (f n : Nat) (ds : List Char), n < f → valD ((Nat.toDigitsCore 10 f n ds).map Char.toNat) = n * 10 ^ ds.length + valD (ds.map Char.toNat)
  | 0, n, ds, h => absurd h (Nat.not_lt_zero _)
  | f + 1, n, ds, h => by
    have hd : (Nat.digitChar (n % 10)).toNat = 48 + n % 10 := digit_chr _ (Nat.mod_lt _ (by decide))
    unfold Nat.toDigitsCore
    by_cases z : n / 10 = 0
    · simp only [z, if_true]
      rw [List.map_cons, valD, hd, List.length_map]
      have : n % 10 = n := by omega
      rw [this, Nat.add_sub_cancel_left]
    · simp only [z, if_false]
      rw [valD_core f (n / 10) _ (by omega), List.map_cons, valD, hd, List.length_map, List.length_cons, Nat.add_sub_cancel_left, Nat.pow_succ]
      have e : n = 10 * (n / 10) + n % 10 := (Nat.div_add_mod n 10).symm
      have : n * 10 ^ ds.length = (n / 10) * (10 ^ ds.length * 10) + n % 10 * 10 ^ ds.length := by
        conv => lhs; rw [e]
        rw [Nat.add_mul, Nat.mul_comm 10, Nat.mul_assoc, Nat.mul_comm 10]
      omega
theorem core_figs : ∀ (f n : Nat) (ds : List Char), (∀ c ∈ ds, 48 ≤ c.toNat ∧ c.toNat ≤ 57) → ∀ c ∈ Nat.toDigitsCore 10 f n ds, 48 ≤ c.toNat ∧ c.toNat ≤ 57
  | 0, n, ds, h => by unfold Nat.toDigitsCore; exact h
  | f + 1, n, ds, h => by
    have hd : (Nat.digitChar (n % 10)).toNat = 48 + n % 10 := digit_chr _ (Nat.mod_lt _ (by decide))
    have m : n % 10 < 10 := Nat.mod_lt _ (by decide)
    have h' : ∀ c ∈ Nat.digitChar (n % 10) :: ds, 48 ≤ c.toNat ∧ c.toNat ≤ 57 := fun c hc => by
      rcases List.mem_cons.mp hc with e | e
      · rw [e, hd]; omega
      · exact h c e
    unfold Nat.toDigitsCore
    by_cases z : n / 10 = 0
    · simp only [z, if_true]; exact h'
    · simp only [z, if_false]; exact core_figs f (n / 10) _ h'
theorem core_len : ∀ (f n : Nat) (ds : List Char) (k : Nat), n < 10 ^ (k + 1) → (Nat.toDigitsCore 10 f n ds).length ≤ k + 1 + ds.length
  | 0, n, ds, k, h => by unfold Nat.toDigitsCore; omega
  | f + 1, n, ds, k, h => by
    unfold Nat.toDigitsCore
    by_cases z : n / 10 = 0
    · simp only [z, if_true, List.length_cons]; omega
    · simp only [z, if_false]
      cases k with
      | zero => omega
      | succ k =>
        have := core_len f (n / 10) (Nat.digitChar (n % 10) :: ds) k (by rw [Nat.pow_succ] at h; omega)
        rw [List.length_cons] at this; omega
theorem strN_list (n : Nat) : (strN n).cps.toList = (Nat.toDigits 10 n).map Char.toNat := by
  show (PySem.Str.ofString (Nat.repr n)).cps.toList = _
  rw [Str.ofString_eq_toList]
  show ((Nat.repr n).toList.map Char.toNat) = _
  rw [show (Nat.repr n).toList = Nat.toDigits 10 n from by unfold Nat.repr; exact String.toList_ofList]
theorem strN_val (n : Nat) : valD (strN n).cps.toList = n := by
  rw [strN_list]
  have := valD_core (n + 1) n [] (Nat.lt_succ_self n)
  show valD ((Nat.toDigitsCore 10 (n + 1) n []).map Char.toNat) = n
  simpa [valD] using this
theorem strN_figs (n : Nat) : ∀ c ∈ (strN n).cps.toList, 48 ≤ c ∧ c ≤ 57 := by
  rw [strN_list]
  intro c hc
  obtain ⟨d, hd, e⟩ := List.mem_map.mp hc
  rw [← e]
  exact core_figs (n + 1) n [] (fun c hc => by cases hc) d hd
theorem strN_lenB {n k : Nat} (h : n < 10 ^ (k + 1)) : (strN n).length ≤ k + 1 := by
  show (strN n).cps.toList.length ≤ _
  rw [strN_list, List.length_map]
  exact core_len (n + 1) n [] k h
theorem strN_inj {a b : Nat} (h : strN a = strN b) : a = b := by rw [← strN_val a, ← strN_val b, h]
theorem isN_okS {t : Str} (h : isN t) : okS t := by
  show (t.cps.all (· < 0x110000)) = true
  rw [← Array.all_toList, List.all_eq_true]
  intro c hc
  have := h.2.2.2 c hc
  exact decide_eq_true (show c < 0x110000 by omega)
theorem app_list (x y : Str) : (x ++ y).cps.toList = x.cps.toList ++ y.cps.toList := Array.toList_append
theorem mk_isN {a n : Nat} (ha : 97 ≤ a ∧ a ≤ 122) (hn : n < 10000) : isN (sg a ++ strN n) := by
  have e : (sg a ++ strN n).cps.toList = a :: (strN n).cps.toList := by rw [app_list]; rfl
  have sl : (strN n).length ≤ 4 := strN_lenB (k := 3) hn
  have ll : (sg a ++ strN n).length = 1 + (strN n).length := by rw [len_app, len_sg]
  have fg := strN_figs n
  generalize strN n = t at e sl ll fg
  generalize sg a ++ t = u at e ll
  refine ⟨by omega, by omega, fun d hd => ?_, fun d hd => ?_⟩
  · rw [e] at hd
    have : a = d := by simpa using hd
    rw [← this]; exact ha
  · rw [e] at hd
    rcases List.mem_cons.mp hd with z | z
    · rw [z]; exact .inl ha
    · exact .inr (fg d z)
end My
namespace My
open Wk PySem
def abc : Str := Str.ofString "abcdefghijklmnopqrstuvwxyz"
def someW : Str := Str.ofString "cut x x0 x1 fresh new zero none nil tmp c c0 cut0 cut1 gnd off in out sum store" ++ Str.ofString " i0 i1 s0 s1 n0 n1 o0 o1 net wire a b z y0 t0 w w0 k dead open"
def someL : List Str := Txt.split someW (Str.ofString " ")
theorem words_len : someL.length = 40 := by decide +kernel
def isNB (t : Str) : Bool := decide (1 ≤ t.length) && decide (t.length ≤ 6) && (match t.cps.toList with | [] => false | c :: _ => decide (97 ≤ c) && decide (c ≤ 122)) && t.cps.toList.all fun c => (decide (97 ≤ c) && decide (c ≤ 122)) || (decide (48 ≤ c) && decide (c ≤ 57))
theorem isN_of {t : Str} (h : isNB t = true) : isN t := by
  unfold isNB at h
  simp only [Bool.and_eq_true, decide_eq_true_iff, List.all_eq_true, Bool.or_eq_true] at h
  obtain ⟨⟨⟨h1, h2⟩, h3⟩, h4⟩ := h
  refine ⟨h1, h2, fun c hc => ?_, h4⟩
  cases q : t.cps.toList with
  | nil => rw [q] at hc; cases hc
  | cons d ds =>
    rw [q] at hc h3
    have : d = c := by simpa using hc
    subst this
    simpa using h3
theorem words_isN : ∀ x ∈ someL, isN x := by
  have : (someL.all isNB) = true := by decide +kernel
  intro x hx
  exact isN_of (List.all_eq_true.mp this x hx)
theorem words_nodup : someL.Nodup := by decide +kernel
theorem abc_len : abc.cps.toList.length = 26 := by decide +kernel
theorem abc_let : ∀ c ∈ abc.cps.toList, 97 ≤ c ∧ c ≤ 122 := fun c hc => (in_letters c).mp hc
/-- the drawn name -/
def nameV (c : Int) (k : Nat) : Str := if k < 40 ∧ mixV c 402 % 2 = 0 then someL.getD ((k + mixV c 403) % 40) (Str.ofString "") else sg (abc.cps.toList.getD (mixV c 400 % 26) 0) ++ strN (mixV c 401 % 1000 + 37 * k)
theorem nth_word {i : Nat} (hi : i < 40) : ∃ x, someL[i]? = some x ∧ isN x := by
  have h : i < someL.length := by rw [words_len]; exact hi
  exact ⟨_, List.getElem?_eq_getElem h, words_isN _ (List.getElem_mem h)⟩
theorem nth_let {i : Nat} (hi : i < 26) : ∃ x, abc.cps.toList[i]? = some x ∧ 97 ≤ x ∧ x ≤ 122 := by
  have h : i < abc.cps.toList.length := by rw [abc_len]; exact hi
  exact ⟨_, List.getElem?_eq_getElem h, abc_let _ (List.getElem_mem h)⟩
theorem nameV_isN {c : Int} {k : Nat} (hk : k ≤ 200) : isN (nameV c k) := by
  unfold nameV
  by_cases q : k < 40 ∧ mixV c 402 % 2 = 0
  · rw [if_pos q]
    obtain ⟨x, hx, nx⟩ := nth_word (i := (k + mixV c 403) % 40) (Nat.mod_lt _ (by decide))
    rw [List.getD_eq_getElem?_getD, hx, Option.getD_some]; exact nx
  · rw [if_neg q]
    obtain ⟨x, hx, nx⟩ := nth_let (i := mixV c 400 % 26) (Nat.mod_lt _ (by decide))
    rw [List.getD_eq_getElem?_getD, hx, Option.getD_some]
    have n1 : mixV c 401 % 1000 < 1000 := Nat.mod_lt _ (by decide)
    exact mk_isN nx (by omega)
theorem nameV_inj {c : Int} {j k : Nat} (hj : j < 40) (hk : k < 40) (h : nameV c j = nameV c k) : j = k := by
  unfold nameV at h
  by_cases q : mixV c 402 % 2 = 0
  · rw [if_pos ⟨hj, q⟩, if_pos ⟨hk, q⟩] at h
    have hi : ∀ k : Nat, (k + mixV c 403) % 40 < someL.length := fun k => by rw [words_len]; exact Nat.mod_lt _ (by decide)
    rw [List.getD_eq_getElem?_getD, List.getElem?_eq_getElem (hi j), List.getD_eq_getElem?_getD, List.getElem?_eq_getElem (hi k), Option.getD_some, Option.getD_some] at h
    have := (List.getElem?_inj (j := (k + mixV c 403) % 40) (hi j) words_nodup).mp (by rw [List.getElem?_eq_getElem (hi j), List.getElem?_eq_getElem (hi k), h])
    omega
  · rw [if_neg (fun z => q z.2), if_neg (fun z => q z.2)] at h
    have h2 : (sg _ ++ strN _).cps.toList = (sg _ ++ strN _).cps.toList := congrArg (fun x : Str => x.cps.toList) h
    rw [app_list, app_list] at h2
    have h3 := List.append_cancel_left h2
    have h4 := strN_inj (str_ext h3)
    omega
theorem w_name {c : Int} {k : Nat} (hk : k ≤ 200) {R : Str → Prop} (h : R (nameV c k)) : W_name c k R := by
  rintro l (hl : l = abc) s1 hs1
  subst hl
  have e1 : s1.length + (PySem.Str.ofString " i0 i1 s0 s1 n0 n1 o0 o1 net wire a b z y0 t0 w w0 k dead open").length < 1000000 := by rw [hs1]; decide +kernel
  refine ⟨e1, ?_⟩
  clear e1
  rintro s2 hs2
  have e2 : s2 = someW := by rw [hs2, hs1]; rfl
  subst e2
  clear hs2 hs1
  have fin : ∀ b : Bool, b = decide (k < 40 ∧ mixV c 402 % 2 = 0) → (if b = true then ((someW.length + 2 < 1000000) ∧ W_mix c 403 fun z2 => ∃ x2, (Txt.split someW (Str.ofString " "))[(k + z2) % 40]? = some x2 ∧ R x2) else (W_mix c 400 fun z3 => (abc.length < 1000000) ∧ ∃ c4 : Nat, abc.cps.toList[z3 % 26]? = some c4 ∧ W_mix c 401 fun z4 => (((z4 % 1000) + (37 * k)).log2 < 1920) ∧ ((sg c4).length + (strN ((z4 % 1000) + (37 * k))).length < 1000000) ∧ R ((sg c4) ++ (strN ((z4 % 1000) + (37 * k)))))) := by
    intro b hb
    unfold nameV at h
    by_cases q : k < 40 ∧ mixV c 402 % 2 = 0
    · rw [decide_eq_true q] at hb
      subst hb
      rw [if_pos q] at h
      rw [if_pos rfl]
      refine ⟨by decide +kernel, w_mix ?_⟩
      have hi : (k + mixV c 403) % 40 < someL.length := by rw [words_len]; exact Nat.mod_lt _ (by decide)
      rw [List.getD_eq_getElem?_getD, List.getElem?_eq_getElem hi, Option.getD_some] at h
      exact ⟨_, List.getElem?_eq_getElem hi, h⟩
    · rw [decide_eq_false q] at hb
      subst hb
      rw [if_neg q] at h
      rw [if_neg (by decide)]
      refine w_mix ⟨by decide +kernel, ?_⟩
      have hi : mixV c 400 % 26 < abc.cps.toList.length := by rw [abc_len]; exact Nat.mod_lt _ (by decide)
      rw [List.getD_eq_getElem?_getD, List.getElem?_eq_getElem hi, Option.getD_some] at h
      refine ⟨_, List.getElem?_eq_getElem hi, w_mix ?_⟩
      have n1 : mixV c 401 % 1000 < 1000 := Nat.mod_lt _ (by decide)
      have sl : (strN (mixV c 401 % 1000 + 37 * k)).length ≤ 4 := strN_lenB (k := 3) (by omega)
      refine ⟨?_, ?_, h⟩
      · by_cases z : mixV c 401 % 1000 + 37 * k = 0
        · rw [z]; decide
        · exact Nat.lt_trans ((Nat.log2_lt z).mpr (show _ < 2 ^ 14 by omega)) (by decide)
      · rw [len_sg]; omega
  refine jnI ?_
  by_cases q : k < 40
  · rw [if_pos q]
    refine w_mix ?_
    generalize mixV c 402 % 2 = zz at fin
    exact fin _ (dec_iff ⟨fun z => ⟨q, z⟩, fun z => z.2⟩)
  · rw [if_neg q]
    exact fin false (decide_eq_false fun z => q z.1).symm
end My
namespace My
open Wk PySem
abbrev NetV := List (Str × WireV) × List Str × List Str × List (Str × Bool)
abbrev RowsS := List (Str × List Str)
abbrev RowsE := List (Str × Str)
section
variable {α β : Type}
theorem enumT_snoc (xs : List α) (x : α) : enumT (xs ++ [x]) = enumT xs ++ [(xs.length, x)] := by
  unfold enumT
  rw [List.length_append, List.length_singleton, List.range_succ, List.zip_append (by rw [List.length_range])]
  rfl
theorem enumT_map (xs : List α) (f : α → β) : (enumT xs).map (fun p => f p.2) = xs.map f := by
  rw [show (fun p : Nat × α => f p.2) = f ∘ (·.2) from rfl, ← List.map_map, enumT_snd]
theorem valT_some_mem {m : List (Str × α)} {n : Str} {x : α} (h : valT m n = some x) : (n, x) ∈ m := by
  induction m with
  | nil => cases h
  | cons q m ih =>
    rw [valT_cons] at h
    by_cases e : q.1 = n
    · rw [if_pos e] at h; cases h; subst e; exact List.mem_cons_self ..
    · rw [if_neg e] at h; exact List.mem_cons_of_mem _ (ih h)
theorem valT_mem {m : List (Str × α)} (nd : (m.map (·.1)).Nodup) {n : Str} {x : α} (h : (n, x) ∈ m) : valT m n = some x := by
  induction m with
  | nil => cases h
  | cons q m ih =>
    rw [List.map_cons, List.nodup_cons] at nd
    rw [valT_cons]
    rcases List.mem_cons.mp h with e | e
    · subst e; rw [if_pos rfl]
    · rw [if_neg (fun z => nd.1 (by rw [z]; exact List.mem_map.mpr ⟨_, e, rfl⟩))]
      exact ih nd.2 e
theorem nodup_sub_len [DecidableEq α] : ∀ {l S : List α}, l.Nodup → (∀ x ∈ l, x ∈ S) → l.length ≤ S.length
  | [], _, _, _ => Nat.zero_le _
  | x :: l, S, nd, h => by
    rw [List.nodup_cons] at nd
    have hx := h x (List.mem_cons_self ..)
    have := nodup_sub_len (l := l) (S := S.erase x) nd.2 fun y hy => (List.mem_erase_of_ne (fun e : y = x => nd.1 (by rw [← e]; exact hy))).mpr (h y (List.mem_cons_of_mem _ hy))
    rw [List.length_erase_of_mem hx] at this
    have := List.length_pos_of_mem hx
    rw [List.length_cons]; omega
theorem filter_lt {p q : α → Bool} : ∀ {l : List α}, (∀ x ∈ l, p x = true → q x = true) → (∃ x ∈ l, q x = true ∧ p x = false) → (l.filter p).length < (l.filter q).length
  | [], _, ⟨x, hx, _⟩ => by cases hx
  | y :: l, h, ⟨x, hx, h1, h2⟩ => by
    have hl : ∀ z ∈ l, p z = true → q z = true := fun z hz => h z (List.mem_cons_of_mem _ hz)
    have le : (l.filter p).length ≤ (l.filter q).length := by
      clear h hx h1 h2
      induction l with
      | nil => exact Nat.le_refl _
      | cons z l ih =>
        have ih := ih fun w hw => hl w (List.mem_cons_of_mem _ hw)
        have hz := hl z (List.mem_cons_self ..)
        rw [List.filter_cons, List.filter_cons]
        by_cases a : p z = true
        · rw [if_pos a, if_pos (hz a), List.length_cons, List.length_cons]; omega
        · rw [if_neg a]
          by_cases b : q z = true
          · rw [if_pos b, List.length_cons]; omega
          · rw [if_neg b]; exact ih
    rw [List.filter_cons, List.filter_cons]
    rcases List.mem_cons.mp hx with e | e
    · subst e
      rw [if_neg (by rw [h2]; decide), if_pos h1, List.length_cons]; omega
    · have := filter_lt hl ⟨x, e, h1, h2⟩
      by_cases a : p y = true
      · rw [if_pos a, if_pos (h y (List.mem_cons_self ..) a), List.length_cons, List.length_cons]; omega
      · rw [if_neg a]
        by_cases b : q y = true
        · rw [if_pos b, List.length_cons]; omega
        · rw [if_neg b]; exact this
end
def inAll (l : List Str) : List (Str × WireV) := (enumT l).map fun p => (p.2, .inl (p.2, p.1))
def sumAll (l : RowsS) : List (Str × WireV) := l.map fun p => (p.1, .inr (.inl p))
def stAll (l : RowsE) : List (Str × WireV) := (enumT l).map fun p => (p.2.1, .inr (.inr (p.2.1, p.2.2, p.1)))
def allOf (a : List Str) (b : RowsS) (c : RowsE) : List (Str × WireV) := inAll a ++ sumAll b ++ stAll c
def sumN (b : RowsS) : List Str := b.map (·.1)
def keysOf (a : List Str) (b : RowsS) (c : RowsE) : List Str := a ++ sumN b ++ c.map (·.1)
theorem in_keys (a : List Str) : (inAll a).map (·.1) = a := by
  unfold inAll
  rw [List.map_map]
  exact (enumT_map a id).trans (List.map_id a)
theorem st_keys (c : RowsE) : (stAll c).map (·.1) = c.map (·.1) := by
  unfold stAll
  rw [List.map_map]
  exact enumT_map c (·.1)
theorem sum_keys (b : RowsS) : (sumAll b).map (·.1) = sumN b := by
  unfold sumAll sumN
  rw [List.map_map]; rfl
theorem all_keys (a : List Str) (b : RowsS) (c : RowsE) : (allOf a b c).map (·.1) = keysOf a b c := by
  unfold allOf keysOf
  rw [List.map_append, List.map_append, in_keys, sum_keys, st_keys]
theorem inAll_snoc (a : List Str) (n : Str) : inAll (a ++ [n]) = inAll a ++ [(n, .inl (n, a.length))] := by unfold inAll; rw [enumT_snoc, List.map_append]; rfl
theorem stAll_snoc (c : RowsE) (p : Str × Str) : stAll (c ++ [p]) = stAll c ++ [(p.1, .inr (.inr (p.1, p.2, c.length)))] := by unfold stAll; rw [enumT_snoc, List.map_append]; rfl
theorem inAll_len (a : List Str) : (inAll a).length = a.length := by unfold inAll; rw [List.length_map, enumT_len]
theorem stAll_len (c : RowsE) : (stAll c).length = c.length := by unfold stAll; rw [List.length_map, enumT_len]
theorem allOf_len (a : List Str) (b : RowsS) (c : RowsE) : (allOf a b c).length = a.length + b.length + c.length := by
  unfold allOf; rw [List.length_append, List.length_append, inAll_len, stAll_len]; unfold sumAll; rw [List.length_map]
def readsOf (b : RowsS) (c : RowsE) (d : List Str) : List Str := b.flatMap (·.2) ++ c.map (·.2) ++ d
/-- a net that is let by -/
structure NetOk (a : List Str) (b : RowsS) (c : RowsE) (d : List Str) : Prop where
  na : a.length ≤ 6
  nb : b.length ≤ 40
  nc : c.length ≤ 16
  nd : d.length ≤ 6
  nw : ∀ p ∈ b, p.2.length ≤ 24
  nm : ∀ x ∈ keysOf a b c, isN x
  un : (keysOf a b c).Nodup
  rd : ∀ x ∈ readsOf b c d, x ∈ keysOf a b c
  ac : ∃ rk : Str → Nat, ∀ p ∈ b, ∀ w ∈ p.2, w ∈ sumN b → rk w < rk p.1
def kindV : WireV → Str
  | .inl _ => Str.ofString "in"
  | .inr (.inl _) => Str.ofString "sum"
  | .inr (.inr _) => Str.ofString "store"
theorem w_kind {w : WireV} {R : Str → Prop} (h : R (kindV w)) : W_P_kind w R := match w, h with
  | .inl _, h => h
  | .inr (.inl _), h => h
  | .inr (.inr _), h => h
def needsV : WireV → List Str
  | .inr (.inl x) => x.2
  | _ => []
theorem w_needs {w : WireV} {R : List Str → Prop} (h : R (needsV w)) : W_P_needs w R := match w, h with
  | .inl _, h => h
  | .inr (.inl _), h => h
  | .inr (.inr _), h => h
theorem w_of_kind {all : List (Str × WireV)} {word : Str} (hl : all.length < 1000000) {R : List WireV → Prop} (h : R ((all.map (·.2)).filter fun w => decide (kindV w = word))) : W_Net_of_kind all word R :=
  ⟨hl, compW_filter (fun w => decide (kindV w = word)) (fun w _ kk h1 h0 => w_kind (by
    by_cases q : kindV w = word
    · rw [if_pos q]; exact h1 (decide_eq_true q)
    · rw [if_neg q]; exact h0 (decide_eq_false q))) h⟩
theorem kind_ne1 : ¬ (Str.ofString "in" = Str.ofString "sum") := by decide +kernel
theorem kind_ne2 : ¬ (Str.ofString "in" = Str.ofString "store") := by decide +kernel
theorem kind_ne3 : ¬ (Str.ofString "sum" = Str.ofString "in") := by decide +kernel
theorem kind_ne4 : ¬ (Str.ofString "sum" = Str.ofString "store") := by decide +kernel
theorem kind_ne5 : ¬ (Str.ofString "store" = Str.ofString "in") := by decide +kernel
theorem kind_ne6 : ¬ (Str.ofString "store" = Str.ofString "sum") := by decide +kernel
theorem kinds_of (a : List Str) (b : RowsS) (c : RowsE) (word : Str) : ((allOf a b c).map (·.2)).filter (fun w => decide (kindV w = word)) = (if Str.ofString "in" = word then (inAll a).map (·.2) else []) ++ (if Str.ofString "sum" = word then (sumAll b).map (·.2) else []) ++ (if Str.ofString "store" = word then (stAll c).map (·.2) else []) := by
  have one : ∀ (l : List (Str × WireV)) (k : Str), (∀ p ∈ l, kindV p.2 = k) → (l.map (·.2)).filter (fun w => decide (kindV w = word)) = if k = word then l.map (·.2) else [] := by
    intro l k hk
    by_cases q : k = word
    · rw [if_pos q]
      refine List.filter_eq_self.mpr fun w hw => ?_
      obtain ⟨p, hp, e⟩ := List.mem_map.mp hw
      rw [← e, hk p hp]; exact decide_eq_true q
    · rw [if_neg q]
      refine List.filter_eq_nil_iff.mpr fun w hw => ?_
      obtain ⟨p, hp, e⟩ := List.mem_map.mp hw
      rw [← e, hk p hp, decide_eq_false q]; exact fun z => by cases z
  unfold allOf
  rw [List.map_append, List.map_append, List.filter_append, List.filter_append, one (inAll a) (Str.ofString "in"), one (sumAll b) (Str.ofString "sum"), one (stAll c) (Str.ofString "store")]
  · intro p hp; obtain ⟨q, _, e⟩ := List.mem_map.mp (show p ∈ List.map _ _ from hp); rw [← e]; rfl
  · intro p hp; obtain ⟨q, _, e⟩ := List.mem_map.mp (show p ∈ List.map _ _ from hp); rw [← e]; rfl
  · intro p hp; obtain ⟨q, _, e⟩ := List.mem_map.mp (show p ∈ List.map _ _ from hp); rw [← e]; rfl
section
variable {a : List Str} {b : RowsS} {c : RowsE} {d : List Str}
theorem w_kind_in (hl : (allOf a b c).length < 1000000) {R : List WireV → Prop} (h : R ((inAll a).map (·.2))) : W_Net_of_kind (allOf a b c) (Str.ofString "in") R := w_of_kind hl (by
  rw [kinds_of, if_pos rfl, if_neg kind_ne3, if_neg kind_ne5, List.append_nil, List.append_nil]; exact h)
theorem w_kind_sum (hl : (allOf a b c).length < 1000000) {R : List WireV → Prop} (h : R ((sumAll b).map (·.2))) : W_Net_of_kind (allOf a b c) (Str.ofString "sum") R := w_of_kind hl (by
  rw [kinds_of, if_neg kind_ne1, if_pos rfl, if_neg kind_ne6, List.append_nil, List.nil_append]; exact h)
theorem w_kind_store (hl : (allOf a b c).length < 1000000) {R : List WireV → Prop} (h : R ((stAll c).map (·.2))) : W_Net_of_kind (allOf a b c) (Str.ofString "store") R := w_of_kind hl (by
  rw [kinds_of, if_neg kind_ne2, if_neg kind_ne4, if_pos rfl, List.nil_append, List.nil_append]; exact h)
theorem NetOk.sml (N : NetOk a b c d) : (allOf a b c).length < 1000000 := by
  have := N.na; have := N.nb; have := N.nc
  rw [allOf_len]; omega
theorem flat_len {b : RowsS} (h : ∀ p ∈ b, p.2.length ≤ 24) : (b.flatMap (·.2)).length ≤ 24 * b.length := by
  induction b with
  | nil => exact Nat.zero_le _
  | cons p b ih =>
    have := ih fun q hq => h q (List.mem_cons_of_mem _ hq)
    have := h p (List.mem_cons_self ..)
    rw [List.flatMap_cons, List.length_append, List.length_cons]; omega
theorem w_readings (N : NetOk a b c d) {R : List Str → Prop} (h : R (readsOf b c d)) : W_Net_readings (allOf a b c) d R := by
  have hb := N.nb; have hc := N.nc; have hd := N.nd
  refine w_kind_sum N.sml ?_
  have e : (sumAll b).map (·.2) = b.map (fun p => (Sum.inr (Sum.inl p) : WireV)) := by unfold sumAll; rw [List.map_map]; rfl
  rw [e]
  refine forW_ind (fun pre s => ∃ pb : RowsS, pre = pb.map (fun p => (Sum.inr (Sum.inl p) : WireV)) ∧ s = pb.flatMap (·.2)) ⟨[], rfl, rfl⟩ (fun pre x post s nx bk es ⟨pb, e1, e2⟩ hn _ => ?_) fun s ⟨pb, e1, e2⟩ => ?_
  · have hx : x ∈ b.map (fun p => (Sum.inr (Sum.inl p) : WireV)) := by rw [es]; simp
    obtain ⟨p, hp, ex⟩ := List.mem_map.mp hx
    subst ex e1 e2
    have mm : b.map (fun p => (Sum.inr (Sum.inl p) : WireV)) = (pb ++ [p]).map (fun p => (Sum.inr (Sum.inl p) : WireV)) ++ post := by rw [es, List.map_append]; simp
    have inj : ∀ {l l' : RowsS} {post : List WireV}, l.map (fun p => (Sum.inr (Sum.inl p) : WireV)) = l'.map (fun p => (Sum.inr (Sum.inl p) : WireV)) ++ post → ∀ q ∈ l', q ∈ l := fun {l l' post} h q hq => by
      have : (Sum.inr (Sum.inl q) : WireV) ∈ l.map (fun p => (Sum.inr (Sum.inl p) : WireV)) := by rw [h]; exact List.mem_append_left _ (List.mem_map.mpr ⟨q, hq, rfl⟩)
      obtain ⟨r, hr, e⟩ := List.mem_map.mp this
      have : r = q := Sum.inl.inj (Sum.inr.inj e)
      rw [← this]; exact hr
    have ln : (pb ++ [p]).length ≤ b.length := by
      have := congrArg List.length mm
      rw [List.length_append, List.length_map, List.length_map] at this; omega
    have fl := flat_len (b := pb ++ [p]) fun q hq => N.nw q (inj mm q hq)
    rw [List.flatMap_append, List.length_append] at fl
    refine w_needs ⟨?_, hn _ ⟨pb ++ [p], by rw [List.map_append]; rfl, by rw [List.flatMap_append]; simp [needsV]⟩⟩
    show (pb.flatMap (·.2)).length + p.2.length < 1000000
    have : ([p].flatMap (·.2)).length = p.2.length := by simp
    omega
  · have : b = pb := by
      have inj : Function.Injective (fun p : Str × List Str => (Sum.inr (Sum.inl p) : WireV)) := fun p q e => Sum.inl.inj (Sum.inr.inj e)
      exact (List.map_inj_right fun x y e => inj e).mp e1
    subst this e2
    have fl := flat_len N.nw
    refine w_kind_store N.sml ⟨by rw [List.length_map, stAll_len]; omega, compW_map (fun w => (wWire w).getD (Str.ofString "")) (fun w hw kk hk => ?_) ?_⟩
    · obtain ⟨p, hp, ew⟩ := List.mem_map.mp hw
      obtain ⟨q, _, ep⟩ := List.mem_map.mp (show p ∈ List.map _ _ from hp)
      subst ep ew
      exact ⟨_, rfl, hk⟩
    · have e3 : ((stAll c).map (·.2)).map (fun w => (wWire w).getD (Str.ofString "")) = c.map (·.2) := by
        unfold stAll
        rw [List.map_map, List.map_map]
        exact enumT_map c (·.2)
      rw [e3]
      refine ⟨by rw [List.length_map]; omega, by rw [List.length_append, List.length_map]; omega, h⟩
theorem has_key {n : Str} : hasT (allOf a b c) n = true ↔ n ∈ keysOf a b c := by rw [hasT_iff, all_keys]
theorem key_val {n : Str} (h : n ∈ keysOf a b c) : ∃ w, valT (allOf a b c) n = some w := by
  have := has_key.mpr h
  unfold hasT at this
  cases q : valT (allOf a b c) n with
  | none => rw [q] at this; cases this
  | some x => exact ⟨x, rfl⟩
theorem sum_val (un : (keysOf a b c).Nodup) {n : Str} {ws : List Str} (h : (n, ws) ∈ b) : valT (allOf a b c) n = some (.inr (.inl (n, ws))) := by
  refine valT_mem (by rw [all_keys]; exact un) ?_
  unfold allOf
  exact List.mem_append_left _ (List.mem_append_right _ (List.mem_map.mpr ⟨_, h, rfl⟩))
theorem mem_sumN {n : Str} (h : n ∈ sumN b) : ∃ ws, (n, ws) ∈ b := by
  obtain ⟨p, hp, e⟩ := List.mem_map.mp (show n ∈ List.map _ _ from h)
  exact ⟨p.2, by rw [← e]; exact hp⟩
theorem in_sumN {n : Str} {ws : List Str} (h : (n, ws) ∈ b) : n ∈ sumN b := List.mem_map.mpr ⟨_, h, rfl⟩
theorem sum_key {n : Str} (h : n ∈ sumN b) : n ∈ keysOf a b c := List.mem_append_left _ (List.mem_append_right _ h)
theorem kind_sum (un : (keysOf a b c).Nodup) {n : Str} {w : WireV} (h : valT (allOf a b c) n = some w) : kindV w = Str.ofString "sum" ↔ n ∈ sumN b := by
  constructor
  · intro k
    have m := valT_some_mem h
    unfold allOf at m
    rcases List.mem_append.mp m with m | m
    · rcases List.mem_append.mp m with m | m
      · obtain ⟨q, _, e⟩ := List.mem_map.mp (show _ ∈ List.map _ _ from m); cases e; exact absurd k kind_ne1
      · obtain ⟨q, hq, e⟩ := List.mem_map.mp (show _ ∈ List.map _ _ from m); cases e; exact List.mem_map.mpr ⟨_, hq, rfl⟩
    · obtain ⟨q, _, e⟩ := List.mem_map.mp (show _ ∈ List.map _ _ from m); cases e; exact absurd k kind_ne6
  · intro k
    obtain ⟨ws, hw⟩ := mem_sumN k
    have := sum_val un hw
    rw [h] at this; cases this; rfl
theorem rd_sum (N : NetOk a b c d) {n : Str} {ws : List Str} (h : (n, ws) ∈ b) {x : Str} (hx : x ∈ ws) : x ∈ keysOf a b c := N.rd x (List.mem_append_left _ (List.mem_append_left _ (List.mem_flatMap.mpr ⟨_, h, hx⟩)))
theorem rd_st (N : NetOk a b c d) {p : Str × Str} (h : p ∈ c) : p.2 ∈ keysOf a b c := N.rd _ (List.mem_append_left _ (List.mem_append_right _ (List.mem_map.mpr ⟨_, h, rfl⟩)))
theorem rd_out (N : NetOk a b c d) {x : Str} (h : x ∈ d) : x ∈ keysOf a b c := N.rd _ (List.mem_append_right _ h)
theorem w_wire_of (nm : ∀ x ∈ keysOf a b c, isN x) {n : Str} (h : n ∈ keysOf a b c) {E : An → Prop} {R : WireV → Prop} (k : ∀ w, valT (allOf a b c) n = some w → R w) : W_Net_wire_of (allOf a b c) (An.s n) E R := by
  have hn := nm n h
  have hl : n.length < 1000000 := by have := hn.2.1; omega
  obtain ⟨w, hw⟩ := key_val h
  refine jnI (w_is_name hl (fun _ => ?_) fun q => absurd hn q)
  rw [if_pos rfl]
  refine ⟨n, rfl, ?_⟩
  rw [has_key.mpr h]
  exact ⟨n, rfl, w, hw, k w hw⟩
theorem w_is_name_no {x : An} (h : isA "str" x = false) {R : Bool → Prop} (h0 : R false) : W_is_name x R := by
  refine jnI ?_
  rw [if_pos (by rw [h]; decide)]
  exact bT h0
theorem isA_str {x : An} (h : isA "str" x = true) : (∃ t, x = An.s t) ∨ ∃ T, x = An.o T := by
  cases x with
  | s t => exact .inl ⟨t, rfl⟩
  | o T => exact .inr ⟨T, rfl⟩
  | i n => simp [isA, An.ty] at h
  | b n => simp [isA, An.ty] at h
  | n => simp [isA, An.ty] at h
  | l n => simp [isA, An.ty] at h
  | t n => simp [isA, An.ty] at h
/-- a thing that names no wire -/
theorem w_wire_no {x : An} (ho : ∀ T, x ≠ An.o T) (hx : ∀ t, x = An.s t → t.length < 1000000 ∧ t ∉ keysOf a b c) {E : An → Prop} {R : WireV → Prop} (h : E x) : W_Net_wire_of (allOf a b c) x E R := by
  cases hA : isA "str" x with
  | false =>
    refine jnI (w_is_name_no hA ?_)
    rw [if_neg (by decide)]
    exact bT h
  | true =>
    rcases isA_str hA with ⟨t, e⟩ | ⟨T, e⟩
    · subst e
      obtain ⟨hl, hk⟩ := hx t rfl
      have nh : hasT (allOf a b c) t = false := by
        cases q : hasT (allOf a b c) t with
        | false => rfl
        | true => exact absurd (has_key.mp q) hk
      refine jnI (w_is_name hl (fun _ => ?_) (fun _ => ?_))
      · rw [if_pos rfl]
        refine ⟨t, rfl, ?_⟩
        rw [nh]
        exact bT h
      · rw [if_neg (by decide)]
        exact bT h
    · exact absurd e (ho T)
/-- sums laid in an order -/
structure Laid (b : RowsS) (line : List Str) (laid : List (Str × Bool)) : Prop where
  nd : line.Nodup
  sub : ∀ x ∈ line, x ∈ sumN b
  has : ∀ x, hasT laid x = true ↔ x ∈ line
  len : laid.length ≤ line.length
  cl : ∀ pre n post ws, line = pre ++ n :: post → (n, ws) ∈ b → ∀ w ∈ ws, w ∈ sumN b → w ∈ pre
theorem Laid.snoc {line : List Str} {laid : List (Str × Bool)} (L : Laid b line laid) {n : Str} (hn : n ∉ line) (hs : n ∈ sumN b) (hw : ∀ ws, (n, ws) ∈ b → ∀ w ∈ ws, w ∈ sumN b → w ∈ line) : Laid b (line ++ [n]) (putT laid n true) := by
  refine ⟨?_, fun x hx => ?_, fun x => ?_, ?_, fun pre m post ws e hm w hx hy => ?_⟩
  · rw [List.nodup_append]
    refine ⟨L.nd, by simp, fun x hx y hy e => ?_⟩
    rw [List.mem_singleton.mp hy] at e; exact hn (e ▸ hx)
  · rcases List.mem_append.mp hx with g | g
    · exact L.sub x g
    · rw [List.mem_singleton.mp g]; exact hs
  · rw [hasT_putT, List.mem_append, List.mem_singleton, Bool.or_eq_true, decide_eq_true_iff, L.has]
    exact ⟨fun h => h.elim (fun q => .inr q.symm) .inl, fun h => h.elim .inr fun q => .inl q.symm⟩
  · rw [List.length_append]; exact Nat.le_trans putT_len (Nat.succ_le_succ L.len)
  · rcases List.eq_nil_or_concat post with z | ⟨post', y, z⟩
    · subst z
      obtain ⟨e1, e2⟩ := List.append_inj' e rfl
      cases e2
      subst e1
      exact hw ws hm w hx hy
    · rw [List.concat_eq_append] at z
      subst z
      have e' : line ++ [n] = (pre ++ m :: post') ++ [y] := by rw [e]; simp
      obtain ⟨e1, _⟩ := List.append_inj' e' rfl
      exact L.cl pre m post' ws e1 hm w hx hy
theorem okV_of (nm : ∀ x ∈ keysOf a b c, isN x) {l : List Str} (h : ∀ x ∈ l, x ∈ keysOf a b c) : okV (pL pS) l := fun x hx => isN_okS (nm x (h x hx))
theorem okV_nil : okV (pL pS) ([] : List Str) := fun x hx => by cases hx
theorem w_lay_out (N : NetOk a b c d) {line : List Str} {laid : List (Str × Bool)} (L : Laid b line laid) {first : Str} (hf : first ∈ sumN b) {R : List Str × List (Str × Bool) → Prop} (h : ∀ line' laid', Laid b line' laid' → (∀ x ∈ line, x ∈ line') → first ∈ line' → R (line', laid')) : W_Net_lay_out (allOf a b c) line laid first R := by
  obtain ⟨rk, hrk⟩ := N.ac
  have sl : (sumN b).length ≤ 40 := by unfold sumN; rw [List.length_map]; exact N.nb
  refine whileW_ind (fun s : List Str × List (Str × Bool) × List Str => Laid b s.2.2 s.2.1 ∧ (first ∈ s.1 ∨ first ∈ s.2.2) ∧ ((s.1 = [first] ∧ first ∈ s.2.2) ∨ ∀ x ∈ s.1, x ∉ s.2.2) ∧ (∀ x ∈ s.1, x ∈ sumN b) ∧ s.1.Pairwise (fun x y => rk y < rk x) ∧ ∀ x ∈ line, x ∈ s.2.2)
    (fun s => 2 * ((sumN b).filter fun x => !decide (x ∈ s.2.2) && !decide (x ∈ s.1)).length + s.1.length) ⟨L, .inl (List.mem_cons_self ..), ?_, fun x hx => by rw [List.mem_singleton.mp hx]; exact hf, List.pairwise_singleton _ _, fun x hx => hx⟩ ?_
  · by_cases q : first ∈ line
    · exact .inl ⟨rfl, q⟩
    · exact .inr fun x hx => by rw [List.mem_singleton.mp hx]; exact q
  rintro ⟨path, lad, lin⟩ nx ⟨(I1 : Laid b lin lad), (I2 : first ∈ path ∨ first ∈ lin), (I3 : (path = [first] ∧ first ∈ lin) ∨ ∀ x ∈ path, x ∉ lin), (I4 : ∀ x ∈ path, x ∈ sumN b), (I5 : path.Pairwise (fun x y => rk y < rk x)), (I6 : ∀ x ∈ line, x ∈ lin)⟩ hx
  refine ⟨⟨okV_of N.nm fun x hx => sum_key (I4 x hx), okV_nil⟩, ?_⟩
  by_cases hp : path = []
  · rw [decide_eq_false (fun z => z hp)]
    refine bF ?_
    refine h lin lad I1 I6 (I2.resolve_left fun z => ?_)
    rw [hp] at z; cases z
  · rw [decide_eq_true (show path ≠ [] from hp)]
    refine bT ?_
    obtain ⟨init, here, epath⟩ : ∃ i y, path = i ++ [y] := by
      rcases List.eq_nil_or_concat path with z | ⟨i, y, z⟩
      · exact absurd z hp
      · exact ⟨i, y, by rw [z, List.concat_eq_append]⟩
    subst epath
    have hs : here ∈ sumN b := I4 here (by simp)
    obtain ⟨ws, hws⟩ := mem_sumN hs
    have hlad : lad.length < 1000000 := by
      have := nodup_sub_len I1.nd I1.sub; have := I1.len; omega
    have hlin : lin.length < 1000000 := by
      have := nodup_sub_len I1.nd I1.sub; omega
    have ndp : (init ++ [here]).Nodup := I5.imp fun {x y} h e => by rw [e] at h; omega
    have hpath : (init ++ [here]).length < 1000000 := by
      have := nodup_sub_len ndp I4; omega
    have dl : (init ++ [here]).dropLast = init := List.dropLast_concat
    refine ⟨here, List.getLast?_concat, _, sum_val N.un hws, ?_⟩
    refine w_needs ⟨?_, ?_⟩
    · have := N.nw _ hws
      show ws.length < 1000000
      have : (here, ws).2.length ≤ 24 := this
      exact Nat.lt_of_le_of_lt this (by decide)
    have hhere : ∀ y : Str, y ∈ (needsV (.inr (.inl (here, ws)))).filter (fun n => decide (n ∈ sumN b) && !hasT lad n) ↔ y ∈ ws ∧ y ∈ sumN b ∧ y ∉ lin := fun y => by
      rw [List.mem_filter]
      show y ∈ ws ∧ _ ↔ _
      rw [Bool.and_eq_true, decide_eq_true_iff, Bool.not_eq_true', ← Bool.not_eq_true, I1.has]
    refine compW_filter (fun n => decide (n ∈ sumN b) && !hasT lad n) (fun n hn kk h1 h0 => ?_) ?_
    · have hk : n ∈ keysOf a b c := rd_sum N hws hn
      obtain ⟨w, hw⟩ := key_val hk
      refine jnI ⟨w, hw, w_kind ?_⟩
      by_cases q : n ∈ sumN b
      · rw [if_pos ((kind_sum N.un hw).mpr q)]
        by_cases z : hasT lad n = true
        · rw [decide_eq_false (fun y => y z)]; refine bF (h0 ?_); rw [z]; simp
        · rw [decide_eq_true z]; refine bT (h1 ?_); rw [decide_eq_true q]; simpa using z
      · rw [if_neg (fun z => q ((kind_sum N.un hw).mp z))]
        refine bF (h0 ?_); rw [decide_eq_false q]; rfl
    generalize hleft : (needsV (.inr (.inl (here, ws)))).filter (fun n => decide (n ∈ sumN b) && !hasT lad n) = left at hhere
    by_cases hh : hasT lad here = true
    · -- it is laid already
      have hin : here ∈ lin := (I1.has here).mp hh
      obtain ⟨epth, ef⟩ : init ++ [here] = [first] ∧ first ∈ lin := I3.resolve_right fun z => z here (by simp) hin
      have ei : init = [] := by
        have := congrArg List.length epth
        rw [List.length_append] at this
        exact List.eq_nil_of_length_eq_zero (by simp at this; exact List.length_eq_zero_iff.mpr this)
      refine jnI ?_
      rw [if_pos hh]
      refine bT ⟨hp, ?_⟩
      rw [if_neg (fun z => z hh), dl, ei]
      refine hx _ ⟨I1, .inr ef, .inr (fun x hx => by cases hx), (fun x hx => by cases hx), List.Pairwise.nil, I6⟩ ?_
      have ef2 : first = here := by rw [ei] at epth; cases epth; rfl
      have fe : ((sumN b).filter fun x => !decide (x ∈ lin) && !decide (x ∈ ([] : List Str))) = (sumN b).filter fun x => !decide (x ∈ lin) && !decide (x ∈ init ++ [here]) := by
        refine List.filter_congr fun x _ => ?_
        by_cases q : x ∈ lin
        · rw [decide_eq_true q]; rfl
        · rw [decide_eq_false q]
          have : x ∉ init ++ [here] := fun z => by rw [epth] at z; rw [List.mem_singleton.mp z] at q; exact q ef
          rw [decide_eq_false this, decide_eq_false (by simp)]
      show 2 * ((sumN b).filter fun x => !decide (x ∈ lin) && !decide (x ∈ ([] : List Str))).length + 0 < 2 * ((sumN b).filter fun x => !decide (x ∈ lin) && !decide (x ∈ init ++ [here])).length + (init ++ [here]).length
      rw [fe, List.length_append, List.length_singleton]; omega
    · have nin : here ∉ lin := fun z => hh ((I1.has here).mpr z)
      have I3' : ∀ x ∈ init ++ [here], x ∉ lin := I3.resolve_left fun z => by
        have : here ∈ [first] := by rw [← z.1]; simp
        rw [List.mem_singleton.mp this] at nin; exact nin z.2
      refine jnI ?_
      rw [if_neg hh]
      refine ⟨⟨fun y hy => isN_okS (N.nm _ (sum_key ((hhere y).mp hy).2.1)), okV_nil⟩, ?_⟩
      by_cases hl : left = []
      · -- all that it needs is laid
        rw [decide_eq_true hl]
        refine bT ⟨hp, ?_⟩
        rw [if_pos hh, dl]
        refine ⟨hlad, hlin, ?_⟩
        have L2 : Laid b (lin ++ [here]) (putT lad here true) := I1.snoc nin hs fun ws' hw' w hw hsw => by
          have e := sum_val (a := a) (c := c) N.un hw'
          rw [sum_val N.un hws] at e
          cases e
          refine Classical.byContradiction fun q => ?_
          have := (hhere w).mpr ⟨hw, hsw, q⟩
          rw [hl] at this; cases this
        refine hx _ ⟨L2, ?_, .inr fun x hx z => ?_, fun x hx => I4 x (List.mem_append_left _ hx), (List.pairwise_append.mp I5).1, fun x hx => List.mem_append_left _ (I6 x hx)⟩ ?_
        · rcases I2 with z | z
          · rcases List.mem_append.mp z with y | y
            · exact .inl y
            · exact .inr (List.mem_append_right _ y)
          · exact .inr (List.mem_append_left _ z)
        · rcases List.mem_append.mp z with y | y
          · exact I3' x (List.mem_append_left _ hx) y
          · rw [List.mem_singleton.mp y] at hx
            rw [List.nodup_append] at ndp
            exact ndp.2.2 here hx here (by simp) rfl
        · have fe : ((sumN b).filter fun x => !decide (x ∈ lin ++ [here]) && !decide (x ∈ init)) = (sumN b).filter fun x => !decide (x ∈ lin) && !decide (x ∈ init ++ [here]) := by
            refine List.filter_congr fun x _ => ?_
            simp only [List.mem_append, List.mem_singleton]
            by_cases q1 : x ∈ lin <;> by_cases q2 : x ∈ init <;> by_cases q3 : x = here <;> simp [q1, q2, q3]
          show 2 * ((sumN b).filter fun x => !decide (x ∈ lin ++ [here]) && !decide (x ∈ init)).length + init.length < 2 * ((sumN b).filter fun x => !decide (x ∈ lin) && !decide (x ∈ init ++ [here])).length + (init ++ [here]).length
          rw [fe, List.length_append, List.length_singleton]; omega
      · rw [decide_eq_false hl]
        refine bF ?_
        obtain ⟨y, ys, hy⟩ : ∃ y ys, left = y :: ys := by
          cases left with
          | nil => exact absurd rfl hl
          | cons y ys => exact ⟨y, ys, rfl⟩
        obtain ⟨hyw, hys, hyn⟩ := (hhere y).mp (by rw [hy]; exact List.mem_cons_self ..)
        have ry : ∀ x ∈ init ++ [here], rk y < rk x := fun x hx => by
          have r1 : rk y < rk here := hrk _ hws y hyw hys
          rcases List.mem_append.mp hx with z | z
          · have := (List.pairwise_append.mp I5).2.2 x z here (by simp); omega
          · rw [List.mem_singleton.mp z]; exact r1
        have np : y ∉ init ++ [here] := fun z => by have := ry y z; omega
        rw [hy]
        refine ⟨y, rfl, ?_⟩
        rw [if_neg np]
        refine ⟨y, rfl, hpath, hx _ ⟨I1, ?_, .inr fun x hx z => ?_, fun x hx => ?_, ?_, I6⟩ ?_⟩
        · exact I2.imp_left fun z => List.mem_append_left _ z
        · rcases List.mem_append.mp hx with q | q
          · exact I3' x q z
          · rw [List.mem_singleton.mp q] at z; exact hyn z
        · rcases List.mem_append.mp hx with q | q
          · exact I4 x q
          · rw [List.mem_singleton.mp q]; exact hys
        · exact List.pairwise_append.mpr ⟨I5, List.pairwise_singleton _ _, fun x hx z hz => by rw [List.mem_singleton.mp hz]; exact ry x hx⟩
        · have fl : ((sumN b).filter fun x => !decide (x ∈ lin) && !decide (x ∈ (init ++ [here]) ++ [y])).length < ((sumN b).filter fun x => !decide (x ∈ lin) && !decide (x ∈ init ++ [here])).length := by
            refine filter_lt (fun x _ hq => ?_) ⟨y, hys, ?_, ?_⟩
            · rw [Bool.and_eq_true] at hq ⊢
              refine ⟨hq.1, ?_⟩
              have := hq.2
              rw [Bool.not_eq_true', decide_eq_false_iff_not] at this ⊢
              exact fun z => this (List.mem_append_left _ z)
            · rw [decide_eq_false hyn, decide_eq_false np]; rfl
            · rw [decide_eq_true (show y ∈ (init ++ [here]) ++ [y] by simp)]; simp
          show 2 * ((sumN b).filter fun x => !decide (x ∈ lin) && !decide (x ∈ (init ++ [here]) ++ [y])).length + ((init ++ [here]) ++ [y]).length < 2 * ((sumN b).filter fun x => !decide (x ∈ lin) && !decide (x ∈ init ++ [here])).length + (init ++ [here]).length
          rw [List.length_append (bs := [y]), List.length_singleton]; omega
theorem w_put_in {all : List (Str × WireV)} {n : Str} {one : WireV} (hn : isN n) (hh : n ∉ all.map (·.1)) (hl : all.length < 1000000) {R : List (Str × WireV) → Prop} (h : R (all ++ [(n, one)])) : W_Net_put_in all n one R := by
  have hln : n.length < 1000000 := by have := hn.2.1; omega
  refine w_is_name hln (fun _ => bT ?_) fun q => absurd hn q
  have hf : hasT all n = false := by
    cases q : hasT all n with
    | false => rfl
    | true => exact absurd (hasT_iff.mp q) hh
  rw [hf, if_neg (by decide)]
  refine ⟨hl, ?_⟩
  unfold putT
  rw [hf, if_neg (by decide)]; exact h
/-- an order in which each sum stands behind those that it needs -/
structure Order (b : RowsS) (o : List Str) : Prop where
  nd : o.Nodup
  mem : ∀ x, x ∈ o ↔ x ∈ sumN b
  cl : ∀ pre n post ws, o = pre ++ n :: post → (n, ws) ∈ b → ∀ w ∈ ws, w ∈ sumN b → w ∈ pre
theorem w_need_sizes (N : NetOk a b c d) {R : Unit → Prop} (h : R ()) : W_need_sizes a b c d R := by
  have h1 := N.na; have h2 := N.nb; have h3 := N.nc; have h4 := N.nd
  unfold W_need_sizes
  rw [if_neg (by omega)]
  exact forW_unit (fun p hp nx bk hn => by rw [if_neg (by have := N.nw p hp; omega)]; exact hn) h
theorem nodup_mid {pre post : List Str} {x : Str} (h : (pre ++ x :: post).Nodup) : x ∉ pre := fun z => by
  rw [List.nodup_append] at h
  exact h.2.2 x z x (List.mem_cons_self ..) rfl
theorem w_net_init (N : NetOk a b c d) {R : NetV → Prop} (h : ∀ o l, Order b o → R (allOf a b c, d, o, l)) : W_Net___init__ a b c d R := by
  have h1 := N.na; have h2 := N.nb; have h3 := N.nc; have h4 := N.nd
  have un := N.un
  refine w_need_sizes N ?_
  refine forW_ind (fun pre s => s = inAll pre) rfl (fun pre n post s nx bk e hs hn _ => ?_) fun s hs => ?_
  · subst hs
    have ln : pre.length < 6 := by have := congrArg List.length e; rw [List.length_append, List.length_cons] at this; omega
    refine w_put_in (N.nm n (List.mem_append_left _ (List.mem_append_left _ (by rw [e]; simp)))) ?_ (by rw [inAll_len]; omega) (hn _ (by rw [inAll_snoc, inAll_len]))
    rw [in_keys]
    refine nodup_mid (post := post ++ sumN b ++ c.map (·.1)) ?_
    unfold keysOf at un
    rw [e] at un
    simpa [List.append_assoc] using un
  subst hs
  refine forW_ind (fun pre s => s = inAll a ++ sumAll pre) (by simp [sumAll]) (fun pre p post s nx bk e hs hn _ => ?_) fun s hs => ?_
  · subst hs
    have ln : pre.length < 40 := by have := congrArg List.length e; rw [List.length_append, List.length_cons] at this; omega
    have k0 : p.1 ∈ sumN b := List.mem_map.mpr ⟨p, by rw [e]; simp, rfl⟩
    refine w_put_in (N.nm p.1 (sum_key k0)) ?_ (by rw [List.length_append, inAll_len]; unfold sumAll; rw [List.length_map]; omega) (hn _ (by unfold sumAll; rw [List.map_append, List.append_assoc]; rfl))
    rw [List.map_append, in_keys, sum_keys]
    refine nodup_mid (post := sumN post ++ c.map (·.1)) ?_
    unfold keysOf at un
    rw [e] at un
    simpa [sumN, List.append_assoc] using un
  subst hs
  refine forW_enum (fun pre s => s = inAll a ++ sumAll b ++ stAll pre) (by show _ = _ ++ []; rw [List.append_nil]) (fun pre p post s nx bk e hs hn => ?_) fun s hs => ?_
  · subst hs
    have ln : pre.length < 16 := by have := congrArg List.length e; rw [List.length_append, List.length_cons] at this; omega
    refine w_put_in (N.nm p.1 (List.mem_append_right _ (List.mem_map.mpr ⟨p, by rw [e]; simp, rfl⟩))) ?_ (by rw [List.length_append, List.length_append, inAll_len, stAll_len]; unfold sumAll; rw [List.length_map]; omega) (hn _ (by rw [stAll_snoc, ← List.append_assoc]))
    rw [List.map_append, List.map_append, in_keys, sum_keys, st_keys]
    refine nodup_mid (post := post.map (·.1)) ?_
    unfold keysOf at un
    rw [e] at un
    simpa [List.append_assoc] using un
  subst hs
  refine w_readings (a := a) (b := b) (c := c) N (forW_unit (fun x hx nx bk hn => w_wire_of N.nm (N.rd x hx) fun w _ => hn) ?_)
  refine w_kind_sum (a := a) (b := b) (c := c) N.sml ?_
  have e0 : (sumAll b).map (·.2) = b.map (fun p => (Sum.inr (Sum.inl p) : WireV)) := by unfold sumAll; rw [List.map_map]; rfl
  rw [e0]
  refine forW_ind (fun (pre : List WireV) (s : List Str × List (Str × Bool)) => Laid b s.1 s.2 ∧ ∀ p : Str × List Str, (Sum.inr (Sum.inl p) : WireV) ∈ pre → p.1 ∈ s.1) ⟨⟨List.nodup_nil, fun x hx => (by cases hx), fun x => ⟨fun z => (by cases z), fun z => (by cases z)⟩, Nat.le_refl _, fun pre n post ws e => (by simp at e)⟩, fun p hp => by cases hp⟩ (fun pre w post s nx bk e hs hn _ => ?_) fun s hs => ?_
  · obtain ⟨line, laid⟩ := s
    obtain ⟨(L : Laid b line laid), (hp : ∀ p : Str × List Str, (Sum.inr (Sum.inl p) : WireV) ∈ pre → p.1 ∈ line)⟩ := hs
    have hw : w ∈ b.map (fun p => (Sum.inr (Sum.inl p) : WireV)) := by rw [e]; simp
    obtain ⟨p, hpb, ew⟩ := List.mem_map.mp hw
    subst ew
    refine w_lay_out N L (List.mem_map.mpr ⟨p, hpb, rfl⟩) fun line' laid' L' hsub hf => hn _ ⟨L', fun q hq => ?_⟩
    rcases List.mem_append.mp hq with z | z
    · exact hsub _ (hp q z)
    · have : q = p := Sum.inl.inj (Sum.inr.inj (List.mem_singleton.mp z))
      rw [this]; exact hf
  · obtain ⟨line, laid⟩ := s
    obtain ⟨(L : Laid b line laid), (hp : ∀ p : Str × List Str, (Sum.inr (Sum.inl p) : WireV) ∈ b.map (fun p => (Sum.inr (Sum.inl p) : WireV)) → p.1 ∈ line)⟩ := hs
    refine h line laid ⟨L.nd, fun x => ⟨L.sub x, fun hx => ?_⟩, L.cl⟩
    obtain ⟨p, hpb, ep⟩ := List.mem_map.mp (show x ∈ List.map _ _ from hx)
    rw [← ep]; exact hp p (List.mem_map.mpr ⟨p, hpb, rfl⟩)
end
end My
namespace My
open Wk PySem
theorem w_wires {c : Int} {st : Nat} {names : List Str} {dg : Bool} (hl : names.length < 1000) (hk : ∀ x ∈ names, okS x) {R : List Str → Prop} (h : ∀ ws, ws.length ≤ 4 → (∀ w ∈ ws, w ∈ names) → R ws) : W_wires c st names dg R := by
  unfold W_wires
  by_cases q : dg = true
  · rw [if_pos q]
    refine ⟨by omega, Nat.pow_pos (by omega), ?_⟩
    rintro left _
    refine ⟨by decide, forW_ind (fun pre (s : List Str × Nat) => s.1.length ≤ pre.length ∧ ∀ x ∈ s.1, x ∈ names) ⟨Nat.le_refl _, fun x hx => by cases hx⟩ (fun pre k post s nx bk e hs hn _ => ?_) fun s hs => ?_⟩
    · obtain ⟨ws, lf⟩ := s
      obtain ⟨(s1 : ws.length ≤ _), (s2 : ∀ x ∈ ws, _)⟩ := hs
      have pl : pre.length < 4 := by
        have := congrArg List.length e
        rw [List.length_range, List.length_append, List.length_cons] at this; omega
      have fin : ∀ ws', ws'.length ≤ (pre ++ [k]).length → (∀ x ∈ ws', x ∈ names) → (NDiv (names.length + 1)) ∧ ∀ left3 : Nat, left3 = lf / (names.length + 1) → nx (ws', left3) := fun ws' h1 h2 => by
        refine ⟨⟨by omega, ?_⟩, ?_⟩
        · have : (names.length + 1).log2 < 10 := (Nat.log2_lt (by omega)).mpr (by omega)
          omega
        · rintro _ rfl; exact hn _ ⟨h1, h2⟩
      refine jnI ⟨by omega, ?_⟩
      by_cases q2 : 0 < lf % (names.length + 1)
      · rw [if_pos q2]
        have hi : lf % (names.length + 1) - 1 < names.length := by have := Nat.mod_lt lf (show 0 < names.length + 1 by omega); omega
        refine ⟨by omega, by omega, _, List.getElem?_eq_getElem hi, by omega, fin _ ?_ fun x hx => ?_⟩
        · rw [List.length_append, List.length_append]; exact Nat.succ_le_succ s1
        · rcases List.mem_append.mp hx with g | g
          · exact s2 x g
          · rw [List.mem_singleton.mp g]; exact List.getElem_mem hi
      · rw [if_neg q2]
        exact fin _ (by rw [List.length_append]; exact Nat.le_succ_of_le s1) s2
    · obtain ⟨ws, lf⟩ := s
      obtain ⟨(s1 : ws.length ≤ _), (s2 : ∀ x ∈ ws, _)⟩ := hs
      rw [List.length_range] at s1
      exact h ws s1 s2
  · rw [if_neg q]
    refine w_mix ?_
    rintro many rfl
    have m5 : mixV c st % 5 < 5 := Nat.mod_lt _ (by decide)
    refine ⟨by omega, compW_rel (fun (k : Nat) (o : Option Str) => ∀ x, o = some x → x ∈ names) (fun k hk2 kk hh => ?_) fun ys hy => ?_⟩
    · refine ⟨⟨hk, fun x hx => by cases hx⟩, ?_⟩
      by_cases z : names ≠ []
      · rw [if_pos z]
        have lp : 0 < names.length := List.length_pos_iff.mpr z
        have hi : mixV c (st + 1 + k) % names.length < names.length := Nat.mod_lt _ lp
        exact w_mix ⟨lp, _, List.getElem?_eq_getElem hi, hh _ fun x e => by cases e; exact List.getElem_mem hi⟩
      · rw [if_neg z]; exact hh _ fun x e => by cases e
    · have key : ∀ (xs : List Nat) (ys : List Str), CR (fun (k : Nat) (o : Option Str) => ∀ x, o = some x → x ∈ names) xs ys → ys.length ≤ xs.length ∧ ∀ y ∈ ys, y ∈ names := by
        intro xs
        induction xs with
        | nil => intro ys hc; cases (show ys = [] from hc); exact ⟨Nat.le_refl _, fun y hy => by cases hy⟩
        | cons x xs ih =>
          rintro ys ⟨o, ys', ho, e, hc⟩
          obtain ⟨i1, i2⟩ := ih ys' hc
          subst e
          cases o with
          | none => exact ⟨Nat.le_succ_of_le i1, i2⟩
          | some y =>
            refine ⟨Nat.succ_le_succ i1, fun z hz => ?_⟩
            rcases List.mem_cons.mp (show z ∈ y :: ys' from hz) with g | g
            · rw [g]; exact ho y rfl
            · exact i2 z g
      obtain ⟨k1, k2⟩ := key _ _ hy
      rw [List.length_range] at k1
      exact h ys (by omega) k2
theorem okV_okS {l : List Str} (h : ∀ x ∈ l, okS x) : okV (pL pS) l := fun x hx => h x hx
def insV (c : Int) (n : Nat) : List Str := (List.range n).map (nameV c)
def stsV (c : Int) (n : Nat) : List Str := (List.range n).map fun k => nameV c (6 + k)
def smN (c : Int) (n : Nat) : List Str := (List.range n).map fun k => nameV c (22 + k)
def smV (c : Int) (n : Nat) (ws : Nat → List Str) : RowsS := (List.range n).map fun k => (nameV c (22 + k), ws k)
/-- what is drawn: rows of sums, each of wires that are known ahead -/
structure Drawn (c : Int) (x y z : Nat) (ws : Nat → List Str) (at_ : Nat) (ends : List Str) (outs : List Str) : Prop where
  hx : x ≤ 3
  hy : y ≤ 16
  hz : z ≤ 16
  wl : ∀ k, k < z → (ws k).length ≤ 4
  wm : ∀ k, k < z → ∀ w ∈ ws k, w ∈ insV c x ++ stsV c y ++ smN c k
  el : ends.length = y
  em : ∀ e ∈ ends, e ∈ insV c x ++ stsV c y ++ smN c z
  ol : outs.length ≤ 3
  om : ∀ e ∈ outs, e ∈ insV c x ++ stsV c y ++ smN c z
def turnL {α : Type} (l : List α) (k : Nat) : List α := l.drop k ++ (l.take k).reverse
theorem mem_turnL {α : Type} {l : List α} {k : Nat} {x : α} : x ∈ turnL l k ↔ x ∈ l := by
  unfold turnL
  rw [List.mem_append, List.mem_reverse]
  constructor
  · exact fun h => h.elim List.mem_of_mem_drop List.mem_of_mem_take
  · intro h
    rw [← List.take_append_drop k l] at h
    exact (List.mem_append.mp h).symm
theorem turnL_map {α β : Type} (f : α → β) (l : List α) (k : Nat) : (turnL l k).map f = turnL (l.map f) k := by
  unfold turnL
  rw [List.map_append, List.map_drop, List.map_reverse, List.map_take]
theorem turnL_len {α : Type} (l : List α) (k : Nat) : (turnL l k).length = l.length := by
  unfold turnL
  rw [List.length_append, List.length_drop, List.length_reverse, List.length_take]; omega
theorem turnL_nodup {l : List Nat} {k : Nat} (h : l.Nodup) : (turnL l k).Nodup := by
  unfold turnL
  rw [← List.take_append_drop k l, List.nodup_append] at h
  rw [List.nodup_append]
  exact ⟨h.2.1, List.pairwise_reverse.mpr (h.1.imp fun h e => h e.symm), fun a ha b hb e => h.2.2 b (List.mem_reverse.mp hb) a ha e.symm⟩
theorem nodup_names {c : Int} : ∀ {l : List Nat}, l.Nodup → (∀ k ∈ l, k < 40) → (l.map (nameV c)).Nodup
  | [], _, _ => List.nodup_nil
  | k :: l, nd, h => by
    rw [List.nodup_cons] at nd
    rw [List.map_cons, List.nodup_cons]
    refine ⟨fun z => ?_, nodup_names nd.2 fun j hj => h j (List.mem_cons_of_mem _ hj)⟩
    obtain ⟨j, hj, e⟩ := List.mem_map.mp z
    have := nameV_inj (h j (List.mem_cons_of_mem _ hj)) (h k (List.mem_cons_self ..)) e
    exact nd.1 (this ▸ hj)
theorem Drawn.ok {c : Int} {x y z : Nat} {ws : Nat → List Str} {at_ : Nat} {ends outs : List Str} (D : Drawn c x y z ws at_ ends outs) : NetOk (insV c x) (turnL (smV c z ws) at_) ((stsV c y).zip ends) outs := by
  have hx := D.hx; have hy := D.hy; have hz := D.hz
  have yl : (stsV c y).length = y := by unfold stsV; rw [List.length_map, List.length_range]
  have sn : sumN (turnL (smV c z ws) at_) = turnL (smN c z) at_ := by
    unfold sumN; rw [turnL_map]; unfold smV smN; rw [List.map_map]; rfl
  have zn : ((stsV c y).zip ends).map (·.1) = stsV c y := List.map_fst_zip (by rw [yl, D.el]; exact Nat.le_refl _)
  have kn : keysOf (insV c x) (turnL (smV c z ws) at_) ((stsV c y).zip ends) = (List.range x ++ turnL ((List.range z).map (22 + ·)) at_ ++ (List.range y).map (6 + ·)).map (nameV c) := by
    unfold keysOf
    rw [sn, zn, List.map_append, List.map_append, turnL_map, List.map_map, List.map_map]; rfl
  have km : ∀ w, w ∈ keysOf (insV c x) (turnL (smV c z ws) at_) ((stsV c y).zip ends) ↔ w ∈ insV c x ++ stsV c y ++ smN c z := fun w => by
    unfold keysOf
    rw [sn, zn]
    simp only [List.mem_append, mem_turnL]
    exact ⟨fun h => h.elim (fun h => h.elim (fun h => .inl (.inl h)) .inr) (fun h => .inl (.inr h)), fun h => h.elim (fun h => h.elim (fun h => .inl (.inl h)) .inr) (fun h => .inl (.inr h))⟩
  have un : (keysOf (insV c x) (turnL (smV c z ws) at_) ((stsV c y).zip ends)).Nodup := by
    rw [kn]
    have i6 : ((List.range y).map (6 + ·)).Nodup := List.Pairwise.map _ (fun a b (h : a ≠ b) (e : 6 + a = 6 + b) => h (by omega)) List.nodup_range
    have i22 : (turnL ((List.range z).map (22 + ·)) at_).Nodup := turnL_nodup (List.Pairwise.map _ (fun a b (h : a ≠ b) (e : 22 + a = 22 + b) => h (by omega)) List.nodup_range)
    have m6 : ∀ k, k ∈ (List.range y).map (6 + ·) → 6 ≤ k ∧ k < 22 := fun k hk => by
      obtain ⟨j, hj, e⟩ := List.mem_map.mp hk
      have := List.mem_range.mp hj
      omega
    have m22 : ∀ k, k ∈ turnL ((List.range z).map (22 + ·)) at_ → 22 ≤ k ∧ k < 40 := fun k hk => by
      obtain ⟨j, hj, e⟩ := List.mem_map.mp (mem_turnL.mp hk)
      have := List.mem_range.mp hj
      omega
    have m0 : ∀ k, k ∈ List.range x → k < 6 := fun k hk => by have := List.mem_range.mp hk; omega
    refine nodup_names ?_ fun k hk => ?_
    · rw [List.nodup_append]
      refine ⟨?_, i6, fun i hi j hj e => ?_⟩
      · rw [List.nodup_append]
        refine ⟨List.nodup_range, i22, fun i hi j hj e => ?_⟩
        have := m0 i hi; have := m22 j hj; omega
      · have := m6 j hj
        rcases List.mem_append.mp hi with q | q
        · have := m0 i q; omega
        · have := m22 i q; omega
    · rcases List.mem_append.mp hk with q | q
      · rcases List.mem_append.mp q with q | q
        · have := m0 k q; omega
        · exact (m22 k q).2
      · have := m6 k q; omega
  have mk : ∀ {w k}, k ≤ z → w ∈ insV c x ++ stsV c y ++ smN c k → w ∈ insV c x ++ stsV c y ++ smN c z := fun {w k} hk h => by
    rcases List.mem_append.mp h with q | q
    · exact List.mem_append_left _ q
    · obtain ⟨j, hj, e⟩ := List.mem_map.mp (show w ∈ List.map _ _ from q)
      exact List.mem_append_right _ (List.mem_map.mpr ⟨j, List.mem_range.mpr (by have := List.mem_range.mp hj; omega), e⟩)
  have bm : ∀ p, p ∈ turnL (smV c z ws) at_ → ∃ k, k < z ∧ p = (nameV c (22 + k), ws k) := fun p hp => by
    obtain ⟨k, hk, e⟩ := List.mem_map.mp (show p ∈ List.map _ _ from mem_turnL.mp hp)
    exact ⟨k, List.mem_range.mp hk, e.symm⟩
  refine ⟨?_, ?_, ?_, ?_, ?_, ?_, un, ?_, ?_⟩
  · unfold insV; rw [List.length_map, List.length_range]; omega
  · rw [turnL_len]; unfold smV; rw [List.length_map, List.length_range]; omega
  · rw [List.length_zip, yl, D.el]; omega
  · have := D.ol; omega
  · intro p hp
    obtain ⟨k, hk, e⟩ := bm p hp
    have := D.wl k hk
    rw [e]; show (ws k).length ≤ 24; omega
  · intro w hw
    rw [kn] at hw
    obtain ⟨k, hk, e⟩ := List.mem_map.mp hw
    rw [← e]
    refine nameV_isN ?_
    rcases List.mem_append.mp hk with q | q
    · rcases List.mem_append.mp q with q | q
      · have := List.mem_range.mp q; omega
      · obtain ⟨j, hj, e⟩ := List.mem_map.mp (mem_turnL.mp q)
        have := List.mem_range.mp hj
        omega
    · obtain ⟨j, hj, e⟩ := List.mem_map.mp q
      have := List.mem_range.mp hj
      omega
  · intro w hw
    rw [km]
    rcases List.mem_append.mp (show w ∈ _ ++ _ from hw) with q | q
    · rcases List.mem_append.mp q with q | q
      · obtain ⟨p, hp, hq⟩ := List.mem_flatMap.mp q
        obtain ⟨k, hk, e⟩ := bm p hp
        rw [e] at hq
        exact mk (Nat.le_of_lt hk) (D.wm k hk w hq)
      · obtain ⟨p, hp, e⟩ := List.mem_map.mp q
        rw [← e]
        exact D.em _ (List.of_mem_zip (show (p.1, p.2) ∈ _ from hp)).2
    · exact D.om w q
  · refine ⟨fun n => ((List.range 40).find? fun k => decide (nameV c k = n)).getD 0, fun p hp w hw hs => ?_⟩
    obtain ⟨k, hk, e⟩ := bm p hp
    have rk : ∀ j, j < 40 → ((List.range 40).find? fun i => decide (nameV c i = nameV c j)).getD 0 = j := fun j hj => by
      cases q : (List.range 40).find? fun i => decide (nameV c i = nameV c j) with
      | none =>
        have := List.find?_eq_none.mp q j (List.mem_range.mpr hj)
        exact absurd (decide_eq_true rfl) this
      | some i =>
        have h1 := List.find?_some q
        have h2 := List.mem_range.mp (List.mem_of_find?_eq_some q)
        exact nameV_inj h2 hj (of_decide_eq_true h1)
    subst e
    rw [sn] at hs
    obtain ⟨j, hj, ej⟩ := List.mem_map.mp (show w ∈ List.map _ _ from mem_turnL.mp hs)
    have hj' := List.mem_range.mp hj
    subst ej
    show (List.find? (fun i => decide (nameV c i = nameV c (22 + j))) (List.range 40)).getD 0 < (List.find? (fun i => decide (nameV c i = nameV c (22 + k))) (List.range 40)).getD 0
    rw [rk _ (by omega), rk _ (by omega)]
    have hw' := D.wm k hk _ hw
    rcases List.mem_append.mp hw' with q | q
    · exfalso
      rcases List.mem_append.mp q with q | q
      · obtain ⟨i, hi, ei⟩ := List.mem_map.mp (show _ ∈ List.map _ _ from q)
        have := List.mem_range.mp hi
        have := nameV_inj (by omega) (by omega) ei
        omega
      · obtain ⟨i, hi, ei⟩ := List.mem_map.mp (show _ ∈ List.map _ _ from q)
        have := List.mem_range.mp hi
        have := nameV_inj (by omega) (by omega) ei
        omega
    · obtain ⟨i, hi, ei⟩ := List.mem_map.mp (show _ ∈ List.map _ _ from q)
      have := List.mem_range.mp hi
      have := nameV_inj (by omega) (by omega) ei
      omega
theorem smN_snoc (c : Int) (n : Nat) : smN c (n + 1) = smN c n ++ [nameV c (22 + n)] := by unfold smN; rw [List.range_succ, List.map_append]; rfl
theorem smV_snoc (c : Int) (n : Nat) (ws : Nat → List Str) : smV c (n + 1) ws = smV c n ws ++ [(nameV c (22 + n), ws n)] := by unfold smV; rw [List.range_succ, List.map_append]; rfl
theorem smV_congr {c : Int} {n : Nat} {ws ws' : Nat → List Str} (h : ∀ k, k < n → ws k = ws' k) : smV c n ws = smV c n ws' := List.map_congr_left fun k hk => by rw [h k (List.mem_range.mp hk)]
theorem range_split {n : Nat} {pre post : List Nat} {k : Nat} (h : List.range n = pre ++ k :: post) : k = pre.length ∧ pre = List.range k ∧ k < n := by
  have hl : pre.length < n := by
    have := congrArg List.length h
    rw [List.length_range, List.length_append, List.length_cons] at this; omega
  have e : (List.range n)[pre.length]? = some k := by rw [h]; simp
  rw [List.getElem?_range hl] at e
  cases e
  refine ⟨rfl, ?_, hl⟩
  have := congrArg (List.take pre.length) h
  rw [List.take_left' rfl, List.take_range, Nat.min_eq_left (Nat.le_of_lt hl)] at this
  exact this.symm
theorem w_net {s : List Int} {start most : Nat} (hm : most ≤ 16) {R : List Str × RowsS × RowsE × List Str → Prop} (h : ∀ c x y z ws at_ ends outs, c = cellV s start → y ≤ most → z ≤ most → Drawn c x y z ws at_ ends outs → R (insV c x, turnL (smV c z ws) at_, (stsV c y).zip ends, outs)) : W_net s start most R := by
  refine w_cell ?_
  have h := fun x y z ws at_ ends outs => h (cellV s start) x y z ws at_ ends outs rfl
  generalize cellV s start = c at h
  refine w_mix (w_mix ⟨by omega, w_mix ⟨by omega, ?_⟩⟩)
  have m1 : mixV c 1 % 4 < 4 := Nat.mod_lt _ (by decide)
  have m2 : mixV c 2 % (most + 1) < most + 1 := Nat.mod_lt _ (by omega)
  have m3 : mixV c 3 % (most + 1) < most + 1 := Nat.mod_lt _ (by omega)
  generalize mixV c 1 % 4 = x at m1
  generalize mixV c 2 % (most + 1) = y at m2
  generalize mixV c 3 % (most + 1) = z at m3
  refine ⟨x, rfl, by omega, compW_map (nameV c) (fun k hk kk hh => w_name (by have := List.mem_range.mp hk; omega) hh) ?_⟩
  refine ⟨y, rfl, by omega, compW_map (fun k => nameV c (6 + k)) (fun k hk kk hh => w_name (by have := List.mem_range.mp hk; omega) hh) ?_⟩
  show _ ∧ _
  have l1 : (insV c x).length = x := by unfold insV; rw [List.length_map, List.length_range]
  have l2 : (stsV c y).length = y := by unfold stsV; rw [List.length_map, List.length_range]
  have okn : ∀ n, n ≤ 16 → ∀ w ∈ insV c x ++ stsV c y ++ smN c n, okS w := fun n hn w hw => by
    rcases List.mem_append.mp hw with q | q
    · rcases List.mem_append.mp q with q | q
      · obtain ⟨i, hi, ei⟩ := List.mem_map.mp (show _ ∈ List.map _ _ from q)
        have := List.mem_range.mp hi
        rw [← ei]; exact isN_okS (nameV_isN (by omega))
      · obtain ⟨i, hi, ei⟩ := List.mem_map.mp (show _ ∈ List.map _ _ from q)
        have := List.mem_range.mp hi
        rw [← ei]; exact isN_okS (nameV_isN (by omega))
    · obtain ⟨i, hi, ei⟩ := List.mem_map.mp (show _ ∈ List.map _ _ from q)
      have := List.mem_range.mp hi
      rw [← ei]; exact isN_okS (nameV_isN (by omega))
  have knl : ∀ n, (insV c x ++ stsV c y ++ smN c n).length = x + y + n := fun n => by
    rw [List.length_append, List.length_append, l1, l2]; unfold smN; rw [List.length_map, List.length_range]
  refine ⟨by show (insV c x).length + (stsV c y).length < 1000000; omega, z, rfl, by omega, ?_⟩
  refine forW_ind (fun pre (t : RowsS × List Str) => ∃ ws, t = (smV c pre.length ws, insV c x ++ stsV c y ++ smN c pre.length) ∧ (∀ k, k < pre.length → (ws k).length ≤ 4) ∧ ∀ k, k < pre.length → ∀ w ∈ ws k, w ∈ insV c x ++ stsV c y ++ smN c k) ⟨fun _ => [], by show _ = (([] : RowsS), _ ++ []); rw [List.append_nil]; rfl, fun k hk => absurd hk (Nat.not_lt_zero _), fun k hk => absurd hk (Nat.not_lt_zero _)⟩ (fun pre k post t nx bk e ht hn _ => ?_) fun t ht => ?_
  · obtain ⟨ek, ep, lk⟩ := range_split e
    obtain ⟨ws, et, w1, w2⟩ := ht
    subst et
    rw [← ek] at w1 w2 ⊢
    show W_cell s (start + 1 + k) _
    refine w_cell (w_wires (by rw [knl]; omega) (okn k (by omega)) fun wk wk1 wk2 => w_name (by omega) ⟨?_, w_name (by omega) ⟨?_, hn _ ⟨fun j => if j = k then wk else ws j, ?_, fun j hj => ?_, fun j hj => ?_⟩⟩⟩)
    · show (smV c k ws).length < 1000000
      unfold smV; rw [List.length_map, List.length_range]; omega
    · show (insV c x ++ stsV c y ++ smN c k).length + 1 < 1000000
      rw [knl]; omega
    · rw [List.length_append, List.length_singleton, ← ek, smV_snoc, smN_snoc, if_pos rfl]
      rw [smV_congr (ws' := ws) fun j hj => if_neg (by omega), ← List.append_assoc]
    · rw [List.length_append, List.length_singleton, ← ek] at hj
      show (if j = k then wk else ws j).length ≤ 4
      by_cases q : j = k
      · rw [if_pos q]; exact wk1
      · rw [if_neg q]; exact w1 j (by omega)
    · rw [List.length_append, List.length_singleton, ← ek] at hj
      show ∀ w ∈ (if j = k then wk else ws j), w ∈ insV c x ++ stsV c y ++ smN c j
      by_cases q : j = k
      · rw [if_pos q, q]; exact wk2
      · rw [if_neg q]; exact w2 j (by omega)
  · obtain ⟨ws, et, w1, w2⟩ := ht
    rw [List.length_range] at et w1 w2
    subst et
    have sl : (smV c z ws).length = z := by unfold smV; rw [List.length_map, List.length_range]
    have kl := knl z
    have ok := okn z (by omega)
    refine w_mix ⟨by show 0 < (smV c z ws).length + 1; omega, ?_⟩
    rintro at_ _
    refine ⟨?_, ?_⟩
    · show ((smV c z ws).drop at_).length + ((smV c z ws).take at_).reverse.length < 1000000
      rw [List.length_drop, List.length_reverse, List.length_take, sl]; omega
    show forW (enumT (stsV c y)) ([] : RowsE) _ _
    have nek : 0 < y → 0 < (insV c x ++ stsV c y ++ smN c z).length := fun q => by omega
    show forW _ _ (fun (it1 : Nat × Str) ends1 nx2 bk2 => W_mix c (50 + it1.1) fun z12 => (0 < (insV c x ++ stsV c y ++ smN c z).length) ∧ ∃ x21, (insV c x ++ stsV c y ++ smN c z)[z12 % (insV c x ++ stsV c y ++ smN c z).length]? = some x21 ∧ _) _
    refine forW_enum (fun pre (t : RowsE) => ∃ es : List Str, es.length = pre.length ∧ t = pre.zip es ∧ ∀ e ∈ es, e ∈ insV c x ++ stsV c y ++ smN c z) ⟨[], rfl, rfl, fun e he => by cases he⟩ (fun pre p post t nx bk e ht hn => ?_) fun t ht => ?_
    · obtain ⟨es, e1, et, e2⟩ := ht
      subst et
      have pl : pre.length < y := by
        have := congrArg List.length e
        rw [l2, List.length_append, List.length_cons] at this; omega
      have np := nek (by omega)
      have hi : mixV c (50 + pre.length) % (insV c x ++ stsV c y ++ smN c z).length < (insV c x ++ stsV c y ++ smN c z).length := Nat.mod_lt _ np
      have ev := List.getElem?_eq_getElem hi
      have em := List.getElem_mem hi
      generalize (insV c x ++ stsV c y ++ smN c z)[mixV c (50 + pre.length) % (insV c x ++ stsV c y ++ smN c z).length] = v at ev em
      refine w_mix ⟨np, v, ev, by rw [List.length_zip]; omega, hn _ ⟨es ++ [v], by rw [List.length_append, List.length_append, e1]; rfl, ?_, fun u hu => ?_⟩⟩
      · exact (List.zip_append (r₁ := [p]) (r₂ := [v]) e1.symm).symm
      · rcases List.mem_append.mp hu with q | q
        · exact e2 u q
        · rw [List.mem_singleton.mp q]; exact em
    · obtain ⟨es, e1, et, e2⟩ := ht
      subst et
      rw [l2] at e1
      have fin : ∀ outs : List Str, outs.length ≤ 3 → (∀ u ∈ outs, u ∈ insV c x ++ stsV c y ++ smN c z) → R (insV c x, turnL (smV c z ws) at_, (stsV c y).zip es, outs) := fun outs o1 o2 => h x y z ws at_ es outs (by omega) (by omega) ⟨by omega, by omega, by omega, w1, w2, e1, e2, o1, o2⟩
      generalize insV c x ++ stsV c y ++ smN c z = kn at fin ok
      refine jnI ⟨⟨okV_okS ok, okV_nil⟩, ?_⟩
      by_cases q : kn ≠ []
      · rw [if_pos q]
        have np : 0 < kn.length := List.length_pos_iff.mpr q
        have m4 : mixV c 5 % 4 < 4 := Nat.mod_lt _ (by decide)
        have hi : ∀ k, ∃ v, kn[mixV c (80 + k) % kn.length]? = some v ∧ v ∈ kn := fun k => ⟨_, List.getElem?_eq_getElem (Nat.mod_lt _ np), List.getElem_mem _⟩
        refine w_mix ?_
        generalize mixV c 5 % 4 = m at m4
        refine ⟨by omega, compW_map (fun k => kn.getD (mixV c (80 + k) % kn.length) (Str.ofString "")) (fun k hk kk hh => w_mix ?_) ?_⟩
        · obtain ⟨v, h1, h2⟩ := hi k
          rw [List.getD_eq_getElem?_getD, h1, Option.getD_some] at hh
          exact ⟨np, v, h1, hh⟩
        · refine fin _ (by rw [List.length_map, List.length_range]; omega) fun u hu => ?_
          obtain ⟨k, _, e⟩ := List.mem_map.mp hu
          obtain ⟨v, h1, h2⟩ := hi k
          rw [List.getD_eq_getElem?_getD, h1, Option.getD_some] at e
          rw [← e]; exact h2
      · rw [if_neg q]
        exact fin [] (Nat.zero_le _) fun u hu => by cases hu
end My
namespace My
open Wk PySem
section
variable {a : List Str} {b : RowsS} {c : RowsE} {d o : List Str}
theorem w_in_names (hl : (allOf a b c).length < 1000000) {d o l} {R : List Str → Prop} (h : R a) : W_Net_in_names (allOf a b c, d, o, l) R := by
  refine w_kind_in hl ⟨?_, compW_map wName (fun w _ kk hk => hk) ?_⟩
  · have := hl
    rw [allOf_len] at this
    rw [List.length_map, inAll_len]; omega
  · have e : ((inAll a).map (·.2)).map wName = a := by
      unfold inAll
      rw [List.map_map, List.map_map]
      exact (enumT_map a id).trans (List.map_id a)
    rw [e]; exact h
theorem w_store_rows (hl : (allOf a b c).length < 1000000) {d o l} {R : RowsE → Prop} (h : R c) : W_Net_store_rows (allOf a b c, d, o, l) R := by
  refine w_kind_store hl ⟨?_, compW_map (fun w => (wName w, (wWire w).getD (Str.ofString ""))) (fun w hw kk hk => ?_) ?_⟩
  · have := hl
    rw [allOf_len] at this
    rw [List.length_map, stAll_len]; omega
  · obtain ⟨p, hp, ew⟩ := List.mem_map.mp hw
    obtain ⟨q, _, ep⟩ := List.mem_map.mp (show p ∈ List.map _ _ from hp)
    subst ep ew
    exact ⟨_, rfl, hk⟩
  · have e : ((stAll c).map (·.2)).map (fun w => (wName w, (wWire w).getD (Str.ofString ""))) = c := by
      unfold stAll
      rw [List.map_map, List.map_map]
      exact (enumT_map c id).trans (List.map_id c)
    rw [e]; exact h
theorem w_wire_names {d o l} {R : List Str → Prop} (h : R (keysOf a b c)) : W_Net_wire_names (allOf a b c, d, o, l) R := by
  show R ((allOf a b c).map (·.1))
  rw [all_keys]; exact h
end
end My
namespace My
open Wk PySem
section
variable {a : List Str} {b : RowsS} {c : RowsE} {d o : List Str}
theorem w_sum_rows (hl : (allOf a b c).length < 1000000) {d o l} {R : RowsS → Prop} (h : R b) : W_Net_sum_rows (allOf a b c, d, o, l) R := by
  refine w_kind_sum hl ⟨?_, compW_map (fun w => (wName w, (wWires w).getD [])) (fun w hw kk hk => ?_) ?_⟩
  · have := hl
    rw [allOf_len] at this
    unfold sumAll
    rw [List.length_map, List.length_map]; omega
  · obtain ⟨p, hp, ew⟩ := List.mem_map.mp hw
    obtain ⟨q, _, ep⟩ := List.mem_map.mp (show p ∈ List.map _ _ from hp)
    subst ep ew
    exact ⟨_, rfl, hk⟩
  · have e : ((sumAll b).map (·.2)).map (fun w => (wName w, (wWires w).getD [])) = b := by
      unfold sumAll
      rw [List.map_map, List.map_map]
      exact List.map_id b
    rw [e]; exact h
end
end My
namespace My
open Wk PySem
theorem w_told {a : List Str} {b : RowsS} {c : RowsE} {d o : List Str} (N : NetOk a b c d) {l} {R : List Str × RowsS × RowsE × List Str → Prop} (h : R (a, b, c, d)) : W_Net_told (allOf a b c, d, o, l) R := w_in_names N.sml (w_sum_rows N.sml (w_store_rows N.sml h))
end My
namespace My
open Wk PySem
theorem lit_ll : Str.ofString "l" = sg 108 := by decide +kernel
def llN (k : Nat) : Str := (Str.ofString "l" ++ strN k) ++ Str.ofString "l"
theorem ll_list (k : Nat) : (llN k).cps.toList = 108 :: ((strN k).cps.toList ++ [108]) := by
  unfold llN
  rw [app_list, app_list, lit_ll]; rfl
theorem ll_inj {j k : Nat} (h : llN j = llN k) : j = k := by
  have e : (llN j).cps.toList = (llN k).cps.toList := by rw [h]
  rw [ll_list, ll_list] at e
  exact strN_inj (str_ext (List.append_cancel_right (List.cons.inj e).2))
theorem ll_len {k : Nat} (h : k < 10000) : 3 ≤ (llN k).length ∧ (llN k).length ≤ 6 := by
  have l := strN_lenB (k := 3) h
  have e : (llN k).length = (strN k).length + 2 := by
    show (llN k).cps.toList.length = _
    rw [ll_list, List.length_cons, List.length_append]; rfl
  have p : 1 ≤ (strN k).length := by
    show 1 ≤ (strN k).cps.toList.length
    rw [strN_list, List.length_map]
    exact List.length_pos_iff.mpr (Nat.toDigits_ne_nil)
  omega
theorem ll_isN {k : Nat} (h : k < 10000) : isN (llN k) := by
  have l := ll_len h
  refine ⟨by omega, l.2, fun c hc => ?_, fun c hc => ?_⟩
  · rw [ll_list] at hc
    have : (108 : Nat) = c := Option.some.inj hc
    omega
  · rw [ll_list] at hc
    rcases List.mem_cons.mp hc with q | q
    · exact .inl (by omega)
    · rcases List.mem_append.mp q with q | q
      · exact .inr (strN_figs k c q)
      · exact .inl (by rw [List.mem_singleton.mp q]; decide)
def lEnd (x : Str) : Bool := match x.cps.toList.reverse with
  | q :: c :: _ => decide (q = 108) && (decide (48 ≤ c) && decide (c ≤ 57))
  | _ => false
theorem ll_end {k : Nat} : lEnd (llN k) = true := by
  have h : (strN k).cps.toList ≠ [] := by
    rw [strN_list]
    exact fun e => Nat.toDigits_ne_nil (List.map_eq_nil_iff.mp e)
  rcases List.eq_nil_or_concat (strN k).cps.toList with z | ⟨ys, y, z⟩
  · exact absurd z h
  · rw [List.concat_eq_append] at z
    have hy := strN_figs k y (by rw [z]; simp)
    unfold lEnd
    rw [ll_list, z]
    have e : (108 :: (ys ++ [y] ++ [108])).reverse = 108 :: y :: (ys.reverse ++ [108]) := by simp
    rw [e]
    show (decide ((108 : Nat) = 108) && (decide (48 ≤ y) && decide (y ≤ 57))) = true
    rw [decide_eq_true hy.1, decide_eq_true hy.2]; rfl
theorem word_lend : ∀ x ∈ someL, lEnd x = false := by
  have : (someL.all fun x => !lEnd x) = true := by decide +kernel
  intro x hx
  have := List.all_eq_true.mp this x hx
  cases q : lEnd x with
  | false => rfl
  | true => rw [q] at this; cases this
theorem fig_lend {a n : Nat} : lEnd (sg a ++ strN n) = false := by
  have h : (strN n).cps.toList ≠ [] := by
    rw [strN_list]
    exact fun e => Nat.toDigits_ne_nil (List.map_eq_nil_iff.mp e)
  rcases List.eq_nil_or_concat (strN n).cps.toList with z | ⟨ys, y, z⟩
  · exact absurd z h
  · rw [List.concat_eq_append] at z
    have hy := strN_figs n y (by rw [z]; simp)
    unfold lEnd
    rw [app_list, z]
    have e : ((sg a).cps.toList ++ (ys ++ [y])).reverse = y :: (ys.reverse ++ (sg a).cps.toList.reverse) := by simp
    rw [e]
    cases (ys.reverse ++ (sg a).cps.toList.reverse) with
    | nil => rfl
    | cons q _ =>
      show (decide (y = 108) && _) = false
      rw [decide_eq_false (by omega)]; rfl
theorem name_lend {c : Int} {k : Nat} : lEnd (nameV c k) = false := by
  unfold nameV
  by_cases q : k < 40 ∧ mixV c 402 % 2 = 0
  · rw [if_pos q]
    obtain ⟨x, hx, _⟩ := nth_word (i := (k + mixV c 403) % 40) (Nat.mod_lt _ (by decide))
    rw [List.getD_eq_getElem?_getD, hx, Option.getD_some]
    exact word_lend x (List.mem_of_getElem? hx)
  · rw [if_neg q]; exact fig_lend
section
variable {a : List Str} {b : RowsS} {c : RowsE} {d : List Str} {m : Nat}
def lrow (k : Nat) : Str × List Str := (llN k, (List.range' (k - 2) (k - (k - 2))).map llN)
def ldr (m : Nat) : RowsS := (List.range m).map lrow
theorem ldr_sumN : sumN (ldr m) = (List.range m).map llN := by
  unfold sumN ldr
  rw [List.map_map]; rfl
theorem ldr_key {x : Str} : x ∈ keysOf a (b ++ ldr m) c ↔ x ∈ keysOf a b c ∨ ∃ k, k < m ∧ x = llN k := by
  unfold keysOf
  rw [show sumN (b ++ ldr m) = sumN b ++ sumN (ldr m) from List.map_append, ldr_sumN]
  simp only [List.mem_append, List.mem_map, List.mem_range]
  constructor
  · rintro ((h | (h | ⟨k, h, e⟩)) | h)
    · exact .inl (.inl (.inl h))
    · exact .inl (.inl (.inr h))
    · exact .inr ⟨k, h, e.symm⟩
    · exact .inl (.inr h)
  · rintro (((h | h) | h) | ⟨k, h, e⟩)
    · exact .inl (.inl h)
    · exact .inl (.inr (.inl h))
    · exact .inr h
    · exact .inl (.inr (.inr ⟨k, h, e.symm⟩))
theorem lrow_mem {k : Nat} {x : Str} (h : x ∈ (lrow k).2) : ∃ j, j < k ∧ x = llN j := by
  obtain ⟨j, hj, e⟩ := List.mem_map.mp h
  have := List.mem_range'_1.mp hj
  exact ⟨j, by omega, e.symm⟩
theorem ldr_ok (N : NetOk a b c d) (hl : b.length + m ≤ 40) (hd : ∀ k, llN k ∉ keysOf a b c) : NetOk a (b ++ ldr m) c d := by
  refine ⟨N.na, by unfold ldr; rw [List.length_append, List.length_map, List.length_range]; exact hl, N.nc, N.nd, fun p hp => ?_, fun x hx => ?_, ?_, fun x hr => ?_, ?_⟩
  · rcases List.mem_append.mp hp with q | q
    · exact N.nw p q
    · obtain ⟨k, _, e⟩ := List.mem_map.mp q
      rw [← e]
      show ((List.range' (k - 2) (k - (k - 2))).map llN).length ≤ 24
      rw [List.length_map, List.length_range']; omega
  · rcases ldr_key.mp hx with q | ⟨k, hk, e⟩
    · exact N.nm x q
    · rw [e]; exact ll_isN (by omega)
  · have pm : (keysOf a (b ++ ldr m) c).Perm (keysOf a b c ++ (List.range m).map llN) := by
      unfold keysOf
      rw [show sumN (b ++ ldr m) = sumN b ++ sumN (ldr m) from List.map_append, ldr_sumN, ← List.append_assoc, List.append_assoc, List.append_assoc (a ++ sumN b)]
      exact List.Perm.append_left _ List.perm_append_comm
    rw [pm.nodup_iff, List.nodup_append]
    refine ⟨N.un, List.Pairwise.map _ (fun a b (h : a ≠ b) e => h (ll_inj e)) List.nodup_range, fun x hx y hy e => ?_⟩
    obtain ⟨k, _, e2⟩ := List.mem_map.mp hy
    exact hd k (by rw [e2, ← e]; exact hx)
  · unfold readsOf at hr
    rw [List.flatMap_append] at hr
    simp only [List.mem_append] at hr
    rcases hr with ((hr | hr) | hr) | hr
    · exact ldr_key.mpr (.inl (N.rd x (List.mem_append_left _ (List.mem_append_left _ hr))))
    · obtain ⟨p, hp, hx⟩ := List.mem_flatMap.mp hr
      obtain ⟨k, hk, e⟩ := List.mem_map.mp hp
      rw [← e] at hx
      obtain ⟨j, hj, e2⟩ := lrow_mem hx
      exact ldr_key.mpr (.inr ⟨j, by have := List.mem_range.mp hk; omega, e2⟩)
    · exact ldr_key.mpr (.inl (N.rd x (List.mem_append_left _ (List.mem_append_right _ hr))))
    · exact ldr_key.mpr (.inl (N.rd x (List.mem_append_right _ hr)))
  · obtain ⟨rk, hr⟩ := N.ac
    have hc : ∀ x : Str, ∃ n : Nat, (∀ k, x = llN k → n = k) ∧ ((∀ k, x ≠ llN k) → n = rk x) := fun x => by
      by_cases q : ∃ k, x = llN k
      · obtain ⟨k, e⟩ := q
        exact ⟨k, fun j e2 => ll_inj (e.symm.trans e2), fun z => absurd e (z k)⟩
      · exact ⟨rk x, fun k e => absurd ⟨k, e⟩ q, fun _ => rfl⟩
    refine ⟨fun x => Classical.choose (hc x), fun p hp w hw hs => ?_⟩
    have s1 := Classical.choose_spec (hc w); have s2 := Classical.choose_spec (hc p.1)
    show Classical.choose (hc w) < Classical.choose (hc p.1)
    generalize Classical.choose (hc w) = u at s1
    generalize Classical.choose (hc p.1) = v at s2
    rcases List.mem_append.mp hp with q | q
    · have wk := rd_sum N (n := p.1) (ws := p.2) q hw
      have pk : p.1 ∈ keysOf a b c := sum_key (in_sumN (n := p.1) (ws := p.2) q)
      rw [show sumN (b ++ ldr m) = sumN b ++ sumN (ldr m) from List.map_append, ldr_sumN] at hs
      have hs' : w ∈ sumN b := by
        rcases List.mem_append.mp hs with z | z
        · exact z
        · obtain ⟨k, _, e⟩ := List.mem_map.mp z
          exact absurd (e ▸ wk) (hd k)
      rw [s1.2 fun k e => hd k (e ▸ wk), s2.2 fun k e => hd k (e ▸ pk)]
      exact hr p q w hw hs'
    · obtain ⟨k, _, e⟩ := List.mem_map.mp q
      rw [← e] at hw s2
      obtain ⟨j, hj, e2⟩ := lrow_mem hw
      rw [s1.1 j e2, s2.1 k rfl]; exact hj
end
theorem w_ladder {b : RowsS} (hb : b.length ≤ 40) {R : RowsS → Prop} (h : R (b ++ ldr (40 - b.length)).reverse) : W_ladder b R := by
  refine ⟨hb, by omega, ?_⟩
  refine forW_ind (fun pre s => s = b ++ pre.map lrow) (by simp) (fun pre k post s nx bk e hs hn _ => ?_) fun s hs => by subst hs; exact h
  have hk : k < 40 - b.length := List.mem_range.mp (by rw [e]; simp)
  have sm : ∀ j, j < 40 → j.log2 < 1920 ∧ (Str.ofString "l").length + (strN j).length < 1000000 ∧ (Str.ofString "l" ++ strN j).length + (Str.ofString "l").length < 1000000 := fun j hj => by
    have l1 := strN_lenB (k := 3) (n := j) (by omega)
    have l2 : (Str.ofString "l").length = 1 := by rw [lit_ll]; rfl
    refine ⟨?_, by omega, by rw [len_app]; omega⟩
    rcases Nat.eq_zero_or_pos j with z | z
    · subst z; decide
    · exact Nat.lt_of_le_of_lt (Nat.log2_le_self j) (by omega)
  have e2 : (max ((0 : Nat) : Int) ((k : Int) - ((2 : Nat) : Int))).toNat = k - 2 := by omega
  obtain ⟨s1, s2, s3⟩ := sm k (by omega)
  have pl : pre.length < 40 := by
    have := congrArg List.length e
    rw [List.length_append, List.length_cons, List.length_range] at this; omega
  refine ⟨s1, s2, s3, by omega, by rw [e2]; omega, by rw [e2, List.length_range']; omega, ?_⟩
  rw [e2]
  refine compW_map llN (fun j hj kk hk2 => ?_) ⟨by subst hs; rw [List.length_append, List.length_map]; omega, hn _ ?_⟩
  · have := List.mem_range'_1.mp hj
    obtain ⟨t1, t2, t3⟩ := sm j (by omega)
    exact ⟨t1, t2, t3, hk2⟩
  · subst hs
    rw [List.map_append, ← List.append_assoc]; rfl
end My
namespace My
open Wk PySem
theorem jn_mid {S : Type} {f : (S → Prop) → Prop} {k : S → Prop} (P : S → Prop) (h1 : ∀ K : S → Prop, (∀ s, P s → K s) → f K) (h2 : ∀ s, P s → k s) : jn f k := h1 k h2
theorem if_yes {p : Prop} [Decidable p] {A B : Prop} (hp : p) (h : A) : if p then A else B := by rw [if_pos hp]; exact h
theorem if_no {p : Prop} [Decidable p] {A B : Prop} (hp : ¬ p) (h : B) : if p then A else B := by rw [if_neg hp]; exact h
theorem rising_pw : ∀ (l : List Str) (p : Str), PyProof.Rows.risingS p l = true → (p :: l).Pairwise fun x y : Str => ¬ y.cps.toList < x.cps.toList
  | [], p, _ => List.pairwise_singleton _ _
  | x :: r, p, h => by
    have h' : (!PySem.Spec.ltCps x.cps.toList p.cps.toList && PyProof.Rows.risingS x r) = true := h
    obtain ⟨h1, h2⟩ := Bool.and_eq_true_iff.mp h'
    have ih := rising_pw r x h2
    rw [PyProof.Rows.ltCps_eq] at h1
    have h3 : ¬ x.cps.toList < p.cps.toList := by simpa using h1
    refine List.pairwise_cons.mpr ⟨fun y hy => ?_, ih⟩
    rcases List.mem_cons.mp hy with q | q
    · rw [q]; exact h3
    · have h4 := List.rel_of_pairwise_cons ih q
      exact List.not_lt.mpr (List.le_trans (List.not_lt.mp h3) (List.not_lt.mp h4))
theorem sorted_pw : ∀ (l : List Str), PyProof.Rows.sortedS l = true → l.Pairwise fun x y : Str => ¬ y.cps.toList < x.cps.toList
  | [], _ => List.Pairwise.nil
  | x :: r, h => rising_pw r x h
theorem sorted_eq {l m : List Str} (p : l.Perm m) (h : PyProof.Rows.sortedS l = true) (k : PyProof.Rows.sortedS m = true) : l = m :=
  List.Perm.eq_of_pairwise (fun x y _ _ a b => str_ext (List.le_antisymm (List.not_lt.mp a) (List.not_lt.mp b))) (sorted_pw l h) (sorted_pw m k) p
section
variable {a : List Str} {b : RowsS} {c : RowsE} {d o : List Str}
theorem sumN_rev : sumN b.reverse = (sumN b).reverse := by unfold sumN; rw [List.map_reverse]
theorem mem_keys_rev {n : Str} : n ∈ keysOf a b.reverse c ↔ n ∈ keysOf a b c := by
  unfold keysOf
  rw [sumN_rev]
  simp only [List.mem_append, List.mem_reverse]
theorem NetOk.rev (N : NetOk a b c d) : NetOk a b.reverse c d := by
  refine ⟨N.na, by rw [List.length_reverse]; exact N.nb, N.nc, N.nd, fun p hp => N.nw p (List.mem_reverse.mp hp), fun x hx => N.nm x (mem_keys_rev.mp hx), ?_, fun x hx => mem_keys_rev.mpr (N.rd x ?_), ?_⟩
  · have un := N.un
    unfold keysOf at un ⊢
    rw [sumN_rev]
    exact ((((List.reverse_perm (sumN b)).append_left a).append_right (c.map (·.1))).nodup_iff).mpr un
  · unfold readsOf at hx ⊢
    simp only [List.mem_append, List.mem_flatMap, List.mem_reverse] at hx ⊢
    exact hx
  · obtain ⟨rk, hk⟩ := N.ac
    exact ⟨rk, fun p hp w hw hs => hk p (List.mem_reverse.mp hp) w hw (by rw [sumN_rev] at hs; exact List.mem_reverse.mp hs)⟩
theorem in_val (un : (keysOf a b c).Nodup) {i : Nat} {n : Str} (h : (i, n) ∈ enumT a) : valT (allOf a b c) n = some (.inl (n, i)) := by
  refine valT_mem (by rw [all_keys]; exact un) ?_
  unfold allOf
  exact List.mem_append_left _ (List.mem_append_left _ (List.mem_map.mpr ⟨_, h, rfl⟩))
theorem st_val (un : (keysOf a b c).Nodup) {i : Nat} {n w : Str} (h : (i, n, w) ∈ enumT c) : valT (allOf a b c) n = some (.inr (.inr (n, w, i))) := by
  refine valT_mem (by rw [all_keys]; exact un) ?_
  unfold allOf
  exact List.mem_append_right _ (List.mem_map.mpr ⟨_, h, rfl⟩)
theorem told_ok (N : NetOk a b c d) : okV (pT4 (pL pS) (pL (pT2 pS (pTL pS))) (pL (pT2 pS pS)) (pL pS)) (a, b, c, d) :=
  ⟨fun x hx => isN_okS (N.nm x (List.mem_append_left _ (List.mem_append_left _ hx))), fun p hp => ⟨isN_okS (N.nm p.1 (sum_key (in_sumN (n := p.1) (ws := p.2) hp))), fun w hw => isN_okS (N.nm w (rd_sum N (n := p.1) (ws := p.2) hp hw))⟩,
    fun p hp => ⟨isN_okS (N.nm p.1 (List.mem_append_right _ (List.mem_map.mpr ⟨_, hp, rfl⟩))), isN_okS (N.nm p.2 (rd_st N hp))⟩, fun x hx => isN_okS (N.nm x (rd_out N hx))⟩
theorem w_law_told (N : NetOk a b c d) {R : List Str × RowsS × RowsE × List Str → Prop} (h : R (a, b, c, d)) : W_told a b c d R := by
  have h2 := N.nb
  refine ⟨by omega, compW_map (fun p => p) (fun p hp kk hk => hk) ?_⟩
  rw [List.map_id']; exact h
theorem w_missing {x : An} (ho : ∀ T, x ≠ An.o T) (hx : ∀ t, x = An.s t → t.length < 1000000 ∧ t ∉ keysOf a b c) {l} (hk : aok (An.l [x]) = true) {R : Bool → Prop} (h : R true) : W_missing (allOf a b c, d, o, l) x R := by
  refine jnI (w_wire_no ho hx ⟨⟨hk, hk⟩, ?_⟩)
  have e : aeq (An.l [x]) (An.l [x]) = true := by
    unfold aok at hk
    obtain ⟨_, h2⟩ := Bool.and_eq_true_iff.mp hk
    unfold SeqAt.shaped at h2
    exact PySem.SeqAt.eqv_refl _ (Bool.and_eq_true_iff.mp h2).1
  rw [decide_eq_true e]; exact h
theorem w_wires_good (N : NetOk a b c d) {l} {R : Bool → Prop} (h : R true) : W_wires_good (allOf a b c, d, o, l) a b c R := by
  refine forW_unit (fun p hp nx bk hn => ?_) (forW_unit (fun p hp nx bk hn => ?_) (forW_unit (fun p hp nx bk hn => ?_) h))
  · have hv := in_val N.un (b := b) (c := c) (i := p.1) (n := p.2) hp
    have ka : p.2 ∈ a := by
      have : (fun q : Nat × Str => q.2) p ∈ (enumT a).map (fun q : Nat × Str => q.2) := List.mem_map.mpr ⟨p, hp, rfl⟩
      rw [enumT_map a (fun x => x), List.map_id'] at this
      exact this
    have kk : p.2 ∈ keysOf a b c := List.mem_append_left _ (List.mem_append_left _ ka)
    refine w_wire_of N.nm kk fun w hw => ?_
    rw [hv] at hw; cases hw
    refine jnI (if_no (fun q => q rfl) ⟨_, rfl, ⟨⟨isN_okS (N.nm _ kk), trivial⟩, ⟨isN_okS (N.nm _ kk), trivial⟩⟩, ?_⟩)
    show if decide ((p.2, p.1) ≠ (p.2, p.1)) = true then _ else _
    rw [decide_eq_false (fun q => q rfl)]
    exact bF hn
  · have hv := sum_val N.un (a := a) (c := c) (n := p.1) (ws := p.2) hp
    have kk : p.1 ∈ keysOf a b c := sum_key (in_sumN (n := p.1) (ws := p.2) hp)
    have ok : okV (pT2 pS (pTL pS)) p := (told_ok N).2.1 p hp
    refine w_wire_of N.nm kk fun w hw => ?_
    rw [hv] at hw; cases hw
    refine jnI (if_no (fun q => q rfl) ⟨_, rfl, ⟨ok, ok⟩, ?_⟩)
    show if decide ((p.1, p.2) ≠ (p.1, p.2)) = true then _ else _
    rw [decide_eq_false (fun q => q rfl)]
    exact bF hn
  · have hv := st_val N.un (a := a) (b := b) (i := p.1) (n := p.2.1) (w := p.2.2) hp
    have kc : p.2 ∈ c := by
      have : (fun q : Nat × (Str × Str) => q.2) p ∈ (enumT c).map (fun q : Nat × (Str × Str) => q.2) := List.mem_map.mpr ⟨p, hp, rfl⟩
      rw [enumT_map c (fun x => x), List.map_id'] at this
      exact this
    have kk : p.2.1 ∈ keysOf a b c := List.mem_append_right _ (List.mem_map.mpr ⟨_, kc, rfl⟩)
    have ok := (told_ok N).2.2.1 p.2 kc
    refine w_wire_of N.nm kk fun w hw => ?_
    rw [hv] at hw; cases hw
    refine jnI (if_no (fun q => q rfl) ⟨_, rfl, _, rfl, ⟨⟨ok.1, ok.2, trivial⟩, ⟨ok.1, ok.2, trivial⟩⟩, ?_⟩)
    show if decide ((p.2.1, p.2.2, p.1) ≠ (p.2.1, p.2.2, p.1)) = true then _ else _
    rw [decide_eq_false (fun q => q rfl)]
    exact bF hn
theorem idx_lt {o : List Str} {pre post : List Str} {x y : Str} (nd : o.Nodup) (e : o = pre ++ y :: post) (hx : x ∈ pre) : o.idxOf x < o.idxOf y := by
  subst e
  have hy : y ∉ pre := fun z => by
    have := (List.nodup_append.mp nd).2.2 y z y (List.mem_cons_self ..)
    exact this rfl
  rw [List.idxOf_append, if_pos hx, List.idxOf_append, if_neg hy, List.idxOf_cons_self]
  have := List.idxOf_lt_length_of_mem hx
  omega
theorem w_order_good (N : NetOk a b c d) (O : Order b o) {R : Bool → Prop} (h : R true) : W_order_good o b R := by
  have h2 := N.nb
  have sl : (sumN b).length = b.length := List.length_map ..
  have sn : (sumN b).Nodup := by
    have := N.un
    unfold keysOf at this
    exact (List.nodup_append.mp (List.nodup_append.mp this).1).2.1
  have pm : o.Perm (sumN b) := (List.perm_ext_iff_of_nodup O.nd sn).mpr O.mem
  refine ⟨by omega, compW_map (fun p => p.1) (fun p hp kk hk => hk) ?_⟩
  show jn _ _
  refine jnI ⟨by rw [pm.length_eq, sl]; omega, fun ys2 p2 s2 => ⟨by rw [List.length_map]; omega, fun ys3 p3 s3 => ?_⟩⟩
  have e : ys2 = ys3 := sorted_eq (p2.trans (pm.trans p3.symm)) s2 s3
  subst e
  have ok : okV (pL pS) ys2 := fun x hx => isN_okS (N.nm x (sum_key (p3.mem_iff.mp hx)))
  refine ⟨⟨ok, ok⟩, ?_⟩
  show if decide (ys2 ≠ ys2) = true then _ else _
  rw [decide_eq_false (fun q => q rfl)]
  refine bF (forW_unit (fun p hp nx bk hn => forW_unit (fun w hw nx2 bk2 hn2 => ?_) hn) h)
  refine jnI ?_
  by_cases q : w ∈ sumN b
  · have pk : p.1 ∈ o := (O.mem _).mpr (in_sumN (n := p.1) (ws := p.2) hp)
    have wk : w ∈ o := (O.mem _).mpr q
    refine if_yes q ⟨wk, pk, ?_⟩
    obtain ⟨pre, post, eo⟩ := List.append_of_mem pk
    have lt := idx_lt O.nd eo (O.cl pre p.1 post p.2 eo hp w hw q)
    rw [decide_eq_false (by omega)]
    exact bF hn2
  · exact if_no q (bF hn2)
theorem w_good (N : NetOk a b c d) (O : Order b o) {l} {R : Bool → Prop} (h : R true) : W_good (allOf a b c, d, o, l) a b c d R := by
  have h1 := N.na; have h2 := N.nb; have h3 := N.nc
  have tk := told_ok N
  refine w_law_told N (w_told N (jnI ⟨⟨tk, tk⟩, if_no (fun q => q rfl) (w_wires_good N ?_)⟩))
  refine bF (w_in_names N.sml (w_sum_rows N.sml (w_store_rows N.sml ?_)))
  unfold W_Net_out_wires
  refine w_wire_names ?_
  unfold W_Net_order
  refine ⟨⟨tk, tk⟩, if_no (fun q => q rfl) ⟨by omega, compW_map (fun p => p.1) (fun p hp kk hk => hk) ⟨?_, by omega, compW_map (fun p => p.1) (fun p hp kk hk => hk) ⟨?_, ?_⟩⟩⟩⟩
  · rw [List.length_map]; omega
  · rw [List.length_append, List.length_map, List.length_map]; omega
  · have ok : okV (pL pS) (keysOf a b c) := fun x hx => isN_okS (N.nm x hx)
    refine ⟨⟨ok, ok⟩, if_no (fun q => q rfl) (w_order_good N O (bT h))⟩
theorem tail_good (N : NetOk a b c d) (O : Order b o) {l} {R : Bool → Prop} {K : Prop} (h : K) : jn (fun kk => W_good (allOf a b c, d, o, l) a b c d fun z6 => if z6 = true then (W_good (allOf a b c, d, o, l) a b c d fun z7 => kk (!z7)) else (kk true)) fun b1 => if b1 = true then (R false) else K :=
  jnI (w_good N O (bT (w_good N O (bF h))))
end
def tB : List Nat → Bool
  | [] => true
  | _ :: [] => true
  | _ :: [c] => decide (c = 48) || (decide (c = 49) || !(decide (48 ≤ c) && decide (c ≤ 57)))
  | _ :: t => t.any fun c => !(decide (48 ≤ c) && decide (c ≤ 57))
theorem tB_all : (someL.all fun x => tB x.cps.toList) = true := by decide +kernel
theorem tB_of {c0 : Nat} {t : List Nat} (h : tB (c0 :: t) = true) (n1 : t ≠ [48]) (n2 : t ≠ [49]) : t = [] ∨ ∃ c ∈ t, ¬ (48 ≤ c ∧ c ≤ 57) := by
  match t, h with
  | [], _ => exact .inl rfl
  | [c], h =>
    refine .inr ⟨c, List.mem_singleton.mpr rfl, fun z => ?_⟩
    have h' : (decide (c = 48) || (decide (c = 49) || !(decide (48 ≤ c) && decide (c ≤ 57)))) = true := h
    rw [decide_eq_true z.1, decide_eq_true z.2] at h'
    simp only [Bool.and_self, Bool.not_true, Bool.or_false, Bool.or_eq_true, decide_eq_true_eq] at h'
    rcases h' with q | q
    · exact n1 (by rw [q])
    · exact n2 (by rw [q])
  | c :: c2 :: r, h =>
    obtain ⟨q, hq, e⟩ := List.any_eq_true.mp (show ((c :: c2 :: r).any fun c => !(decide (48 ≤ c) && decide (c ≤ 57))) = true from h)
    refine .inr ⟨q, hq, fun z => ?_⟩
    rw [decide_eq_true z.1, decide_eq_true z.2] at e
    cases e
theorem far_name {c : Int} {k : Nat} (hk : k < 40) : nameV c k ≠ nameV c 60 := by
  intro h
  have e60 : nameV c 60 = sg (abc.cps.toList.getD (mixV c 400 % 26) 0) ++ strN (mixV c 401 % 1000 + 37 * 60) := by unfold nameV; rw [if_neg (by omega)]
  rw [e60] at h
  unfold nameV at h
  by_cases q : k < 40 ∧ mixV c 402 % 2 = 0
  · rw [if_pos q] at h
    obtain ⟨x, hx, _⟩ := nth_word (i := (k + mixV c 403) % 40) (Nat.mod_lt _ (by decide))
    rw [List.getD_eq_getElem?_getD, hx, Option.getD_some] at h
    have tl : x.cps.toList = abc.cps.toList.getD (mixV c 400 % 26) 0 :: (strN (mixV c 401 % 1000 + 37 * 60)).cps.toList := by
      rw [h, app_list]; rfl
    have tb := List.all_eq_true.mp tB_all x (List.mem_of_getElem? hx)
    rw [tl] at tb
    have big : ∀ j, j < 2 → (strN (mixV c 401 % 1000 + 37 * 60)).cps.toList ≠ (strN j).cps.toList := fun j hj z => by
      have := strN_inj (str_ext z); omega
    have t0 : (strN 0).cps.toList = [48] := by rw [strN_list]; decide +kernel
    have t1 : (strN 1).cps.toList = [49] := by rw [strN_list]; decide +kernel
    rcases tB_of tb (by rw [← t0]; exact big 0 (by decide)) (by rw [← t1]; exact big 1 (by decide)) with z | ⟨y, hy, z⟩
    · rw [strN_list] at z
      exact Nat.toDigits_ne_nil (List.map_eq_nil_iff.mp z)
    · exact z (strN_figs _ y hy)
  · rw [if_neg q] at h
    have e : (sg (abc.cps.toList.getD (mixV c 400 % 26) 0) ++ strN (mixV c 401 % 1000 + 37 * k)).cps.toList = (sg (abc.cps.toList.getD (mixV c 400 % 26) 0) ++ strN (mixV c 401 % 1000 + 37 * 60)).cps.toList := congrArg (fun x : Str => x.cps.toList) h
    rw [app_list, app_list] at e
    have := strN_inj (str_ext (List.append_cancel_left e)); omega
theorem mem_insV {c : Int} {n : Nat} {x : Str} (hn : n ≤ 3) (h : x ∈ insV c n) : ∃ k, k < 40 ∧ x = nameV c k := by
  obtain ⟨k, hk, e⟩ := List.mem_map.mp h
  exact ⟨k, by have := List.mem_range.mp hk; omega, e.symm⟩
theorem drawn_key {c : Int} {x y z : Nat} {ws : Nat → List Str} {at_ : Nat} {ends outs : List Str} (D : Drawn c x y z ws at_ ends outs) {n : Str} (h : n ∈ keysOf (insV c x) (turnL (smV c z ws) at_) ((stsV c y).zip ends)) : ∃ k, k < 40 ∧ n = nameV c k := by
  have h1 := D.hx; have h2 := D.hy; have h3 := D.hz
  unfold keysOf at h
  rcases List.mem_append.mp h with q | q
  · rcases List.mem_append.mp q with q | q
    · exact mem_insV h1 q
    · obtain ⟨p, hp, e⟩ := List.mem_map.mp q
      obtain ⟨k, hk, e2⟩ := List.mem_map.mp (mem_turnL.mp hp)
      exact ⟨22 + k, by have := List.mem_range.mp hk; omega, by rw [← e, ← e2]⟩
  · obtain ⟨p, hp, e⟩ := List.mem_map.mp q
    have := (List.of_mem_zip hp).1
    obtain ⟨k, hk, e2⟩ := List.mem_map.mp this
    exact ⟨6 + k, by have := List.mem_range.mp hk; omega, by rw [← e, ← e2]⟩
theorem len_lits : (Str.ofString "").length < 1000000 ∧ (Str.ofString "A").length < 1000000 := ⟨by rw [len_lit]; decide +kernel, by rw [len_lit]; decide +kernel⟩
theorem not_name {a : List Str} {b : RowsS} {c : RowsE} {d : List Str} (N : NetOk a b c d) : Str.ofString "" ∉ keysOf a b c ∧ Str.ofString "A" ∉ keysOf a b c := by
  refine ⟨fun h => ?_, fun h => ?_⟩
  · have := (N.nm _ h).1
    rw [len_lit] at this
    exact absurd this (by decide +kernel)
  · have := (N.nm _ h).2.2.2 65 (by rw [cps_lit]; decide +kernel)
    omega
theorem aok_one {x : Str} (h : okS x) : aok (An.l [An.s x]) = true := by
  unfold aok SeqAt.shaped
  show ((true && true) && ((PyData.canLay0 (.str x) && true) && decide (PyData.depth (dA (An.l [An.s x])) ≤ 64))) = true
  rw [show PyData.canLay0 (.str x) = true from h]
  have d : PyData.depth (dA (An.l [An.s x])) ≤ 64 := by
    show max 0 0 + 1 ≤ 64
    omega
  rw [decide_eq_true d]; rfl
theorem range_getD {α : Type} (l : List α) (u : α) : (List.range l.length).map (fun k => l.getD k u) = l := by
  apply List.ext_getElem
  · rw [List.length_map, List.length_range]
  · intro i h1 h2
    rw [List.getElem_map, List.getElem_range, List.getD_eq_getElem?_getD, List.getElem?_eq_getElem h2]; rfl
theorem w_law {s : List Int} (hs : s.length ≤ 63) {R : Bool → Prop} (h : R true) : W_law s R := by
  refine w_net (by decide) fun cc x y z ws at_ ends outs ec _ _ D => ?_
  have N := D.ok
  have dk := fun n => drawn_key D (n := n)
  generalize insV cc x = a at N dk
  generalize turnL (smV cc z ws) at_ = b at N dk
  generalize (stsV cc y).zip ends = e at N dk
  have llk : ∀ k, llN k ∉ keysOf a b e := fun k hk => by
    obtain ⟨j, _, e2⟩ := dk _ hk
    have := ll_end (k := k)
    rw [e2, name_lend] at this; cases this
  have fk : nameV cc 60 ∉ keysOf a b e := fun hk => by
    obtain ⟨j, hj, e2⟩ := dk _ hk
    exact far_name hj e2.symm
  refine jn_mid (fun b2 => NetOk a b2 e outs ∧ nameV cc 60 ∉ keysOf a b2 e) (fun K hK => w_cell ?_) fun b2 ⟨N2, f2⟩ => ?_
  · by_cases q : modN (cellV s 0 / ((2 : Nat) : Int)) 8 = 5
    · refine if_yes q (w_ladder N.nb (hK _ ⟨(ldr_ok N (by have := N.nb; omega) llk).rev, fun hk => ?_⟩))
      rcases ldr_key.mp (mem_keys_rev.mp hk) with z | ⟨k, _, z⟩
      · exact fk z
      · have := ll_end (k := k)
        rw [← z, name_lend] at this; cases this
    · exact if_no q (hK _ ⟨N, fk⟩)
  have b40 := N2.nb
  refine ⟨by omega, compW_map (fun p => p.2) (fun p hp kk hk => hk) ⟨by omega, compW_map (fun k => b2.getD k (Str.ofString "", [])) (fun k hk kk hk2 => ?_) ?_⟩⟩
  · have hk3 := List.mem_range.mp hk
    rw [List.getD_eq_getElem?_getD, List.getElem?_eq_getElem hk3] at hk2
    refine ⟨b2[k], List.getElem?_eq_getElem hk3, b2[k], List.getElem?_eq_getElem hk3, b2[k].2, ?_, hk2⟩
    rw [List.getElem?_map, List.getElem?_eq_getElem hk3]; rfl
  rw [range_getD]
  refine w_cell ?_
  have fin : ∀ (o : List Str) (l : List (Str × Bool)), W_cell s 1 fun z8 => W_name z8 60 fun z9 => forW [(An.s z9), (An.s (PySem.Str.ofString "")), (An.s (PySem.Str.ofString "A")), An.n, (An.i ((7 : Nat) : Int)), (An.l (([] : List (List An)).map (fun xs => An.l (xs.map (fun x : An => x))))), (An.b true)] () (fun thing1 _ nx3 bk2 => W_missing (allOf a b2 e, outs, o, l) thing1 fun z10 => if z10 = true then (nx3 ()) else (R false)) fun _ => R true := fun o l => by
    refine w_cell ?_
    rw [← ec]
    refine w_name (by decide) (forW_unit (fun t ht nx bk hn => ?_) h)
    have n60 := nameV_isN (c := cc) (k := 60) (by decide)
    have sl : ∀ {u : Str}, u.length < 1000000 → u ∉ keysOf a b2 e → ∀ t, An.s u = An.s t → t.length < 1000000 ∧ t ∉ keysOf a b2 e := fun h1 h2 t e1 => by cases e1; exact ⟨h1, h2⟩
    simp only [List.mem_cons, List.not_mem_nil, or_false] at ht
    rcases ht with q | q | q | q | q | q | q <;> subst q
    · exact w_missing (fun T z => by cases z) (sl (by have := n60.2.1; omega) f2) (aok_one (isN_okS n60)) (bT hn)
    · exact w_missing (fun T z => by cases z) (sl len_lits.1 (not_name N2).1) (aok_one (show PyData.canLay0 (.str _) = true by decide +kernel)) (bT hn)
    · exact w_missing (fun T z => by cases z) (sl len_lits.2 (not_name N2).2) (aok_one (show PyData.canLay0 (.str _) = true by decide +kernel)) (bT hn)
    · exact w_missing (fun T z => by cases z) (fun t z => by cases z) (by decide +kernel) (bT hn)
    · exact w_missing (fun T z => by cases z) (fun t z => by cases z) (by decide +kernel) (bT hn)
    · exact w_missing (fun T z => by cases z) (fun t z => by cases z) (by decide +kernel) (bT hn)
    · exact w_missing (fun T z => by cases z) (fun t z => by cases z) (by decide +kernel) (bT hn)
  by_cases q : modN (cellV s 0) 2 = 1
  · refine if_yes q ⟨by omega, compW_map (fun p => p) (fun p hp kk hk => hk) ?_⟩
    rw [List.map_id']
    exact w_net_init N2 fun o l O => ⟨by rw [List.length_map]; omega, tail_good N2 O (fin o l)⟩
  · exact if_no q (w_net_init N2 fun o l O => ⟨by rw [List.length_map]; omega, tail_good N2 O (fin o l)⟩)
end My
namespace My
open PySem L2 Wk
theorem all_mk {l : PySem.W.OpenLaw} {w : World} {K : PySem.W.Frag} {h : Heap} {mg : Str → Option Value} {fa f_Wire___init__ f_Wire_needs f_InWire___init__ f_InWire_kind f_InWire_bit f_InWire_hang f_SumWire___init__ f_SumWire_kind f_SumWire_needs f_SumWire_bit f_SumWire_hang f_StoreWire___init__ f_StoreWire_kind f_StoreWire_bit f_StoreWire_hang f_is_name f_NoWire___init__ f_need_sizes f_Net_put_in f_Net_of_kind f_Net_readings f_Net_wire_of f_Net_lay_out f_Net___init__ f_Net_in_names f_Net_sum_rows f_Net_store_rows f_Net_out_wires f_Net_wire_names f_Net_order f_Net_told f_cell f_mix f_name f_wires f_net f_told f_ladder f_missing f_wires_good f_order_good f_good f_law C_InWire C_SumWire C_StoreWire C_Net C_WireError C_NoWire C_Wire : Addr} (X : K.In h) (G : h.Ns mainGlobals mg) (hfa : mg "law" = some (.ref fa))
    {oc_Wire___init__ kV_Wire___init__ dc_Wire___init__ pm_Wire___init__ cd_Wire___init__ ct_Wire___init__ : Value} {od_Wire___init__ an_Wire___init__ : Option Addr} {sl_Wire___init__ : Array (Option Value)} {oc_Wire_needs kV_Wire_needs dc_Wire_needs pm_Wire_needs cd_Wire_needs ct_Wire_needs : Value} {od_Wire_needs an_Wire_needs : Option Addr} {sl_Wire_needs : Array (Option Value)} {oc_InWire___init__ kV_InWire___init__ dc_InWire___init__ pm_InWire___init__ cd_InWire___init__ ct_InWire___init__ : Value} {od_InWire___init__ an_InWire___init__ : Option Addr} {sl_InWire___init__ : Array (Option Value)} {oc_InWire_kind kV_InWire_kind dc_InWire_kind pm_InWire_kind cd_InWire_kind ct_InWire_kind : Value} {od_InWire_kind an_InWire_kind : Option Addr} {sl_InWire_kind : Array (Option Value)} {oc_InWire_bit kV_InWire_bit dc_InWire_bit pm_InWire_bit cd_InWire_bit ct_InWire_bit : Value} {od_InWire_bit an_InWire_bit : Option Addr} {sl_InWire_bit : Array (Option Value)} {oc_InWire_hang kV_InWire_hang dc_InWire_hang pm_InWire_hang cd_InWire_hang ct_InWire_hang : Value} {od_InWire_hang an_InWire_hang : Option Addr} {sl_InWire_hang : Array (Option Value)} {oc_SumWire___init__ kV_SumWire___init__ dc_SumWire___init__ pm_SumWire___init__ cd_SumWire___init__ ct_SumWire___init__ : Value} {od_SumWire___init__ an_SumWire___init__ : Option Addr} {sl_SumWire___init__ : Array (Option Value)} {oc_SumWire_kind kV_SumWire_kind dc_SumWire_kind pm_SumWire_kind cd_SumWire_kind ct_SumWire_kind : Value} {od_SumWire_kind an_SumWire_kind : Option Addr} {sl_SumWire_kind : Array (Option Value)} {oc_SumWire_needs kV_SumWire_needs dc_SumWire_needs pm_SumWire_needs cd_SumWire_needs ct_SumWire_needs : Value} {od_SumWire_needs an_SumWire_needs : Option Addr} {sl_SumWire_needs : Array (Option Value)} {oc_SumWire_bit kV_SumWire_bit dc_SumWire_bit pm_SumWire_bit cd_SumWire_bit ct_SumWire_bit : Value} {od_SumWire_bit an_SumWire_bit : Option Addr} {sl_SumWire_bit : Array (Option Value)} {oc_SumWire_hang kV_SumWire_hang dc_SumWire_hang pm_SumWire_hang cd_SumWire_hang ct_SumWire_hang : Value} {od_SumWire_hang an_SumWire_hang : Option Addr} {sl_SumWire_hang : Array (Option Value)} {oc_StoreWire___init__ kV_StoreWire___init__ dc_StoreWire___init__ pm_StoreWire___init__ cd_StoreWire___init__ ct_StoreWire___init__ : Value} {od_StoreWire___init__ an_StoreWire___init__ : Option Addr} {sl_StoreWire___init__ : Array (Option Value)} {oc_StoreWire_kind kV_StoreWire_kind dc_StoreWire_kind pm_StoreWire_kind cd_StoreWire_kind ct_StoreWire_kind : Value} {od_StoreWire_kind an_StoreWire_kind : Option Addr} {sl_StoreWire_kind : Array (Option Value)} {oc_StoreWire_bit kV_StoreWire_bit dc_StoreWire_bit pm_StoreWire_bit cd_StoreWire_bit ct_StoreWire_bit : Value} {od_StoreWire_bit an_StoreWire_bit : Option Addr} {sl_StoreWire_bit : Array (Option Value)} {oc_StoreWire_hang kV_StoreWire_hang dc_StoreWire_hang pm_StoreWire_hang cd_StoreWire_hang ct_StoreWire_hang : Value} {od_StoreWire_hang an_StoreWire_hang : Option Addr} {sl_StoreWire_hang : Array (Option Value)} {oc_is_name kV_is_name dc_is_name pm_is_name cd_is_name ct_is_name : Value} {od_is_name an_is_name : Option Addr} {sl_is_name : Array (Option Value)} {oc_NoWire___init__ kV_NoWire___init__ dc_NoWire___init__ pm_NoWire___init__ cd_NoWire___init__ ct_NoWire___init__ : Value} {od_NoWire___init__ an_NoWire___init__ : Option Addr} {sl_NoWire___init__ : Array (Option Value)} {oc_need_sizes kV_need_sizes dc_need_sizes pm_need_sizes cd_need_sizes ct_need_sizes : Value} {od_need_sizes an_need_sizes : Option Addr} {sl_need_sizes : Array (Option Value)} {oc_Net_put_in kV_Net_put_in dc_Net_put_in pm_Net_put_in cd_Net_put_in ct_Net_put_in : Value} {od_Net_put_in an_Net_put_in : Option Addr} {sl_Net_put_in : Array (Option Value)} {oc_Net_of_kind kV_Net_of_kind dc_Net_of_kind pm_Net_of_kind cd_Net_of_kind ct_Net_of_kind : Value} {od_Net_of_kind an_Net_of_kind : Option Addr} {sl_Net_of_kind : Array (Option Value)} {oc_Net_readings kV_Net_readings dc_Net_readings pm_Net_readings cd_Net_readings ct_Net_readings : Value} {od_Net_readings an_Net_readings : Option Addr} {sl_Net_readings : Array (Option Value)} {oc_Net_wire_of kV_Net_wire_of dc_Net_wire_of pm_Net_wire_of cd_Net_wire_of ct_Net_wire_of : Value} {od_Net_wire_of an_Net_wire_of : Option Addr} {sl_Net_wire_of : Array (Option Value)} {oc_Net_lay_out kV_Net_lay_out dc_Net_lay_out pm_Net_lay_out cd_Net_lay_out ct_Net_lay_out : Value} {od_Net_lay_out an_Net_lay_out : Option Addr} {sl_Net_lay_out : Array (Option Value)} {oc_Net___init__ kV_Net___init__ dc_Net___init__ pm_Net___init__ cd_Net___init__ ct_Net___init__ : Value} {od_Net___init__ an_Net___init__ : Option Addr} {sl_Net___init__ : Array (Option Value)} {oc_Net_in_names kV_Net_in_names dc_Net_in_names pm_Net_in_names cd_Net_in_names ct_Net_in_names : Value} {od_Net_in_names an_Net_in_names : Option Addr} {sl_Net_in_names : Array (Option Value)} {oc_Net_sum_rows kV_Net_sum_rows dc_Net_sum_rows pm_Net_sum_rows cd_Net_sum_rows ct_Net_sum_rows : Value} {od_Net_sum_rows an_Net_sum_rows : Option Addr} {sl_Net_sum_rows : Array (Option Value)} {oc_Net_store_rows kV_Net_store_rows dc_Net_store_rows pm_Net_store_rows cd_Net_store_rows ct_Net_store_rows : Value} {od_Net_store_rows an_Net_store_rows : Option Addr} {sl_Net_store_rows : Array (Option Value)} {oc_Net_out_wires kV_Net_out_wires dc_Net_out_wires pm_Net_out_wires cd_Net_out_wires ct_Net_out_wires : Value} {od_Net_out_wires an_Net_out_wires : Option Addr} {sl_Net_out_wires : Array (Option Value)} {oc_Net_wire_names kV_Net_wire_names dc_Net_wire_names pm_Net_wire_names cd_Net_wire_names ct_Net_wire_names : Value} {od_Net_wire_names an_Net_wire_names : Option Addr} {sl_Net_wire_names : Array (Option Value)} {oc_Net_order kV_Net_order dc_Net_order pm_Net_order cd_Net_order ct_Net_order : Value} {od_Net_order an_Net_order : Option Addr} {sl_Net_order : Array (Option Value)} {oc_Net_told kV_Net_told dc_Net_told pm_Net_told cd_Net_told ct_Net_told : Value} {od_Net_told an_Net_told : Option Addr} {sl_Net_told : Array (Option Value)} {oc_cell kV_cell dc_cell pm_cell cd_cell ct_cell : Value} {od_cell an_cell : Option Addr} {sl_cell : Array (Option Value)} {oc_mix kV_mix dc_mix pm_mix cd_mix ct_mix : Value} {od_mix an_mix : Option Addr} {sl_mix : Array (Option Value)} {oc_name kV_name dc_name pm_name cd_name ct_name : Value} {od_name an_name : Option Addr} {sl_name : Array (Option Value)} {oc_wires kV_wires dc_wires pm_wires cd_wires ct_wires : Value} {od_wires an_wires : Option Addr} {sl_wires : Array (Option Value)} {oc_net kV_net dc_net pm_net cd_net ct_net : Value} {od_net an_net : Option Addr} {sl_net : Array (Option Value)} {oc_told kV_told dc_told pm_told cd_told ct_told : Value} {od_told an_told : Option Addr} {sl_told : Array (Option Value)} {oc_ladder kV_ladder dc_ladder pm_ladder cd_ladder ct_ladder : Value} {od_ladder an_ladder : Option Addr} {sl_ladder : Array (Option Value)} {oc_missing kV_missing dc_missing pm_missing cd_missing ct_missing : Value} {od_missing an_missing : Option Addr} {sl_missing : Array (Option Value)} {oc_wires_good kV_wires_good dc_wires_good pm_wires_good cd_wires_good ct_wires_good : Value} {od_wires_good an_wires_good : Option Addr} {sl_wires_good : Array (Option Value)} {oc_order_good kV_order_good dc_order_good pm_order_good cd_order_good ct_order_good : Value} {od_order_good an_order_good : Option Addr} {sl_order_good : Array (Option Value)} {oc_good kV_good dc_good pm_good cd_good ct_good : Value} {od_good an_good : Option Addr} {sl_good : Array (Option Value)} {oc_law kV_law dc_law pm_law cd_law ct_law : Value} {od_law an_law : Option Addr} {sl_law : Array (Option Value)}
    (aC_InWire : PySem.W.nsIn K mainGlobals "InWire" = some (some (.ref C_InWire))) (pg_InWire : PySem.W.plainGet K C_InWire Str.empty = true) (hd_InWire : PySem.W.hasDictIn K C_InWire = true) (po_InWire : PySem.W.plainOver K C_InWire = true) (sa_InWire : PySem.W.findIn K (.ref C_InWire) "__setattr__" = some (some (.builtin "object.__setattr__"))) (mk_InWire : PySem.W.makesIn K C_InWire = true) (kc_InWire : PySem.W.keepIn K (.ref C_InWire) = true)
    (na_InWire_name : PySem.W.findIn K (.ref C_InWire) "name" = some none)
    (na_InWire_number : PySem.W.findIn K (.ref C_InWire) "number" = some none)
    (aC_SumWire : PySem.W.nsIn K mainGlobals "SumWire" = some (some (.ref C_SumWire))) (pg_SumWire : PySem.W.plainGet K C_SumWire Str.empty = true) (hd_SumWire : PySem.W.hasDictIn K C_SumWire = true) (po_SumWire : PySem.W.plainOver K C_SumWire = true) (sa_SumWire : PySem.W.findIn K (.ref C_SumWire) "__setattr__" = some (some (.builtin "object.__setattr__"))) (mk_SumWire : PySem.W.makesIn K C_SumWire = true) (kc_SumWire : PySem.W.keepIn K (.ref C_SumWire) = true)
    (na_SumWire_name : PySem.W.findIn K (.ref C_SumWire) "name" = some none)
    (na_SumWire_wires : PySem.W.findIn K (.ref C_SumWire) "wires" = some none)
    (aC_StoreWire : PySem.W.nsIn K mainGlobals "StoreWire" = some (some (.ref C_StoreWire))) (pg_StoreWire : PySem.W.plainGet K C_StoreWire Str.empty = true) (hd_StoreWire : PySem.W.hasDictIn K C_StoreWire = true) (po_StoreWire : PySem.W.plainOver K C_StoreWire = true) (sa_StoreWire : PySem.W.findIn K (.ref C_StoreWire) "__setattr__" = some (some (.builtin "object.__setattr__"))) (mk_StoreWire : PySem.W.makesIn K C_StoreWire = true) (kc_StoreWire : PySem.W.keepIn K (.ref C_StoreWire) = true)
    (na_StoreWire_name : PySem.W.findIn K (.ref C_StoreWire) "name" = some none)
    (na_StoreWire_wire : PySem.W.findIn K (.ref C_StoreWire) "wire" = some none)
    (na_StoreWire_number : PySem.W.findIn K (.ref C_StoreWire) "number" = some none)
    (aC_Net : PySem.W.nsIn K mainGlobals "Net" = some (some (.ref C_Net))) (pg_Net : PySem.W.plainGet K C_Net Str.empty = true) (hd_Net : PySem.W.hasDictIn K C_Net = true) (po_Net : PySem.W.plainOver K C_Net = true) (sa_Net : PySem.W.findIn K (.ref C_Net) "__setattr__" = some (some (.builtin "object.__setattr__"))) (mk_Net : PySem.W.makesIn K C_Net = true) (kc_Net : PySem.W.keepIn K (.ref C_Net) = true)
    (na_Net_all : PySem.W.findIn K (.ref C_Net) "all" = some none)
    (na_Net_ends : PySem.W.findIn K (.ref C_Net) "ends" = some none)
    (na_Net_line_up : PySem.W.findIn K (.ref C_Net) "line_up" = some none)
    (na_Net_laid : PySem.W.findIn K (.ref C_Net) "laid" = some none)
    (aC_WireError : PySem.W.nsIn K mainGlobals "WireError" = some (some (.ref C_WireError))) (xX_WireError : PySem.W.excIn K C_WireError [.type "ValueError", .type "Exception", .type "BaseException", .type "object"] "ValueError.__new__" = true) (kX_WireError : PySem.W.keepIn K (.ref C_WireError) = true) (bX_WireError : PySem.W.subIn K (.ref C_WireError) (.type "BaseException") = some true) (tX_WireError : PySem.W.typeIn K (.ref C_WireError) = some (.type "type")) (iX_WireError : PySem.W.isClsIn K C_WireError = true)
    {nm_NoWire q_NoWire : Str} {N_NoWire : Addr} {bs_NoWire bm_NoWire : List Value} {sn_NoWire : List Str} {sub_NoWire : List Value} {ab_NoWire : Bool} {col_NoWire : Option Bool} {dd_NoWire : Option Addr} {k0_NoWire k1_NoWire k2_NoWire k3_NoWire k5_NoWire : Option Value}
    (aC_NoWire : PySem.W.nsIn K mainGlobals "NoWire" = some (some (.ref C_NoWire))) (lx_NoWire : K.lookup C_NoWire = some (excClassObj nm_NoWire q_NoWire C_NoWire N_NoWire bs_NoWire bm_NoWire true sn_NoWire sub_NoWire ab_NoWire col_NoWire dd_NoWire k0_NoWire k1_NoWire k2_NoWire k3_NoWire k5_NoWire "ValueError.__new__")) (rv_NoWire : PySem.HandSPX.refsVE bm_NoWire = true)
    (kX_NoWire : PySem.W.keepIn K (.ref C_NoWire) = true) (bX_NoWire : PySem.W.subIn K (.ref C_NoWire) (.type "BaseException") = some true) (tX_NoWire : PySem.W.typeIn K (.ref C_NoWire) = some (.type "type")) (iX_NoWire : PySem.W.isClsIn K C_NoWire = true)
    (sa_NoWire : PySem.W.findIn K (.ref C_NoWire) "__setattr__" = some (some (.builtin "object.__setattr__"))) (xga_NoWire : PySem.W.findIn K (.ref C_NoWire) "__getattribute__" = some (some (.builtin "BaseException.__getattribute__"))) (xgg_NoWire : PySem.W.findIn K (.ref C_NoWire) "__getattr__" = some none) (xhd_NoWire : PySem.W.hasDictIn K C_NoWire = true) (xno_NoWire : PySem.W.findIn K (.ref C_NoWire) "name" = some none)
    (xrd : PySem.W.readsIn K C_WireError (.type "type") = true) (xrga : PySem.W.specialIn K (.ref C_WireError) "__getattribute__" = some (some (.builtin "type.__getattribute__"))) (xrv : PySem.W.findCls K (.ref C_WireError) (.type "type") "__init__" = some (.val (.builtin "ValueError.__init__")))
    (aC_Wire : PySem.W.nsIn K mainGlobals "Wire" = some (some (.ref C_Wire))) (rd_Wire : PySem.W.readsIn K C_Wire (.type "type") = true) (ga_Wire : PySem.W.specialIn K (.ref C_Wire) "__getattribute__" = some (some (.builtin "type.__getattribute__")))
    (iX_InWire : PySem.W.isClsIn K C_InWire = true) (tX_InWire : PySem.W.typeIn K (.ref C_InWire) = some (.type "type"))
    (iX_StoreWire : PySem.W.isClsIn K C_StoreWire = true) (tX_StoreWire : PySem.W.typeIn K (.ref C_StoreWire) = some (.type "type"))
    (iX_SumWire : PySem.W.isClsIn K C_SumWire = true) (tX_SumWire : PySem.W.typeIn K (.ref C_SumWire) = some (.type "type"))
    (iX_Wire : PySem.W.isClsIn K C_Wire = true) (tX_Wire : PySem.W.typeIn K (.ref C_Wire) = some (.type "type"))
    {t_MOST_INS : Tok} (u_MOST_INS : PySem.W.nsIn K mainGlobals "MOST_INS" = some (some (.int 6 t_MOST_INS)))
    {t_MOST_OUTS : Tok} (u_MOST_OUTS : PySem.W.nsIn K mainGlobals "MOST_OUTS" = some (some (.int 6 t_MOST_OUTS)))
    {t_MOST_STORES : Tok} (u_MOST_STORES : PySem.W.nsIn K mainGlobals "MOST_STORES" = some (some (.int 16 t_MOST_STORES)))
    {t_MOST_SUMS : Tok} (u_MOST_SUMS : PySem.W.nsIn K mainGlobals "MOST_SUMS" = some (some (.int 40 t_MOST_SUMS)))
    {t_MOST_WIRES : Tok} (u_MOST_WIRES : PySem.W.nsIn K mainGlobals "MOST_WIRES" = some (some (.int 24 t_MOST_WIRES)))
    {t_FIGURES : Tok} (u_FIGURES : PySem.W.nsIn K mainGlobals "FIGURES" = some (some (.str (PySem.Str.ofString "0123456789") t_FIGURES)))
    {t_LETTERS : Tok} (u_LETTERS : PySem.W.nsIn K mainGlobals "LETTERS" = some (some (.str (PySem.Str.ofString "abcdefghijklmnopqrstuvwxyz") t_LETTERS)))
    (ea_InWire : PySem.W.findIn K (.ref C_InWire) "__class__" = some (some (.builtin "object.__class__"))) (em_InWire : PySem.W.mroIn K C_InWire (.type "object") = some true)
    (ea_StoreWire : PySem.W.findIn K (.ref C_StoreWire) "__class__" = some (some (.builtin "object.__class__"))) (em_StoreWire : PySem.W.mroIn K C_StoreWire (.type "object") = some true)
    (ea_SumWire : PySem.W.findIn K (.ref C_SumWire) "__class__" = some (some (.builtin "object.__class__"))) (em_SumWire : PySem.W.mroIn K C_SumWire (.type "object") = some true)
    (eN : PySem.W.specialIn K (.builtin "object.__class__") "__get__" = some (some (.builtin "getset_descriptor.__get__"))) (eT : PySem.W.takesIn K (.builtin "object.__class__") = some true)
    (sX_InWire_InWire : PySem.W.subIn K (.ref C_InWire) (.ref C_InWire) = some true)
    (sX_InWire_StoreWire : PySem.W.subIn K (.ref C_InWire) (.ref C_StoreWire) = some false)
    (sX_InWire_SumWire : PySem.W.subIn K (.ref C_InWire) (.ref C_SumWire) = some false)
    (sX_InWire_Wire : PySem.W.subIn K (.ref C_InWire) (.ref C_Wire) = some true)
    (sX_NoWire_NoWire : PySem.W.subIn K (.ref C_NoWire) (.ref C_NoWire) = some true)
    (sX_StoreWire_InWire : PySem.W.subIn K (.ref C_StoreWire) (.ref C_InWire) = some false)
    (sX_StoreWire_StoreWire : PySem.W.subIn K (.ref C_StoreWire) (.ref C_StoreWire) = some true)
    (sX_StoreWire_SumWire : PySem.W.subIn K (.ref C_StoreWire) (.ref C_SumWire) = some false)
    (sX_StoreWire_Wire : PySem.W.subIn K (.ref C_StoreWire) (.ref C_Wire) = some true)
    (sX_SumWire_InWire : PySem.W.subIn K (.ref C_SumWire) (.ref C_InWire) = some false)
    (sX_SumWire_StoreWire : PySem.W.subIn K (.ref C_SumWire) (.ref C_StoreWire) = some false)
    (sX_SumWire_SumWire : PySem.W.subIn K (.ref C_SumWire) (.ref C_SumWire) = some true)
    (sX_SumWire_Wire : PySem.W.subIn K (.ref C_SumWire) (.ref C_Wire) = some true)
    (a_Wire___init__ : PySem.W.findCls K (.ref C_Wire) (.type "type") "__init__" = some (.val (.ref f_Wire___init__))) (i_Wire___init__ : PySem.W.isFn K (.ref f_Wire___init__) = true)
    (l_Wire___init__ : K.lookup f_Wire___init__ = some ⟨oc_Wire___init__, od_Wire___init__, .func (PySem.W.fnOf "__init__" "Wire.__init__" (defArgs s_Wire___init__) (defBody s_Wire___init__) (defScope s_Wire___init__) .none kV_Wire___init__ dc_Wire___init__ pm_Wire___init__ an_Wire___init__ cd_Wire___init__ ct_Wire___init__), sl_Wire___init__⟩) (c_Wire___init__ : PySem.W.codeIn K cd_Wire___init__ "Wire.__init__" = true) (k_Wire___init__ : PySem.W.keepIn K (.ref f_Wire___init__) = true)
    (a_Wire_needs_InWire : PySem.W.findIn K (.ref C_InWire) "needs" = some (some (.ref f_Wire_needs)))
    (a_Wire_needs_StoreWire : PySem.W.findIn K (.ref C_StoreWire) "needs" = some (some (.ref f_Wire_needs)))
    (i_Wire_needs : PySem.W.isFn K (.ref f_Wire_needs) = true)
    (l_Wire_needs : K.lookup f_Wire_needs = some ⟨oc_Wire_needs, od_Wire_needs, .func (PySem.W.fnOf "needs" "Wire.needs" (defArgs s_Wire_needs) (defBody s_Wire_needs) (defScope s_Wire_needs) .none kV_Wire_needs dc_Wire_needs pm_Wire_needs an_Wire_needs cd_Wire_needs ct_Wire_needs), sl_Wire_needs⟩) (c_Wire_needs : PySem.W.codeIn K cd_Wire_needs "Wire.needs" = true) (k_Wire_needs : PySem.W.keepIn K (.ref f_Wire_needs) = true)
    (a_InWire___init__ : PySem.W.findIn K (.ref C_InWire) "__init__" = some (some (.ref f_InWire___init__))) (i_InWire___init__ : PySem.W.isFn K (.ref f_InWire___init__) = true)
    (l_InWire___init__ : K.lookup f_InWire___init__ = some ⟨oc_InWire___init__, od_InWire___init__, .func (PySem.W.fnOf "__init__" "InWire.__init__" (defArgs s_InWire___init__) (defBody s_InWire___init__) (defScope s_InWire___init__) .none kV_InWire___init__ dc_InWire___init__ pm_InWire___init__ an_InWire___init__ cd_InWire___init__ ct_InWire___init__), sl_InWire___init__⟩) (c_InWire___init__ : PySem.W.codeIn K cd_InWire___init__ "InWire.__init__" = true) (k_InWire___init__ : PySem.W.keepIn K (.ref f_InWire___init__) = true)
    (a_InWire_kind : PySem.W.findIn K (.ref C_InWire) "kind" = some (some (.ref f_InWire_kind))) (i_InWire_kind : PySem.W.isFn K (.ref f_InWire_kind) = true)
    (l_InWire_kind : K.lookup f_InWire_kind = some ⟨oc_InWire_kind, od_InWire_kind, .func (PySem.W.fnOf "kind" "InWire.kind" (defArgs s_InWire_kind) (defBody s_InWire_kind) (defScope s_InWire_kind) .none kV_InWire_kind dc_InWire_kind pm_InWire_kind an_InWire_kind cd_InWire_kind ct_InWire_kind), sl_InWire_kind⟩) (c_InWire_kind : PySem.W.codeIn K cd_InWire_kind "InWire.kind" = true) (k_InWire_kind : PySem.W.keepIn K (.ref f_InWire_kind) = true)
    (a_InWire_bit : PySem.W.findIn K (.ref C_InWire) "bit" = some (some (.ref f_InWire_bit))) (i_InWire_bit : PySem.W.isFn K (.ref f_InWire_bit) = true)
    (l_InWire_bit : K.lookup f_InWire_bit = some ⟨oc_InWire_bit, od_InWire_bit, .func (PySem.W.fnOf "bit" "InWire.bit" (defArgs s_InWire_bit) (defBody s_InWire_bit) (defScope s_InWire_bit) .none kV_InWire_bit dc_InWire_bit pm_InWire_bit an_InWire_bit cd_InWire_bit ct_InWire_bit), sl_InWire_bit⟩) (c_InWire_bit : PySem.W.codeIn K cd_InWire_bit "InWire.bit" = true) (k_InWire_bit : PySem.W.keepIn K (.ref f_InWire_bit) = true)
    (a_InWire_hang : PySem.W.findIn K (.ref C_InWire) "hang" = some (some (.ref f_InWire_hang))) (i_InWire_hang : PySem.W.isFn K (.ref f_InWire_hang) = true)
    (l_InWire_hang : K.lookup f_InWire_hang = some ⟨oc_InWire_hang, od_InWire_hang, .func (PySem.W.fnOf "hang" "InWire.hang" (defArgs s_InWire_hang) (defBody s_InWire_hang) (defScope s_InWire_hang) .none kV_InWire_hang dc_InWire_hang pm_InWire_hang an_InWire_hang cd_InWire_hang ct_InWire_hang), sl_InWire_hang⟩) (c_InWire_hang : PySem.W.codeIn K cd_InWire_hang "InWire.hang" = true) (k_InWire_hang : PySem.W.keepIn K (.ref f_InWire_hang) = true)
    (a_SumWire___init__ : PySem.W.findIn K (.ref C_SumWire) "__init__" = some (some (.ref f_SumWire___init__))) (i_SumWire___init__ : PySem.W.isFn K (.ref f_SumWire___init__) = true)
    (l_SumWire___init__ : K.lookup f_SumWire___init__ = some ⟨oc_SumWire___init__, od_SumWire___init__, .func (PySem.W.fnOf "__init__" "SumWire.__init__" (defArgs s_SumWire___init__) (defBody s_SumWire___init__) (defScope s_SumWire___init__) .none kV_SumWire___init__ dc_SumWire___init__ pm_SumWire___init__ an_SumWire___init__ cd_SumWire___init__ ct_SumWire___init__), sl_SumWire___init__⟩) (c_SumWire___init__ : PySem.W.codeIn K cd_SumWire___init__ "SumWire.__init__" = true) (k_SumWire___init__ : PySem.W.keepIn K (.ref f_SumWire___init__) = true)
    (a_SumWire_kind : PySem.W.findIn K (.ref C_SumWire) "kind" = some (some (.ref f_SumWire_kind))) (i_SumWire_kind : PySem.W.isFn K (.ref f_SumWire_kind) = true)
    (l_SumWire_kind : K.lookup f_SumWire_kind = some ⟨oc_SumWire_kind, od_SumWire_kind, .func (PySem.W.fnOf "kind" "SumWire.kind" (defArgs s_SumWire_kind) (defBody s_SumWire_kind) (defScope s_SumWire_kind) .none kV_SumWire_kind dc_SumWire_kind pm_SumWire_kind an_SumWire_kind cd_SumWire_kind ct_SumWire_kind), sl_SumWire_kind⟩) (c_SumWire_kind : PySem.W.codeIn K cd_SumWire_kind "SumWire.kind" = true) (k_SumWire_kind : PySem.W.keepIn K (.ref f_SumWire_kind) = true)
    (a_SumWire_needs : PySem.W.findIn K (.ref C_SumWire) "needs" = some (some (.ref f_SumWire_needs))) (i_SumWire_needs : PySem.W.isFn K (.ref f_SumWire_needs) = true)
    (l_SumWire_needs : K.lookup f_SumWire_needs = some ⟨oc_SumWire_needs, od_SumWire_needs, .func (PySem.W.fnOf "needs" "SumWire.needs" (defArgs s_SumWire_needs) (defBody s_SumWire_needs) (defScope s_SumWire_needs) .none kV_SumWire_needs dc_SumWire_needs pm_SumWire_needs an_SumWire_needs cd_SumWire_needs ct_SumWire_needs), sl_SumWire_needs⟩) (c_SumWire_needs : PySem.W.codeIn K cd_SumWire_needs "SumWire.needs" = true) (k_SumWire_needs : PySem.W.keepIn K (.ref f_SumWire_needs) = true)
    (a_SumWire_bit : PySem.W.findIn K (.ref C_SumWire) "bit" = some (some (.ref f_SumWire_bit))) (i_SumWire_bit : PySem.W.isFn K (.ref f_SumWire_bit) = true)
    (l_SumWire_bit : K.lookup f_SumWire_bit = some ⟨oc_SumWire_bit, od_SumWire_bit, .func (PySem.W.fnOf "bit" "SumWire.bit" (defArgs s_SumWire_bit) (defBody s_SumWire_bit) (defScope s_SumWire_bit) .none kV_SumWire_bit dc_SumWire_bit pm_SumWire_bit an_SumWire_bit cd_SumWire_bit ct_SumWire_bit), sl_SumWire_bit⟩) (c_SumWire_bit : PySem.W.codeIn K cd_SumWire_bit "SumWire.bit" = true) (k_SumWire_bit : PySem.W.keepIn K (.ref f_SumWire_bit) = true)
    (a_SumWire_hang : PySem.W.findIn K (.ref C_SumWire) "hang" = some (some (.ref f_SumWire_hang))) (i_SumWire_hang : PySem.W.isFn K (.ref f_SumWire_hang) = true)
    (l_SumWire_hang : K.lookup f_SumWire_hang = some ⟨oc_SumWire_hang, od_SumWire_hang, .func (PySem.W.fnOf "hang" "SumWire.hang" (defArgs s_SumWire_hang) (defBody s_SumWire_hang) (defScope s_SumWire_hang) .none kV_SumWire_hang dc_SumWire_hang pm_SumWire_hang an_SumWire_hang cd_SumWire_hang ct_SumWire_hang), sl_SumWire_hang⟩) (c_SumWire_hang : PySem.W.codeIn K cd_SumWire_hang "SumWire.hang" = true) (k_SumWire_hang : PySem.W.keepIn K (.ref f_SumWire_hang) = true)
    (a_StoreWire___init__ : PySem.W.findIn K (.ref C_StoreWire) "__init__" = some (some (.ref f_StoreWire___init__))) (i_StoreWire___init__ : PySem.W.isFn K (.ref f_StoreWire___init__) = true)
    (l_StoreWire___init__ : K.lookup f_StoreWire___init__ = some ⟨oc_StoreWire___init__, od_StoreWire___init__, .func (PySem.W.fnOf "__init__" "StoreWire.__init__" (defArgs s_StoreWire___init__) (defBody s_StoreWire___init__) (defScope s_StoreWire___init__) .none kV_StoreWire___init__ dc_StoreWire___init__ pm_StoreWire___init__ an_StoreWire___init__ cd_StoreWire___init__ ct_StoreWire___init__), sl_StoreWire___init__⟩) (c_StoreWire___init__ : PySem.W.codeIn K cd_StoreWire___init__ "StoreWire.__init__" = true) (k_StoreWire___init__ : PySem.W.keepIn K (.ref f_StoreWire___init__) = true)
    (a_StoreWire_kind : PySem.W.findIn K (.ref C_StoreWire) "kind" = some (some (.ref f_StoreWire_kind))) (i_StoreWire_kind : PySem.W.isFn K (.ref f_StoreWire_kind) = true)
    (l_StoreWire_kind : K.lookup f_StoreWire_kind = some ⟨oc_StoreWire_kind, od_StoreWire_kind, .func (PySem.W.fnOf "kind" "StoreWire.kind" (defArgs s_StoreWire_kind) (defBody s_StoreWire_kind) (defScope s_StoreWire_kind) .none kV_StoreWire_kind dc_StoreWire_kind pm_StoreWire_kind an_StoreWire_kind cd_StoreWire_kind ct_StoreWire_kind), sl_StoreWire_kind⟩) (c_StoreWire_kind : PySem.W.codeIn K cd_StoreWire_kind "StoreWire.kind" = true) (k_StoreWire_kind : PySem.W.keepIn K (.ref f_StoreWire_kind) = true)
    (a_StoreWire_bit : PySem.W.findIn K (.ref C_StoreWire) "bit" = some (some (.ref f_StoreWire_bit))) (i_StoreWire_bit : PySem.W.isFn K (.ref f_StoreWire_bit) = true)
    (l_StoreWire_bit : K.lookup f_StoreWire_bit = some ⟨oc_StoreWire_bit, od_StoreWire_bit, .func (PySem.W.fnOf "bit" "StoreWire.bit" (defArgs s_StoreWire_bit) (defBody s_StoreWire_bit) (defScope s_StoreWire_bit) .none kV_StoreWire_bit dc_StoreWire_bit pm_StoreWire_bit an_StoreWire_bit cd_StoreWire_bit ct_StoreWire_bit), sl_StoreWire_bit⟩) (c_StoreWire_bit : PySem.W.codeIn K cd_StoreWire_bit "StoreWire.bit" = true) (k_StoreWire_bit : PySem.W.keepIn K (.ref f_StoreWire_bit) = true)
    (a_StoreWire_hang : PySem.W.findIn K (.ref C_StoreWire) "hang" = some (some (.ref f_StoreWire_hang))) (i_StoreWire_hang : PySem.W.isFn K (.ref f_StoreWire_hang) = true)
    (l_StoreWire_hang : K.lookup f_StoreWire_hang = some ⟨oc_StoreWire_hang, od_StoreWire_hang, .func (PySem.W.fnOf "hang" "StoreWire.hang" (defArgs s_StoreWire_hang) (defBody s_StoreWire_hang) (defScope s_StoreWire_hang) .none kV_StoreWire_hang dc_StoreWire_hang pm_StoreWire_hang an_StoreWire_hang cd_StoreWire_hang ct_StoreWire_hang), sl_StoreWire_hang⟩) (c_StoreWire_hang : PySem.W.codeIn K cd_StoreWire_hang "StoreWire.hang" = true) (k_StoreWire_hang : PySem.W.keepIn K (.ref f_StoreWire_hang) = true)
    (a_is_name : PySem.W.nsIn K mainGlobals "is_name" = some (some (.ref f_is_name)))
    (l_is_name : K.lookup f_is_name = some ⟨oc_is_name, od_is_name, .func (PySem.W.fnOf "is_name" "is_name" (defArgs s_is_name) (defBody s_is_name) (defScope s_is_name) .none kV_is_name dc_is_name pm_is_name an_is_name cd_is_name ct_is_name), sl_is_name⟩) (c_is_name : PySem.W.codeIn K cd_is_name "is_name" = true) (k_is_name : PySem.W.keepIn K (.ref f_is_name) = true)
    (a_NoWire___init__ : PySem.W.findIn K (.ref C_NoWire) "__init__" = some (some (.ref f_NoWire___init__))) (i_NoWire___init__ : PySem.W.typeIn K (.ref f_NoWire___init__) = some (.type "function"))
    (l_NoWire___init__ : K.lookup f_NoWire___init__ = some ⟨oc_NoWire___init__, od_NoWire___init__, .func (PySem.W.fnOf "__init__" "NoWire.__init__" (defArgs s_NoWire___init__) (defBody s_NoWire___init__) (defScope s_NoWire___init__) .none kV_NoWire___init__ dc_NoWire___init__ pm_NoWire___init__ an_NoWire___init__ cd_NoWire___init__ ct_NoWire___init__), sl_NoWire___init__⟩) (c_NoWire___init__ : PySem.W.codeIn K cd_NoWire___init__ "NoWire.__init__" = true) (k_NoWire___init__ : PySem.W.keepIn K (.ref f_NoWire___init__) = true)
    (a_need_sizes : PySem.W.nsIn K mainGlobals "need_sizes" = some (some (.ref f_need_sizes)))
    (l_need_sizes : K.lookup f_need_sizes = some ⟨oc_need_sizes, od_need_sizes, .func (PySem.W.fnOf "need_sizes" "need_sizes" (defArgs s_need_sizes) (defBody s_need_sizes) (defScope s_need_sizes) .none kV_need_sizes dc_need_sizes pm_need_sizes an_need_sizes cd_need_sizes ct_need_sizes), sl_need_sizes⟩) (c_need_sizes : PySem.W.codeIn K cd_need_sizes "need_sizes" = true) (k_need_sizes : PySem.W.keepIn K (.ref f_need_sizes) = true)
    (a_Net_put_in : PySem.W.findIn K (.ref C_Net) "put_in" = some (some (.ref f_Net_put_in))) (i_Net_put_in : PySem.W.isFn K (.ref f_Net_put_in) = true)
    (l_Net_put_in : K.lookup f_Net_put_in = some ⟨oc_Net_put_in, od_Net_put_in, .func (PySem.W.fnOf "put_in" "Net.put_in" (defArgs s_Net_put_in) (defBody s_Net_put_in) (defScope s_Net_put_in) .none kV_Net_put_in dc_Net_put_in pm_Net_put_in an_Net_put_in cd_Net_put_in ct_Net_put_in), sl_Net_put_in⟩) (c_Net_put_in : PySem.W.codeIn K cd_Net_put_in "Net.put_in" = true) (k_Net_put_in : PySem.W.keepIn K (.ref f_Net_put_in) = true)
    (a_Net_of_kind : PySem.W.findIn K (.ref C_Net) "of_kind" = some (some (.ref f_Net_of_kind))) (i_Net_of_kind : PySem.W.isFn K (.ref f_Net_of_kind) = true)
    (l_Net_of_kind : K.lookup f_Net_of_kind = some ⟨oc_Net_of_kind, od_Net_of_kind, .func (PySem.W.fnOf "of_kind" "Net.of_kind" (defArgs s_Net_of_kind) (defBody s_Net_of_kind) (defScope s_Net_of_kind) .none kV_Net_of_kind dc_Net_of_kind pm_Net_of_kind an_Net_of_kind cd_Net_of_kind ct_Net_of_kind), sl_Net_of_kind⟩) (c_Net_of_kind : PySem.W.codeIn K cd_Net_of_kind "Net.of_kind" = true) (k_Net_of_kind : PySem.W.keepIn K (.ref f_Net_of_kind) = true)
    (a_Net_readings : PySem.W.findIn K (.ref C_Net) "readings" = some (some (.ref f_Net_readings))) (i_Net_readings : PySem.W.isFn K (.ref f_Net_readings) = true)
    (l_Net_readings : K.lookup f_Net_readings = some ⟨oc_Net_readings, od_Net_readings, .func (PySem.W.fnOf "readings" "Net.readings" (defArgs s_Net_readings) (defBody s_Net_readings) (defScope s_Net_readings) .none kV_Net_readings dc_Net_readings pm_Net_readings an_Net_readings cd_Net_readings ct_Net_readings), sl_Net_readings⟩) (c_Net_readings : PySem.W.codeIn K cd_Net_readings "Net.readings" = true) (k_Net_readings : PySem.W.keepIn K (.ref f_Net_readings) = true)
    (a_Net_wire_of : PySem.W.findIn K (.ref C_Net) "wire_of" = some (some (.ref f_Net_wire_of))) (i_Net_wire_of : PySem.W.isFn K (.ref f_Net_wire_of) = true)
    (l_Net_wire_of : K.lookup f_Net_wire_of = some ⟨oc_Net_wire_of, od_Net_wire_of, .func (PySem.W.fnOf "wire_of" "Net.wire_of" (defArgs s_Net_wire_of) (defBody s_Net_wire_of) (defScope s_Net_wire_of) .none kV_Net_wire_of dc_Net_wire_of pm_Net_wire_of an_Net_wire_of cd_Net_wire_of ct_Net_wire_of), sl_Net_wire_of⟩) (c_Net_wire_of : PySem.W.codeIn K cd_Net_wire_of "Net.wire_of" = true) (k_Net_wire_of : PySem.W.keepIn K (.ref f_Net_wire_of) = true)
    (a_Net_lay_out : PySem.W.findIn K (.ref C_Net) "lay_out" = some (some (.ref f_Net_lay_out))) (i_Net_lay_out : PySem.W.isFn K (.ref f_Net_lay_out) = true)
    (l_Net_lay_out : K.lookup f_Net_lay_out = some ⟨oc_Net_lay_out, od_Net_lay_out, .func (PySem.W.fnOf "lay_out" "Net.lay_out" (defArgs s_Net_lay_out) (defBody s_Net_lay_out) (defScope s_Net_lay_out) .none kV_Net_lay_out dc_Net_lay_out pm_Net_lay_out an_Net_lay_out cd_Net_lay_out ct_Net_lay_out), sl_Net_lay_out⟩) (c_Net_lay_out : PySem.W.codeIn K cd_Net_lay_out "Net.lay_out" = true) (k_Net_lay_out : PySem.W.keepIn K (.ref f_Net_lay_out) = true)
    (a_Net___init__ : PySem.W.findIn K (.ref C_Net) "__init__" = some (some (.ref f_Net___init__))) (i_Net___init__ : PySem.W.isFn K (.ref f_Net___init__) = true)
    (l_Net___init__ : K.lookup f_Net___init__ = some ⟨oc_Net___init__, od_Net___init__, .func (PySem.W.fnOf "__init__" "Net.__init__" (defArgs s_Net___init__) (defBody s_Net___init__) (defScope s_Net___init__) .none kV_Net___init__ dc_Net___init__ pm_Net___init__ an_Net___init__ cd_Net___init__ ct_Net___init__), sl_Net___init__⟩) (c_Net___init__ : PySem.W.codeIn K cd_Net___init__ "Net.__init__" = true) (k_Net___init__ : PySem.W.keepIn K (.ref f_Net___init__) = true)
    (a_Net_in_names : PySem.W.findIn K (.ref C_Net) "in_names" = some (some (.ref f_Net_in_names))) (i_Net_in_names : PySem.W.isFn K (.ref f_Net_in_names) = true)
    (l_Net_in_names : K.lookup f_Net_in_names = some ⟨oc_Net_in_names, od_Net_in_names, .func (PySem.W.fnOf "in_names" "Net.in_names" (defArgs s_Net_in_names) (defBody s_Net_in_names) (defScope s_Net_in_names) .none kV_Net_in_names dc_Net_in_names pm_Net_in_names an_Net_in_names cd_Net_in_names ct_Net_in_names), sl_Net_in_names⟩) (c_Net_in_names : PySem.W.codeIn K cd_Net_in_names "Net.in_names" = true) (k_Net_in_names : PySem.W.keepIn K (.ref f_Net_in_names) = true)
    (a_Net_sum_rows : PySem.W.findIn K (.ref C_Net) "sum_rows" = some (some (.ref f_Net_sum_rows))) (i_Net_sum_rows : PySem.W.isFn K (.ref f_Net_sum_rows) = true)
    (l_Net_sum_rows : K.lookup f_Net_sum_rows = some ⟨oc_Net_sum_rows, od_Net_sum_rows, .func (PySem.W.fnOf "sum_rows" "Net.sum_rows" (defArgs s_Net_sum_rows) (defBody s_Net_sum_rows) (defScope s_Net_sum_rows) .none kV_Net_sum_rows dc_Net_sum_rows pm_Net_sum_rows an_Net_sum_rows cd_Net_sum_rows ct_Net_sum_rows), sl_Net_sum_rows⟩) (c_Net_sum_rows : PySem.W.codeIn K cd_Net_sum_rows "Net.sum_rows" = true) (k_Net_sum_rows : PySem.W.keepIn K (.ref f_Net_sum_rows) = true)
    (a_Net_store_rows : PySem.W.findIn K (.ref C_Net) "store_rows" = some (some (.ref f_Net_store_rows))) (i_Net_store_rows : PySem.W.isFn K (.ref f_Net_store_rows) = true)
    (l_Net_store_rows : K.lookup f_Net_store_rows = some ⟨oc_Net_store_rows, od_Net_store_rows, .func (PySem.W.fnOf "store_rows" "Net.store_rows" (defArgs s_Net_store_rows) (defBody s_Net_store_rows) (defScope s_Net_store_rows) .none kV_Net_store_rows dc_Net_store_rows pm_Net_store_rows an_Net_store_rows cd_Net_store_rows ct_Net_store_rows), sl_Net_store_rows⟩) (c_Net_store_rows : PySem.W.codeIn K cd_Net_store_rows "Net.store_rows" = true) (k_Net_store_rows : PySem.W.keepIn K (.ref f_Net_store_rows) = true)
    (a_Net_out_wires : PySem.W.findIn K (.ref C_Net) "out_wires" = some (some (.ref f_Net_out_wires))) (i_Net_out_wires : PySem.W.isFn K (.ref f_Net_out_wires) = true)
    (l_Net_out_wires : K.lookup f_Net_out_wires = some ⟨oc_Net_out_wires, od_Net_out_wires, .func (PySem.W.fnOf "out_wires" "Net.out_wires" (defArgs s_Net_out_wires) (defBody s_Net_out_wires) (defScope s_Net_out_wires) .none kV_Net_out_wires dc_Net_out_wires pm_Net_out_wires an_Net_out_wires cd_Net_out_wires ct_Net_out_wires), sl_Net_out_wires⟩) (c_Net_out_wires : PySem.W.codeIn K cd_Net_out_wires "Net.out_wires" = true) (k_Net_out_wires : PySem.W.keepIn K (.ref f_Net_out_wires) = true)
    (a_Net_wire_names : PySem.W.findIn K (.ref C_Net) "wire_names" = some (some (.ref f_Net_wire_names))) (i_Net_wire_names : PySem.W.isFn K (.ref f_Net_wire_names) = true)
    (l_Net_wire_names : K.lookup f_Net_wire_names = some ⟨oc_Net_wire_names, od_Net_wire_names, .func (PySem.W.fnOf "wire_names" "Net.wire_names" (defArgs s_Net_wire_names) (defBody s_Net_wire_names) (defScope s_Net_wire_names) .none kV_Net_wire_names dc_Net_wire_names pm_Net_wire_names an_Net_wire_names cd_Net_wire_names ct_Net_wire_names), sl_Net_wire_names⟩) (c_Net_wire_names : PySem.W.codeIn K cd_Net_wire_names "Net.wire_names" = true) (k_Net_wire_names : PySem.W.keepIn K (.ref f_Net_wire_names) = true)
    (a_Net_order : PySem.W.findIn K (.ref C_Net) "order" = some (some (.ref f_Net_order))) (i_Net_order : PySem.W.isFn K (.ref f_Net_order) = true)
    (l_Net_order : K.lookup f_Net_order = some ⟨oc_Net_order, od_Net_order, .func (PySem.W.fnOf "order" "Net.order" (defArgs s_Net_order) (defBody s_Net_order) (defScope s_Net_order) .none kV_Net_order dc_Net_order pm_Net_order an_Net_order cd_Net_order ct_Net_order), sl_Net_order⟩) (c_Net_order : PySem.W.codeIn K cd_Net_order "Net.order" = true) (k_Net_order : PySem.W.keepIn K (.ref f_Net_order) = true)
    (a_Net_told : PySem.W.findIn K (.ref C_Net) "told" = some (some (.ref f_Net_told))) (i_Net_told : PySem.W.isFn K (.ref f_Net_told) = true)
    (l_Net_told : K.lookup f_Net_told = some ⟨oc_Net_told, od_Net_told, .func (PySem.W.fnOf "told" "Net.told" (defArgs s_Net_told) (defBody s_Net_told) (defScope s_Net_told) .none kV_Net_told dc_Net_told pm_Net_told an_Net_told cd_Net_told ct_Net_told), sl_Net_told⟩) (c_Net_told : PySem.W.codeIn K cd_Net_told "Net.told" = true) (k_Net_told : PySem.W.keepIn K (.ref f_Net_told) = true)
    (a_cell : PySem.W.nsIn K mainGlobals "_law_cell" = some (some (.ref f_cell)))
    (l_cell : K.lookup f_cell = some ⟨oc_cell, od_cell, .func (PySem.W.fnOf "_law_cell" "_law_cell" (defArgs s_cell) (defBody s_cell) (defScope s_cell) .none kV_cell dc_cell pm_cell an_cell cd_cell ct_cell), sl_cell⟩) (c_cell : PySem.W.codeIn K cd_cell "_law_cell" = true) (k_cell : PySem.W.keepIn K (.ref f_cell) = true)
    (a_mix : PySem.W.nsIn K mainGlobals "_law_mix" = some (some (.ref f_mix)))
    (l_mix : K.lookup f_mix = some ⟨oc_mix, od_mix, .func (PySem.W.fnOf "_law_mix" "_law_mix" (defArgs s_mix) (defBody s_mix) (defScope s_mix) .none kV_mix dc_mix pm_mix an_mix cd_mix ct_mix), sl_mix⟩) (c_mix : PySem.W.codeIn K cd_mix "_law_mix" = true) (k_mix : PySem.W.keepIn K (.ref f_mix) = true)
    (a_name : PySem.W.nsIn K mainGlobals "_law_name" = some (some (.ref f_name)))
    (l_name : K.lookup f_name = some ⟨oc_name, od_name, .func (PySem.W.fnOf "_law_name" "_law_name" (defArgs s_name) (defBody s_name) (defScope s_name) .none kV_name dc_name pm_name an_name cd_name ct_name), sl_name⟩) (c_name : PySem.W.codeIn K cd_name "_law_name" = true) (k_name : PySem.W.keepIn K (.ref f_name) = true)
    (a_wires : PySem.W.nsIn K mainGlobals "_law_wires" = some (some (.ref f_wires)))
    (l_wires : K.lookup f_wires = some ⟨oc_wires, od_wires, .func (PySem.W.fnOf "_law_wires" "_law_wires" (defArgs s_wires) (defBody s_wires) (defScope s_wires) .none kV_wires dc_wires pm_wires an_wires cd_wires ct_wires), sl_wires⟩) (c_wires : PySem.W.codeIn K cd_wires "_law_wires" = true) (k_wires : PySem.W.keepIn K (.ref f_wires) = true)
    (a_net : PySem.W.nsIn K mainGlobals "_law_net" = some (some (.ref f_net)))
    (l_net : K.lookup f_net = some ⟨oc_net, od_net, .func (PySem.W.fnOf "_law_net" "_law_net" (defArgs s_net) (defBody s_net) (defScope s_net) .none kV_net dc_net pm_net an_net cd_net ct_net), sl_net⟩) (c_net : PySem.W.codeIn K cd_net "_law_net" = true) (k_net : PySem.W.keepIn K (.ref f_net) = true)
    (a_told : PySem.W.nsIn K mainGlobals "_law_told" = some (some (.ref f_told)))
    (l_told : K.lookup f_told = some ⟨oc_told, od_told, .func (PySem.W.fnOf "_law_told" "_law_told" (defArgs s_told) (defBody s_told) (defScope s_told) .none kV_told dc_told pm_told an_told cd_told ct_told), sl_told⟩) (c_told : PySem.W.codeIn K cd_told "_law_told" = true) (k_told : PySem.W.keepIn K (.ref f_told) = true)
    (a_ladder : PySem.W.nsIn K mainGlobals "_law_ladder" = some (some (.ref f_ladder)))
    (l_ladder : K.lookup f_ladder = some ⟨oc_ladder, od_ladder, .func (PySem.W.fnOf "_law_ladder" "_law_ladder" (defArgs s_ladder) (defBody s_ladder) (defScope s_ladder) .none kV_ladder dc_ladder pm_ladder an_ladder cd_ladder ct_ladder), sl_ladder⟩) (c_ladder : PySem.W.codeIn K cd_ladder "_law_ladder" = true) (k_ladder : PySem.W.keepIn K (.ref f_ladder) = true)
    (a_missing : PySem.W.nsIn K mainGlobals "_law_missing" = some (some (.ref f_missing)))
    (l_missing : K.lookup f_missing = some ⟨oc_missing, od_missing, .func (PySem.W.fnOf "_law_missing" "_law_missing" (defArgs s_missing) (defBody s_missing) (defScope s_missing) .none kV_missing dc_missing pm_missing an_missing cd_missing ct_missing), sl_missing⟩) (c_missing : PySem.W.codeIn K cd_missing "_law_missing" = true) (k_missing : PySem.W.keepIn K (.ref f_missing) = true)
    (a_wires_good : PySem.W.nsIn K mainGlobals "_law_wires_good" = some (some (.ref f_wires_good)))
    (l_wires_good : K.lookup f_wires_good = some ⟨oc_wires_good, od_wires_good, .func (PySem.W.fnOf "_law_wires_good" "_law_wires_good" (defArgs s_wires_good) (defBody s_wires_good) (defScope s_wires_good) .none kV_wires_good dc_wires_good pm_wires_good an_wires_good cd_wires_good ct_wires_good), sl_wires_good⟩) (c_wires_good : PySem.W.codeIn K cd_wires_good "_law_wires_good" = true) (k_wires_good : PySem.W.keepIn K (.ref f_wires_good) = true)
    (a_order_good : PySem.W.nsIn K mainGlobals "_law_order_good" = some (some (.ref f_order_good)))
    (l_order_good : K.lookup f_order_good = some ⟨oc_order_good, od_order_good, .func (PySem.W.fnOf "_law_order_good" "_law_order_good" (defArgs s_order_good) (defBody s_order_good) (defScope s_order_good) .none kV_order_good dc_order_good pm_order_good an_order_good cd_order_good ct_order_good), sl_order_good⟩) (c_order_good : PySem.W.codeIn K cd_order_good "_law_order_good" = true) (k_order_good : PySem.W.keepIn K (.ref f_order_good) = true)
    (a_good : PySem.W.nsIn K mainGlobals "_law_good" = some (some (.ref f_good)))
    (l_good : K.lookup f_good = some ⟨oc_good, od_good, .func (PySem.W.fnOf "_law_good" "_law_good" (defArgs s_good) (defBody s_good) (defScope s_good) .none kV_good dc_good pm_good an_good cd_good ct_good), sl_good⟩) (c_good : PySem.W.codeIn K cd_good "_law_good" = true) (k_good : PySem.W.keepIn K (.ref f_good) = true)
    (a_law : PySem.W.nsIn K mainGlobals "law" = some (some (.ref f_law)))
    (l_law : K.lookup f_law = some ⟨oc_law, od_law, .func (PySem.W.fnOf "law" "law" (defArgs s_law) (defBody s_law) (defScope s_law) .none kV_law dc_law pm_law an_law cd_law ct_law), sl_law⟩) (c_law : PySem.W.codeIn K cd_law "law" = true) (k_law : PySem.W.keepIn K (.ref f_law) = true)
    (z_enumerate : PySem.W.nsIn K mainGlobals "enumerate" = some none)
    (z_isinstance : PySem.W.nsIn K mainGlobals "isinstance" = some none)
    (z_len : PySem.W.nsIn K mainGlobals "len" = some none)
    (z_list : PySem.W.nsIn K mainGlobals "list" = some none)
    (z_max : PySem.W.nsIn K mainGlobals "max" = some none)
    (z_range : PySem.W.nsIn K mainGlobals "range" = some none)
    (z_reversed : PySem.W.nsIn K mainGlobals "reversed" = some none)
    (z_sorted : PySem.W.nsIn K mainGlobals "sorted" = some none)
    (z_str : PySem.W.nsIn K mainGlobals "str" = some none)
    (z_tuple : PySem.W.nsIn K mainGlobals "tuple" = some none)
    : ∃ (fd : FuncData) (sp : Sp), (∀ (s : Shared) (v : Value), BindsTo s fd ⟨[v], []⟩ [("_law_script", v)]) ∧ (∀ (H : Hp) (a : Addr) (ns : List Int), ns.length ≤ 63 → SqL K H a (ns.map V.int) → sp [.ref a] H (fun v _ => v = .bl true) fun _ _ _ => False) ∧ ∀ base : Heap, K.In base → base.Ns mainGlobals mg → FnOk l.prog w K mg base CX0 7 fa fd ["_law_script"] sp := by
  have e := hfa.symm.trans (PySem.W.mg_of X G a_law)
  cases e
  have F_Wire___init__ := fun_mk (st := s_Wire___init__) l_Wire___init__ c_Wire___init__ k_Wire___init__
  have b_Wire___init__ := F_Wire___init__.binds (ps := ["self", "name"]) fun _ _ _ _ _ _ us hl => match us, hl with | [_, _], _ => rfl
  have F_Wire_needs := fun_mk (st := s_Wire_needs) l_Wire_needs c_Wire_needs k_Wire_needs
  have b_Wire_needs := F_Wire_needs.binds (ps := ["self"]) fun _ _ _ _ _ _ us hl => match us, hl with | [_], _ => rfl
  have F_InWire___init__ := fun_mk (st := s_InWire___init__) l_InWire___init__ c_InWire___init__ k_InWire___init__
  have b_InWire___init__ := F_InWire___init__.binds (ps := ["self", "name", "number"]) fun _ _ _ _ _ _ us hl => match us, hl with | [_, _, _], _ => rfl
  have F_InWire_kind := fun_mk (st := s_InWire_kind) l_InWire_kind c_InWire_kind k_InWire_kind
  have b_InWire_kind := F_InWire_kind.binds (ps := ["self"]) fun _ _ _ _ _ _ us hl => match us, hl with | [_], _ => rfl
  have F_InWire_bit := fun_mk (st := s_InWire_bit) l_InWire_bit c_InWire_bit k_InWire_bit
  have b_InWire_bit := F_InWire_bit.binds (ps := ["self", "known", "row", "state"]) fun _ _ _ _ _ _ us hl => match us, hl with | [_, _, _, _], _ => rfl
  have F_InWire_hang := fun_mk (st := s_InWire_hang) l_InWire_hang c_InWire_hang k_InWire_hang
  have b_InWire_hang := F_InWire_hang.binds (ps := ["self", "known"]) fun _ _ _ _ _ _ us hl => match us, hl with | [_, _], _ => rfl
  have F_SumWire___init__ := fun_mk (st := s_SumWire___init__) l_SumWire___init__ c_SumWire___init__ k_SumWire___init__
  have b_SumWire___init__ := F_SumWire___init__.binds (ps := ["self", "name", "wires"]) fun _ _ _ _ _ _ us hl => match us, hl with | [_, _, _], _ => rfl
  have F_SumWire_kind := fun_mk (st := s_SumWire_kind) l_SumWire_kind c_SumWire_kind k_SumWire_kind
  have b_SumWire_kind := F_SumWire_kind.binds (ps := ["self"]) fun _ _ _ _ _ _ us hl => match us, hl with | [_], _ => rfl
  have F_SumWire_needs := fun_mk (st := s_SumWire_needs) l_SumWire_needs c_SumWire_needs k_SumWire_needs
  have b_SumWire_needs := F_SumWire_needs.binds (ps := ["self"]) fun _ _ _ _ _ _ us hl => match us, hl with | [_], _ => rfl
  have F_SumWire_bit := fun_mk (st := s_SumWire_bit) l_SumWire_bit c_SumWire_bit k_SumWire_bit
  have b_SumWire_bit := F_SumWire_bit.binds (ps := ["self", "known", "row", "state"]) fun _ _ _ _ _ _ us hl => match us, hl with | [_, _, _, _], _ => rfl
  have F_SumWire_hang := fun_mk (st := s_SumWire_hang) l_SumWire_hang c_SumWire_hang k_SumWire_hang
  have b_SumWire_hang := F_SumWire_hang.binds (ps := ["self", "known"]) fun _ _ _ _ _ _ us hl => match us, hl with | [_, _], _ => rfl
  have F_StoreWire___init__ := fun_mk (st := s_StoreWire___init__) l_StoreWire___init__ c_StoreWire___init__ k_StoreWire___init__
  have b_StoreWire___init__ := F_StoreWire___init__.binds (ps := ["self", "name", "wire", "number"]) fun _ _ _ _ _ _ us hl => match us, hl with | [_, _, _, _], _ => rfl
  have F_StoreWire_kind := fun_mk (st := s_StoreWire_kind) l_StoreWire_kind c_StoreWire_kind k_StoreWire_kind
  have b_StoreWire_kind := F_StoreWire_kind.binds (ps := ["self"]) fun _ _ _ _ _ _ us hl => match us, hl with | [_], _ => rfl
  have F_StoreWire_bit := fun_mk (st := s_StoreWire_bit) l_StoreWire_bit c_StoreWire_bit k_StoreWire_bit
  have b_StoreWire_bit := F_StoreWire_bit.binds (ps := ["self", "known", "row", "state"]) fun _ _ _ _ _ _ us hl => match us, hl with | [_, _, _, _], _ => rfl
  have F_StoreWire_hang := fun_mk (st := s_StoreWire_hang) l_StoreWire_hang c_StoreWire_hang k_StoreWire_hang
  have b_StoreWire_hang := F_StoreWire_hang.binds (ps := ["self", "known"]) fun _ _ _ _ _ _ us hl => match us, hl with | [_, _], _ => rfl
  have F_is_name := fun_mk (st := s_is_name) l_is_name c_is_name k_is_name
  have b_is_name := F_is_name.binds (ps := ["thing"]) fun _ _ _ _ _ _ us hl => match us, hl with | [_], _ => rfl
  have F_NoWire___init__ := fun_mk (st := s_NoWire___init__) l_NoWire___init__ c_NoWire___init__ k_NoWire___init__
  have b_NoWire___init__ := F_NoWire___init__.binds (ps := ["self", "name"]) fun _ _ _ _ _ _ us hl => match us, hl with | [_, _], _ => rfl
  have F_need_sizes := fun_mk (st := s_need_sizes) l_need_sizes c_need_sizes k_need_sizes
  have b_need_sizes := F_need_sizes.binds (ps := ["ins", "sums", "stores", "outs"]) fun _ _ _ _ _ _ us hl => match us, hl with | [_, _, _, _], _ => rfl
  have F_Net_put_in := fun_mk (st := s_Net_put_in) l_Net_put_in c_Net_put_in k_Net_put_in
  have b_Net_put_in := F_Net_put_in.binds (ps := ["self", "name", "one"]) fun _ _ _ _ _ _ us hl => match us, hl with | [_, _, _], _ => rfl
  have F_Net_of_kind := fun_mk (st := s_Net_of_kind) l_Net_of_kind c_Net_of_kind k_Net_of_kind
  have b_Net_of_kind := F_Net_of_kind.binds (ps := ["self", "word"]) fun _ _ _ _ _ _ us hl => match us, hl with | [_, _], _ => rfl
  have F_Net_readings := fun_mk (st := s_Net_readings) l_Net_readings c_Net_readings k_Net_readings
  have b_Net_readings := F_Net_readings.binds (ps := ["self"]) fun _ _ _ _ _ _ us hl => match us, hl with | [_], _ => rfl
  have F_Net_wire_of := fun_mk (st := s_Net_wire_of) l_Net_wire_of c_Net_wire_of k_Net_wire_of
  have b_Net_wire_of := F_Net_wire_of.binds (ps := ["self", "name"]) fun _ _ _ _ _ _ us hl => match us, hl with | [_, _], _ => rfl
  have F_Net_lay_out := fun_mk (st := s_Net_lay_out) l_Net_lay_out c_Net_lay_out k_Net_lay_out
  have b_Net_lay_out := F_Net_lay_out.binds (ps := ["self", "first"]) fun _ _ _ _ _ _ us hl => match us, hl with | [_, _], _ => rfl
  have F_Net___init__ := fun_mk (st := s_Net___init__) l_Net___init__ c_Net___init__ k_Net___init__
  have b_Net___init__ := F_Net___init__.binds (ps := ["self", "ins", "sums", "stores", "outs"]) fun _ _ _ _ _ _ us hl => match us, hl with | [_, _, _, _, _], _ => rfl
  have F_Net_in_names := fun_mk (st := s_Net_in_names) l_Net_in_names c_Net_in_names k_Net_in_names
  have b_Net_in_names := F_Net_in_names.binds (ps := ["self"]) fun _ _ _ _ _ _ us hl => match us, hl with | [_], _ => rfl
  have F_Net_sum_rows := fun_mk (st := s_Net_sum_rows) l_Net_sum_rows c_Net_sum_rows k_Net_sum_rows
  have b_Net_sum_rows := F_Net_sum_rows.binds (ps := ["self"]) fun _ _ _ _ _ _ us hl => match us, hl with | [_], _ => rfl
  have F_Net_store_rows := fun_mk (st := s_Net_store_rows) l_Net_store_rows c_Net_store_rows k_Net_store_rows
  have b_Net_store_rows := F_Net_store_rows.binds (ps := ["self"]) fun _ _ _ _ _ _ us hl => match us, hl with | [_], _ => rfl
  have F_Net_out_wires := fun_mk (st := s_Net_out_wires) l_Net_out_wires c_Net_out_wires k_Net_out_wires
  have b_Net_out_wires := F_Net_out_wires.binds (ps := ["self"]) fun _ _ _ _ _ _ us hl => match us, hl with | [_], _ => rfl
  have F_Net_wire_names := fun_mk (st := s_Net_wire_names) l_Net_wire_names c_Net_wire_names k_Net_wire_names
  have b_Net_wire_names := F_Net_wire_names.binds (ps := ["self"]) fun _ _ _ _ _ _ us hl => match us, hl with | [_], _ => rfl
  have F_Net_order := fun_mk (st := s_Net_order) l_Net_order c_Net_order k_Net_order
  have b_Net_order := F_Net_order.binds (ps := ["self"]) fun _ _ _ _ _ _ us hl => match us, hl with | [_], _ => rfl
  have F_Net_told := fun_mk (st := s_Net_told) l_Net_told c_Net_told k_Net_told
  have b_Net_told := F_Net_told.binds (ps := ["self"]) fun _ _ _ _ _ _ us hl => match us, hl with | [_], _ => rfl
  have F_cell := fun_mk (st := s_cell) l_cell c_cell k_cell
  have b_cell := F_cell.binds (ps := ["_law_script", "_law_k"]) fun _ _ _ _ _ _ us hl => match us, hl with | [_, _], _ => rfl
  have F_mix := fun_mk (st := s_mix) l_mix c_mix k_mix
  have b_mix := F_mix.binds (ps := ["_law_cell_here", "_law_k"]) fun _ _ _ _ _ _ us hl => match us, hl with | [_, _], _ => rfl
  have F_name := fun_mk (st := s_name) l_name c_name k_name
  have b_name := F_name.binds (ps := ["_law_cell_here", "_law_k"]) fun _ _ _ _ _ _ us hl => match us, hl with | [_, _], _ => rfl
  have F_wires := fun_mk (st := s_wires) l_wires c_wires k_wires
  have b_wires := F_wires.binds (ps := ["_law_cell_here", "_law_start", "_law_names", "_law_digits"]) fun _ _ _ _ _ _ us hl => match us, hl with | [_, _, _, _], _ => rfl
  have F_net := fun_mk (st := s_net) l_net c_net k_net
  have b_net := F_net.binds (ps := ["_law_script", "_law_start", "_law_most"]) fun _ _ _ _ _ _ us hl => match us, hl with | [_, _, _], _ => rfl
  have F_told := fun_mk (st := s_told) l_told c_told k_told
  have b_told := F_told.binds (ps := ["_law_ins", "_law_sums", "_law_stores", "_law_outs"]) fun _ _ _ _ _ _ us hl => match us, hl with | [_, _, _, _], _ => rfl
  have F_ladder := fun_mk (st := s_ladder) l_ladder c_ladder k_ladder
  have b_ladder := F_ladder.binds (ps := ["_law_sums"]) fun _ _ _ _ _ _ us hl => match us, hl with | [_], _ => rfl
  have F_missing := fun_mk (st := s_missing) l_missing c_missing k_missing
  have b_missing := F_missing.binds (ps := ["_law_net_here", "_law_thing"]) fun _ _ _ _ _ _ us hl => match us, hl with | [_, _], _ => rfl
  have F_wires_good := fun_mk (st := s_wires_good) l_wires_good c_wires_good k_wires_good
  have b_wires_good := F_wires_good.binds (ps := ["_law_net_here", "_law_ins", "_law_sums", "_law_stores"]) fun _ _ _ _ _ _ us hl => match us, hl with | [_, _, _, _], _ => rfl
  have F_order_good := fun_mk (st := s_order_good) l_order_good c_order_good k_order_good
  have b_order_good := F_order_good.binds (ps := ["_law_order", "_law_sums"]) fun _ _ _ _ _ _ us hl => match us, hl with | [_, _], _ => rfl
  have F_good := fun_mk (st := s_good) l_good c_good k_good
  have b_good := F_good.binds (ps := ["_law_net_here", "_law_ins", "_law_sums", "_law_stores", "_law_outs"]) fun _ _ _ _ _ _ us hl => match us, hl with | [_, _, _, _, _], _ => rfl
  have F_law := fun_mk (st := s_law) l_law c_law k_law
  refine ⟨PySem.W.fnOf "law" "law" (defArgs s_law) (defBody s_law) (defScope s_law) .none kV_law dc_law pm_law an_law cd_law ct_law, sp_law K ⟨C_InWire, C_SumWire, C_StoreWire, C_Net, C_WireError, C_NoWire, C_Wire⟩, fun s v => .of_eq rfl, fun H a ns hl  hS => ⟨H, .ref a, ns, fun b => b = true, rfl, Ex.rfl', ⟨a, rfl, hS⟩, w_law hl  rfl, fun z hz _ _ _ => by subst hz; rfl⟩, fun base _ _ => ?_⟩
  have T : Tz K mg ⟨C_InWire, C_SumWire, C_StoreWire, C_Net, C_WireError, C_NoWire, C_Wire⟩ := ⟨⟨pg_InWire, hd_InWire, po_InWire, sa_InWire⟩, na_InWire_name, na_InWire_number, ⟨pg_SumWire, hd_SumWire, po_SumWire, sa_SumWire⟩, na_SumWire_name, na_SumWire_wires, ⟨pg_StoreWire, hd_StoreWire, po_StoreWire, sa_StoreWire⟩, na_StoreWire_name, na_StoreWire_wire, na_StoreWire_number, ⟨pg_Net, hd_Net, po_Net, sa_Net⟩, na_Net_all, na_Net_ends, na_Net_line_up, na_Net_laid, ⟨xX_WireError, PySem.W.mg_of X G aC_WireError, kX_WireError, bX_WireError, tX_WireError⟩, ⟨PySem.W.mg_of X G aC_NoWire, ⟨⟨_, _, _, _, _, _, _, _, _, _, _, _, _, _, _, lx_NoWire, rv_NoWire⟩, sa_NoWire, bX_NoWire, tX_NoWire, kX_NoWire⟩, ⟨xga_NoWire, xgg_NoWire, bX_NoWire, xhd_NoWire⟩, xno_NoWire⟩, ⟨xrd, xrga⟩, xrv, ⟨_, PySem.W.mg_of X G u_MOST_INS, _, rfl⟩, ⟨_, PySem.W.mg_of X G u_MOST_OUTS, _, rfl⟩, ⟨_, PySem.W.mg_of X G u_MOST_STORES, _, rfl⟩, ⟨_, PySem.W.mg_of X G u_MOST_SUMS, _, rfl⟩, ⟨_, PySem.W.mg_of X G u_MOST_WIRES, _, rfl⟩, ⟨_, PySem.W.mg_of X G u_FIGURES, _, rfl⟩, ⟨_, PySem.W.mg_of X G u_LETTERS, _, rfl⟩, ⟨ea_InWire, eN, eT, em_InWire, PySem.W.mg_of X G aC_InWire⟩, ⟨ea_StoreWire, eN, eT, em_StoreWire, PySem.W.mg_of X G aC_StoreWire⟩, ⟨ea_SumWire, eN, eT, em_SumWire, PySem.W.mg_of X G aC_SumWire⟩, kit_own iX_InWire tX_InWire sX_InWire_InWire sX_InWire_InWire, kit_own iX_StoreWire tX_StoreWire sX_InWire_InWire sX_InWire_StoreWire, kit_own iX_SumWire tX_SumWire sX_InWire_InWire sX_InWire_SumWire, kit_own iX_Wire tX_Wire sX_InWire_InWire sX_InWire_Wire, kit_own iX_InWire tX_InWire sX_StoreWire_StoreWire sX_StoreWire_InWire, kit_own iX_StoreWire tX_StoreWire sX_StoreWire_StoreWire sX_StoreWire_StoreWire, kit_own iX_SumWire tX_SumWire sX_StoreWire_StoreWire sX_StoreWire_SumWire, kit_own iX_Wire tX_Wire sX_StoreWire_StoreWire sX_StoreWire_Wire, kit_own iX_InWire tX_InWire sX_SumWire_SumWire sX_SumWire_InWire, kit_own iX_StoreWire tX_StoreWire sX_SumWire_SumWire sX_SumWire_StoreWire, kit_own iX_SumWire tX_SumWire sX_SumWire_SumWire sX_SumWire_SumWire, kit_own iX_Wire tX_Wire sX_SumWire_SumWire sX_SumWire_Wire, exm_of bX_NoWire iX_NoWire tX_NoWire sX_NoWire_NoWire, ⟨rd_Wire, ga_Wire⟩, PySem.W.mg_of X G aC_Wire⟩
  have C_Wire___init__ := ok_Wire___init__ (P := l.prog) (w0 := w) (base := base) T F_Wire___init__ ⟨a_Wire___init__, rfl⟩ k_Wire___init__ b_Wire___init__
  have C_Wire_needs_InWire := ok_Wire_needs (P := l.prog) (w0 := w) (base := base) (cX := C_InWire) T F_Wire_needs ⟨a_Wire_needs_InWire, i_Wire_needs, k_Wire_needs⟩ b_Wire_needs
  have C_Wire_needs_StoreWire := ok_Wire_needs (P := l.prog) (w0 := w) (base := base) (cX := C_StoreWire) T F_Wire_needs ⟨a_Wire_needs_StoreWire, i_Wire_needs, k_Wire_needs⟩ b_Wire_needs
  have C_InWire___init__ := ok_InWire___init__ (P := l.prog) (w0 := w) (base := base) T F_InWire___init__ ⟨mk_InWire, a_InWire___init__, i_InWire___init__, kc_InWire⟩ (PySem.W.mg_of X G aC_InWire) b_InWire___init__ C_Wire___init__
  have C_InWire_kind := ok_InWire_kind (P := l.prog) (w0 := w) (base := base) T F_InWire_kind ⟨a_InWire_kind, i_InWire_kind, k_InWire_kind⟩ b_InWire_kind
  have C_InWire_bit := ok_InWire_bit (P := l.prog) (w0 := w) (base := base) T F_InWire_bit ⟨a_InWire_bit, i_InWire_bit, k_InWire_bit⟩ b_InWire_bit
  have C_InWire_hang := ok_InWire_hang (P := l.prog) (w0 := w) (base := base) T F_InWire_hang ⟨a_InWire_hang, i_InWire_hang, k_InWire_hang⟩ b_InWire_hang
  have C_SumWire___init__ := ok_SumWire___init__ (P := l.prog) (w0 := w) (base := base) T F_SumWire___init__ ⟨mk_SumWire, a_SumWire___init__, i_SumWire___init__, kc_SumWire⟩ (PySem.W.mg_of X G aC_SumWire) b_SumWire___init__ C_Wire___init__ (PySem.W.mg_none_of X G z_tuple)
  have C_SumWire_kind := ok_SumWire_kind (P := l.prog) (w0 := w) (base := base) T F_SumWire_kind ⟨a_SumWire_kind, i_SumWire_kind, k_SumWire_kind⟩ b_SumWire_kind
  have C_SumWire_needs := ok_SumWire_needs (P := l.prog) (w0 := w) (base := base) T F_SumWire_needs ⟨a_SumWire_needs, i_SumWire_needs, k_SumWire_needs⟩ b_SumWire_needs (PySem.W.mg_none_of X G z_list)
  have C_SumWire_bit := ok_SumWire_bit (P := l.prog) (w0 := w) (base := base) T F_SumWire_bit ⟨a_SumWire_bit, i_SumWire_bit, k_SumWire_bit⟩ b_SumWire_bit
  have C_SumWire_hang := ok_SumWire_hang (P := l.prog) (w0 := w) (base := base) T F_SumWire_hang ⟨a_SumWire_hang, i_SumWire_hang, k_SumWire_hang⟩ b_SumWire_hang
  have C_StoreWire___init__ := ok_StoreWire___init__ (P := l.prog) (w0 := w) (base := base) T F_StoreWire___init__ ⟨mk_StoreWire, a_StoreWire___init__, i_StoreWire___init__, kc_StoreWire⟩ (PySem.W.mg_of X G aC_StoreWire) b_StoreWire___init__ C_Wire___init__
  have C_StoreWire_kind := ok_StoreWire_kind (P := l.prog) (w0 := w) (base := base) T F_StoreWire_kind ⟨a_StoreWire_kind, i_StoreWire_kind, k_StoreWire_kind⟩ b_StoreWire_kind
  have C_StoreWire_bit := ok_StoreWire_bit (P := l.prog) (w0 := w) (base := base) T F_StoreWire_bit ⟨a_StoreWire_bit, i_StoreWire_bit, k_StoreWire_bit⟩ b_StoreWire_bit
  have C_StoreWire_hang := ok_StoreWire_hang (P := l.prog) (w0 := w) (base := base) T F_StoreWire_hang ⟨a_StoreWire_hang, i_StoreWire_hang, k_StoreWire_hang⟩ b_StoreWire_hang
  have C_P_kind := ok_P_kind (P := l.prog) (w0 := w) (base := base) T C_InWire_kind C_SumWire_kind C_StoreWire_kind
  have C_P_needs := ok_P_needs (P := l.prog) (w0 := w) (base := base) T C_Wire_needs_InWire C_SumWire_needs C_Wire_needs_StoreWire
  have C_P_bit := ok_P_bit (P := l.prog) (w0 := w) (base := base) T C_InWire_bit C_SumWire_bit C_StoreWire_bit
  have C_P_hang := ok_P_hang (P := l.prog) (w0 := w) (base := base) T C_InWire_hang C_SumWire_hang C_StoreWire_hang
  have C_is_name := ok_is_name (P := l.prog) (w0 := w) (base := base) T F_is_name (PySem.W.mg_of X G a_is_name) b_is_name (PySem.W.mg_none_of X G z_isinstance) (PySem.W.mg_none_of X G z_len) (PySem.W.mg_none_of X G z_str)
  have C_NoWire___init__ := ok_NoWire___init__ (P := l.prog) (w0 := w) (base := base) T F_NoWire___init__ ⟨a_NoWire___init__, i_NoWire___init__⟩ b_NoWire___init__
  have C_need_sizes := ok_need_sizes (P := l.prog) (w0 := w) (base := base) T F_need_sizes (PySem.W.mg_of X G a_need_sizes) b_need_sizes (PySem.W.mg_none_of X G z_len)
  have C_Net_put_in := ok_Net_put_in (P := l.prog) (w0 := w) (base := base) T F_Net_put_in ⟨a_Net_put_in, i_Net_put_in, k_Net_put_in⟩ b_Net_put_in C_is_name
  have C_Net_of_kind := ok_Net_of_kind (P := l.prog) (w0 := w) (base := base) T F_Net_of_kind ⟨a_Net_of_kind, i_Net_of_kind, k_Net_of_kind⟩ b_Net_of_kind C_P_kind
  have C_Net_readings := ok_Net_readings (P := l.prog) (w0 := w) (base := base) T F_Net_readings ⟨a_Net_readings, i_Net_readings, k_Net_readings⟩ b_Net_readings C_Net_of_kind C_P_needs
  have C_Net_wire_of := ok_Net_wire_of (P := l.prog) (w0 := w) (base := base) T F_Net_wire_of ⟨a_Net_wire_of, i_Net_wire_of, k_Net_wire_of⟩ b_Net_wire_of C_is_name C_NoWire___init__
  have C_Net_lay_out := ok_Net_lay_out (P := l.prog) (w0 := w) (base := base) T F_Net_lay_out ⟨a_Net_lay_out, i_Net_lay_out, k_Net_lay_out⟩ b_Net_lay_out C_P_needs C_P_kind
  have C_Net___init__ := ok_Net___init__ (P := l.prog) (w0 := w) (base := base) T F_Net___init__ ⟨mk_Net, a_Net___init__, i_Net___init__, kc_Net⟩ (PySem.W.mg_of X G aC_Net) b_Net___init__ C_need_sizes C_InWire___init__ C_Net_put_in C_SumWire___init__ C_StoreWire___init__ C_Net_readings C_Net_wire_of C_Net_of_kind C_Net_lay_out (PySem.W.mg_none_of X G z_enumerate) (PySem.W.mg_none_of X G z_len) (PySem.W.mg_none_of X G z_list)
  have C_Net_in_names := ok_Net_in_names (P := l.prog) (w0 := w) (base := base) T F_Net_in_names ⟨a_Net_in_names, i_Net_in_names, k_Net_in_names⟩ b_Net_in_names C_Net_of_kind
  have C_Net_sum_rows := ok_Net_sum_rows (P := l.prog) (w0 := w) (base := base) T F_Net_sum_rows ⟨a_Net_sum_rows, i_Net_sum_rows, k_Net_sum_rows⟩ b_Net_sum_rows C_Net_of_kind
  have C_Net_store_rows := ok_Net_store_rows (P := l.prog) (w0 := w) (base := base) T F_Net_store_rows ⟨a_Net_store_rows, i_Net_store_rows, k_Net_store_rows⟩ b_Net_store_rows C_Net_of_kind
  have C_Net_out_wires := ok_Net_out_wires (P := l.prog) (w0 := w) (base := base) T F_Net_out_wires ⟨a_Net_out_wires, i_Net_out_wires, k_Net_out_wires⟩ b_Net_out_wires (PySem.W.mg_none_of X G z_list)
  have C_Net_wire_names := ok_Net_wire_names (P := l.prog) (w0 := w) (base := base) T F_Net_wire_names ⟨a_Net_wire_names, i_Net_wire_names, k_Net_wire_names⟩ b_Net_wire_names (PySem.W.mg_none_of X G z_list)
  have C_Net_order := ok_Net_order (P := l.prog) (w0 := w) (base := base) T F_Net_order ⟨a_Net_order, i_Net_order, k_Net_order⟩ b_Net_order (PySem.W.mg_none_of X G z_list)
  have C_Net_told := ok_Net_told (P := l.prog) (w0 := w) (base := base) T F_Net_told ⟨a_Net_told, i_Net_told, k_Net_told⟩ b_Net_told C_Net_in_names C_Net_sum_rows C_Net_store_rows C_Net_out_wires
  have C_cell := ok_cell (P := l.prog) (w0 := w) (base := base) T F_cell (PySem.W.mg_of X G a_cell) b_cell (PySem.W.mg_none_of X G z_len)
  have C_mix := ok_mix (P := l.prog) (w0 := w) (base := base) T F_mix (PySem.W.mg_of X G a_mix) b_mix
  have C_name := ok_name (P := l.prog) (w0 := w) (base := base) T F_name (PySem.W.mg_of X G a_name) b_name C_mix (PySem.W.mg_none_of X G z_str)
  have C_wires := ok_wires (P := l.prog) (w0 := w) (base := base) T F_wires (PySem.W.mg_of X G a_wires) b_wires C_mix (PySem.W.mg_none_of X G z_len) (PySem.W.mg_none_of X G z_range)
  have C_net := ok_net (P := l.prog) (w0 := w) (base := base) T F_net (PySem.W.mg_of X G a_net) b_net C_cell C_mix C_name C_wires (PySem.W.mg_none_of X G z_enumerate) (PySem.W.mg_none_of X G z_len) (PySem.W.mg_none_of X G z_list) (PySem.W.mg_none_of X G z_range) (PySem.W.mg_none_of X G z_reversed)
  have C_told := ok_told (P := l.prog) (w0 := w) (base := base) T F_told (PySem.W.mg_of X G a_told) b_told (PySem.W.mg_none_of X G z_list) (PySem.W.mg_none_of X G z_tuple)
  have C_ladder := ok_ladder (P := l.prog) (w0 := w) (base := base) T F_ladder (PySem.W.mg_of X G a_ladder) b_ladder (PySem.W.mg_none_of X G z_len) (PySem.W.mg_none_of X G z_list) (PySem.W.mg_none_of X G z_max) (PySem.W.mg_none_of X G z_range) (PySem.W.mg_none_of X G z_str)
  have C_missing := ok_missing (P := l.prog) (w0 := w) (base := base) T F_missing (PySem.W.mg_of X G a_missing) b_missing C_Net_wire_of
  have C_wires_good := ok_wires_good (P := l.prog) (w0 := w) (base := base) T F_wires_good (PySem.W.mg_of X G a_wires_good) b_wires_good C_Net_wire_of (PySem.W.mg_none_of X G z_enumerate) (PySem.W.mg_none_of X G z_isinstance) (PySem.W.mg_none_of X G z_tuple)
  have C_order_good := ok_order_good (P := l.prog) (w0 := w) (base := base) T F_order_good (PySem.W.mg_of X G a_order_good) b_order_good (PySem.W.mg_none_of X G z_isinstance) (PySem.W.mg_none_of X G z_list) (PySem.W.mg_none_of X G z_sorted)
  have C_good := ok_good (P := l.prog) (w0 := w) (base := base) T F_good (PySem.W.mg_of X G a_good) b_good C_told C_Net_told C_wires_good C_Net_in_names C_Net_sum_rows C_Net_store_rows C_Net_out_wires C_Net_wire_names C_Net_order C_order_good (PySem.W.mg_none_of X G z_isinstance) (PySem.W.mg_none_of X G z_list) (PySem.W.mg_none_of X G z_tuple)
  exact ok_law T F_law C_net C_cell C_ladder C_Net___init__ C_good C_name C_missing (PySem.W.mg_none_of X G z_len) (PySem.W.mg_none_of X G z_list) (PySem.W.mg_none_of X G z_range) (PySem.W.mg_none_of X G z_tuple)
theorem walk {l : PySem.W.OpenLaw} {q : Program} {loose : List Str} {XP : (Str → Option Value) → Heap → Prop} {YP : World → Heap → Prop} {d : DefRec} {K : Params → PySem.W.Frag} (hn : l.most = some 63) (hdf : d.params.defaults = [])
    (hY : ∀ (w : World) (h : Heap), YP w h → (K w.params).In h)
    (F : ∀ (w : World) (mg : Str → Option Value) (fa : Addr) (h : Heap), (K w.params).In h → h.Ns mainGlobals mg → mg d.name = some (.ref fa) → ∃ (fd : FuncData) (sp : Sp), (∀ (s : Shared) (u : Value), BindsTo s fd ⟨[u], []⟩ [("_law_script", u)]) ∧ (∀ (H : Hp) (a : Addr) (ns : List Int), ns.length ≤ 63 → SqL (K w.params) H a (ns.map V.int) → sp [.ref a] H (fun v _ => v = .bl true) fun _ _ _ => False) ∧ ∀ base : Heap, (K w.params).In base → base.Ns mainGlobals mg → FnOk l.prog w (K w.params) mg base CX0 7 fa fd ["_law_script"] sp) :
    PySem.W.WalkO q loose XP YP l.row.toRowW d [] (fun f vs => PySem.call f vs) := by
  refine Att.attach_call hn hdf fun w s₀ s₁ mg mb fa o pm cd doc a vs ns G Y ho hd hcd hmg hobj hints hlen hg => ?_
  have KX := hY w _ Y
  obtain ⟨fd, sp, hb, hsp, hF⟩ := F w mg fa _ KX G.T.g hmg
  exact law_call (k := 7) (x := "_law_script") (CX := CX0) KX G.T.g G.T.b G.T.builtins G.T.nolimit hg hobj hints (Nat.le_trans hlen (by decide)) ⟨rfl, by decide, by decide⟩ hF hb (fun H hO hS => hsp H a ns hlen hS) fun H e s' z => z
end My
open PySem PySem.W PyProof.Rows
set_option maxRecDepth 100000 in
set_option maxHeartbeats 0 in
theorem PySem.Challenge.cw_sumwires_k12_nets_told_holds : PySem.Challenge.rw_sumwires_k12_nets_told.Holds := by
  w_on; o_law; k_head; (case hw => w_witness2)
  k_fill
  refine My.walk (l := PySem.Challenge.rw_sumwires_k12_nets_told) rfl rfl (fun w h Y => PySem.W.kIn_of Y) ?F
  case F =>
    intro w mg fa h KX G hmg
    refine' My.all_mk KX G hmg ?aC_InWire ?pg_InWire ?hd_InWire ?po_InWire ?sa_InWire ?mk_InWire ?kc_InWire ?na_InWire_name ?na_InWire_number ?aC_SumWire ?pg_SumWire ?hd_SumWire ?po_SumWire ?sa_SumWire ?mk_SumWire ?kc_SumWire ?na_SumWire_name ?na_SumWire_wires ?aC_StoreWire ?pg_StoreWire ?hd_StoreWire ?po_StoreWire ?sa_StoreWire ?mk_StoreWire ?kc_StoreWire ?na_StoreWire_name ?na_StoreWire_wire ?na_StoreWire_number ?aC_Net ?pg_Net ?hd_Net ?po_Net ?sa_Net ?mk_Net ?kc_Net ?na_Net_all ?na_Net_ends ?na_Net_line_up ?na_Net_laid ?aC_WireError ?xX_WireError ?kX_WireError ?bX_WireError ?tX_WireError ?iX_WireError ?aC_NoWire ?lx_NoWire ?rv_NoWire ?kX_NoWire ?bX_NoWire ?tX_NoWire ?iX_NoWire ?sa_NoWire ?xga_NoWire ?xgg_NoWire ?xhd_NoWire ?xno_NoWire ?xrd ?xrga ?xrv ?aC_Wire ?rd_Wire ?ga_Wire ?iX_InWire ?tX_InWire ?iX_StoreWire ?tX_StoreWire ?iX_SumWire ?tX_SumWire ?iX_Wire ?tX_Wire ?u_MOST_INS ?u_MOST_OUTS ?u_MOST_STORES ?u_MOST_SUMS ?u_MOST_WIRES ?u_FIGURES ?u_LETTERS ?ea_InWire ?em_InWire ?ea_StoreWire ?em_StoreWire ?ea_SumWire ?em_SumWire ?eN ?eT ?sX_InWire_InWire ?sX_InWire_StoreWire ?sX_InWire_SumWire ?sX_InWire_Wire ?sX_NoWire_NoWire ?sX_StoreWire_InWire ?sX_StoreWire_StoreWire ?sX_StoreWire_SumWire ?sX_StoreWire_Wire ?sX_SumWire_InWire ?sX_SumWire_StoreWire ?sX_SumWire_SumWire ?sX_SumWire_Wire ?a_Wire___init__ ?i_Wire___init__ ?l_Wire___init__ ?c_Wire___init__ ?k_Wire___init__ ?a_Wire_needs_InWire ?a_Wire_needs_StoreWire ?i_Wire_needs ?l_Wire_needs ?c_Wire_needs ?k_Wire_needs ?a_InWire___init__ ?i_InWire___init__ ?l_InWire___init__ ?c_InWire___init__ ?k_InWire___init__ ?a_InWire_kind ?i_InWire_kind ?l_InWire_kind ?c_InWire_kind ?k_InWire_kind ?a_InWire_bit ?i_InWire_bit ?l_InWire_bit ?c_InWire_bit ?k_InWire_bit ?a_InWire_hang ?i_InWire_hang ?l_InWire_hang ?c_InWire_hang ?k_InWire_hang ?a_SumWire___init__ ?i_SumWire___init__ ?l_SumWire___init__ ?c_SumWire___init__ ?k_SumWire___init__ ?a_SumWire_kind ?i_SumWire_kind ?l_SumWire_kind ?c_SumWire_kind ?k_SumWire_kind ?a_SumWire_needs ?i_SumWire_needs ?l_SumWire_needs ?c_SumWire_needs ?k_SumWire_needs ?a_SumWire_bit ?i_SumWire_bit ?l_SumWire_bit ?c_SumWire_bit ?k_SumWire_bit ?a_SumWire_hang ?i_SumWire_hang ?l_SumWire_hang ?c_SumWire_hang ?k_SumWire_hang ?a_StoreWire___init__ ?i_StoreWire___init__ ?l_StoreWire___init__ ?c_StoreWire___init__ ?k_StoreWire___init__ ?a_StoreWire_kind ?i_StoreWire_kind ?l_StoreWire_kind ?c_StoreWire_kind ?k_StoreWire_kind ?a_StoreWire_bit ?i_StoreWire_bit ?l_StoreWire_bit ?c_StoreWire_bit ?k_StoreWire_bit ?a_StoreWire_hang ?i_StoreWire_hang ?l_StoreWire_hang ?c_StoreWire_hang ?k_StoreWire_hang ?a_is_name ?l_is_name ?c_is_name ?k_is_name ?a_NoWire___init__ ?i_NoWire___init__ ?l_NoWire___init__ ?c_NoWire___init__ ?k_NoWire___init__ ?a_need_sizes ?l_need_sizes ?c_need_sizes ?k_need_sizes ?a_Net_put_in ?i_Net_put_in ?l_Net_put_in ?c_Net_put_in ?k_Net_put_in ?a_Net_of_kind ?i_Net_of_kind ?l_Net_of_kind ?c_Net_of_kind ?k_Net_of_kind ?a_Net_readings ?i_Net_readings ?l_Net_readings ?c_Net_readings ?k_Net_readings ?a_Net_wire_of ?i_Net_wire_of ?l_Net_wire_of ?c_Net_wire_of ?k_Net_wire_of ?a_Net_lay_out ?i_Net_lay_out ?l_Net_lay_out ?c_Net_lay_out ?k_Net_lay_out ?a_Net___init__ ?i_Net___init__ ?l_Net___init__ ?c_Net___init__ ?k_Net___init__ ?a_Net_in_names ?i_Net_in_names ?l_Net_in_names ?c_Net_in_names ?k_Net_in_names ?a_Net_sum_rows ?i_Net_sum_rows ?l_Net_sum_rows ?c_Net_sum_rows ?k_Net_sum_rows ?a_Net_store_rows ?i_Net_store_rows ?l_Net_store_rows ?c_Net_store_rows ?k_Net_store_rows ?a_Net_out_wires ?i_Net_out_wires ?l_Net_out_wires ?c_Net_out_wires ?k_Net_out_wires ?a_Net_wire_names ?i_Net_wire_names ?l_Net_wire_names ?c_Net_wire_names ?k_Net_wire_names ?a_Net_order ?i_Net_order ?l_Net_order ?c_Net_order ?k_Net_order ?a_Net_told ?i_Net_told ?l_Net_told ?c_Net_told ?k_Net_told ?a_cell ?l_cell ?c_cell ?k_cell ?a_mix ?l_mix ?c_mix ?k_mix ?a_name ?l_name ?c_name ?k_name ?a_wires ?l_wires ?c_wires ?k_wires ?a_net ?l_net ?c_net ?k_net ?a_told ?l_told ?c_told ?k_told ?a_ladder ?l_ladder ?c_ladder ?k_ladder ?a_missing ?l_missing ?c_missing ?k_missing ?a_wires_good ?l_wires_good ?c_wires_good ?k_wires_good ?a_order_good ?l_order_good ?c_order_good ?k_order_good ?a_good ?l_good ?c_good ?k_good ?a_law ?l_law ?c_law ?k_law ?z_enumerate ?z_isinstance ?z_len ?z_list ?z_max ?z_range ?z_reversed ?z_sorted ?z_str ?z_tuple
    (case aC_InWire => k_is); (case pg_InWire => k_is); (case hd_InWire => k_is); (case po_InWire => k_is)
    (case sa_InWire => k_is); (case mk_InWire => k_is); (case kc_InWire => k_is); (case na_InWire_name => k_is)
    (case na_InWire_number => k_is); (case aC_SumWire => k_is); (case pg_SumWire => k_is); (case hd_SumWire => k_is)
    (case po_SumWire => k_is); (case sa_SumWire => k_is); (case mk_SumWire => k_is); (case kc_SumWire => k_is)
    (case na_SumWire_name => k_is); (case na_SumWire_wires => k_is); (case aC_StoreWire => k_is); (case pg_StoreWire => k_is)
    (case hd_StoreWire => k_is); (case po_StoreWire => k_is); (case sa_StoreWire => k_is); (case mk_StoreWire => k_is)
    (case kc_StoreWire => k_is); (case na_StoreWire_name => k_is); (case na_StoreWire_wire => k_is); (case na_StoreWire_number => k_is)
    (case aC_Net => k_is); (case pg_Net => k_is); (case hd_Net => k_is); (case po_Net => k_is)
    (case sa_Net => k_is); (case mk_Net => k_is); (case kc_Net => k_is); (case na_Net_all => k_is)
    (case na_Net_ends => k_is); (case na_Net_line_up => k_is); (case na_Net_laid => k_is); (case aC_WireError => k_is)
    (case xX_WireError => k_exc); (case kX_WireError => k_is); (case bX_WireError => k_is); (case tX_WireError => k_is)
    (case iX_WireError => k_is); (case aC_NoWire => k_is); (case lx_NoWire => k_is); (case rv_NoWire => rfl)
    (case kX_NoWire => k_is); (case bX_NoWire => k_is); (case tX_NoWire => k_is); (case iX_NoWire => k_is)
    (case sa_NoWire => k_is); (case xga_NoWire => k_is); (case xgg_NoWire => k_is); (case xhd_NoWire => k_is)
    (case xno_NoWire => k_is); (case xrd => k_is); (case xrga => k_is); (case xrv => k_is)
    (case aC_Wire => k_is); (case rd_Wire => k_is); (case ga_Wire => k_is); (case iX_InWire => k_is)
    (case tX_InWire => k_is); (case iX_StoreWire => k_is); (case tX_StoreWire => k_is); (case iX_SumWire => k_is)
    (case tX_SumWire => k_is); (case iX_Wire => k_is); (case tX_Wire => k_is); (case u_MOST_INS => k_is)
    (case u_MOST_OUTS => k_is); (case u_MOST_STORES => k_is); (case u_MOST_SUMS => k_is); (case u_MOST_WIRES => k_is)
    (case u_FIGURES => k_is); (case u_LETTERS => k_is); (case ea_InWire => k_is); (case em_InWire => k_is)
    (case ea_StoreWire => k_is); (case em_StoreWire => k_is); (case ea_SumWire => k_is); (case em_SumWire => k_is)
    (case eN => k_is); (case eT => k_is); (case sX_InWire_InWire => first | rfl | k_is); (case sX_InWire_StoreWire => first | rfl | k_is)
    (case sX_InWire_SumWire => first | rfl | k_is); (case sX_InWire_Wire => first | rfl | k_is); (case sX_NoWire_NoWire => first | rfl | k_is); (case sX_StoreWire_InWire => first | rfl | k_is)
    (case sX_StoreWire_StoreWire => first | rfl | k_is); (case sX_StoreWire_SumWire => first | rfl | k_is); (case sX_StoreWire_Wire => first | rfl | k_is); (case sX_SumWire_InWire => first | rfl | k_is)
    (case sX_SumWire_StoreWire => first | rfl | k_is); (case sX_SumWire_SumWire => first | rfl | k_is); (case sX_SumWire_Wire => first | rfl | k_is); (case a_Wire___init__ => k_is)
    (case i_Wire___init__ => k_is); (case l_Wire___init__ => k_is); (case c_Wire___init__ => k_is); (case k_Wire___init__ => k_is)
    (case a_Wire_needs_InWire => k_is); (case a_Wire_needs_StoreWire => k_is); (case i_Wire_needs => k_is); (case l_Wire_needs => k_is)
    (case c_Wire_needs => k_is); (case k_Wire_needs => k_is); (case a_InWire___init__ => k_is); (case i_InWire___init__ => k_is)
    (case l_InWire___init__ => k_is); (case c_InWire___init__ => k_is); (case k_InWire___init__ => k_is); (case a_InWire_kind => k_is)
    (case i_InWire_kind => k_is); (case l_InWire_kind => k_is); (case c_InWire_kind => k_is); (case k_InWire_kind => k_is)
    (case a_InWire_bit => k_is); (case i_InWire_bit => k_is); (case l_InWire_bit => k_is); (case c_InWire_bit => k_is)
    (case k_InWire_bit => k_is); (case a_InWire_hang => k_is); (case i_InWire_hang => k_is); (case l_InWire_hang => k_is)
    (case c_InWire_hang => k_is); (case k_InWire_hang => k_is); (case a_SumWire___init__ => k_is); (case i_SumWire___init__ => k_is)
    (case l_SumWire___init__ => k_is); (case c_SumWire___init__ => k_is); (case k_SumWire___init__ => k_is); (case a_SumWire_kind => k_is)
    (case i_SumWire_kind => k_is); (case l_SumWire_kind => k_is); (case c_SumWire_kind => k_is); (case k_SumWire_kind => k_is)
    (case a_SumWire_needs => k_is); (case i_SumWire_needs => k_is); (case l_SumWire_needs => k_is); (case c_SumWire_needs => k_is)
    (case k_SumWire_needs => k_is); (case a_SumWire_bit => k_is); (case i_SumWire_bit => k_is); (case l_SumWire_bit => k_is)
    (case c_SumWire_bit => k_is); (case k_SumWire_bit => k_is); (case a_SumWire_hang => k_is); (case i_SumWire_hang => k_is)
    (case l_SumWire_hang => k_is); (case c_SumWire_hang => k_is); (case k_SumWire_hang => k_is); (case a_StoreWire___init__ => k_is)
    (case i_StoreWire___init__ => k_is); (case l_StoreWire___init__ => k_is); (case c_StoreWire___init__ => k_is); (case k_StoreWire___init__ => k_is)
    (case a_StoreWire_kind => k_is); (case i_StoreWire_kind => k_is); (case l_StoreWire_kind => k_is); (case c_StoreWire_kind => k_is)
    (case k_StoreWire_kind => k_is); (case a_StoreWire_bit => k_is); (case i_StoreWire_bit => k_is); (case l_StoreWire_bit => k_is)
    (case c_StoreWire_bit => k_is); (case k_StoreWire_bit => k_is); (case a_StoreWire_hang => k_is); (case i_StoreWire_hang => k_is)
    (case l_StoreWire_hang => k_is); (case c_StoreWire_hang => k_is); (case k_StoreWire_hang => k_is); (case a_is_name => k_is)
    (case l_is_name => k_is); (case c_is_name => k_is); (case k_is_name => k_is); (case a_NoWire___init__ => k_is)
    (case i_NoWire___init__ => k_is); (case l_NoWire___init__ => k_is); (case c_NoWire___init__ => k_is); (case k_NoWire___init__ => k_is)
    (case a_need_sizes => k_is); (case l_need_sizes => k_is); (case c_need_sizes => k_is); (case k_need_sizes => k_is)
    (case a_Net_put_in => k_is); (case i_Net_put_in => k_is); (case l_Net_put_in => k_is); (case c_Net_put_in => k_is)
    (case k_Net_put_in => k_is); (case a_Net_of_kind => k_is); (case i_Net_of_kind => k_is); (case l_Net_of_kind => k_is)
    (case c_Net_of_kind => k_is); (case k_Net_of_kind => k_is); (case a_Net_readings => k_is); (case i_Net_readings => k_is)
    (case l_Net_readings => k_is); (case c_Net_readings => k_is); (case k_Net_readings => k_is); (case a_Net_wire_of => k_is)
    (case i_Net_wire_of => k_is); (case l_Net_wire_of => k_is); (case c_Net_wire_of => k_is); (case k_Net_wire_of => k_is)
    (case a_Net_lay_out => k_is); (case i_Net_lay_out => k_is); (case l_Net_lay_out => k_is); (case c_Net_lay_out => k_is)
    (case k_Net_lay_out => k_is); (case a_Net___init__ => k_is); (case i_Net___init__ => k_is); (case l_Net___init__ => k_is)
    (case c_Net___init__ => k_is); (case k_Net___init__ => k_is); (case a_Net_in_names => k_is); (case i_Net_in_names => k_is)
    (case l_Net_in_names => k_is); (case c_Net_in_names => k_is); (case k_Net_in_names => k_is); (case a_Net_sum_rows => k_is)
    (case i_Net_sum_rows => k_is); (case l_Net_sum_rows => k_is); (case c_Net_sum_rows => k_is); (case k_Net_sum_rows => k_is)
    (case a_Net_store_rows => k_is); (case i_Net_store_rows => k_is); (case l_Net_store_rows => k_is); (case c_Net_store_rows => k_is)
    (case k_Net_store_rows => k_is); (case a_Net_out_wires => k_is); (case i_Net_out_wires => k_is); (case l_Net_out_wires => k_is)
    (case c_Net_out_wires => k_is); (case k_Net_out_wires => k_is); (case a_Net_wire_names => k_is); (case i_Net_wire_names => k_is)
    (case l_Net_wire_names => k_is); (case c_Net_wire_names => k_is); (case k_Net_wire_names => k_is); (case a_Net_order => k_is)
    (case i_Net_order => k_is); (case l_Net_order => k_is); (case c_Net_order => k_is); (case k_Net_order => k_is)
    (case a_Net_told => k_is); (case i_Net_told => k_is); (case l_Net_told => k_is); (case c_Net_told => k_is)
    (case k_Net_told => k_is); (case a_cell => k_is); (case l_cell => k_is); (case c_cell => k_is)
    (case k_cell => k_is); (case a_mix => k_is); (case l_mix => k_is); (case c_mix => k_is)
    (case k_mix => k_is); (case a_name => k_is); (case l_name => k_is); (case c_name => k_is)
    (case k_name => k_is); (case a_wires => k_is); (case l_wires => k_is); (case c_wires => k_is)
    (case k_wires => k_is); (case a_net => k_is); (case l_net => k_is); (case c_net => k_is)
    (case k_net => k_is); (case a_told => k_is); (case l_told => k_is); (case c_told => k_is)
    (case k_told => k_is); (case a_ladder => k_is); (case l_ladder => k_is); (case c_ladder => k_is)
    (case k_ladder => k_is); (case a_missing => k_is); (case l_missing => k_is); (case c_missing => k_is)
    (case k_missing => k_is); (case a_wires_good => k_is); (case l_wires_good => k_is); (case c_wires_good => k_is)
    (case k_wires_good => k_is); (case a_order_good => k_is); (case l_order_good => k_is); (case c_order_good => k_is)
    (case k_order_good => k_is); (case a_good => k_is); (case l_good => k_is); (case c_good => k_is)
    (case k_good => k_is); (case a_law => k_is); (case l_law => k_is); (case c_law => k_is)
    (case k_law => k_is); (case z_enumerate => k_is); (case z_isinstance => k_is); (case z_len => k_is)
    (case z_list => k_is); (case z_max => k_is); (case z_range => k_is); (case z_reversed => k_is)
    (case z_sorted => k_is); (case z_str => k_is); (case z_tuple => k_is)
