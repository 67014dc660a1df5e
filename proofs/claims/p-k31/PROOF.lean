import PyProof.Rows.All
import Wide.All
import OpenK.AllK
import Wide.FinOn
import HandS.ForMost
import HandS.Wide
import HandS.WideBits
import HandS.IsInst
import HandS.Steps
import HandS.Exc
import HandS.ExcOwn
import HandS.TryOnly
import HandS.WordsExc
import HandS.EndBits
import HandS.Rev
import HandS.RevTup
import HandS.Walk
import HandS.Zip
import HandS.SortInts
import HandS.More
import HandS.SetFor
import KE.GoesMore
import KE.KDictZip
import HandS.Iter
import HandS.Keys
import HandS.Defaults
import HandS.ExcIs
import HandS.Text
import PyProof.EqKinds
import PyProof.NeKinds
import KE.KEqDict
import HandS.Style
import HandS.ClsMeth
import HandS.List
import HandS.ExcInit
import HandS.ExcField
import PyProof.StrOps2
import HandS.Deep
import HandS.TryMany
import HandS.NoneIn
import HandS.Lambda
import HandS.EndTab
import KE.KNestM
import HandS.TupSets
import PySem.Challenge.RW_sumwires_k31_machines_made_or_refused
set_option Elab.async false
set_option linter.all false
set_option maxRecDepth 100000
set_option maxHeartbeats 4000000
set_option exponentiation.threshold 4000
namespace Wk
open PySem L2
abbrev Ex (H H' : Hp) : Prop := ∀ a o, H a = some o → H' a = some o
theorem Ex.rfl' {H : Hp} : Ex H H := fun _ _ h => h
theorem Ex.tr {H H1 H2 : Hp} (a : Ex H H1) (b : Ex H1 H2) : Ex H H2 := fun x o h => b x o (a x o h)
theorem Ex.new {H : Hp} {p : Addr} {o : HO} (h : H p = none) : Ex H (upd H p o) := fun a u e => by
  rw [upd_ne (ne_of_none e h)]; exact e
theorem Ex.non {H H' : Hp} (e : Ex H H') {p : Addr} (h : H' p = none) : H p = none := by
  cases q : H p with
  | none => rfl
  | some o => rw [e p o q] at h; cases h
/-- from (F0, H0) to (F, H): all is kept, and F has grown by nothing but what is new to H0 -/
structure Wf (F0 H0 F H : Hp) : Prop where
  h : Ex H0 H
  f : Ex F H
  g : Ex F0 F
  n : ∀ a o, F a = some o → F0 a = none → H0 a = none
theorem Wf.id {F H : Hp} (e : Ex F H) : Wf F H F H := ⟨Ex.rfl', e, Ex.rfl', fun a o h h' => by rw [h] at h'; cases h'⟩
theorem Wf.tr {F0 H0 F H F' H' : Hp} (a : Wf F0 H0 F H) (b : Wf F H F' H') : Wf F0 H0 F' H' := ⟨a.h.tr b.h, b.f, a.g.tr b.g, fun x o h h0 => by
  cases q : F x with
  | none => exact a.h.non (b.n x o h q)
  | some u => exact a.n x u q h0⟩
/-- a new object that stays as it is -/
theorem Wf.new {F H : Hp} {p : Addr} {o : HO} (e : Ex F H) (hp : H p = none) : Wf F H (upd F p o) (upd H p o) := ⟨Ex.new hp, fun a u h => by
    by_cases q : a = p
    · subst q; rw [upd_same] at h ⊢; exact h
    · rw [upd_ne q] at h ⊢; exact e a u h, Ex.new (e.non hp), fun a u h h0 => by
    by_cases q : a = p
    · subst q; exact hp
    · rw [upd_ne q, h0] at h; cases h⟩
/-- a new object that is still changed -/
theorem Wf.newX {F H : Hp} {p : Addr} {o : HO} (e : Ex F H) (hp : H p = none) : Wf F H F (upd H p o) := ⟨Ex.new hp, e.tr (Ex.new hp), Ex.rfl', fun a u h h0 => by rw [h] at h0; cases h0⟩
/-- F' has grown by nothing but p -/
abbrev Fz (F F' : Hp) (p : Addr) : Prop := ∀ q, q ≠ p → F q = none → F' q = none
/-- one's own object, not yet in F -/
structure Xc (H0 F H : Hp) (p : Addr) (o : HO) : Prop where
  z : H0 p = none
  n : F p = none
  h : H p = some o
section
variable {F0 H0 F H F' H' : Hp} {p q : Addr} {o u : HO}
theorem Xc.mk' (w : Wf F0 H0 F H) (hp : H p = none) : Xc H0 F (upd H p o) p o := ⟨w.h.non hp, w.f.non hp, upd_same⟩
theorem Xc.step (x : Xc H0 F H p o) (w : Wf F H F' H') : Xc H0 F' H' p o := ⟨x.z, (by
  cases q : F' p with
  | none => rfl
  | some u => have := w.n p u q x.n; rw [x.h] at this; cases this), w.h _ _ x.h⟩
theorem Xc.set (x : Xc H0 F H p o) : Xc H0 F (upd H p u) p u := ⟨x.z, x.n, upd_same⟩
theorem Wf.set (w : Wf F0 H0 F H) (x : Xc H0 F H p o) : Wf F0 H0 F (upd H p u) := ⟨fun a v e => by
    rw [upd_ne (ne_of_none e x.z)]; exact w.h a v e, fun a v e => by rw [upd_ne (ne_of_none e x.n)]; exact w.f a v e, w.g, w.n⟩
/-- it is changed no more -/
theorem Wf.freeze (w : Wf F0 H0 F H) (x : Xc H0 F H p o) : Wf F0 H0 (upd F p o) H := ⟨w.h, fun a v e => by
    by_cases q : a = p
    · subst q; rw [upd_same] at e; rw [← e]; exact x.h
    · rw [upd_ne q] at e; exact w.f a v e, w.g.tr (Ex.new x.n), fun a v e e0 => by
    by_cases q : a = p
    · subst q; exact x.z
    · rw [upd_ne q] at e; exact w.n a v e e0⟩
theorem Xc.frz (x : Xc H0 F H p o) (y : Xc H0 F H q u) (h : p ≠ q) : Xc H0 (upd F q u) H p o := ⟨x.z, by rw [upd_ne h]; exact x.n, x.h⟩
theorem Xc.ne (x : Xc H0 F H p o) (h : H q = none) : p ≠ q := ne_of_none x.h h
end
structure Rep (α : Type) where
  r : Hp → V → α → Prop
  mono : ∀ {F F' : Hp} {v : V} {x : α}, Ex F F' → r F v x → r F' v x
def pI : Rep Int := ⟨fun _ v x => v = .int x, fun _ h => h⟩
def pN : Rep Nat := ⟨fun _ v x => v = .int (x : Int), fun _ h => h⟩
def pB : Rep Bool := ⟨fun _ v x => v = .bl x, fun _ h => h⟩
def pS : Rep Str := ⟨fun _ v x => v = .str x, fun _ h => h⟩
def All {α : Type} (e : Rep α) (F : Hp) : List V → List α → Prop
  | [], [] => True
  | v :: vs, x :: xs => e.r F v x ∧ All e F vs xs
  | _, _ => False
section
variable {α β γ : Type} {e : Rep α} {F F' : Hp} {vs ws : List V} {xs ys : List α} {v : V} {x : α}
theorem All.mono (h : Ex F F') : ∀ {vs : List V} {xs : List α}, All e F vs xs → All e F' vs xs
  | [], [], _ => trivial
  | _ :: _, _ :: _, ⟨a, b⟩ => ⟨e.mono h a, All.mono h b⟩
  | [], _ :: _, q => q.elim
  | _ :: _, [], q => q.elim
theorem All.len : ∀ {vs : List V} {xs : List α}, All e F vs xs → vs.length = xs.length
  | [], [], _ => rfl
  | _ :: _, _ :: _, ⟨_, b⟩ => by rw [List.length_cons, List.length_cons, All.len b]
  | [], _ :: _, q => q.elim
  | _ :: _, [], q => q.elim
theorem All.get : ∀ {vs : List V} {xs : List α} {i : Nat} {x : α}, All e F vs xs → xs[i]? = some x → ∃ v, vs[i]? = some v ∧ e.r F v x
  | _ :: _, _ :: _, 0, _, ⟨a, _⟩, h => by simp at h; subst h; exact ⟨_, rfl, a⟩
  | _ :: _, _ :: _, i + 1, _, ⟨_, b⟩, h => by
    obtain ⟨v, h1, h2⟩ := All.get (i := i) b (by simpa using h)
    exact ⟨v, by simpa using h1, h2⟩
  | [], [], _, _, _, h => by simp at h
  | [], _ :: _, _, _, q, _ => q.elim
  | _ :: _, [], _, _, q, _ => q.elim
theorem All.got : ∀ {vs : List V} {xs : List α} {i : Nat} {v : V}, All e F vs xs → vs[i]? = some v → ∃ x, xs[i]? = some x ∧ e.r F v x
  | _ :: _, _ :: _, 0, _, ⟨a, _⟩, h => by simp at h; subst h; exact ⟨_, rfl, a⟩
  | _ :: _, _ :: _, i + 1, _, ⟨_, b⟩, h => by
    obtain ⟨v, h1, h2⟩ := All.got (i := i) b (by simpa using h)
    exact ⟨v, by simpa using h1, h2⟩
  | [], [], _, _, _, h => by simp at h
  | [], _ :: _, _, _, q, _ => q.elim
  | _ :: _, [], _, _, q, _ => q.elim
theorem All.app : ∀ {vs : List V} {xs : List α}, All e F vs xs → All e F ws ys → All e F (vs ++ ws) (xs ++ ys)
  | [], [], _, b => b
  | _ :: _, _ :: _, ⟨a, a'⟩, b => ⟨a, All.app a' b⟩
  | [], _ :: _, q, _ => q.elim
  | _ :: _, [], q, _ => q.elim
theorem All.snoc (a : All e F vs xs) (b : e.r F v x) : All e F (vs ++ [v]) (xs ++ [x]) := a.app ⟨b, trivial⟩
theorem All.set : ∀ {vs : List V} {xs : List α} (i : Nat), All e F vs xs → e.r F v x → All e F (vs.set i v) (xs.set i x)
  | [], [], _, _, _ => trivial
  | _ :: _, _ :: _, 0, ⟨_, b⟩, r => ⟨r, b⟩
  | _ :: _, _ :: _, i + 1, ⟨a, b⟩, r => ⟨a, All.set i b r⟩
  | [], _ :: _, _, q, _ => q.elim
  | _ :: _, [], _, q, _ => q.elim
theorem All.take : ∀ {vs : List V} {xs : List α} (i : Nat), All e F vs xs → All e F (vs.take i) (xs.take i)
  | [], [], i, _ => by simp [All]
  | _ :: _, _ :: _, 0, _ => trivial
  | _ :: _, _ :: _, i + 1, ⟨a, b⟩ => ⟨a, All.take i b⟩
  | [], _ :: _, _, q => q.elim
  | _ :: _, [], _, q => q.elim
theorem All.drop : ∀ {vs : List V} {xs : List α} (i : Nat), All e F vs xs → All e F (vs.drop i) (xs.drop i)
  | [], [], i, _ => by simp [All]
  | _ :: _, _ :: _, 0, h => h
  | _ :: _, _ :: _, i + 1, ⟨_, b⟩ => All.drop i b
  | [], _ :: _, _, q => q.elim
  | _ :: _, [], _, q => q.elim
theorem All.ofInts : ∀ {xs : List Int}, All pI F (xs.map V.int) xs
  | [] => trivial
  | _ :: _ => ⟨rfl, All.ofInts⟩
end
/-- a list, a tuple of things of one kind, pairs, triples -/
def pL {α : Type} (e : Rep α) : Rep (List α) := ⟨fun F v xs => ∃ p vs, v = .ref p ∧ F p = some (.lst vs) ∧ All e F vs xs, fun h ⟨p, vs, a, b, c⟩ => ⟨p, vs, a, h _ _ b, c.mono h⟩⟩
def pTL {α : Type} (e : Rep α) : Rep (List α) := ⟨fun F v xs => ∃ p vs, v = .ref p ∧ F p = some (.tup vs) ∧ All e F vs xs, fun h ⟨p, vs, a, b, c⟩ => ⟨p, vs, a, h _ _ b, c.mono h⟩⟩
def pT2 {α β : Type} (e : Rep α) (f : Rep β) : Rep (α × β) := ⟨fun F v x => ∃ p u w, v = .ref p ∧ F p = some (.tup [u, w]) ∧ e.r F u x.1 ∧ f.r F w x.2, fun h ⟨p, u, w, a, b, c, d⟩ => ⟨p, u, w, a, h _ _ b, e.mono h c, f.mono h d⟩⟩
def pT3 {α β γ : Type} (e : Rep α) (f : Rep β) (g : Rep γ) : Rep (α × β × γ) := ⟨fun F v x => ∃ p u w y, v = .ref p ∧ F p = some (.tup [u, w, y]) ∧ e.r F u x.1 ∧ f.r F w x.2.1 ∧ g.r F y x.2.2, fun h ⟨p, u, w, y, a, b, c, d, k⟩ => ⟨p, u, w, y, a, h _ _ b, e.mono h c, f.mono h d, g.mono h k⟩⟩
def pO {α : Type} (e : Rep α) : Rep (Option α) := ⟨fun F v x => match x with | none => v = .non | some y => e.r F v y, fun {_ _ _ x} h q => by cases x with | none => exact q | some y => exact e.mono h q⟩
/-- the script: read only -/
def pScr (K : PySem.W.Frag) : Rep (List Int) := ⟨fun F v xs => ∃ a, v = .ref a ∧ SqL K F a (xs.map V.int), fun h ⟨a, e, q⟩ => ⟨a, e, by
  rcases q with (q | ⟨o, q⟩) | q
  · exact .inl (.inl (h _ _ q))
  · exact .inl (.inr ⟨o, h _ _ q⟩)
  · exact .inr q⟩⟩
/-- one's own list -/
structure XL {α : Type} (e : Rep α) (H0 F H : Hp) (p : Addr) (xs : List α) : Prop where
  x : ∃ vs, Xc H0 F H p (.lst vs) ∧ All e F vs xs
section
variable {α : Type} {e : Rep α} {F0 H0 F H F' H' : Hp} {p q : Addr} {o : HO} {xs : List α} {y : α} {v : V}
theorem XL.step (x : XL e H0 F H p xs) (w : Wf F H F' H') : XL e H0 F' H' p xs := let ⟨vs, a, b⟩ := x.x; ⟨vs, a.step w, b.mono w.g⟩
theorem XL.ne (x : XL e H0 F H p xs) (h : H q = none) : p ≠ q := let ⟨_, a, _⟩ := x.x; a.ne h
theorem XL.nil (w : Wf F0 H0 F H) (hp : H p = none) : XL e H0 F (upd H p (.lst [])) p [] := ⟨[], Xc.mk' w hp, trivial⟩
theorem XL.frz {u : HO} {β : Type} {e' : Rep β} {ys : List β} (x : XL e H0 F H p xs) (z : Xc H0 F H q u) (h : p ≠ q) : XL e H0 (upd F q u) H p xs := let ⟨vs, a, b⟩ := x.x; ⟨vs, a.frz z h, b.mono (Ex.new z.n)⟩
theorem XL.zero (x : XL e H0 F H p xs) : H0 p = none := let ⟨_, a, _⟩ := x.x; a.z
end
def forW {α S : Type} : List α → S → (α → S → (S → Prop) → (S → Prop) → Prop) → (S → Prop) → Prop
  | [], s, _, k => k s
  | x :: xs, s, b, k => b x s (fun s' => forW xs s' b k) k
def compG {α β : Type} : List α → List β → (α → (Option β → Prop) → Prop) → (List β → Prop) → Prop
  | [], acc, _, k => k acc
  | x :: xs, acc, b, k => b x fun o => compG xs (acc ++ o.toList) b k
def compW {α β : Type} (xs : List α) (b : α → (Option β → Prop) → Prop) (k : List β → Prop) : Prop := compG xs [] b k
section
variable {K : PySem.W.Frag} {σ σ1 : L2.St} {H H1 : Hp} {te ta tb tc : TE} {tt tu : TT} {tA tR : TA} {Q : VK} {v w x y z : V} {D : Ends} {t u : TS} {i j : Int} {a b m n : Nat} {p q : Prop}
theorem e_val (h : Val te σ H v) (q : Q v H) : te σ H Q := h Q q
theorem v_eq (h : Val te σ H v) (e : v = w) : Val te σ H w := e ▸ h
theorem vi_of (h : Val te σ H (.int i)) (e : i = j) : Val te σ H (.int j) := e ▸ h
theorem vb_of {b c : Bool} (h : Val te σ H (.bl b)) (e : b = c) : Val te σ H (.bl c) := e ▸ h
theorem v2 {r : R2} (ha : Val ta σ H x) (hb : Val tb σ H y) (hr : ∀ Q : VK, Q z H → r x y H Q) : Val (tOp r ta tb) σ H z := fun Q k => ha _ (hb _ (hr Q k))
theorem v1 {r : V → Hp → VK → Prop} (ha : Val ta σ H x) (hr : ∀ Q : VK, Q z H → r x H Q) : Val (tUn r ta) σ H z := fun Q k => ha _ (hr Q k)
theorem vi0 {g : Int → Int → V} (ha : Val ta σ H (.int i)) (hb : Val tb σ H (.int j)) : Val (tOp (rI0 g) ta tb) σ H (g i j) := fun _ k => ha _ (hb _ ⟨i, j, rfl, rfl, k⟩)
theorem viC {C : Int → Int → Prop} {g : Int → Int → V} (ha : Val ta σ H (.int i)) (hb : Val tb σ H (.int j)) (hc : C i j) : Val (tOp (rI C g) ta tb) σ H (g i j) := fun _ k => ha _ (hb _ ⟨i, j, rfl, rfl, hc, k⟩)
theorem vn_add (ha : Val ta σ H (.int (a : Int))) (hb : Val tb σ H (.int (b : Int))) : Val (tOp (rI0 fun i j => .int (i + j)) ta tb) σ H (.int ((a + b : Nat) : Int)) := vi_of (vi0 ha hb) (by omega)
theorem vn_sub (ha : Val ta σ H (.int (a : Int))) (hb : Val tb σ H (.int (b : Int))) (h : b ≤ a) : Val (tOp (rI0 fun i j => .int (i - j)) ta tb) σ H (.int ((a - b : Nat) : Int)) := vi_of (vi0 ha hb) (by omega)
def NMul (a b : Nat) : Prop := a < 2 ^ 64 ∨ b < 2 ^ 64
theorem vn_mul (ha : Val ta σ H (.int (a : Int))) (hb : Val tb σ H (.int (b : Int))) (h : NMul a b) : Val (tOp (rI CMul fun i j => .int (i * j)) ta tb) σ H (.int ((a * b : Nat) : Int)) := vi_of (viC ha hb (by
  rcases h with h | h
  · exact .inl ⟨by omega, by omega⟩
  · exact .inr ⟨by omega, by omega⟩)) (by rw [Int.natCast_mul])
def NDiv (b : Nat) : Prop := 0 < b ∧ b.log2 < 9000
theorem vn_div (ha : Val ta σ H (.int (a : Int))) (hb : Val tb σ H (.int (b : Int))) (h : NDiv b) : Val (tOp (rI CDivW fun i j => .int (i / j)) ta tb) σ H (.int ((a / b : Nat) : Int)) := vi_of (viC ha hb ⟨by have := h.1; omega, h.2⟩) (by rw [Int.natCast_ediv])
theorem vi_div (ha : Val ta σ H (.int i)) (hb : Val tb σ H (.int (b : Int))) (h : NDiv b) : Val (tOp (rI CDivW fun i j => .int (i / j)) ta tb) σ H (.int (i / (b : Int))) := viC ha hb ⟨by have := h.1; omega, h.2⟩
theorem vn_mod (ha : Val ta σ H (.int (a : Int))) (hb : Val tb σ H (.int (b : Int))) (h : 0 < b) : Val (tOp (rI (fun _ j => 0 < j) fun i j => .int (i % j)) ta tb) σ H (.int ((a % b : Nat) : Int)) := vi_of (viC (C := fun _ j => 0 < j) ha hb (by omega)) (by rw [Int.natCast_emod])
/-- i % m, as a whole number from 0 on -/
def modN (i : Int) (m : Nat) : Nat := (i % (m : Int)).toNat
theorem modN_cast {i : Int} {m : Nat} (h : 0 < m) : ((modN i m : Nat) : Int) = i % (m : Int) := Int.toNat_of_nonneg (Int.emod_nonneg _ (by omega))
theorem modN_lt {i : Int} {m : Nat} (h : 0 < m) : modN i m < m := by
  have := modN_cast (i := i) h
  have := Int.emod_lt_of_pos i (show (0 : Int) < m by omega)
  omega
theorem vm_mod (ha : Val ta σ H (.int i)) (hb : Val tb σ H (.int (b : Int))) (h : 0 < b) : Val (tOp (rI (fun _ j => 0 < j) fun i j => .int (i % j)) ta tb) σ H (.int ((modN i b : Nat) : Int)) := vi_of (viC (C := fun _ j => 0 < j) ha hb (by omega)) (modN_cast h).symm
theorem bitAnd_N (a b : Nat) : Builtin.bitAnd (a : Int) (b : Int) = ((a &&& b : Nat) : Int) := by
  unfold Builtin.bitAnd
  rw [decide_eq_true (Int.natCast_nonneg a), decide_eq_true (Int.natCast_nonneg b)]
  rfl
theorem vn_and (ha : Val ta σ H (.int (a : Int))) (hb : Val tb σ H (.int (b : Int))) : Val (tOp (rI0 fun i j => .int (Builtin.bitAnd i j)) ta tb) σ H (.int ((a &&& b : Nat) : Int)) := vi_of (vi0 ha hb) (bitAnd_N a b)
def NShl (a k : Nat) : Prop := a.log2 + k < 100000000
theorem NShl.ok {a k : Nat} (h : NShl a k) : CShl (a : Int) (k : Int) := by
  have e : (2 : Int) ^ 27 = 134217728 := by decide
  refine ⟨Int.natCast_nonneg _, ?_⟩
  rw [e]
  have b : Builtin.Int.intBits (a : Int) ≤ a.log2 + 1 := by
    unfold Builtin.Int.intBits
    split
    · omega
    · exact Nat.le_refl _
  unfold NShl at h
  omega
theorem vn_shl (ha : Val ta σ H (.int (a : Int))) (hb : Val tb σ H (.int (b : Int))) (h : NShl a b) : Val (tOp (rI CShl fun i j => .int (i * 2 ^ j.toNat)) ta tb) σ H (.int ((a <<< b : Nat) : Int)) := vi_of (viC ha hb h.ok) (by
  rw [Int.toNat_natCast, Nat.shiftLeft_eq, Int.natCast_mul, Int.natCast_pow]; rfl)
theorem vn_one (ha : Val ta σ H (.int 1)) (hb : Val tb σ H (.int (b : Int))) (h : b < 100000000) : Val (tOp (rI CShl fun i j => .int (i * 2 ^ j.toNat)) ta tb) σ H (.int ((2 ^ b : Nat) : Int)) := vi_of (vn_shl (a := 1) ha hb (by
  unfold NShl
  have : Nat.log2 1 = 0 := by decide
  omega)) (by rw [Nat.shiftLeft_eq, Nat.one_mul])
theorem v_neg (ha : Val ta σ H (.int i)) : Val (tUn (rU fun i => .int (-i)) ta) σ H (.int (-i)) := v1 ha fun _ k => ⟨i, rfl, k⟩
theorem vn_pow {c : Nat} (ha : Val ta σ H (.int (a : Int))) (hb : Val tb σ H (.int (b : Int))) (h : b ≤ 1000000 ∧ a < 2 ^ 64) (e : a ^ b = c) : Val (tOp (rI CPow fun i j => .int (i ^ j.toNat)) ta tb) σ H (.int (c : Int)) := vi_of (viC ha hb ⟨Int.natCast_nonneg _, by omega, by omega⟩) (by
  rw [Int.toNat_natCast, ← e, Int.natCast_pow])
theorem c_lt (ha : Val ta σ H (.int i)) (hb : Val tb σ H (.int j)) : Val (tOp (rI0 fun i j => .bl (decide (i < j))) ta tb) σ H (.bl (decide (i < j))) := vi0 ha hb
theorem c_le (ha : Val ta σ H (.int i)) (hb : Val tb σ H (.int j)) : Val (tOp (rI0 fun i j => .bl (decide (i ≤ j))) ta tb) σ H (.bl (decide (i ≤ j))) := vi0 ha hb
theorem c_gt (ha : Val ta σ H (.int i)) (hb : Val tb σ H (.int j)) : Val (tOp (rI0 fun i j => .bl (decide (j < i))) ta tb) σ H (.bl (decide (j < i))) := vi0 ha hb
theorem dec_iff {p q : Prop} [Decidable p] [Decidable q] (h : p ↔ q) : decide p = decide q := by
  by_cases k : p
  · rw [decide_eq_true k, decide_eq_true (h.mp k)]
  · rw [decide_eq_false k, decide_eq_false (fun z => k (h.mpr z))]
theorem vb_dec [Decidable p] [Decidable q] (h : Val te σ H (.bl (decide p))) (e : p ↔ q) : Val te σ H (.bl (decide q)) := vb_of h (dec_iff e)
theorem c_eqI (ha : Val ta σ H (.int i)) (hb : Val tb σ H (.int j)) : Val (tOp rEq ta tb) σ H (.bl (decide (i = j))) := v2 ha hb fun Q k => ⟨rfl, by
  rw [dec_iff (show V.int i = V.int j ↔ i = j from ⟨fun h => V.int.inj h, fun h => by rw [h]⟩)]; exact k⟩
theorem c_neI (ha : Val ta σ H (.int i)) (hb : Val tb σ H (.int j)) : Val (tOp rNe ta tb) σ H (.bl (decide (i ≠ j))) := v2 ha hb fun Q k => ⟨rfl, by
  rw [← decide_not, dec_iff (show ¬ V.int i = V.int j ↔ i ≠ j from ⟨fun h e => h (by rw [e]), fun h e => h (V.int.inj e)⟩)]; exact k⟩
/-- numbers from 0 on: the comparison without casts -/
theorem n_lt : ((a : Int) < (b : Int)) ↔ a < b := by omega
theorem n_le : ((a : Int) ≤ (b : Int)) ↔ a ≤ b := by omega
theorem n_eq : ((a : Int) = (b : Int)) ↔ a = b := by omega
theorem n_ne : ((a : Int) ≠ (b : Int)) ↔ a ≠ b := by omega
/-- a < b < c -/
theorem v_chain {r r' : R2} {b1 b2 : Bool} (ha : Val ta σ H x) (hb : Val tb σ H y) (hc : Val tc σ H z) (h1 : ∀ Q : VK, Q (.bl b1) H → r x y H Q) (h2 : ∀ Q : VK, Q (.bl b2) H → r' y z H Q) : Val (tChain r r' ta tb tc) σ H (.bl (b1 && b2)) := fun Q k => ha _ (hb _ (h1 _ ⟨b1, rfl, by
  cases b1 with
  | true => rw [if_pos rfl]; exact hc _ (h2 _ (by simpa using k))
  | false => rw [if_neg (by simp)]; simpa using k⟩))
theorem t_of (h : Val te σ H (.bl b')) : Ans (tTest te) σ H b' := fun _ k => h _ ⟨_, rfl, k⟩
theorem t_ofB (h : Val te σ H (.bl b')) : Ans (tB te) σ H b' := fun _ k => h _ ⟨_, rfl, k⟩
theorem t_dec {b c : Bool} (h : Ans tt σ H b) (e : b = c) : Ans tt σ H c := e ▸ h
theorem t_iff [Decidable p] [Decidable q] (h : Ans tt σ H (decide p)) (e : p ↔ q) : Ans tt σ H (decide q) := t_dec h (dec_iff e)
theorem t_not [Decidable p] (h : Ans tt σ H (decide p)) : Ans (tNot tt) σ H (decide (¬ p)) := fun Q k => h _ (by rw [← decide_not]; exact k)
theorem t_and [Decidable p] [Decidable q] (h : Ans tt σ H (decide p)) (h2 : p → Ans tu σ H (decide q)) : Ans (tAnd tt tu) σ H (decide (p ∧ q)) := fun Q k => h _ (by
  by_cases hp : p
  · rw [decide_eq_true hp, if_pos rfl]
    exact h2 hp Q (by rw [dec_iff (show q ↔ p ∧ q from ⟨fun z => ⟨hp, z⟩, fun z => z.2⟩)]; exact k)
  · rw [decide_eq_false hp, if_neg (by simp)]
    rw [decide_eq_false (fun z => hp z.1)] at k
    exact k)
theorem t_or [Decidable p] [Decidable q] (h : Ans tt σ H (decide p)) (h2 : ¬ p → Ans tu σ H (decide q)) : Ans (tOr tt tu) σ H (decide (p ∨ q)) := fun Q k => h _ (by
  by_cases hp : p
  · rw [decide_eq_true hp, if_pos rfl]
    rw [decide_eq_true (Or.inl hp)] at k
    exact k
  · rw [decide_eq_false hp, if_neg (by simp)]
    exact h2 hp Q (by rw [dec_iff (show q ↔ p ∨ q from ⟨fun z => .inr z, fun z => z.resolve_left hp⟩)]; exact k))
theorem vt_not [Decidable p] (h : Val te σ H (.bl (decide p))) : Val (tNotV te) σ H (.bl (decide (¬ p))) := fun Q k => h _ ⟨_, rfl, by rw [← decide_not]; exact k⟩
theorem vt_and [Decidable p] [Decidable q] (h : Val ta σ H (.bl (decide p))) (h2 : p → Val tb σ H (.bl (decide q))) : Val (tAndV ta tb) σ H (.bl (decide (p ∧ q))) := fun Q k => h _ ⟨_, rfl, by
  by_cases hp : p
  · rw [decide_eq_true hp, if_pos rfl]
    exact h2 hp Q (by rw [dec_iff (show q ↔ p ∧ q from ⟨fun z => ⟨hp, z⟩, fun z => z.2⟩)]; exact k)
  · rw [decide_eq_false hp, if_neg (by simp)]
    rw [decide_eq_false (fun z => hp z.1)] at k
    exact k⟩
theorem e_call {sp : Sp} {E : XK} (h : tA σ H fun vs H1 => sp vs H1 Q E) : tCall sp [] E tA σ H Q := by
  show tA σ H fun vs H1 => sp (vs ++ []) H1 Q E
  simpa only [List.append_nil] using h
theorem a_nil {R : List V → Hp → Prop} (h : R [] H) : tNil σ H R := h
theorem a_cons {R : List V → Hp → Prop} (h : te σ H fun x H1 => tR σ H1 fun xs H2 => R (x :: xs) H2) : tCons te tR σ H R := h
theorem a_val {R : List V → Hp → Prop} (h : Val te σ H v) (k : tR σ H fun xs H2 => R (v :: xs) H2) : tCons te tR σ H R := h _ k
theorem v_cb1 {r : List V → Hp → VK → Prop} (ha : Val ta σ H x) (hr : ∀ Q : VK, Q z H → r [x] H Q) : Val (tCB r (tCons ta tNil)) σ H z := fun Q k => ha _ (hr Q k)
theorem q_sq (h : ∀ N : L2.St → Hp → Prop, (∀ σ' H', u D σ' H' → N σ' H') → t { D with nx := N } σ H) : tSeq t u D σ H := h _ fun _ _ z => z
theorem a_asg {i : Nat} (h : Val te σ H v) (q : D.nx (σ.set i (some v)) H) : tAsg te (gName i) D σ H := h _ q
theorem a_asgE {i : Nat} (h : te σ H fun v H1 => D.nx (σ.set i (some v)) H1) : tAsg te (gName i) D σ H := h
theorem a_ret (h : Val te σ H v) (q : D.rt v H) : tRet te D σ H := h _ q
theorem a_retE (h : te σ H D.rt) : tRet te D σ H := h
theorem a_dropE (h : te σ H fun _ H1 => D.nx σ H1) : tDrop te D σ H := h
theorem a_ifE (h : tt σ H fun b H1 => if b = true then t D σ H1 else u D σ H1) : tIfS tt t u D σ H := h
theorem ifP [Decidable p] {A B : Prop} (h : if p then A else B) (hp : p) : A := by rw [if_pos hp] at h; exact h
theorem ifN [Decidable p] {A B : Prop} (h : if p then A else B) (hp : ¬ p) : B := by rw [if_neg hp] at h; exact h
end
end Wk
namespace Wk
open PySem L2
class Dat {α : Type} (e : Rep α) (lv : outParam Nat) where
  d : α → PyData
  dp : ∀ {K : PySem.W.Frag} {F : Hp} {v : V} {x : α}, e.r F v x → Dp K F v (d x)
  lay : ∀ x, (d x).canLay0 = true
  dep : ∀ x, (d x).depth ≤ lv
  inj : ∀ x y, PyData.eqv (d x) (d y) = true ↔ x = y
instance : Dat pI 0 := ⟨.int, fun h => by cases (show _ = V.int _ from h); exact .int _, fun _ => rfl, fun _ => Nat.le_refl _, fun x y => by
  show ((x == y) = true) ↔ _
  exact beq_iff_eq⟩
instance : Dat pN 0 := ⟨fun n => .int (n : Int), fun h => by cases (show _ = V.int _ from h); exact .int _, fun _ => rfl, fun _ => Nat.le_refl _, fun x y => by
  show (((x : Int) == (y : Int)) = true) ↔ _
  rw [beq_iff_eq]; omega⟩
instance : Dat pB 0 := ⟨.bool, fun h => by cases (show _ = V.bl _ from h); exact .bl _, fun _ => rfl, fun _ => Nat.le_refl _, fun x y => by
  show ((x == y) = true) ↔ _
  exact beq_iff_eq⟩
theorem lay_all {α : Type} {d : α → PyData} (h : ∀ x, (d x).canLay0 = true) : ∀ xs : List α, PyData.canLayAll0 (xs.map d) = true
  | [] => rfl
  | x :: xs => by show (PyData.canLay0 (d x) && PyData.canLayAll0 (xs.map d)) = true; rw [h x, lay_all h xs]; rfl
theorem dep_all {α : Type} {d : α → PyData} {n : Nat} (h : ∀ x, (d x).depth ≤ n) : ∀ xs : List α, PyData.depthAll (xs.map d) ≤ n
  | [] => Nat.zero_le _
  | x :: xs => by
    show PyData.depthAll (d x :: xs.map d) ≤ n
    have a := h x
    have b := dep_all h xs
    simp only [PyData.depthAll]
    omega
theorem eqv_all {α : Type} {d : α → PyData} (h : ∀ x y, PyData.eqv (d x) (d y) = true ↔ x = y) : ∀ xs ys : List α, PyData.eqvAll (xs.map d) (ys.map d) = true ↔ xs = ys
  | [], [] => ⟨fun _ => rfl, fun _ => rfl⟩
  | x :: xs, [] => ⟨fun q => (by cases q), fun q => (by cases q)⟩
  | [], y :: ys => ⟨fun q => (by cases q), fun q => (by cases q)⟩
  | x :: xs, y :: ys => by
    show (PyData.eqv (d x) (d y) && PyData.eqvAll (xs.map d) (ys.map d)) = true ↔ _
    rw [Bool.and_eq_true, h x y, eqv_all h xs ys, List.cons.injEq]
theorem dp_all {α : Type} {e : Rep α} {lv : Nat} [Dat e lv] {K : PySem.W.Frag} {F : Hp} : ∀ {vs : List V} {xs : List α}, All e F vs xs → DpAll K F vs (xs.map (Dat.d e))
  | [], [], _ => .nil
  | _ :: _, _ :: _, ⟨a, b⟩ => .cons (Dat.dp a) (dp_all b)
  | [], _ :: _, q => q.elim
  | _ :: _, [], q => q.elim
instance {α : Type} {e : Rep α} {n : Nat} [Dat e n] : Dat (pL e) (n + 1) := ⟨fun xs => .list (xs.map (Dat.d e)), fun {K F v xs} h => by
    obtain ⟨p, vs, rfl, hp, a⟩ := h
    exact .lst (SqL.of hp) (dp_all a), fun xs => lay_all (Dat.lay (e := e)) xs, fun xs => by
    have := dep_all (Dat.dep (e := e)) xs
    simp only [PyData.depth]
    omega, fun xs ys => by
    show PyData.eqvAll (xs.map (Dat.d e)) (ys.map (Dat.d e)) = true ↔ _
    exact eqv_all (Dat.inj (e := e)) xs ys⟩
instance {α : Type} {e : Rep α} {n : Nat} [Dat e n] : Dat (pTL e) (n + 1) := ⟨fun xs => .tuple (xs.map (Dat.d e)), fun {K F v xs} h => by
    obtain ⟨p, vs, rfl, hp, a⟩ := h
    exact .tup (SqT.of hp) (dp_all a), fun xs => lay_all (Dat.lay (e := e)) xs, fun xs => by
    have := dep_all (Dat.dep (e := e)) xs
    simp only [PyData.depth]
    omega, fun xs ys => by
    show PyData.eqvAll (xs.map (Dat.d e)) (ys.map (Dat.d e)) = true ↔ _
    exact eqv_all (Dat.inj (e := e)) xs ys⟩
instance {α β : Type} {e : Rep α} {f : Rep β} {n m : Nat} [Dat e n] [Dat f m] : Dat (pT2 e f) (max n m + 1) := ⟨fun x => .tuple [Dat.d e x.1, Dat.d f x.2], fun {K F v x} h => by
    obtain ⟨p, u, w, rfl, hp, a, b⟩ := h
    exact .tup (SqT.of hp) (.cons (Dat.dp a) (.cons (Dat.dp b) .nil)), fun x => by
    show (PyData.canLay0 (Dat.d e x.1) && (PyData.canLay0 (Dat.d f x.2) && PyData.canLayAll0 [])) = true
    rw [Dat.lay, Dat.lay]; rfl, fun x => by
    have a := Dat.dep (e := e) x.1
    have b := Dat.dep (e := f) x.2
    simp only [PyData.depth, PyData.depthAll]
    omega, fun x y => by
    show (PyData.eqv (Dat.d e x.1) (Dat.d e y.1) && (PyData.eqv (Dat.d f x.2) (Dat.d f y.2) && PyData.eqvAll [] [])) = true ↔ _
    have z : PyData.eqvAll [] [] = true := rfl
    rw [z, Bool.and_true, Bool.and_eq_true, Dat.inj, Dat.inj, Prod.ext_iff]⟩
theorem Dat.shp {α : Type} {e : Rep α} {n : Nat} [Dat e n] (h : n ≤ 64) (x : α) : SeqAt.shaped (Dat.d e x) = true := by
  unfold SeqAt.shaped
  rw [Dat.lay, decide_eq_true (Nat.le_trans (Dat.dep x) h)]; rfl
section
variable {α β : Type} {e : Rep α} {f : Rep β} {K : PySem.W.Frag} {σ : L2.St} {F0 H0 F F' H H' : Hp} {te tl ta tb : TE} {tt : TT} {tA : TA} {Q : VK} {v w u : V} {xs ys : List α} {x y : α} {D : Ends} {tu : TS} {p q : Addr} {n : Nat} {i : Int}
theorem c_eqD [DecidableEq α] [Dat e n] (ha : Val ta σ H v) (hb : Val tb σ H w) (f : Ex F H) (r : e.r F v x) (g : Ex F' H) (s : e.r F' w y) (h : n ≤ 64 := by decide) : Val (tOp (rEqD K) ta tb) σ H (.bl (decide (x = y))) :=
  v2 ha hb fun Q k => ⟨_, _, Dat.dp (e.mono f r), Dat.dp (e.mono g s), Dat.shp h x, Dat.shp h y, by
    have z : PyData.eqv (Dat.d e x) (Dat.d e y) = decide (x = y) := Bool.eq_iff_iff.mpr (by rw [Dat.inj, decide_eq_true_iff])
    rw [z]; exact k⟩
theorem c_neD [DecidableEq α] [Dat e n] (ha : Val ta σ H v) (hb : Val tb σ H w) (f : Ex F H) (r : e.r F v x) (g : Ex F' H) (s : e.r F' w y) (h : n ≤ 64 := by decide) : Val (tOp (rNeD K) ta tb) σ H (.bl (decide (x ≠ y))) :=
  v2 ha hb fun Q k => ⟨_, _, Dat.dp (e.mono f r), Dat.dp (e.mono g s), Dat.shp h x, Dat.shp h y, by
    have z : PyData.eqv (Dat.d e x) (Dat.d e y) = decide (x = y) := Bool.eq_iff_iff.mpr (by rw [Dat.inj, decide_eq_true_iff])
    rw [z, ← decide_not]; exact k⟩
theorem XL.rd (z : XL e H0 F H p xs) : ∃ vs, H p = some (.lst vs) ∧ All e F vs xs := let ⟨vs, a, b⟩ := z.x; ⟨vs, a.h, b⟩
theorem L_rd (r : (pL e).r F v xs) (f : Ex F H) : ∃ p vs, v = .ref p ∧ H p = some (.lst vs) ∧ All e F vs xs := let ⟨p, vs, a, b, c⟩ := r; ⟨p, vs, a, f _ _ b, c⟩
theorem TL_rd (r : (pTL e).r F v xs) (f : Ex F H) : ∃ p vs, v = .ref p ∧ H p = some (.tup vs) ∧ All e F vs xs := let ⟨p, vs, a, b, c⟩ := r; ⟨p, vs, a, f _ _ b, c⟩
theorem ix_L (r : (pL e).r F v xs) (f : Ex F H) {i : Nat} (hx : xs[i]? = some x) : ∃ w, e.r F w x ∧ ∀ ⦃σ ta tb⦄, Val ta σ H v → Val tb σ H (.int (i : Int)) → Val (tOp (rIxL K) ta tb) σ H w := by
  obtain ⟨p, vs, rfl, hp, a⟩ := L_rd r f
  obtain ⟨w, h1, h2⟩ := a.get hx
  exact ⟨w, h2, fun _ _ _ ha hb => v2 ha hb fun Q k => ⟨p, vs, _, w, rfl, rfl, SqL.of hp, atI_nat h1, k⟩⟩
theorem ix_X (r : XL e H0 F H p xs) {i : Nat} (hx : xs[i]? = some x) : ∃ w, e.r F w x ∧ ∀ ⦃σ ta tb⦄, Val ta σ H (.ref p) → Val tb σ H (.int (i : Int)) → Val (tOp (rIxL K) ta tb) σ H w := by
  obtain ⟨vs, hp, a⟩ := r.rd
  obtain ⟨w, h1, h2⟩ := a.get hx
  exact ⟨w, h2, fun _ _ _ ha hb => v2 ha hb fun Q k => ⟨p, vs, _, w, rfl, rfl, SqL.of hp, atI_nat h1, k⟩⟩
theorem ix_TL (r : (pTL e).r F v xs) (f : Ex F H) {i : Nat} (hx : xs[i]? = some x) : ∃ w, e.r F w x ∧ ∀ ⦃σ ta tb⦄, Val ta σ H v → Val tb σ H (.int (i : Int)) → Val (tOp (rIxT K) ta tb) σ H w := by
  obtain ⟨p, vs, rfl, hp, a⟩ := TL_rd r f
  obtain ⟨w, h1, h2⟩ := a.get hx
  exact ⟨w, h2, fun _ _ _ ha hb => v2 ha hb fun Q k => ⟨p, vs, _, w, rfl, rfl, SqT.of hp, atI_nat h1, k⟩⟩
theorem ix_S (f : Ex F H) {ys : List Int} {i : Nat} {x : Int} (r : (pScr K).r F v ys) (hx : ys[i]? = some x) : ∀ ⦃σ ta tb⦄, Val ta σ H v → Val tb σ H (.int (i : Int)) → Val (tOp (rIxL K) ta tb) σ H (.int x) := by
  obtain ⟨p, rfl, s⟩ := (pScr K).mono f r
  exact fun _ _ _ ha hb => v2 ha hb fun Q k => ⟨p, _, _, .int x, rfl, rfl, s, atI_nat (by rw [List.getElem?_map, hx]; rfl), k⟩
theorem ix_2a {e : Rep α} {f : Rep β} {x : α × β} (r : (pT2 e f).r F v x) (h : Ex F H) : ∃ w, e.r F w x.1 ∧ ∀ ⦃σ ta tb⦄, Val ta σ H v → Val tb σ H (.int 0) → Val (tOp (rIxT K) ta tb) σ H w := by
  obtain ⟨p, u, w, rfl, hp, a, b⟩ := r
  exact ⟨u, a, fun _ _ _ ha hb => v2 ha hb fun Q k => ⟨p, _, _, u, rfl, rfl, SqT.of (h _ _ hp), rfl, k⟩⟩
theorem ix_2b {e : Rep α} {f : Rep β} {x : α × β} (r : (pT2 e f).r F v x) (h : Ex F H) : ∃ w, f.r F w x.2 ∧ ∀ ⦃σ ta tb⦄, Val ta σ H v → Val tb σ H (.int 1) → Val (tOp (rIxT K) ta tb) σ H w := by
  obtain ⟨p, u, w, rfl, hp, a, b⟩ := r
  exact ⟨w, b, fun _ _ _ ha hb => v2 ha hb fun Q k => ⟨p, _, _, w, rfl, rfl, SqT.of (h _ _ hp), rfl, k⟩⟩
def rLen (K : PySem.W.Frag) : List V → Hp → VK → Prop := fun xs H Q => ∃ p ys, xs = [.ref p] ∧ (SqL K H p ys ∨ SqT K H p ys) ∧ Q (.int ys.length) H
theorem len_L (r : (pL e).r F v xs) (f : Ex F H) (ha : Val ta σ H v) : Val (tCB (rLen K) (tCons ta tNil)) σ H (.int ((xs.length : Nat) : Int)) := by
  obtain ⟨p, vs, rfl, hp, a⟩ := L_rd r f
  exact v_cb1 ha fun Q k => ⟨p, vs, rfl, .inl (SqL.of hp), by rw [a.len]; exact k⟩
theorem len_TL (r : (pTL e).r F v xs) (f : Ex F H) (ha : Val ta σ H v) : Val (tCB (rLen K) (tCons ta tNil)) σ H (.int ((xs.length : Nat) : Int)) := by
  obtain ⟨p, vs, rfl, hp, a⟩ := TL_rd r f
  exact v_cb1 ha fun Q k => ⟨p, vs, rfl, .inr (SqT.of hp), by rw [a.len]; exact k⟩
theorem len_S {ys : List Int} (r : (pScr K).r F v ys) (f : Ex F H) (ha : Val ta σ H v) : Val (tCB (rLen K) (tCons ta tNil)) σ H (.int ((ys.length : Nat) : Int)) := by
  obtain ⟨p, rfl, s⟩ := (pScr K).mono f r
  exact v_cb1 ha fun Q k => ⟨p, _, rfl, .inl s, by rw [List.length_map]; exact k⟩
theorem len_T2 {e : Rep α} {f : Rep β} {x : α × β} (r : (pT2 e f).r F v x) (h : Ex F H) (ha : Val ta σ H v) : Val (tCB (rLen K) (tCons ta tNil)) σ H (.int ((2 : Nat) : Int)) := by
  obtain ⟨p, u, w, rfl, hp, a, b⟩ := r
  exact v_cb1 ha fun Q k => ⟨p, _, rfl, .inr (SqT.of (h _ _ hp)), k⟩
def kLst (Q : VK) (xs : List V) (H : Hp) : Prop := xs.length ≤ sizeLine ∧ ∀ p, H p = none → Q (.ref p) (upd H p (.lst xs))
def kTup (Q : VK) (xs : List V) (H : Hp) : Prop := xs.length ≤ sizeLine ∧ ∀ p, H p = none → Q (.ref p) (upd H p (.tup xs))
theorem small_len {n : Nat} (h : n < 1000000) : n < sizeLine := by rw [sizeLine_eq]; omega
theorem n_lstX {vs : List V} (a : All e F vs xs) (hl : xs.length < 1000000) (w : Wf F0 H0 F H) (k : ∀ p H', H p = none → Wf F H F H' → XL e H0 F H' p xs → Q (.ref p) H') :
    kLst Q vs H := ⟨by rw [a.len]; exact Nat.le_of_lt (small_len hl), fun p hp => k p _ hp (Wf.newX w.f hp) ⟨vs, Xc.mk' w hp, a⟩⟩
theorem n_tup2 {e : Rep α} {f : Rep β} {x : α} {y : β} (a : e.r F v x) (b : f.r F w y) (h : Wf F0 H0 F H) (k : ∀ p F' H', Wf F H F' H' → (pT2 e f).r F' (.ref p) (x, y) → Q (.ref p) H') :
    kTup Q [v, w] H := ⟨Nat.le_of_lt (small_len (n := 2) (by decide)), fun p hp => k p _ _ (Wf.new h.f hp) ⟨p, v, w, rfl, upd_same, e.mono (Ex.new (h.f.non hp)) a, f.mono (Ex.new (h.f.non hp)) b⟩⟩
/-- one's own list is changed no more -/
theorem XL.frzE (x : XL e H0 F H p xs) (w : Wf F0 H0 F H) : ∃ F', Wf F0 H0 F' H ∧ Ex F F' ∧ (pL e).r F' (.ref p) xs ∧ Fz F F' p := by
  obtain ⟨vs, a, b⟩ := x.x
  exact ⟨_, w.freeze a, Ex.new a.n, ⟨p, vs, rfl, upd_same, b.mono (Ex.new a.n)⟩, fun q h z => by rw [upd_ne h]; exact z⟩
theorem a_app (x : XL e H0 F H p xs) (w : Wf F0 H0 F H) (hl : xs.length < 1000000) (r : e.r F v y) (k : ∀ H', Wf F0 H0 F H' → XL e H0 F H' p (xs ++ [y]) → (∀ q o, H q = some o → q ≠ p → H' q = some o) → Q .non H') : rAppend (.ref p) [v] H Q := by
  obtain ⟨vs, a, b⟩ := x.x
  exact ⟨p, vs, v, rfl, rfl, a.h, by rw [b.len]; exact small_len hl, k _ (w.set a) ⟨_, a.set, b.snoc r⟩ fun q o h hq => by rw [upd_ne hq]; exact h⟩
/-- another's place is as it was -/
theorem Xc.kept {o : HO} (x : Xc H0 F H q o) (h : ∀ q o, H q = some o → q ≠ p → H' q = some o) (hq : q ≠ p) : Xc H0 F H' q o := ⟨x.z, x.n, h _ _ x.h hq⟩
theorem XL.kept (x : XL e H0 F H q xs) (h : ∀ q o, H q = some o → q ≠ p → H' q = some o) (hq : q ≠ p) : XL e H0 F H' q xs := let ⟨vs, a, b⟩ := x.x; ⟨vs, a.kept h hq, b⟩
variable {S : Type} {R : Type} {g : TG} {tb : TS} {body : β → S → (S → Prop) → (S → Prop) → Prop} {s0 : S} {k : S → Prop} {vs : List V} {zs : List β} {b : Rep β}
/-- over a list that stays -/
theorem w_forL (Inv : S → L2.St → Hp → Hp → Prop) (r : (pL b).r F v zs) (hW : forW zs s0 body k) (h0 : Inv s0 σ F H)
    (ex : ∀ s σ' F' H', Inv s σ' F' H' → Ex F F' ∧ Ex F' H') (f : Ex F H)
    (turn : ∀ (N Bk : L2.St → Hp → Prop) x u s σ' F' H' (nx bk : S → Prop), Inv s σ' F' H' → x ∈ zs → b.r F' u x → body x s nx bk → (∀ s' σ2 F2 H2, Inv s' σ2 F2 H2 → nx s' → N σ2 H2) → (∀ s' σ2 F2 H2, Inv s' σ2 F2 H2 → bk s' → Bk σ2 H2) →
      g u σ' H' fun σ2 H2 => tb { D with nx := N, ct := N, bk := Bk } σ2 H2)
    (done : ∀ s σ' F' H', Inv s σ' F' H' → k s → D.nx σ' H') :
    ∃ a, v = .ref a ∧ (∃ xs, SqL K H a xs) ∧ (fun J H1 => ∃ W : Nat → Nat → L2.St → Hp → Prop, (∃ m, W 0 m σ H1) ∧ ∀ i m σ H, W i m σ H →
      (J.stop i H ∧ D.nx σ H) ∨ (J.go i H ∧ ∃ N : L2.St → Hp → Prop, (∀ σ' H', N σ' H' → ∃ m', m' < m ∧ W (i + 1) m' σ' H') ∧ ∀ x H', J.yld i H x H' → g x σ H' fun σ2 H2 => tb { D with nx := N, ct := N, bk := D.nx } σ2 H2)) (Itl K a) H := by
  obtain ⟨p, vs, rfl, hp, a⟩ := r
  refine ⟨p, rfl, ⟨_, SqL.of (f _ _ hp)⟩, for_list (xs := vs) (fun i σ' H' => ∃ s F', Inv s σ' F' H' ∧ forW (zs.drop i) s body k) ⟨s0, F, h0, hW⟩ (fun i σ' H' _ ⟨s, F', hI, _⟩ => SqL.of ((ex _ _ _ _ hI).2 _ _ ((ex _ _ _ _ hI).1 _ _ hp))) ?_ ?_⟩
  · rintro i u σ' H' hu ⟨s, F', hI, hw⟩
    obtain ⟨x, hx, rx⟩ := a.got hu
    have e : zs.drop i = x :: zs.drop (i + 1) := by
      obtain ⟨h1, h2⟩ := List.getElem?_eq_some_iff.mp hx
      rw [← h2]; exact List.drop_eq_getElem_cons h1
    rw [e] at hw
    exact turn _ _ x u s σ' F' H' _ _ hI (List.mem_of_getElem? hx) (b.mono (ex _ _ _ _ hI).1 rx) hw (fun s' σ2 F2 H2 q n => ⟨s', F2, q, n⟩) (fun s' σ2 F2 H2 q n => done s' σ2 F2 H2 q n)
  · rintro σ' H' ⟨s, F', hI, hw⟩
    rw [List.drop_of_length_le (by rw [a.len]; exact Nat.le_refl _)] at hw
    exact done _ _ _ _ hI hw
/-- over range(n) -/
theorem w_forR {n : Nat} {body : Nat → S → (S → Prop) → (S → Prop) → Prop} (Inv : S → L2.St → Hp → Hp → Prop) (hn : n < 1000000) (hW : forW (List.range n) s0 body k) (h0 : Inv s0 σ F H)
    (turn : ∀ (N Bk : L2.St → Hp → Prop) (x : Nat) s σ' F' H' (nx bk : S → Prop), Inv s σ' F' H' → x < n → body x s nx bk → (∀ s' σ2 F2 H2, Inv s' σ2 F2 H2 → nx s' → N σ2 H2) → (∀ s' σ2 F2 H2, Inv s' σ2 F2 H2 → bk s' → Bk σ2 H2) →
      g (.int (x : Int)) σ' H' fun σ2 H2 => tb { D with nx := N, ct := N, bk := Bk } σ2 H2)
    (done : ∀ s σ' F' H', Inv s σ' F' H' → k s → D.nx σ' H') :
    ∃ j : Int, [V.int (n : Int)] = [.int j] ∧ -(2 ^ 62) ≤ j ∧ j < 2 ^ 62 ∧ (fun J H1 => ∃ W : Nat → Nat → L2.St → Hp → Prop, (∃ m, W 0 m σ H1) ∧ ∀ i m σ H, W i m σ H →
      (J.stop i H ∧ D.nx σ H) ∨ (J.go i H ∧ ∃ N : L2.St → Hp → Prop, (∀ σ' H', N σ' H' → ∃ m', m' < m ∧ W (i + 1) m' σ' H') ∧ ∀ x H', J.yld i H x H' → g x σ H' fun σ2 H2 => tb { D with nx := N, ct := N, bk := D.nx } σ2 H2)) (Itr 0 j.toNat) H := by
  refine ⟨(n : Int), rfl, by omega, by omega, for_range (lo := 0) (n := n) (fun i σ' H' => ∃ s F', Inv s σ' F' H' ∧ forW ((List.range n).drop i) s body k) ⟨s0, F, h0, hW⟩ ?_ ?_⟩
  · rintro i σ' H' hi ⟨s, F', hI, hw⟩
    have e : (List.range n).drop i = i :: (List.range n).drop (i + 1) := by
      have h1 : i < (List.range n).length := by rw [List.length_range]; exact hi
      rw [List.drop_eq_getElem_cons h1, List.getElem_range]
    rw [e] at hw
    have z : (0 : Int) + (i : Int) = (i : Int) := Int.zero_add _
    rw [z]
    exact turn _ _ i s σ' F' H' _ _ hI hi hw (fun s' σ2 F2 H2 q n => ⟨s', F2, q, n⟩) (fun s' σ2 F2 H2 q n => done s' σ2 F2 H2 q n)
  · rintro σ' H' ⟨s, F', hI, hw⟩
    rw [List.drop_of_length_le (by rw [List.length_range]; exact Nat.le_refl _)] at hw
    exact done _ _ _ _ hI hw
/-- ways that meet again -/
def jn {S : Type} (f : (S → Prop) → Prop) (k : S → Prop) : Prop := f k
theorem q_jn {f : (S → Prop) → Prop} {t u : TS} (hW : jn f k) (Inv : S → L2.St → Hp → Hp → Prop)
    (h1 : ∀ N : L2.St → Hp → Prop, (∀ s σ' F' H', Inv s σ' F' H' → k s → N σ' H') → f k → t { D with nx := N } σ H) (h2 : ∀ s σ' F' H', Inv s σ' F' H' → k s → u D σ' H') : tSeq t u D σ H :=
  h1 (u D) (fun s σ' F' H' q n => h2 s σ' F' H' q n) hW
/-- what a comprehension asks of its source's value -/
def kCpL (K : PySem.W.Frag) (g : TG) (tc : TT) (te : TE) (vs : List Nat) (σ : L2.St) (Q : VK) (v : V) (H : Hp) : Prop := ∃ a, v = .ref a ∧ (∃ xs, SqL K H a xs) ∧ (fun J H1 => ∀ D, H1 D = none → ∃ W : Nat → Nat → Hp → Prop, (∃ m, W 0 m (upd H1 D (.lst []))) ∧ ∀ i m H, W i m H →
      (J.stop i H ∧ Q (.ref D) H) ∨ (J.go i H ∧ ∃ Nx : Hp → Prop, (∀ H', Nx H' → ∃ m', m' < m ∧ W (i + 1) m' H') ∧ ∀ x H', J.yld i H x H' → g x (wipe σ vs) H' fun σ2 H2 => wipe σ2 vs = wipe σ vs ∧ tc σ2 H2 fun b H3 =>
        if b = true then te σ2 H3 fun y H4 => ∃ acc, H4 D = some (.lst acc) ∧ acc.length < sizeLine ∧ Nx (upd H4 D (.lst (acc ++ [y]))) else Nx H3)) (Itl K a) H
theorem w_compC {ws : List V} {tc : TT} {vs : List Nat} {bd : β → (Option α → Prop) → Prop} {kk : List α → Prop} (hp : H p = some (.lst ws)) (a : All b F ws zs) (w : Wf F0 H0 F H) (hn : zs.length < 1000000) (hW : compW zs bd kk)
    (turn : ∀ (Qy : V → Hp → Prop) (Qn : Hp → Prop) x u F1 H1 (R : Option α → Prop), Wf F H F1 H1 → x ∈ zs → b.r F1 u x → bd x R → (∀ y z F2 H2, Wf F1 H1 F2 H2 → e.r F2 y z → R (some z) → Qy y H2) → (∀ F2 H2, Wf F1 H1 F2 H2 → R none → Qn H2) →
      g u (wipe σ vs) H1 fun σ2 H2 => wipe σ2 vs = wipe σ vs ∧ tc σ2 H2 fun b H3 => if b = true then te σ2 H3 Qy else Qn H3)
    (done : ∀ p ys F' H', H p = none → Wf F H F' H' → XL e H0 F' H' p ys → kk ys → Q (.ref p) H') :
    kCpL K g tc te vs σ Q (V.ref p) H := by
  unfold kCpL
  refine ⟨p, rfl, ⟨_, SqL.of hp⟩, fun D hD => lc_list (xs := ws) (fun i H' => ∃ F' ac ys, Wf F H F' H' ∧ Xc H F' H' D (.lst ac) ∧ All e F' ac ys ∧ ys.length ≤ i ∧ compG (zs.drop i) ys bd kk)
    ⟨F, [], [], Wf.newX w.f hD, Xc.mk' (Wf.id w.f) hD, trivial, Nat.le_refl _, hW⟩ (fun i H' _ ⟨F', ac, ys, q, _⟩ => SqL.of (q.h _ _ hp)) ?_ ?_⟩
  · rintro i u H' hu ⟨F', ac, ys, q, xc, al, hl, hw⟩
    obtain ⟨x, hx, rx⟩ := a.got hu
    obtain ⟨h1, h2⟩ := List.getElem?_eq_some_iff.mp hx
    have e' : zs.drop i = x :: zs.drop (i + 1) := by rw [← h2]; exact List.drop_eq_getElem_cons h1
    rw [e'] at hw
    refine turn _ _ x u F' H' _ q (List.mem_of_getElem? hx) (b.mono q.g rx) hw (fun y z F2 H2 s ry hR => ?_) (fun F2 H2 s hR => ?_)
    · have xc2 := xc.step s
      exact ⟨ac, xc2.h, by rw [al.len]; exact small_len (by omega), F2, ac ++ [y], ys ++ [z], (q.tr s).set xc2, xc2.set, (al.mono s.g).snoc ry, by rw [List.length_append]; exact Nat.succ_le_succ hl, hR⟩
    · exact ⟨F2, ac, ys, q.tr s, xc.step s, al.mono s.g, Nat.le_succ_of_le hl, by simpa using hR⟩
  · rintro H' ⟨F', ac, ys, q, xc, al, hl, hw⟩
    rw [List.drop_of_length_le (by rw [a.len]; exact Nat.le_refl _)] at hw
    exact done D ys F' H' hD q ⟨ac, ⟨w.h.non hD, xc.n, xc.h⟩, al⟩ hw
theorem w_compL {tc : TT} {vs : List Nat} {bd : β → (Option α → Prop) → Prop} {kk : List α → Prop} (r : (pL b).r F v zs) (w : Wf F0 H0 F H) (hn : zs.length < 1000000) (hW : compW zs bd kk)
    (turn : ∀ (Qy : V → Hp → Prop) (Qn : Hp → Prop) x u F1 H1 (R : Option α → Prop), Wf F H F1 H1 → x ∈ zs → b.r F1 u x → bd x R → (∀ y z F2 H2, Wf F1 H1 F2 H2 → e.r F2 y z → R (some z) → Qy y H2) → (∀ F2 H2, Wf F1 H1 F2 H2 → R none → Qn H2) →
      g u (wipe σ vs) H1 fun σ2 H2 => wipe σ2 vs = wipe σ vs ∧ tc σ2 H2 fun b H3 => if b = true then te σ2 H3 Qy else Qn H3)
    (done : ∀ p ys F' H', H p = none → Wf F H F' H' → XL e H0 F' H' p ys → kk ys → Q (.ref p) H') :
    kCpL K g tc te vs σ Q v H := by
  obtain ⟨p, ws, rfl, hp, a⟩ := r
  exact w_compC (w.f _ _ hp) a w hn hW turn done
end
end Wk
namespace Wk
open PySem L2
section
variable {X : Cx} {σ : L2.St} {H : Hp} {te tl ta tb : TE} {tt tc : TT} {tA : TA} {Q : VK} {v w x y z : V} {D : Ends} {tu : TS} {g : TG} {K : PySem.W.Frag} {p q : Prop}
theorem f_LE (h : tl σ H fun v H => ∃ a, v = .ref a ∧ (∃ xs, SqL K H a xs) ∧ (fun J H1 => ∃ W : Nat → Nat → L2.St → Hp → Prop, (∃ m, W 0 m σ H1) ∧ ∀ i m σ H, W i m σ H →
      (J.stop i H ∧ D.nx σ H) ∨ (J.go i H ∧ ∃ N : L2.St → Hp → Prop, (∀ σ' H', N σ' H' → ∃ m', m' < m ∧ W (i + 1) m' σ' H') ∧ ∀ x H', J.yld i H x H' → g x σ H' fun σ2 H2 => tu { D with nx := N, ct := N, bk := D.nx } σ2 H2)) (Itl K a) H) : tFor (iList K tl) g tu D σ H := h
theorem f_RE (h : te σ H fun v H => ∃ j : Int, [v] = [.int j] ∧ -(2 ^ 62) ≤ j ∧ j < 2 ^ 62 ∧ (fun J H1 => ∃ W : Nat → Nat → L2.St → Hp → Prop, (∃ m, W 0 m σ H1) ∧ ∀ i m σ H, W i m σ H →
      (J.stop i H ∧ D.nx σ H) ∨ (J.go i H ∧ ∃ N : L2.St → Hp → Prop, (∀ σ' H', N σ' H' → ∃ m', m' < m ∧ W (i + 1) m' σ' H') ∧ ∀ x H', J.yld i H x H' → g x σ H' fun σ2 H2 => tu { D with nx := N, ct := N, bk := D.nx } σ2 H2)) (Itr 0 j.toNat) H) : tFor (iRng1 (tCons te tNil)) g tu D σ H := h
theorem c_LE {vs : List Nat} (h : tl σ H (kCpL K g tc te vs σ Q)) : tLc (iList K tl) g tc te vs σ H Q := h
theorem c_yes {A B : Hp → Prop} (h : A H) : tYes σ H fun b H3 => if b = true then A H3 else B H3 := by show if true = true then A H else B H; rw [if_pos rfl]; exact h
theorem b_if {p : Prop} [Decidable p] {A B : Prop} (h1 : p → A) (h2 : ¬ p → B) : if decide p = true then A else B := by
  by_cases hp : p
  · rw [decide_eq_true hp, if_pos rfl]; exact h1 hp
  · rw [decide_eq_false hp, if_neg (by simp)]; exact h2 hp
theorem bb_if {b : Bool} {A B : Prop} (h1 : b = true → A) (h2 : ¬ b = true → B) : if b = true then A else B := by
  by_cases hp : b = true
  · rw [if_pos hp]; exact h1 hp
  · rw [if_neg hp]; exact h2 hp
theorem e_op {r : R2} (h : ta σ H fun x H1 => tb σ H1 fun y H2 => r x y H2 Q) : tOp r ta tb σ H Q := h
theorem rv2 {r : R2} (h : Val (tOp r (tC x) (tC y)) [] H z) (q : Q z H) : r x y H Q := h Q q
theorem rv2T {r : R2} {b : Bool} {Qt : Bool → Hp → Prop} (h : Val (tOp r (tC x) (tC y)) [] H (.bl b)) (q : Qt b H) : r x y H (fun x H' => ∃ k, x = .bl k ∧ Qt k H') := h _ ⟨b, rfl, q⟩
theorem e_cb {r : List V → Hp → VK → Prop} (h : tA σ H fun vs H1 => r vs H1 Q) : tCB r tA σ H Q := h
theorem e_tB {Qt : Bool → Hp → Prop} (h : te σ H fun x H1 => ∃ c, x = .bl c ∧ Qt c H1) : tB te σ H Qt := h
theorem e_tT {Qt : Bool → Hp → Prop} (h : te σ H fun x H1 => ∃ c, x = .bl c ∧ Qt c H1) : tTest te σ H Qt := h
theorem e_tNot {Qt : Bool → Hp → Prop} (h : tt σ H fun c H1 => Qt (!c) H1) : tNot tt σ H Qt := h
theorem e_ans {Qt : Bool → Hp → Prop} {b : Bool} (h : Ans tt σ H b) (q : Qt b H) : tt σ H Qt := h Qt q
theorem e_tup (h : tA σ H (kTup Q)) : tTup tA σ H Q := h
theorem e_lst (h : tA σ H (kLst Q)) : tLst tA σ H Q := h
theorem a_asgG (h : te σ H fun v H1 => g v σ H1 D.nx) : tAsg te g D σ H := h
theorem XL.base {α : Type} {e : Rep α} {F0 H0 F F' H' : Hp} {p : Addr} {xs : List α} (x : XL e H F' H' p xs) (w : Wf F0 H0 F H) : XL e H0 F' H' p xs := let ⟨vs, a, b⟩ := x.x; ⟨vs, ⟨w.h.non a.z, a.n, a.h⟩, b⟩
end
/-- a def that may be called -/
structure Fn (P : Program) (w : World) (K : PySem.W.Frag) (mg : Str → Option Value) (base : Heap) (CX : CXT) (k : Nat) (x : Str) (ps : List Str) (sp : Sp) : Prop where
  ex : ∃ f fd, FnOk P w K mg base CX k f fd ps sp ∧ mg x = some (.ref f) ∧ PySem.W.keepIn K (.ref f) = true ∧ Binds K fd ps []
theorem pe_fn {X : Cx} {k : Nat} {x : Str} {ps : List Str} {sp : Sp} {e : Expr} {es : List Expr} {p pos : Pos} {t : TA} (C : Fn X.prog X.w X.K X.mg X.base CX0 k x ps sp) (hr : Room k X.A) (hg : Gl X x) (ha : PA X (e :: es) t) (hdb : (x == ("__debug__" : Str)) = false := by decide)
    (he : starEach (e :: es) X.env = (false, eval e X.env) :: starEach es X.env := by rfl) (hpl : (backTo pos (starEach es X.env)).any (·.1) = false := by rfl) : PE X (.Call (.Name x p) (e :: es) [] pos) (tCall sp [] E0 t) := by
  obtain ⟨f, fd, F, hm, hk, hb⟩ := C.ex
  exact pe_call F hr hg hm hk hb .nil pass0 ha hdb he hpl
end Wk
namespace Wk
open PySem L2
theorem dec_and {p q : Prop} [Decidable p] [Decidable q] : (decide p && decide q) = decide (p ∧ q) := by
  by_cases hp : p
  · by_cases hq : q
    · rw [decide_eq_true hp, decide_eq_true hq, decide_eq_true (And.intro hp hq)]; rfl
    · rw [decide_eq_false hq, decide_eq_false (fun z : p ∧ q => hq z.2), Bool.and_false]
  · rw [decide_eq_false hp, decide_eq_false (fun z : p ∧ q => hp z.1), Bool.false_and]
theorem dec_tt {b : Bool} : b = decide (b = true) := by cases b <;> rfl
theorem dec_T : true = decide True := rfl
section
variable {α β : Type} {e : Rep α} {f : Rep β} {K : PySem.W.Frag} {σ : L2.St} {F0 H0 F F' H H' : Hp} {te ta tb : TE} {Q : VK} {v w u : V} {xs : List α} {p : Addr} {i : Int} {n : Nat} {x : V}
/-- bit_length -/
def bits (n : Nat) : Nat := if n = 0 then 0 else n.log2 + 1
theorem v_isi {b : Bool} {cn tn : String} (ha : Val ta σ H x) (ty : TyX K H x (.type tn)) (h : kitB tn cn = some b) : Val (tCB (rIsi K) (tCons ta (tCons (tC (.ty cn)) tNil))) σ H (.bl b) := fun Q k => ha _ ⟨x, .ty cn, _, _, b, rfl, .ty cn, ty, kit_ty h, k⟩
theorem ty_L (r : (pL e).r F v xs) (f : Ex F H) : TyX K H v (.type "list") := by obtain ⟨p, vs, rfl, hp, _⟩ := r; exact .base (.lst (f _ _ hp))
theorem ty_T2 {z : α × β} (r : (pT2 e f).r F v z) (h : Ex F H) : TyX K H v (.type "tuple") := by obtain ⟨p, _, _, rfl, hp, _⟩ := r; exact .base (.tup (h _ _ hp))
end
end Wk
namespace Wk
open PySem L2
abbrev kAdd : R2 := L2.rI0 fun i j => .int (i + j)
abbrev kSub : R2 := L2.rI0 fun i j => .int (i - j)
abbrev kMul : R2 := L2.rI CMul fun i j => .int (i * j)
abbrev kDiv : R2 := L2.rI CDivW fun i j => .int (i / j)
abbrev kMod : R2 := L2.rI (fun _ j => 0 < j) fun i j => .int (i % j)
abbrev kPow : R2 := L2.rI CPow fun i j => .int (i ^ j.toNat)
abbrev kShl : R2 := L2.rI CShl fun i j => .int (i * 2 ^ j.toNat)
abbrev kAnd : R2 := L2.rI0 fun i j => .int (Builtin.bitAnd i j)
abbrev kLt : R2 := L2.rI0 fun i j => .bl (decide (i < j))
abbrev kLe : R2 := L2.rI0 fun i j => .bl (decide (i ≤ j))
abbrev kGt : R2 := L2.rI0 fun i j => .bl (decide (j < i))
abbrev kNeg : V → Hp → VK → Prop := L2.rU fun i => .int (-i)
def rListOf (K : PySem.W.Frag) : List V → Hp → VK → Prop := fun xs H Q => ∃ p ys, xs = [.ref p] ∧ (SqL K H p ys ∨ SqT K H p ys) ∧ ∀ l, H l = none → Q (.ref l) (upd H l (.lst ys))
section
variable {α β : Type} {e : Rep α} {f : Rep β} {K : PySem.W.Frag} {σ : L2.St} {F0 H0 F F' H H' : Hp} {te ta tb : TE} {Q : VK} {v w u : V} {xs ys : List α} {p q : Addr} {i : Int} {n a b : Nat} {x : V} {tl th : TO}
theorem XL.frzO (x : XL e H0 F H q xs) (h : Fz F F' p) (hq : q ≠ p) (g : Ex F F') : XL e H0 F' H q xs := let ⟨vs, a, b⟩ := x.x; ⟨vs, ⟨a.z, h _ hq a.n, a.h⟩, b.mono g⟩
/-- list(xs): a new one -/
theorem n_listX (r : (pL e).r F v xs) (w : Wf F0 H0 F H) (k : ∀ p H', H p = none → Wf F H F H' → XL e H0 F H' p xs → Q (.ref p) H') : rListOf K [v] H Q := by
  obtain ⟨p, vs, rfl, hp, a⟩ := r
  exact ⟨p, vs, rfl, .inl (SqL.of (w.f _ _ hp)), fun l hl => k l _ hl (Wf.newX w.f hl) ⟨vs, Xc.mk' w hl, a⟩⟩
theorem n_listXT (r : (pTL e).r F v xs) (w : Wf F0 H0 F H) (k : ∀ p H', H p = none → Wf F H F H' → XL e H0 F H' p xs → Q (.ref p) H') : rListOf K [v] H Q := by
  obtain ⟨p, vs, rfl, hp, a⟩ := r
  exact ⟨p, vs, rfl, .inr (SqT.of (w.f _ _ hp)), fun l hl => k l _ hl (Wf.newX w.f hl) ⟨vs, Xc.mk' w hl, a⟩⟩
/-- xs + ys -/
theorem n_cat (r : (pL e).r F v xs) (s : (pL e).r F u ys) (w : Wf F0 H0 F H) (hl : xs.length + ys.length < 1000000) (k : ∀ p H', H p = none → Wf F H F H' → XL e H0 F H' p (xs ++ ys) → Q (.ref p) H') : rCat v u H Q := by
  obtain ⟨p, vs, rfl, hp, a⟩ := r
  obtain ⟨q, us, rfl, hq, b⟩ := s
  exact ⟨p, q, vs, us, rfl, rfl, w.f _ _ hp, w.f _ _ hq, by rw [a.len, b.len]; exact Nat.le_of_lt (small_len hl), fun l hl => k l _ hl (Wf.newX w.f hl) ⟨_, Xc.mk' w hl, a.app b⟩⟩
theorem All.rep (a : All e F vs' xs) : ∀ n, All e F (List.replicate n vs').flatten (List.replicate n xs).flatten
  | 0 => trivial
  | n + 1 => by rw [List.replicate_succ, List.replicate_succ, List.flatten_cons, List.flatten_cons]; exact a.app (All.rep a n)
/-- xs * n -/
theorem n_rep (r : (pL e).r F v xs) (w : Wf F0 H0 F H) (hl : xs.length * n < 1000000) (hn : n < 1000000) (k : ∀ p H', H p = none → Wf F H F H' → XL e H0 F H' p (List.replicate n xs).flatten → Q (.ref p) H') : rRep v (.int (n : Int)) H Q := by
  obtain ⟨p, vs, rfl, hp, a⟩ := r
  exact ⟨p, _, vs, rfl, rfl, w.f _ _ hp, by omega, by omega, by rw [a.len]; exact Nat.le_of_lt (small_len hl), fun l hl => k l _ hl (Wf.newX w.f hl) ⟨_, Xc.mk' w hl, All.rep a n⟩⟩
def cutT (xs : List α) (lo hi : Option Nat) : List α := match lo, hi with
  | none, none => xs
  | none, some b => xs.take b
  | some a, none => xs.drop a
  | some a, some b => (xs.drop a).take (b - a)
theorem cutV_T {ws : List V} (lo hi : Option Nat) : cutV ws (lo.map Int.ofNat) (hi.map Int.ofNat) = cutT ws lo hi := by
  have tk : ∀ (n : Nat) (l : List V), l.take (min n l.length) = l.take n := fun n l => by
    by_cases h : n ≤ l.length
    · rw [Nat.min_eq_left h]
    · rw [Nat.min_eq_right (by omega), List.take_of_length_le (Nat.le_refl _), List.take_of_length_le (by omega)]
  unfold cutV cutT
  cases lo with
  | none =>
    cases hi with
    | none => simp only [Option.map_none, HT.sIx_none, List.drop_zero, Nat.sub_zero, List.take_length]
    | some b =>
      simp only [Option.map_none, Option.map_some, HT.sIx_none, List.drop_zero, Nat.sub_zero]
      rw [show HT.sIx ws.length ws.length (some (Int.ofNat b)) = min b ws.length from HT.sIx_nat _ _ _]
      exact tk b ws
  | some a =>
    have dr : ws.drop (min a ws.length) = ws.drop a := by
      by_cases h : a ≤ ws.length
      · rw [Nat.min_eq_left h]
      · rw [Nat.min_eq_right (by omega), List.drop_of_length_le (Nat.le_refl _), List.drop_of_length_le (by omega)]
    cases hi with
    | none =>
      simp only [Option.map_none, Option.map_some, HT.sIx_none]
      rw [show HT.sIx ws.length 0 (some (Int.ofNat a)) = min a ws.length from HT.sIx_nat _ _ _, dr]
      exact List.take_of_length_le (by rw [List.length_drop]; omega)
    | some b =>
      simp only [Option.map_some]
      rw [show HT.sIx ws.length 0 (some (Int.ofNat a)) = min a ws.length from HT.sIx_nat _ _ _, show HT.sIx ws.length ws.length (some (Int.ofNat b)) = min b ws.length from HT.sIx_nat _ _ _, dr]
      by_cases h : b ≤ ws.length
      · rw [Nat.min_eq_left h]
        by_cases h' : a ≤ ws.length
        · rw [Nat.min_eq_left h']
        · rw [List.drop_of_length_le (by omega), List.take_nil, List.take_nil]
      · rw [Nat.min_eq_right (by omega)]
        rw [List.take_of_length_le (by rw [List.length_drop]; omega), List.take_of_length_le (by rw [List.length_drop]; omega)]
theorem All.cut {ws : List V} (a : All e F ws xs) (lo hi : Option Nat) : All e F (cutT ws lo hi) (cutT xs lo hi) := by
  cases lo <;> cases hi
  · exact a
  · exact a.take _
  · exact a.drop _
  · exact (a.drop _).take _
/-- the two ends of a slice -/
def Part (tl : TO) (σ : L2.St) (H : Hp) (o : Option Nat) : Prop := ∀ Q : Option Int → Hp → Prop, Q (o.map Int.ofNat) H → tl σ H Q
theorem po_n : Part tNoPart σ H none := fun _ k => k
theorem po_s (h : Val te σ H (.int (n : Int))) : Part (tPart te) σ H (some n) := fun _ k => h _ ⟨_, rfl, k⟩
theorem n_cutX {lo hi : Option Nat} (r : (pL e).r F v xs) (hv : Val te σ H v) (h1 : Part tl σ H lo) (h2 : Part th σ H hi) (w : Wf F0 H0 F H) (k : ∀ p H', H p = none → Wf F H F H' → XL e H0 F H' p (cutT xs lo hi) → Q (.ref p) H') : tSl (rSlL K) te tl th σ H Q := by
  obtain ⟨p, vs, rfl, hp, a⟩ := r
  exact hv _ (h1 _ (h2 _ ⟨p, vs, rfl, SqL.of (w.f _ _ hp), fun l hl => by
    rw [cutV_T]
    exact k l _ hl (Wf.newX w.f hl) ⟨_, Xc.mk' w hl, a.cut lo hi⟩⟩))
theorem n_cutS {lo hi : Option Nat} {zs : List Int} (r : (pScr K).r F v zs) (hv : Val te σ H v) (h1 : Part tl σ H lo) (h2 : Part th σ H hi) (w : Wf F0 H0 F H) (k : ∀ p H', H p = none → Wf F H F H' → XL pI H0 F H' p (cutT zs lo hi) → Q (.ref p) H') : tSl (rSlL K) te tl th σ H Q := by
  obtain ⟨p, rfl, s⟩ := (pScr K).mono w.f r
  exact hv _ (h1 _ (h2 _ ⟨p, _, rfl, s, fun l hl => by
    rw [cutV_T]
    exact k l _ hl (Wf.newX w.f hl) ⟨_, Xc.mk' w hl, (All.ofInts (xs := zs)).cut lo hi⟩⟩))
end
end Wk
namespace Wk
open PySem L2
section
variable {α β γ : Type} {e : Rep α} {f : Rep β} {g : Rep γ} {K : PySem.W.Frag} {σ : L2.St} {F0 H0 F F' H H' : Hp} {te ta tb to : TE} {tt : TT} {tA : TA} {Q : VK} {v w u : V} {xs ys : List α} {p q : Addr} {i : Nat} {D : Ends} {pr : Prop} {ti : TIp} {x y : V}
theorem bb_ifn {b : Bool} {A B : Prop} (h1 : b = true → B) (h2 : ¬ b = true → A) : if (!b) = true then A else B := by
  cases b with
  | true => rw [if_neg (by simp)]; exact h1 rfl
  | false => rw [if_pos (by rfl)]; exact h2 (by simp)
theorem nx_set {P : L2.St → Hp → Prop} {σ : L2.St} {i : Nat} {H : Hp} (h : v = w) (q : P (σ.set i (some v)) H) : P (σ.set i (some w)) H := h ▸ q
theorem g_name {R : L2.St → Hp → Prop} (h : R (σ.set i (some v)) H) : gName i v σ H R := h
theorem set_same {σ : L2.St} {i : Nat} {v : V} (h : σ[i]? = some (some v)) : σ.set i (some v) = σ := by
  refine List.ext_getElem? fun j => ?_
  rw [List.getElem?_set]
  split
  · rename_i h1
    subst h1
    split
    · exact h.symm
    · rename_i h2
      rw [List.getElem?_eq_none (by omega)] at h; cases h
  · rfl
theorem a_ifAsg [Decidable pr] (h : Ans tt σ H (decide pr)) (h1 : pr → Val te σ H v) (h2 : ¬ pr → σ[i]? = some (some v)) (q : D.nx (σ.set i (some v)) H) : tIfS tt (tAsg te (gName i)) tNext D σ H := h _ (b_if (fun hp => h1 hp _ q) fun hp => by
  have e := set_same (h2 hp)
  rw [e] at q
  exact q)
theorem n_tup3 {x : α} {y : β} {z : γ} (a : e.r F v x) (b : f.r F w y) (c : g.r F u z) (h : Wf F0 H0 F H) (k : ∀ p F' H', Wf F H F' H' → (pT3 e f g).r F' (.ref p) (x, y, z) → Q (.ref p) H') :
    kTup Q [v, w, u] H := ⟨Nat.le_of_lt (small_len (n := 3) (by decide)), fun p hp => k p _ _ (Wf.new h.f hp) ⟨p, v, w, u, rfl, upd_same, e.mono (Ex.new (h.f.non hp)) a, f.mono (Ex.new (h.f.non hp)) b, g.mono (Ex.new (h.f.non hp)) c⟩⟩
theorem n_tupL {vs : List V} (a : All e F vs xs) (hl : xs.length < 1000000) (w : Wf F0 H0 F H) (k : ∀ p F' H', Wf F H F' H' → (pTL e).r F' (.ref p) xs → Q (.ref p) H') :
    kTup Q vs H := ⟨by rw [a.len]; exact Nat.le_of_lt (small_len hl), fun p hp => k p _ _ (Wf.new w.f hp) ⟨p, vs, rfl, upd_same, a.mono (Ex.new (w.f.non hp))⟩⟩
theorem m_list {r : V → List V → Hp → VK → Prop} (z : XL e H0 F H p xs) (ho : Val to σ H (.ref p)) (k : tA σ H fun vs H2 => r (.ref p) vs H2 Q) : tBM K "list" r to tA σ H Q := ho _ ⟨let ⟨_, a, _⟩ := z.x; Or.inl ⟨rfl, _, Or.inl (Or.inl a.h)⟩, k⟩
theorem a_clr (x : XL e H0 F H p xs) (w : Wf F0 H0 F H) (k : ∀ H', Wf F0 H0 F H' → XL e H0 F H' p [] → (∀ q o, H q = some o → q ≠ p → H' q = some o) → Q .non H') : rClear (.ref p) [] H Q := by
  obtain ⟨vs, a, b⟩ := x.x
  exact ⟨p, vs, rfl, rfl, a.h, k _ (w.set a) ⟨_, a.set, trivial⟩ fun q o h hq => by rw [upd_ne hq]; exact h⟩
end
end Wk
namespace Wk
open PySem L2
class KeyT (κ : Type) where
  k : κ → Key
  inj : ∀ {a b : κ}, k a = k b → a = b
instance : KeyT Nat := ⟨fun n => .inl (n : Int), fun h => by have := Sum.inl.inj h; omega⟩
instance : KeyT Int := ⟨fun n => .inl n, fun h => Sum.inl.inj h⟩
instance : KeyT Str := ⟨fun n => .inr n, fun h => Sum.inr.inj h⟩
section
variable {κ α : Type} [DecidableEq κ] [KeyT κ]
def valT (m : List (κ × α)) (j : κ) : Option α := (m.find? fun q => decide (q.1 = j)).map (·.2)
def DA (e : Rep α) (F : Hp) : List (Key × V) → List (κ × α) → Prop
  | [], [] => True
  | p :: r, q :: s => p.1 = KeyT.k q.1 ∧ e.r F p.2 q.2 ∧ DA e F r s
  | _, _ => False
variable {e : Rep α} {F F' : Hp}
omit [DecidableEq κ] in
theorem DA.mono (h : Ex F F') : ∀ {kvs : List (Key × V)} {m : List (κ × α)}, DA e F kvs m → DA e F' kvs m
  | [], [], _ => trivial
  | _ :: _, _ :: _, ⟨a, b, c⟩ => ⟨a, e.mono h b, DA.mono h c⟩
  | [], _ :: _, q => q.elim
  | _ :: _, [], q => q.elim
theorem DA.len : ∀ {kvs : List (Key × V)} {m : List (κ × α)}, DA e F kvs m → kvs.length = m.length
  | [], [], _ => rfl
  | _ :: _, _ :: _, ⟨_, _, c⟩ => by rw [List.length_cons, List.length_cons, DA.len c]
  | [], _ :: _, q => q.elim
  | _ :: _, [], q => q.elim
theorem valT_cons {q : κ × α} {m : List (κ × α)} {j : κ} : valT (q :: m) j = if q.1 = j then some q.2 else valT m j := by
  unfold valT
  rw [List.find?_cons]
  by_cases h : q.1 = j
  · rw [if_pos h, decide_eq_true h]; rfl
  · rw [if_neg h, decide_eq_false h]
theorem DA.get : ∀ {kvs : List (Key × V)} {m : List (κ × α)} (j : κ), DA e F kvs m → (∀ x, valT m j = some x → ∃ v, valV kvs (KeyT.k j) = some v ∧ e.r F v x) ∧ (valT m j = none → valV kvs (KeyT.k j) = none)
  | [], [], _, _ => ⟨fun x h => (by cases h), fun _ => rfl⟩
  | p :: r, q :: s, j, ⟨a, b, c⟩ => by
    obtain ⟨ih1, ih2⟩ := DA.get j c
    rw [valT_cons]
    by_cases h : q.1 = j
    · rw [if_pos h]
      have e1 : p.1 = KeyT.k j := by rw [a, h]
      exact ⟨fun x hx => ⟨p.2, valV_pos e1, by cases hx; exact b⟩, fun z => by cases z⟩
    · rw [if_neg h]
      have e1 : ¬ p.1 = KeyT.k j := fun z => h (KeyT.inj (a.symm.trans z))
      rw [valV_neg e1]
      exact ⟨ih1, ih2⟩
  | [], _ :: _, _, q => q.elim
  | _ :: _, [], _, q => q.elim
theorem DA.app : ∀ {kvs : List (Key × V)} {m : List (κ × α)} {kvs' : List (Key × V)} {m' : List (κ × α)}, DA e F kvs m → DA e F kvs' m' → DA e F (kvs ++ kvs') (m ++ m')
  | [], [], _, _, _, h => h
  | _ :: _, _ :: _, _, _, ⟨a, b, c⟩, h => ⟨a, b, DA.app c h⟩
  | [], _ :: _, _, _, q, _ => q.elim
  | _ :: _, [], _, _, q, _ => q.elim
end
def pD {κ α : Type} [KeyT κ] (e : Rep α) : Rep (List (κ × α)) := ⟨fun F v m => ∃ p kvs, v = .ref p ∧ F p = some (.dK kvs) ∧ DA e F kvs m, fun h ⟨p, kvs, a, b, c⟩ => ⟨p, kvs, a, h _ _ b, c.mono h⟩⟩
structure XD {κ α : Type} [KeyT κ] (e : Rep α) (H0 F H : Hp) (p : Addr) (m : List (κ × α)) : Prop where
  x : ∃ kvs, Xc H0 F H p (.dK kvs) ∧ DA e F kvs m
section
variable {κ α : Type} [DecidableEq κ] [KeyT κ] {e : Rep α} {K : PySem.W.Frag} {σ : L2.St} {F0 H0 F F' H H' : Hp} {te td ty tx tv : TE} {Q : VK} {v w y z : V} {m : List (κ × α)} {p q : Addr} {j : κ} {x : α} {D : Ends}
theorem XD.step (x : XD e H0 F H p m) (w : Wf F H F' H') : XD e H0 F' H' p m := let ⟨vs, a, b⟩ := x.x; ⟨vs, a.step w, b.mono w.g⟩
theorem XD.ne (x : XD e H0 F H p m) (h : H q = none) : p ≠ q := let ⟨_, a, _⟩ := x.x; a.ne h
theorem XD.zero (x : XD e H0 F H p m) : H0 p = none := let ⟨_, a, _⟩ := x.x; a.z
theorem XD.base (x : XD e H F' H' p m) (w : Wf F0 H0 F H) : XD e H0 F' H' p m := let ⟨vs, a, b⟩ := x.x; ⟨vs, ⟨w.h.non a.z, a.n, a.h⟩, b⟩
theorem XD.kept (x : XD e H0 F H q m) (h : ∀ q o, H q = some o → q ≠ p → H' q = some o) (hq : q ≠ p) : XD e H0 F H' q m := let ⟨vs, a, b⟩ := x.x; ⟨vs, a.kept h hq, b⟩
theorem XD.frzO (x : XD e H0 F H q m) (h : Fz F F' p) (hq : q ≠ p) (g : Ex F F') : XD e H0 F' H q m := let ⟨vs, a, b⟩ := x.x; ⟨vs, ⟨a.z, h _ hq a.n, a.h⟩, b.mono g⟩
theorem XD.frzE (x : XD e H0 F H p m) (w : Wf F0 H0 F H) : ∃ F', Wf F0 H0 F' H ∧ Ex F F' ∧ (pD e).r F' (.ref p) m ∧ Fz F F' p := by
  obtain ⟨vs, a, b⟩ := x.x
  exact ⟨_, w.freeze a, Ex.new a.n, ⟨p, vs, rfl, upd_same, b.mono (Ex.new a.n)⟩, fun q h z => by rw [upd_ne h]; exact z⟩
theorem XD.rd (x : XD e H0 F H p m) : ∃ kvs, H p = some (.dK kvs) ∧ DA e F kvs m := let ⟨vs, a, b⟩ := x.x; ⟨vs, a.h, b⟩
/-- {} -/
theorem n_dict (w : Wf F0 H0 F H) (k : ∀ p H', H p = none → Wf F H F H' → XD e H0 F H' p ([] : List (κ × α)) → Q (.ref p) H') : tDNewK σ H Q := fun p hp => k p _ hp (Wf.newX w.f hp) ⟨[], Xc.mk' w hp, trivial⟩
end
section
variable {S : Type} {σ : L2.St} {H : Hp} {te ta tb : TE} {tt tu : TT} {Q : VK} {k : Bool → Prop}
theorem e_jnT {f : (Bool → Prop) → Prop} {Qt : Bool → Hp → Prop} (hW : jn f k) (Inv : Bool → Hp → Hp → Prop)
    (h1 : ∀ N : Bool → Hp → Prop, (∀ b F' H', Inv b F' H' → k b → N b H') → f k → tt σ H N) (h2 : ∀ b F' H', Inv b F' H' → k b → Qt b H') : tt σ H Qt :=
  h1 Qt (fun b F' H' q n => h2 b F' H' q n) hW
theorem e_jnV {f : (Bool → Prop) → Prop} (hW : jn f k) (Inv : Bool → Hp → Hp → Prop)
    (h1 : ∀ N : VK, (∀ b F' H', Inv b F' H' → k b → N (.bl b) H') → f k → te σ H N) (h2 : ∀ b F' H', Inv b F' H' → k b → Q (.bl b) H') : te σ H Q :=
  h1 Q (fun b F' H' q n => h2 b F' H' q n) hW
theorem e_tAnd {Qt : Bool → Hp → Prop} (h : tt σ H fun c H1 => if c = true then tu σ H1 Qt else Qt false H1) : tAnd tt tu σ H Qt := h
theorem e_tOr {Qt : Bool → Hp → Prop} (h : tt σ H fun c H1 => if c = true then Qt true H1 else tu σ H1 Qt) : tOr tt tu σ H Qt := h
theorem e_AndV (h : ta σ H fun x H1 => ∃ c, x = .bl c ∧ if c = true then tb σ H1 Q else Q (.bl false) H1) : tAndV ta tb σ H Q := h
theorem bl_if {b : Bool} {A B : Prop} (h : if b = true then A else B) : ∃ c, V.bl b = .bl c ∧ if c = true then A else B := ⟨b, rfl, h⟩
theorem bl_v {b : Bool} {A : Bool → Prop} (h : A b) : ∃ c, V.bl b = .bl c ∧ A c := ⟨b, rfl, h⟩
end
end Wk
namespace Wk
end Wk
namespace Wk.LR
open PySem PyProof.Rows L2
end Wk.LR
namespace Wk
open PySem L2 PyProof.Rows
end Wk
namespace Wk
section
variable {α β S : Type}
theorem forW_ind {xs : List α} {s : S} {body : α → S → (S → Prop) → (S → Prop) → Prop} {k : S → Prop} (P : List α → S → Prop) (h0 : P [] s)
    (hb : ∀ pre x post s nx bk, xs = pre ++ x :: post → P pre s → (∀ s', P (pre ++ [x]) s' → nx s') → (∀ s', k s' → bk s') → body x s nx bk)
    (hk : ∀ s, P xs s → k s) : forW xs s body k := by
  suffices h : ∀ (post pre : List α) (s : S), xs = pre ++ post → P pre s → forW post s body k from h xs [] s rfl h0
  intro post
  induction post with
  | nil => intro pre s e p; rw [List.append_nil] at e; subst e; exact hk s p
  | cons x post ih => intro pre s e p; exact hb pre x post s _ _ e p (fun s' p' => ih (pre ++ [x]) s' (by rw [e, List.append_assoc]; rfl) p') (fun _ h => h)
theorem forW_foldI {xs : List α} {s : S} {body : α → S → (S → Prop) → (S → Prop) → Prop} {k : S → Prop} (f : S → α → S) (I : S → Prop) (h0 : I s)
    (hb : ∀ x ∈ xs, ∀ s nx bk, I s → (I (f s x) → nx (f s x)) → body x s nx bk) (hi : ∀ x ∈ xs, ∀ s, I s → I (f s x))
    (hk : I (xs.foldl f s) → k (xs.foldl f s)) : forW xs s body k := by
  induction xs generalizing s with
  | nil => exact hk h0
  | cons x xs ih =>
    refine hb x (List.mem_cons_self ..) s _ _ h0 fun h1 => ih (s := f s x) h1 (fun y hy => hb y (List.mem_cons_of_mem _ hy)) (fun y hy => hi y (List.mem_cons_of_mem _ hy)) hk
theorem forW_fold {xs : List α} {s : S} {body : α → S → (S → Prop) → (S → Prop) → Prop} {k : S → Prop} (f : S → α → S)
    (hb : ∀ x ∈ xs, ∀ s nx bk, nx (f s x) → body x s nx bk) (hk : k (xs.foldl f s)) : forW xs s body k :=
  forW_foldI f (fun _ => True) trivial (fun x hx s nx bk _ h => hb x hx s nx bk (h trivial)) (fun _ _ _ _ => trivial) fun _ => hk
theorem forW_unit {xs : List α} {body : α → Unit → (Unit → Prop) → (Unit → Prop) → Prop} {k : Unit → Prop}
    (hb : ∀ x ∈ xs, ∀ nx bk, nx () → body x () nx bk) (hk : k ()) : forW xs () body k :=
  forW_fold (fun s _ => s) (fun x hx _ nx bk h => hb x hx nx bk h) hk
theorem compG_fm {xs : List α} {acc : List β} {b : α → (Option β → Prop) → Prop} {k : List β → Prop} (f : α → Option β) (hb : ∀ x ∈ xs, ∀ kk, kk (f x) → b x kk) (hk : k (acc ++ xs.filterMap f)) : compG xs acc b k := by
  induction xs generalizing acc with
  | nil => simpa [compG] using hk
  | cons x xs ih =>
    refine hb x (List.mem_cons_self ..) _ (ih (fun y hy => hb y (List.mem_cons_of_mem _ hy)) ?_)
    rw [List.filterMap_cons] at hk
    cases h : f x with
    | none => rw [h] at hk; simpa using hk
    | some y => rw [h] at hk; simpa using hk
theorem compW_fm {xs : List α} {b : α → (Option β → Prop) → Prop} {k : List β → Prop} (f : α → Option β) (hb : ∀ x ∈ xs, ∀ kk, kk (f x) → b x kk) (hk : k (xs.filterMap f)) : compW xs b k :=
  compG_fm f hb (by simpa using hk)
theorem compW_map {xs : List α} {b : α → (Option β → Prop) → Prop} {k : List β → Prop} (f : α → β) (hb : ∀ x ∈ xs, ∀ kk, kk (some (f x)) → b x kk) (hk : k (xs.map f)) : compW xs b k :=
  compW_fm (fun x => some (f x)) hb (by rw [show (fun x => some (f x)) = some ∘ f from rfl, List.filterMap_eq_map]; exact hk)
/-- a comprehension whose turns are told by what they may give -/
def CR (P : α → Option β → Prop) : List α → List β → Prop
  | [], ys => ys = []
  | x :: xs, ys => ∃ o ys', P x o ∧ ys = o.toList ++ ys' ∧ CR P xs ys'
theorem compG_rel {xs : List α} {acc : List β} {b : α → (Option β → Prop) → Prop} {k : List β → Prop} (P : α → Option β → Prop) (hb : ∀ x ∈ xs, ∀ kk, (∀ o, P x o → kk o) → b x kk) (hk : ∀ ys, CR P xs ys → k (acc ++ ys)) : compG xs acc b k := by
  induction xs generalizing acc with
  | nil => have := hk [] rfl; rwa [List.append_nil] at this
  | cons x xs ih =>
    refine hb x (List.mem_cons_self ..) _ fun o ho => ih (fun y hy => hb y (List.mem_cons_of_mem _ hy)) fun ys hy => ?_
    rw [List.append_assoc]
    exact hk _ ⟨o, ys, ho, rfl, hy⟩
theorem compW_rel {xs : List α} {b : α → (Option β → Prop) → Prop} {k : List β → Prop} (P : α → Option β → Prop) (hb : ∀ x ∈ xs, ∀ kk, (∀ o, P x o → kk o) → b x kk) (hk : ∀ ys, CR P xs ys → k ys) : compW xs b k := compG_rel P hb fun ys h => by rw [List.nil_append]; exact hk ys h
theorem jnI {f : (S → Prop) → Prop} {k : S → Prop} (h : f k) : jn f k := h
end
end Wk
namespace Wk
theorem halfBit (n i : Nat) : (n / 2).testBit i = n.testBit (i + 1) := by rw [Nat.testBit_add_one]
theorem half_xor (a b : Nat) : (a ^^^ b) / 2 = a / 2 ^^^ b / 2 := Nat.eq_of_testBit_eq fun i => by rw [Nat.testBit_xor, halfBit, halfBit, halfBit, Nat.testBit_xor]
/-- the places of the bits below k -/
def bl (k n : Nat) : List Nat := (List.range k).filter n.testBit
theorem testBit_big {n k j : Nat} (h : n < 2 ^ k) (hj : k ≤ j) : n.testBit j = false := Nat.testBit_lt_two_pow (Nat.lt_of_lt_of_le h (Nat.pow_le_pow_right (by decide) hj))
theorem NDiv_pow {k : Nat} (h : k < 9000) : NDiv (2 ^ k) := ⟨Nat.two_pow_pos k, by rw [Nat.log2_two_pow]; exact h⟩
end Wk
namespace Wk
theorem bits_le {n k : Nat} : bits n ≤ k ↔ n < 2 ^ k := by
  unfold bits
  by_cases h : n = 0
  · subst h; simp [Nat.two_pow_pos]
  · rw [if_neg h]
    exact ⟨fun z => (Nat.log2_lt h).mp (Nat.lt_of_succ_le z), fun z => Nat.succ_le_of_lt ((Nat.log2_lt h).mpr z)⟩
theorem bits_pos {n : Nat} (h : n ≠ 0) : 0 < bits n := by unfold bits; rw [if_neg h]; exact Nat.succ_pos _
theorem xor0 {a b : Nat} (h : a ^^^ b = 0) : a = b := by
  have e : (a ^^^ b) ^^^ b = b := by rw [h, Nat.zero_xor]
  rw [Nat.xor_assoc, Nat.xor_self, Nat.xor_zero] at e; exact e
def comb : List Nat → Nat → Nat
  | [], _ => 0
  | r :: rs, S => (if S.testBit 0 = true then r else 0) ^^^ comb rs (S / 2)
theorem comb_xor : ∀ (rs : List Nat) (S T : Nat), comb rs (S ^^^ T) = comb rs S ^^^ comb rs T
  | [], _, _ => by simp [comb]
  | r :: rs, S, T => by
    show (if (S ^^^ T).testBit 0 = true then r else 0) ^^^ comb rs ((S ^^^ T) / 2) = _
    rw [half_xor, comb_xor rs, Nat.testBit_xor]
    show _ = ((if S.testBit 0 = true then r else 0) ^^^ comb rs (S / 2)) ^^^ ((if T.testBit 0 = true then r else 0) ^^^ comb rs (T / 2))
    generalize comb rs (S / 2) = a
    generalize comb rs (T / 2) = b
    cases S.testBit 0 <;> cases T.testBit 0
    · simp
    · simp only [Bool.false_xor, if_true, Bool.false_eq_true, if_false, Nat.zero_xor]
      rw [← Nat.xor_assoc, ← Nat.xor_assoc, Nat.xor_comm a r]
    · simp only [Bool.xor_false, if_true, Bool.false_eq_true, if_false, Nat.zero_xor]
      rw [Nat.xor_assoc]
    · simp only [Bool.xor_self, if_true, Bool.false_eq_true, if_false, Nat.zero_xor]
      rw [Nat.xor_comm r b, ← Nat.xor_assoc, Nat.xor_assoc (r ^^^ a), ]
      rw [Nat.xor_comm r a, Nat.xor_assoc a r, ← Nat.xor_assoc r b r, Nat.xor_comm r b, Nat.xor_assoc b r r, Nat.xor_self, Nat.xor_zero]
theorem comb_zero : ∀ rs : List Nat, comb rs 0 = 0
  | [] => rfl
  | r :: rs => by show (if Nat.testBit 0 0 = true then r else 0) ^^^ comb rs (0 / 2) = 0; rw [Nat.zero_div, comb_zero rs]; simp
theorem comb_ext : ∀ {rs : List Nat} {S T : Nat}, (∀ j, j < rs.length → S.testBit j = T.testBit j) → comb rs S = comb rs T
  | [], _, _, _ => rfl
  | r :: rs, S, T, h => by
    show (if S.testBit 0 = true then r else 0) ^^^ comb rs (S / 2) = (if T.testBit 0 = true then r else 0) ^^^ comb rs (T / 2)
    rw [h 0 (by simp), comb_ext (rs := rs) (S := S / 2) (T := T / 2) fun j hj => by
      rw [halfBit, halfBit]; exact h (j + 1) (by simpa using hj)]
theorem comb_snoc : ∀ (rs : List Nat) (r S : Nat), comb (rs ++ [r]) S = comb rs S ^^^ if S.testBit rs.length = true then r else 0
  | [], r, S => by simp [comb]
  | q :: rs, r, S => by
    show (if S.testBit 0 = true then q else 0) ^^^ comb (rs ++ [r]) (S / 2) = _
    rw [comb_snoc rs, halfBit]
    show _ = ((if S.testBit 0 = true then q else 0) ^^^ comb rs (S / 2)) ^^^ _
    rw [← Nat.xor_assoc]; rfl
theorem comb_lt : ∀ {rs : List Nat} {S k : Nat}, (∀ r ∈ rs, r < 2 ^ k) → comb rs S < 2 ^ k
  | [], _, _, _ => Nat.two_pow_pos _
  | r :: rs, S, k, h => by
    refine Nat.xor_lt_two_pow ?_ (comb_lt fun x hx => h x (List.mem_cons_of_mem _ hx))
    by_cases q : S.testBit 0 = true
    · rw [if_pos q]; exact h r (List.mem_cons_self ..)
    · rw [if_neg q]; exact Nat.two_pow_pos _
theorem comb_pow_len (rs : List Nat) : comb rs (2 ^ rs.length) = 0 := by
  rw [← comb_zero rs]
  refine comb_ext fun j hj => ?_
  rw [Nat.testBit_two_pow, Nat.zero_testBit, decide_eq_false (by omega)]
theorem comb_map (f : Nat → Nat) (h0 : f 0 = 0) (hf : ∀ a b, f (a ^^^ b) = f a ^^^ f b) : ∀ (vs : List Nat) (S : Nat), comb (vs.map f) S = f (comb vs S)
  | [], _ => h0.symm
  | v :: vs, S => by
    show (if S.testBit 0 = true then f v else 0) ^^^ comb (vs.map f) (S / 2) = f ((if S.testBit 0 = true then v else 0) ^^^ comb vs (S / 2))
    rw [comb_map f h0 hf vs, hf]
    by_cases q : S.testBit 0 = true
    · rw [if_pos q, if_pos q]
    · rw [if_neg q, if_neg q, h0]
/-- the sums of the rows -/
def Span (vs : List Nat) (v : Nat) : Prop := ∃ S, comb vs S = v
theorem Span.zero (vs : List Nat) : Span vs 0 := ⟨0, comb_zero vs⟩
theorem Span.low {vs : List Nat} {v : Nat} : Span vs v → ∃ S, S < 2 ^ vs.length ∧ comb vs S = v := fun ⟨S, a⟩ => ⟨S % 2 ^ vs.length, Nat.mod_lt _ (Nat.two_pow_pos _), by
  rw [← a]
  refine comb_ext fun j hj => ?_
  rw [Nat.testBit_mod_two_pow, decide_eq_true hj, Bool.true_and]⟩
theorem Span.snoc {vs : List Nat} {r v : Nat} : Span (vs ++ [r]) v ↔ Span vs v ∨ Span vs (v ^^^ r) := by
  constructor
  · rintro ⟨S, h⟩
    rw [comb_snoc] at h
    by_cases q : S.testBit vs.length = true
    · rw [if_pos q] at h
      exact .inr ⟨S, by rw [← h, Nat.xor_assoc, Nat.xor_self, Nat.xor_zero]⟩
    · rw [if_neg q, Nat.xor_zero] at h
      exact .inl ⟨S, h⟩
  · rintro (h | h)
    · obtain ⟨S, hl, e⟩ := h.low
      exact ⟨S, by rw [comb_snoc, testBit_big hl (Nat.le_refl _), e]; simp⟩
    · obtain ⟨S, hl, e⟩ := h.low
      refine ⟨S ^^^ 2 ^ vs.length, ?_⟩
      rw [comb_snoc, comb_xor, comb_pow_len, e, Nat.testBit_xor, testBit_big hl (Nat.le_refl _), Nat.testBit_two_pow, decide_eq_true rfl]
      simp [Nat.xor_assoc]
theorem Span.nil {v : Nat} : Span [] v ↔ v = 0 := ⟨fun ⟨_, h⟩ => h.symm, fun h => by subst h; exact Span.zero _⟩
theorem Span.inj {vs : List Nat} {k : Nat} (f : Nat → Nat) (h0 : f 0 = 0) (hf : ∀ a b, f (a ^^^ b) = f a ^^^ f b) (hi : ∀ a, a < 2 ^ k → f a = 0 → a = 0) (hv : ∀ v ∈ vs, v < 2 ^ k) {v : Nat} (hk : v < 2 ^ k) : Span (vs.map f) (f v) ↔ Span vs v := by
  constructor
  · rintro ⟨S, h⟩
    rw [comb_map f h0 hf] at h
    refine ⟨S, ?_⟩
    have : comb vs S ^^^ v = 0 := hi _ (Nat.xor_lt_two_pow (comb_lt hv) hk) (by rw [hf, h, Nat.xor_self])
    exact xor0 this
  · rintro ⟨S, h⟩
    exact ⟨S, by rw [comb_map f h0 hf, h]⟩
/-- masks with unlike highest bits, rising -/
def Incr (ws : List Nat) : Prop := ws.Pairwise (fun a b => bits a < bits b) ∧ ∀ w ∈ ws, w ≠ 0
theorem Incr.snoc {ws : List Nat} {w : Nat} (h : Incr ws) (hb : ∀ x ∈ ws, bits x < bits w) (h0 : w ≠ 0) : Incr (ws ++ [w]) := ⟨List.pairwise_append.mpr ⟨h.1, List.pairwise_singleton _ _, fun a ha b hb' => by rw [List.mem_singleton.mp hb']; exact hb a ha⟩, fun x hx => by
  rcases List.mem_append.mp hx with q | q
  · exact h.2 x q
  · rw [List.mem_singleton.mp q]; exact h0⟩
theorem comb_snoc_bits {ws : List Nat} {w S : Nat} (hb : ∀ x ∈ ws, bits x < bits w) : bits (comb ws S) < bits w ∨ w = 0 := by
  by_cases h : w = 0
  · exact .inr h
  · left
    have hp := bits_pos h
    refine Nat.lt_of_le_of_lt (bits_le.mpr (comb_lt (k := bits w - 1) fun x hx => ?_)) (by omega)
    have := hb x hx
    exact bits_le.mp (by omega)
theorem Incr.inj : ∀ {ws : List Nat} {S : Nat}, Incr ws → S < 2 ^ ws.length → comb ws S = 0 → S = 0 := by
  intro ws
  induction hn : ws.length generalizing ws with
  | zero => intro S _ hS _; simpa using hS
  | succ n ih =>
    intro S hI hS h
    obtain ⟨us, w, rfl⟩ : ∃ us w, ws = us ++ [w] := ⟨ws.dropLast, ws.getLast (by intro z; subst z; cases hn), (List.dropLast_concat_getLast _).symm⟩
    have hl : us.length = n := by rw [List.length_append] at hn; simpa using hn
    obtain ⟨hp, h0⟩ := hI
    rw [List.pairwise_append] at hp
    have hw : w ≠ 0 := h0 w (List.mem_append_right _ (List.mem_singleton_self _))
    have hb : ∀ x ∈ us, bits x < bits w := fun x hx => hp.2.2 x hx w (List.mem_singleton_self _)
    rw [comb_snoc, hl] at h
    by_cases q : S.testBit n = true
    · rw [if_pos q] at h
      have e := xor0 h
      rcases comb_snoc_bits (S := S) hb with z | z
      · rw [e] at z; exact absurd z (Nat.lt_irrefl _)
      · exact absurd z hw
    · rw [if_neg q, Nat.xor_zero] at h
      have hS' : S < 2 ^ n := by
        refine Nat.lt_pow_two_of_testBit _ fun j hj => ?_
        by_cases e : j = n
        · subst e; simpa using q
        · exact testBit_big hS (by omega)
      exact ih (ws := us) hl ⟨hp.1, fun x hx => h0 x (List.mem_append_left _ hx)⟩ hS' h
end Wk
namespace Wk
def pm (a b : Nat) : Nat := if h : b = 0 then 0 else (if b.testBit 0 = true then a else 0) ^^^ pm (2 * a) (b / 2)
termination_by b
decreasing_by omega
theorem pm_zero (a : Nat) : pm a 0 = 0 := by rw [pm]; simp
theorem pm_step (a b : Nat) : pm a b = (if b.testBit 0 = true then a else 0) ^^^ pm (2 * a) (b / 2) := by
  by_cases h : b = 0
  · subst h; simp [pm_zero]
  · rw [pm, dif_neg h]
theorem two_xor (a b : Nat) : 2 * (a ^^^ b) = 2 * a ^^^ 2 * b := Nat.eq_of_testBit_eq fun i => by
  rw [Nat.testBit_xor]
  cases i with
  | zero => simp [Nat.testBit_zero]
  | succ i => rw [Nat.testBit_add_one, Nat.testBit_add_one, Nat.testBit_add_one]; simp [Nat.testBit_xor]
theorem ifx {c : Bool} {a b : Nat} : (if c = true then a ^^^ b else 0) = (if c = true then a else 0) ^^^ (if c = true then b else 0) := by cases c <;> simp
theorem xor_swap (a b c d : Nat) : (a ^^^ b) ^^^ (c ^^^ d) = (a ^^^ c) ^^^ (b ^^^ d) := by
  rw [Nat.xor_assoc, ← Nat.xor_assoc b c d, Nat.xor_comm b c, Nat.xor_assoc c b d, ← Nat.xor_assoc]
theorem pm_xor_r (b : Nat) : ∀ a c : Nat, pm a (b ^^^ c) = pm a b ^^^ pm a c := by
  induction b using Nat.strongRecOn with
  | ind b ih =>
    intro a c
    by_cases h : b = 0
    · subst h; rw [Nat.zero_xor, pm_zero, Nat.zero_xor]
    · rw [pm_step a (b ^^^ c), pm_step a b, pm_step a c, half_xor, ih (b / 2) (by omega), Nat.testBit_xor, xor_swap]
      congr 1
      cases b.testBit 0 <;> cases c.testBit 0 <;> simp
theorem pm_xor_l (c : Nat) : ∀ a b : Nat, pm (a ^^^ b) c = pm a c ^^^ pm b c := by
  induction c using Nat.strongRecOn with
  | ind c ih =>
    intro a b
    by_cases h : c = 0
    · subst h; simp [pm_zero]
    · rw [pm_step (a ^^^ b), pm_step a c, pm_step b c, two_xor, ih (c / 2) (by omega), ifx, xor_swap]
theorem pm_dbl (b : Nat) : ∀ a, pm (2 * a) b = 2 * pm a b := by
  induction b using Nat.strongRecOn with
  | ind b ih =>
    intro a
    by_cases h : b = 0
    · subst h; simp [pm_zero]
    · rw [pm_step (2 * a), pm_step a, ih (b / 2) (by omega), two_xor]
      congr 1
      cases b.testBit 0 <;> simp
theorem pm_half (a b : Nat) : pm a b = (if b.testBit 0 = true then a else 0) ^^^ 2 * pm a (b / 2) := by rw [pm_step, pm_dbl]
theorem pm_zero_l (b : Nat) : pm 0 b = 0 := by
  induction b using Nat.strongRecOn with
  | ind b ih =>
    by_cases h : b = 0
    · subst h; exact pm_zero 0
    · rw [pm_half, ih (b / 2) (by omega)]; simp
theorem pm_one_l (b : Nat) : pm 1 b = b := by
  induction b using Nat.strongRecOn with
  | ind b ih =>
    by_cases h : b = 0
    · subst h; exact pm_zero 1
    · rw [pm_half, ih (b / 2) (by omega), Nat.testBit_zero]
      rcases Nat.mod_two_eq_zero_or_one b with e | e
      · rw [if_neg (by simp [e]), Nat.zero_xor]; omega
      · rw [if_pos (by simp [e])]
        have : 1 ^^^ 2 * (b / 2) = 2 * (b / 2) + 1 := Nat.eq_of_testBit_eq fun i => by
          rw [Nat.testBit_xor]
          cases i with
          | zero => simp [Nat.testBit_zero]
          | succ i =>
            rw [Nat.testBit_add_one, Nat.testBit_add_one, Nat.testBit_add_one]
            have a : (2 * (b / 2) + 1) / 2 = 2 * (b / 2) / 2 := by omega
            rw [a]; simp
        rw [this]; omega
theorem dbl_half (b : Nat) : b = (if b.testBit 0 = true then 1 else 0) ^^^ 2 * (b / 2) := by
  have := pm_half 1 b
  rw [pm_one_l, pm_one_l] at this; exact this
theorem pm_comm (b : Nat) : ∀ a, pm a b = pm b a := by
  induction b using Nat.strongRecOn with
  | ind b ih =>
    intro a
    by_cases h : b = 0
    · subst h; rw [pm_zero, pm_zero_l]
    · rw [pm_half a b, ih (b / 2) (by omega)]
      conv => rhs; rw [dbl_half b]
      rw [pm_xor_l, pm_dbl]
      congr 1
      cases b.testBit 0 <;> simp [pm_one_l, pm_zero_l]
theorem pm_assoc (c : Nat) : ∀ a b, pm (pm a b) c = pm a (pm b c) := by
  induction c using Nat.strongRecOn with
  | ind c ih =>
    intro a b
    by_cases h : c = 0
    · subst h; simp [pm_zero]
    · rw [pm_half (pm a b) c, pm_half b c, pm_xor_r, ih (c / 2) (by omega)]
      congr 1
      · cases c.testBit 0 <;> simp [pm_zero]
      · rw [pm_comm (2 * pm b (c / 2)), pm_dbl, pm_comm a]
/-- d goes into a -/
def Dv (d a : Nat) : Prop := ∃ q, pm q d = a
theorem Dv.zero (d : Nat) : Dv d 0 := ⟨0, pm_zero_l d⟩
theorem Dv.tr {a b c : Nat} : Dv a b → Dv b c → Dv a c := fun ⟨q, h⟩ ⟨r, k⟩ => ⟨pm r q, by rw [pm_assoc, h, k]⟩
end Wk
namespace Wk
open PySem L2
section
variable {α β S : Type} {K : PySem.W.Frag} {σ : L2.St} {F0 H0 F F' H H' : Hp} {te tl ta tb to : TE} {tt tc : TT} {tA : TA} {Q : VK} {v w u : V} {xs ys : List α} {x y : α} {D : Ends} {tu : TS} {p q : Addr} {n : Nat} {i : Int} {g : TG} {J : It} {e : Rep α} {b : Rep β} {zs : List β} {o : HO}
def kFor (g : TG) (tu : TS) (D : Ends) (σ : L2.St) (J : It) (H : Hp) : Prop := ∃ W : Nat → Nat → L2.St → Hp → Prop, (∃ m, W 0 m σ H) ∧ ∀ i m σ H, W i m σ H →
  (J.stop i H ∧ D.nx σ H) ∨ (J.go i H ∧ ∃ N : L2.St → Hp → Prop, (∀ σ' H', N σ' H' → ∃ m', m' < m ∧ W (i + 1) m' σ' H') ∧ ∀ x H', J.yld i H x H' → g x σ H' fun σ2 H2 => tu { D with nx := N, ct := N, bk := D.nx } σ2 H2)
def kCp (g : TG) (tc : TT) (te : TE) (vs : List Nat) (σ : L2.St) (Q : VK) (J : It) (H : Hp) : Prop := ∀ D, H D = none → ∃ W : Nat → Nat → Hp → Prop, (∃ m, W 0 m (upd H D (.lst []))) ∧ ∀ i m H, W i m H →
  (J.stop i H ∧ Q (.ref D) H) ∨ (J.go i H ∧ ∃ Nx : Hp → Prop, (∀ H', Nx H' → ∃ m', m' < m ∧ W (i + 1) m' H') ∧ ∀ x H', J.yld i H x H' → g x (wipe σ vs) H' fun σ2 H2 => wipe σ2 vs = wipe σ vs ∧ tc σ2 H2 fun b H3 =>
    if b = true then te σ2 H3 fun y H4 => ∃ acc, H4 D = some (.lst acc) ∧ acc.length < sizeLine ∧ Nx (upd H4 D (.lst (acc ++ [y]))) else Nx H3)
/-- a walk over frozen things: its turns give the items of zs -/
def TWk (J : It) (F : Hp) (b : Rep β) (zs : List β) : Prop := ∃ G Y, Walk J zs.length G Y ∧ (∀ F' H', Ex F F' → Ex F' H' → G H') ∧
  ∀ i H x H' F', i < zs.length → Ex F F' → Ex F' H → Y i H x H' → ∃ z F1, zs[i]? = some z ∧ Wf F' H F1 H' ∧ b.r F1 x z
theorem f_J {wi : TI} (h : wi σ H (kFor g tu D σ)) : tFor wi g tu D σ H := h
theorem c_J {wi : TI} {vs : List Nat} (h : wi σ H (kCp g tc te vs σ Q)) : tLc wi g tc te vs σ H Q := h
theorem w_forG {s0 : S} {k : S → Prop} {body : β → S → (S → Prop) → (S → Prop) → Prop} (T : TWk J F b zs) (Inv : S → L2.St → Hp → Hp → Prop) (hW : forW zs s0 body k) (h0 : Inv s0 σ F H)
    (ex : ∀ s σ' F' H', Inv s σ' F' H' → Ex F F' ∧ Ex F' H') (f : Ex F H)
    (turn : ∀ (N Bk : L2.St → Hp → Prop) x u s σ' F' H' F1 H1 (nx bk : S → Prop), Inv s σ' F' H' → x ∈ zs → Wf F' H' F1 H1 → b.r F1 u x → body x s nx bk → (∀ s' σ2 F2 H2, Inv s' σ2 F2 H2 → nx s' → N σ2 H2) → (∀ s' σ2 F2 H2, Inv s' σ2 F2 H2 → bk s' → Bk σ2 H2) →
      g u σ' H1 fun σ2 H2 => tu { D with nx := N, ct := N, bk := Bk } σ2 H2)
    (done : ∀ s σ' F' H', Inv s σ' F' H' → k s → D.nx σ' H') : kFor g tu D σ J H := by
  obtain ⟨G, Y, wk, hG, hY⟩ := T
  refine for_it wk (fun i σ' H' => ∃ s F', Inv s σ' F' H' ∧ forW (zs.drop i) s body k) ⟨s0, F, h0, hW⟩ (fun i σ' H' _ ⟨s, F', hI, _⟩ => hG F' H' (ex _ _ _ _ hI).1 (ex _ _ _ _ hI).2) ?_ ?_
  · rintro i u σ' H' H1 hi ⟨s, F', hI, hw⟩ hy
    obtain ⟨x, F1, hx, q, rx⟩ := hY i H' u H1 F' hi (ex _ _ _ _ hI).1 (ex _ _ _ _ hI).2 hy
    have e : zs.drop i = x :: zs.drop (i + 1) := by
      obtain ⟨h1, h2⟩ := List.getElem?_eq_some_iff.mp hx
      rw [← h2]; exact List.drop_eq_getElem_cons h1
    rw [e] at hw
    exact turn _ _ x u s σ' F' H' F1 H1 _ _ hI (List.mem_of_getElem? hx) q rx hw (fun s' σ2 F2 H2 q n => ⟨s', F2, q, n⟩) (fun s' σ2 F2 H2 q n => done s' σ2 F2 H2 q n)
  · rintro σ' H' ⟨s, F', hI, hw⟩
    rw [List.drop_of_length_le (Nat.le_refl _)] at hw
    exact done _ _ _ _ hI hw
theorem w_compG {vs : List Nat} {bd : β → (Option α → Prop) → Prop} {kk : List α → Prop} (T : TWk J F b zs) (w : Wf F0 H0 F H) (hn : zs.length < 1000000) (hW : compW zs bd kk)
    (turn : ∀ (Qy : V → Hp → Prop) (Qn : Hp → Prop) x u F1 H1 (R : Option α → Prop), Wf F H F1 H1 → x ∈ zs → b.r F1 u x → bd x R → (∀ y z F2 H2, Wf F1 H1 F2 H2 → e.r F2 y z → R (some z) → Qy y H2) → (∀ F2 H2, Wf F1 H1 F2 H2 → R none → Qn H2) →
      g u (wipe σ vs) H1 fun σ2 H2 => wipe σ2 vs = wipe σ vs ∧ tc σ2 H2 fun b H3 => if b = true then te σ2 H3 Qy else Qn H3)
    (done : ∀ p ys F' H', H p = none → Wf F H F' H' → XL e H0 F' H' p ys → kk ys → Q (.ref p) H') : kCp g tc te vs σ Q J H := by
  obtain ⟨G, Y, wk, hG, hY⟩ := T
  intro D hD
  refine lc_it wk (fun i H' => ∃ F' ac ys, Wf F H F' H' ∧ Xc H F' H' D (.lst ac) ∧ All e F' ac ys ∧ ys.length ≤ i ∧ compG (zs.drop i) ys bd kk)
    ⟨F, [], [], Wf.newX w.f hD, Xc.mk' (Wf.id w.f) hD, trivial, Nat.le_refl _, hW⟩ (fun i H' _ ⟨F', ac, ys, q, _⟩ => hG F' H' q.g q.f) ?_ ?_
  · rintro i u H' H1 hi ⟨F', ac, ys, q, xc, al, hl, hw⟩ hy
    obtain ⟨x, F1, hx, q1, rx⟩ := hY i H' u H1 F' hi q.g q.f hy
    have e' : zs.drop i = x :: zs.drop (i + 1) := by
      obtain ⟨h1, h2⟩ := List.getElem?_eq_some_iff.mp hx
      rw [← h2]; exact List.drop_eq_getElem_cons h1
    rw [e'] at hw
    have xc1 := xc.step q1
    have al1 := al.mono q1.g
    refine turn _ _ x u F1 H1 _ (q.tr q1) (List.mem_of_getElem? hx) rx hw (fun y z F2 H2 s ry hR => ?_) (fun F2 H2 s hR => ?_)
    · have xc2 := xc1.step s
      exact ⟨ac, xc2.h, by rw [al.len]; exact small_len (by omega), F2, ac ++ [y], ys ++ [z], ((q.tr q1).tr s).set xc2, xc2.set, (al1.mono s.g).snoc ry, by rw [List.length_append]; exact Nat.succ_le_succ hl, hR⟩
    · exact ⟨F2, ac, ys, (q.tr q1).tr s, xc1.step s, al1.mono s.g, Nat.le_succ_of_le hl, by simpa using hR⟩
  · rintro H' ⟨F', ac, ys, q, xc, al, hl, hw⟩
    rw [List.drop_of_length_le (Nat.le_refl _)] at hw
    exact done D ys F' H' hD q ⟨ac, ⟨w.h.non hD, xc.n, xc.h⟩, al⟩ hw
theorem TWk.pairs {γ δ : Type} {c : Rep γ} {d : Rep δ} {G : Hp → Prop} {X Y : Nat → Option V} {us : List (γ × δ)} (wk : Walk J us.length G (YPair X Y)) (hG : ∀ F' H', Ex F F' → Ex F' H' → G H')
    (hx : ∀ i F' x, Ex F F' → i < us.length → X i = some x → ∃ z, (us[i]?.map Prod.fst) = some z ∧ c.r F' x z) (hy : ∀ i F' x, Ex F F' → i < us.length → Y i = some x → ∃ z, (us[i]?.map Prod.snd) = some z ∧ d.r F' x z) : TWk J F (pT2 c d) us := by
  refine ⟨G, _, wk, hG, fun i H v H' F' hi f g hy' => ?_⟩
  obtain ⟨T, x, y, rfl, hT, rfl, h1, h2⟩ := hy'
  obtain ⟨z1, e1, r1⟩ := hx i F' x f hi h1
  obtain ⟨z2, e2, r2⟩ := hy i F' y f hi h2
  have e : us[i]? = some (z1, z2) := by
    cases q : us[i]? with
    | none => rw [q] at e1; cases e1
    | some t =>
      rw [q] at e1 e2
      have a : t.1 = z1 := Option.some.inj e1
      have b : t.2 = z2 := Option.some.inj e2
      rw [← a, ← b]
  exact ⟨(z1, z2), _, e, Wf.new g hT, ⟨T, x, y, rfl, upd_same, c.mono (Ex.new (g.non hT)) r1, d.mono (Ex.new (g.non hT)) r2⟩⟩
def enumT (xs : List α) : List (Nat × α) := (List.range xs.length).zip xs
theorem enumT_len (xs : List α) : (enumT xs).length = xs.length := by unfold enumT; rw [List.length_zip, List.length_range]; exact Nat.min_self _
theorem enumT_get (xs : List α) (i : Nat) : (enumT xs)[i]? = xs[i]?.map fun x => (i, x) := by
  show ((List.range xs.length).zip xs)[i]? = _
  by_cases h : i < xs.length
  · have h2 : i < ((List.range xs.length).zip xs).length := by rw [List.length_zip, List.length_range]; omega
    rw [List.getElem?_eq_getElem h2, List.getElem?_eq_getElem h, List.getElem_zip, List.getElem_range]; rfl
  · rw [List.getElem?_eq_none (by rw [List.length_zip, List.length_range]; omega), List.getElem?_eq_none (by omega)]; rfl
/-- enumerate(xs) -/
theorem src_enum {R : It → Hp → Prop} (r : (pL e).r F v xs) (f : Ex F H) (k : ∀ a, TWk (Ite K a) F (pT2 pN e) (enumT xs) → R (Ite K a) H) : ∃ a ws, [v] = [V.ref a] ∧ SqL K H a ws ∧ R (Ite K a) H := by
  obtain ⟨p, vs, rfl, hp, a⟩ := r
  refine ⟨p, vs, rfl, SqL.of (f _ _ hp), k p ?_⟩
  refine TWk.pairs (G := fun H => SqL K H p vs) (X := fun i => some (.int (i : Nat))) (Y := fun i => vs[i]?) (by rw [enumT_len, ← a.len]; exact walk_enum) (fun F' H' h1 h2 => SqL.of (h2 _ _ (h1 _ _ hp))) ?_ ?_
  · intro i F' x _ hi hx
    rw [enumT_len] at hi
    rw [enumT_get, List.getElem?_eq_getElem hi]
    exact ⟨i, rfl, (Option.some.inj hx).symm⟩
  · intro i F' x h1 hi hx
    obtain ⟨z, hz, rz⟩ := a.got hx
    rw [enumT_get, hz]
    exact ⟨z, rfl, e.mono h1 rz⟩
theorem lk_ne {k g : Str} {v : V} {r : List (Str × V)} (h : (k == g) = false) : List.lookup k ((g, v) :: r) = List.lookup k r := by simp only [List.lookup, h]
theorem lk_eq {k : Str} {v : V} {r : List (Str × V)} : List.lookup k ((k, v) :: r) = some v := by
  have e : (k == k) = true := beq_self_eq_true k
  simp only [List.lookup, e]
/-- an instance of C that stays as it is: its fields, all told by Fs -/
def pOb (C : Addr) (Fs : Hp → List (Str × V) → α → Prop) (mono : ∀ {F F' : Hp} {fs : List (Str × V)} {x : α}, Ex F F' → Fs F fs x → Fs F' fs x) : Rep α :=
  ⟨fun F v x => ∃ p dx fs, v = .ref p ∧ F p = some (.ins C dx fs) ∧ Fs F fs x, fun h ⟨p, dx, fs, a, b, c⟩ => ⟨p, dx, fs, a, h _ _ b, mono h c⟩⟩
def F1s {α : Type} (n : Str) (e : Rep α) (F : Hp) (fs : List (Str × V)) (x : α) : Prop := ∃ u, fs = [(n, u)] ∧ e.r F u x
def F2s {α β : Type} (n m : Str) (e : Rep α) (f : Rep β) (F : Hp) (fs : List (Str × V)) (x : α × β) : Prop := ∃ u w, fs = [(n, u), (m, w)] ∧ e.r F u x.1 ∧ f.r F w x.2
def F3s {α β γ : Type} (n m l : Str) (e : Rep α) (f : Rep β) (g : Rep γ) (F : Hp) (fs : List (Str × V)) (x : α × β × γ) : Prop := ∃ u w y, fs = [(n, u), (m, w), (l, y)] ∧ e.r F u x.1 ∧ f.r F w x.2.1 ∧ g.r F y x.2.2
theorem F1s.mono {α : Type} {n : Str} {e : Rep α} {F F' : Hp} {fs : List (Str × V)} {x : α} (h : Ex F F') : F1s n e F fs x → F1s n e F' fs x := fun ⟨u, a, b⟩ => ⟨u, a, e.mono h b⟩
theorem F2s.mono {α β : Type} {n m : Str} {e : Rep α} {f : Rep β} {F F' : Hp} {fs : List (Str × V)} {x : α × β} (h : Ex F F') : F2s n m e f F fs x → F2s n m e f F' fs x := fun ⟨u, w, a, b, c⟩ => ⟨u, w, a, e.mono h b, f.mono h c⟩
theorem F3s.mono {α β γ : Type} {n m l : Str} {e : Rep α} {f : Rep β} {g : Rep γ} {F F' : Hp} {fs : List (Str × V)} {x : α × β × γ} (h : Ex F F') : F3s n m l e f g F fs x → F3s n m l e f g F' fs x := fun ⟨u, w, y, a, b, c, d⟩ => ⟨u, w, y, a, e.mono h b, f.mono h c, g.mono h d⟩
def pO2 {α β : Type} (C : Addr) (n m : Str) (e : Rep α) (f : Rep β) : Rep (α × β) := pOb C (F2s n m e f) F2s.mono
def pO3 {α β γ : Type} (C : Addr) (n m l : Str) (e : Rep α) (f : Rep β) (g : Rep γ) : Rep (α × β × γ) := pOb C (F3s n m l e f g) F3s.mono
section
variable {γ : Type} {C : Addr} {a b c : Str} {f : Rep β} {g' : Rep γ} {s : α} {t : α × β} {z : α × β × γ}
theorem fl_31 (cl : Cls K C) (na : NoAttr K C a) (r : (pO3 C a b c e f g').r F v z) (h : Ex F H) : ∃ w, e.r F w z.1 ∧ ∀ ⦃σ ta⦄, Val ta σ H v → Val (tFld K ta a) σ H w := by
  obtain ⟨p, dx, fs, rfl, hp, u, w, y, rfl, r1, r2, r3⟩ := r
  exact ⟨u, r1, fun _ _ ha Q k => ha _ ⟨p, C, dx, _, u, rfl, h _ _ hp, cl, na, lk_eq, k⟩⟩
theorem fl_32 (cl : Cls K C) (na : NoAttr K C b) (r : (pO3 C a b c e f g').r F v z) (h : Ex F H) (h1 : (b == a) = false := by decide +kernel) : ∃ w, f.r F w z.2.1 ∧ ∀ ⦃σ ta⦄, Val ta σ H v → Val (tFld K ta b) σ H w := by
  obtain ⟨p, dx, fs, rfl, hp, u, w, y, rfl, r1, r2, r3⟩ := r
  exact ⟨w, r2, fun _ _ ha Q k => ha _ ⟨p, C, dx, _, w, rfl, h _ _ hp, cl, na, (lk_ne h1).trans lk_eq, k⟩⟩
theorem fl_33 (cl : Cls K C) (na : NoAttr K C c) (r : (pO3 C a b c e f g').r F v z) (h : Ex F H) (h1 : (c == a) = false := by decide +kernel) (h2 : (c == b) = false := by decide +kernel) : ∃ w, g'.r F w z.2.2 ∧ ∀ ⦃σ ta⦄, Val ta σ H v → Val (tFld K ta c) σ H w := by
  obtain ⟨p, dx, fs, rfl, hp, u, w, y, rfl, r1, r2, r3⟩ := r
  exact ⟨y, r3, fun _ _ ha Q k => ha _ ⟨p, C, dx, _, y, rfl, h _ _ hp, cl, na, (lk_ne h1).trans ((lk_ne h2).trans lk_eq), k⟩⟩
theorem me_3 {m : Str} (r : (pO3 C a b c e f g').r F v z) (h : Ex F H) (h1 : (m == a) = false := by decide +kernel) (h2 : (m == b) = false := by decide +kernel) (h3 : (m == c) = false := by decide +kernel) : ∃ p dx fs, v = .ref p ∧ H p = some (.ins C dx fs) ∧ fs.lookup m = none := by
  obtain ⟨p, dx, fs, rfl, hp, u, w, y, rfl, _⟩ := r
  exact ⟨p, dx, _, rfl, h _ _ hp, (lk_ne h1).trans ((lk_ne h2).trans ((lk_ne h3).trans rfl))⟩
end
/-- the heap without p -/
def wo (H : Hp) (p : Addr) : Hp := fun a => if a = p then none else H a
theorem wo_same {H : Hp} {p : Addr} : wo H p p = none := if_pos rfl
theorem wo_ne {H : Hp} {p q : Addr} (h : q ≠ p) : wo H p q = H q := if_neg h
theorem Wf.start (f : Ex F H) (n : F p = none) : Wf F (wo H p) F H := ⟨fun a o h => by
    by_cases q : a = p
    · subst q; rw [wo_same] at h; cases h
    · rw [wo_ne q] at h; exact h, f, Ex.rfl', fun a o h h0 => by rw [h] at h0; cases h0⟩
theorem Xc.start (n : F p = none) (h : H p = some o) : Xc (wo H p) F H p o := ⟨wo_same, n, h⟩
/-- behind the making of x -/
theorem Wf.made {x dx : Addr} {o u : HO} (nx : H x = none) (nd : H dx = none) (w : Wf F (wo (upd (upd H dx o) x u) x) F' H') : Wf F H F' H' := by
  have e : Ex H (wo (upd (upd H dx o) x u) x) := fun a v h => by
    have h1 : a ≠ x := ne_of_none h nx
    have h2 : a ≠ dx := ne_of_none h nd
    rw [wo_ne h1, upd_ne h1, upd_ne h2]; exact h
  exact ⟨e.tr w.h, w.f, w.g, fun a o h h0 => e.non (w.n a o h h0)⟩
theorem Ex.made {x dx : Addr} {o u : HO} (f : Ex F H) (nx : H x = none) (nd : H dx = none) : Ex F (upd (upd H dx o) x u) := fun a v h => by
  have h' := f a v h
  rw [upd_ne (ne_of_none h' nx), upd_ne (ne_of_none h' nd)]; exact h'
theorem Xc.frzO {u : HO} (x : Xc H0 F H q u) (h : Fz F F' p) (hq : q ≠ p) (g : Ex F F') : Xc H0 F' H q u := ⟨x.z, h _ hq x.n, x.h⟩
/-- self.f = v -/
theorem a_fld {C dx : Addr} {fs : List (Str × V)} {a : Str} (cl : Cls K C) (na : NoAttr K C a) (x : Xc H0 F H p (.ins C dx fs)) (w : Wf F0 H0 F H) (hl : fs.length < 1000) (ho : Val to σ H (.ref p))
    (k : ∀ H', Wf F0 H0 F H' → Xc H0 F H' p (.ins C dx (putF a v fs)) → (∀ q o, H q = some o → q ≠ p → H' q = some o) → D.nx σ H') :
    (fun y H1 => to σ H1 fun x H2 => ∃ a' C' dx' fs', x = .ref a' ∧ H2 a' = some (.ins C' dx' fs') ∧ Cls K C' ∧ NoAttr K C' a ∧ fs'.length < 1000 ∧ D.nx σ (upd H2 a' (.ins C' dx' (putF a y fs')))) v H :=
  ho _ ⟨p, C, dx, fs, rfl, x.h, cl, na, hl, k _ (w.set x) x.set fun q o h hq => by rw [upd_ne hq]; exact h⟩
theorem e_fld {tv : TE} {a : Str} (h : tv σ H fun y H1 => to σ H1 fun x H2 => ∃ a' C' dx' fs', x = .ref a' ∧ H2 a' = some (.ins C' dx' fs') ∧ Cls K C' ∧ NoAttr K C' a ∧ fs'.length < 1000 ∧ D.nx σ (upd H2 a' (.ins C' dx' (putF a y fs')))) : sFld K to tv a D σ H := h
/-- it is made: it changes no more -/
theorem Xc.frzE {o : HO} (x : Xc H0 F H p o) (w : Wf F0 H0 F H) : ∃ F', Wf F0 H0 F' H ∧ Ex F F' ∧ F' p = some o := ⟨_, w.freeze x, Ex.new x.n, upd_same⟩
structure BL {α : Type} (e : Rep α) (F H : Hp) (p : Addr) (xs : List α) : Prop where
  x : ∃ vs, H p = some (.lst vs) ∧ All e F vs xs
structure BD {κ α : Type} [KeyT κ] (e : Rep α) (F H : Hp) (p : Addr) (m : List (κ × α)) : Prop where
  x : ∃ kvs, H p = some (.dK kvs) ∧ DA e F kvs m
theorem BL.step (x : BL e F H p xs) (w : Wf F H F' H') : BL e F' H' p xs := let ⟨vs, a, b⟩ := x.x; ⟨vs, w.h _ _ a, b.mono w.g⟩
theorem BL.ne (x : BL e F H p xs) (h : H q = none) : p ≠ q := let ⟨_, a, _⟩ := x.x; ne_of_none a h
theorem BL.frzO {X : Prop} (x : BL e F H q xs) (h : X) (hq : q ≠ p) (g : Ex F F') : BL e F' H q xs := let ⟨vs, a, b⟩ := x.x; ⟨vs, a, b.mono g⟩
theorem BL.kept (x : BL e F H q xs) (h : ∀ q o, H q = some o → q ≠ p → H' q = some o) (hq : q ≠ p) : BL e F H' q xs := let ⟨vs, a, b⟩ := x.x; ⟨vs, h _ _ a hq, b⟩
end
section
variable {κ α : Type} [DecidableEq κ] [KeyT κ] {e : Rep α} {K : PySem.W.Frag} {σ : L2.St} {F0 H0 F F' H H' : Hp} {te td ty tx tv : TE} {Q : VK} {v w y z : V} {m : List (κ × α)} {p q : Addr} {j : κ} {x : α} {D : Ends}
omit [DecidableEq κ] in
theorem BD.step (x : BD e F H p m) (w : Wf F H F' H') : BD e F' H' p m := let ⟨vs, a, b⟩ := x.x; ⟨vs, w.h _ _ a, b.mono w.g⟩
omit [DecidableEq κ] in
theorem BD.ne (x : BD e F H p m) (h : H q = none) : p ≠ q := let ⟨_, a, _⟩ := x.x; ne_of_none a h
omit [DecidableEq κ] in
theorem BD.frzO {X : Prop} (x : BD e F H q m) (h : X) (hq : q ≠ p) (g : Ex F F') : BD e F' H q m := let ⟨vs, a, b⟩ := x.x; ⟨vs, a, b.mono g⟩
omit [DecidableEq κ] in
theorem BD.kept (x : BD e F H q m) (h : ∀ q o, H q = some o → q ≠ p → H' q = some o) (hq : q ≠ p) : BD e F H' q m := let ⟨vs, a, b⟩ := x.x; ⟨vs, h _ _ a hq, b⟩
end
/-- a method that may be called -/
structure Md (P : Program) (w : World) (K : PySem.W.Frag) (mg : Str → Option Value) (base : Heap) (CX : CXT) (k : Nat) (C : Addr) (m : Str) (ps : List Str) (sp : Sp) : Prop where
  ex : ∃ f fd, FnOk P w K mg base CX k f fd ps sp ∧ Meth K C m f ∧ Binds K fd ps []
/-- a class that makes -/
structure Nw (P : Program) (w : World) (K : PySem.W.Frag) (mg : Str → Option Value) (base : Heap) (CX : CXT) (k : Nat) (C : Addr) (x : Str) (ps : List Str) (sp : Sp) : Prop where
  ex : ∃ f fd, FnOk P w K mg base CX k f fd ps sp ∧ Mk K C f ∧ mg x = some (.ref C) ∧ Binds K fd ps []
section
variable {X : Cx} {k : Nat} {C : Addr} {x m : Str} {ps : List Str} {sp : Sp} {o e : Expr} {es : List Expr} {p pos apos : Pos} {ta : TE} {t : TA} {pl : Sem Bool}
theorem pe_md0 (M : Md X.prog X.w X.K X.mg X.base CX0 k C m ps sp) (cl : Cls X.K C) (hr : Room k X.A) (he : PE X o ta)
    (ht : eval (.Call (.Attribute o m apos) [] [] pos) X.env = (do
      let ov ← eval o X.env
      standAt apos.atName
      let (f, first) ← holding [ov] (getMethod ov m pl)
      callWith pos f first (backTo pos (starEach [] X.env)) (backToKw pos (keywordEach [] X.env))) := by rfl) :
    PE X (.Call (.Attribute o m apos) [] [] pos) (tMeth C m sp [] E0 ta tNil) := by
  obtain ⟨f, fd, F, hm, hb⟩ := M.ex
  exact pe_meth0 he cl hm F hr hb .nil pass0 ht
theorem pe_nw (M : Nw X.prog X.w X.K X.mg X.base CX0 k C x ps sp) (hr : Room (k + 1) X.A) (hg : Gl X x) (ha : PA X (e :: es) t) (hdb : (x == ("__debug__" : Str)) = false := by decide)
    (he : starEach (e :: es) X.env = (false, eval e X.env) :: starEach es X.env := by rfl) (hpl : (backTo pos (starEach es X.env)).any (·.1) = false := by rfl) : PE X (.Call (.Name x p) (e :: es) [] pos) (tMake C sp [] E0 t) := by
  obtain ⟨f, fd, F, hk, hm, hb⟩ := M.ex
  exact pe_make hk F hr hg hm hb .nil pass0 ha hdb he hpl
end
section
variable {σ : L2.St} {H : Hp} {C : Addr} {m : Str} {sp : Sp} {E : XK} {ta : TE} {t : TA} {Q : VK} {v : V} {p dx : Addr} {fs : List (Str × V)} {vs : List V}
theorem e_md (h : ta σ H fun x H1 => ∃ a dx fs, x = .ref a ∧ H1 a = some (.ins C dx fs) ∧ fs.lookup m = none ∧ t σ H1 fun vs H2 => sp (x :: vs) H2 Q E) : tMeth C m sp [] E ta t σ H Q := by
  show ta σ H fun x H1 => ∃ a dx fs, x = .ref a ∧ H1 a = some (.ins C dx fs) ∧ fs.lookup m = none ∧ t σ H1 fun vs H2 => sp (x :: (vs ++ [])) H2 Q E
  simpa only [List.append_nil] using h
theorem e_nw (h : t σ H fun vs H1 => ∀ x dx, H1 x = none → H1 dx = none → dx ≠ x → sp (.ref x :: vs) (upd (upd H1 dx (.own x)) x (.ins C dx [])) (fun v H2 => v = .non ∧ Q (.ref x) H2) E) : tMake C sp [] E t σ H Q := by
  show t σ H fun vs H1 => ∀ x dx, H1 x = none → H1 dx = none → dx ≠ x → sp (.ref x :: (vs ++ [])) (upd (upd H1 dx (.own x)) x (.ins C dx [])) (fun v H2 => v = .non ∧ Q (.ref x) H2) E
  simpa only [List.append_nil] using h
end
/-- an object of which only the fields are read -/
structure BO (C : Addr) (F H : Hp) (p dx : Addr) (fs : List (Str × V)) : Prop where
  h : H p = some (.ins C dx fs)
section
variable {α β γ : Type} {K : PySem.W.Frag} {σ : L2.St} {C p q dx : Addr} {fs : List (Str × V)} {H0 F F' H H' : Hp} {to ta : TE} {Q : VK} {a b c m : Str} {u v : V} {o : HO}
theorem BO.step (x : BO C F H p dx fs) (w : Wf F H F' H') : BO C F' H' p dx fs := ⟨w.h _ _ x.h⟩
theorem BO.ne (x : BO C F H p dx fs) (h : H q = none) : p ≠ q := ne_of_none x.h h
theorem BO.frzO {X : Prop} (x : BO C F H q dx fs) (h : X) (hq : q ≠ p) (g : Ex F F') : BO C F' H q dx fs := ⟨x.h⟩
theorem BO.kept (x : BO C F H q dx fs) (h : ∀ q o, H q = some o → q ≠ p → H' q = some o) (hq : q ≠ p) : BO C F H' q dx fs := ⟨h _ _ x.h hq⟩
theorem put_ne {f g : Str} {v x : V} {r : List (Str × V)} (h : ¬ g = f) : putF f v ((g, x) :: r) = (g, x) :: putF f v r := if_neg h
theorem Xc.cast {fs' : List (Str × V)} (x : Xc H0 F H p (.ins C dx fs)) (e : fs = fs') : Xc H0 F H p (.ins C dx fs') := e ▸ x
end
theorem m_list0 {α : Type} {e : Rep α} {K : PySem.W.Frag} {σ : L2.St} {H0 F H : Hp} {p : Addr} {xs : List α} {to : TE} {Q : VK} {r : V → List V → Hp → VK → Prop} (z : XL e H0 F H p xs) (ho : Val to σ H (.ref p)) (k : r (.ref p) [] H Q) : tBM0 K "list" r to σ H Q := ho _ ⟨let ⟨_, a, _⟩ := z.x; Or.inl ⟨rfl, _, Or.inl (Or.inl a.h)⟩, k⟩
end Wk
namespace Wk
open PySem L2
end Wk
namespace Wk
open PySem L2
/-- one of two kinds -/
def pAlt {α β : Type} (e : Rep α) (f : Rep β) : Rep (Sum α β) := ⟨fun F v x => match x with | .inl a => e.r F v a | .inr b => f.r F v b, fun {_ _ _ x} h q => by cases x with | inl a => exact e.mono h q | inr b => exact f.mono h q⟩
end Wk
namespace Wk
open PySem PySem.Spec PyProof.Rows L2
end Wk
namespace Wk
open PySem L2
/-- raise, in short -/
def tRaise (W : WX) (C : Addr) : TS := fun _ σ H => W (.ref C) none σ H
/-- what the walk asks of an exception's class -/
structure XC (K : PySem.W.Frag) (mg : Str → Option Value) (n : Str) (C : Addr) : Prop where
  x : PySem.W.excIn K C [.type "ValueError", .type "Exception", .type "BaseException", .type "object"] "ValueError.__new__" = true
  g : mg n = some (.ref C)
  k : PySem.W.keepIn K (.ref C) = true
  b : PySem.W.subIn K (.ref C) (.type "BaseException") = some true
  t : PySem.W.typeIn K (.ref C) = some (.type "type")
theorem exm_of {K : PySem.W.Frag} {S T : Addr} {b : Bool} (h1 : PySem.W.subIn K (.ref T) (.type "BaseException") = some true) (h2 : PySem.W.isClsIn K T = true) (h3 : PySem.W.typeIn K (.ref T) = some (.type "type")) (h4 : PySem.W.subIn K (.ref S) (.ref T) = some b) :
    PySem.W.exmOne K (.ref S) (.ref T) = some b := by
  have e1 : (PySem.W.subIn K (.ref T) (.type "BaseException") == some true) = true := by rw [h1]; rfl
  have e2 : ((PySem.W.clsIn K T).isSome && PySem.W.typeIn K (.ref T) == some (.type "type")) = true := by
    have h2' : (PySem.W.clsIn K T).isSome = true := h2
    rw [h2', h3]; rfl
  show (if (PySem.W.subIn K (.ref T) (.type "BaseException") == some true) = true then (if ((PySem.W.clsIn K T).isSome && PySem.W.typeIn K (.ref T) == some (.type "type")) = true then PySem.W.subIn K (.ref S) (.ref T) else none) else none) = some b
  rw [if_pos e1, if_pos e2]; exact h4
theorem a_raise {W : WX} {C : Addr} {D : Ends} {σ : L2.St} {H : Hp} (h : W (.ref C) none σ H) : tRaise W C D σ H := h
end Wk
namespace Wk
open PySem L2
/-- a thing: a whole number, a truth, None, a text, or another one of a kind that is told -/
inductive An where
  | i (n : Int)
  | b (b : Bool)
  | n
  | s (x : Str)
  | o (T : String)
  | l (xs : List An)
  | t (xs : List An)
mutual
def anR (F : Hp) : An → V → Prop
  | .i n, v => v = .int n
  | .b b, v => v = .bl b
  | .n, v => v = .non
  | .s x, v => v = .str x
  | .o T, v => ∃ p, v = .ref p ∧ ((T = "list" ∧ ∃ vs, F p = some (.lst vs)) ∨ (T = "tuple" ∧ ∃ vs, F p = some (.tup vs)) ∨ (T = "dict" ∧ ∃ kvs, F p = some (.dK kvs)))
  | .l xs, v => ∃ p vs, v = .ref p ∧ F p = some (.lst vs) ∧ anRs F xs vs
  | .t xs, v => ∃ p vs, v = .ref p ∧ F p = some (.tup vs) ∧ anRs F xs vs
def anRs (F : Hp) : List An → List V → Prop
  | [], [] => True
  | x :: xs, v :: vs => anR F x v ∧ anRs F xs vs
  | _, _ => False
end
mutual
theorem anR_mono {F F' : Hp} (h : Ex F F') : ∀ {x : An} {v : V}, anR F x v → anR F' x v
  | .i _, _, r => r
  | .b _, _, r => r
  | .n, _, r => r
  | .s _, _, r => r
  | .o T, v, r => by
    obtain ⟨p, e, q⟩ := (show ∃ p, v = .ref p ∧ _ from r)
    refine ⟨p, e, ?_⟩
    rcases q with ⟨t, vs, q⟩ | ⟨t, vs, q⟩ | ⟨t, vs, q⟩
    · exact .inl ⟨t, vs, h _ _ q⟩
    · exact .inr (.inl ⟨t, vs, h _ _ q⟩)
    · exact .inr (.inr ⟨t, vs, h _ _ q⟩)
  | .l _, _, ⟨p, vs, a, b, c⟩ => ⟨p, vs, a, h _ _ b, anRs_mono h c⟩
  | .t _, _, ⟨p, vs, a, b, c⟩ => ⟨p, vs, a, h _ _ b, anRs_mono h c⟩
theorem anRs_mono {F F' : Hp} (h : Ex F F') : ∀ {xs : List An} {vs : List V}, anRs F xs vs → anRs F' xs vs
  | [], [], _ => trivial
  | _ :: _, _ :: _, ⟨a, b⟩ => ⟨anR_mono h a, anRs_mono h b⟩
  | [], _ :: _, r => r.elim
  | _ :: _, [], r => r.elim
end
def pA : Rep An := ⟨fun F v x => anR F x v, fun h r => anR_mono h r⟩
theorem anRs_all {F : Hp} : ∀ {xs : List An} {vs : List V}, anRs F xs vs ↔ All pA F vs xs
  | [], [] => Iff.rfl
  | x :: xs, v :: vs => ⟨fun ⟨a, b⟩ => ⟨a, anRs_all.mp b⟩, fun ⟨a, b⟩ => ⟨a, anRs_all.mpr b⟩⟩
  | [], _ :: _ => ⟨fun q => q.elim, fun q => q.elim⟩
  | _ :: _, [] => ⟨fun q => q.elim, fun q => q.elim⟩
theorem an_l {F : Hp} {v : V} {xs : List An} : pA.r F v (.l xs) ↔ (pL pA).r F v xs :=
  ⟨fun r => let ⟨p, vs, a, b, c⟩ := (show ∃ p vs, v = .ref p ∧ F p = some (.lst vs) ∧ anRs F xs vs from r); ⟨p, vs, a, b, anRs_all.mp c⟩, fun ⟨p, vs, a, b, c⟩ => (show ∃ p vs, v = .ref p ∧ F p = some (.lst vs) ∧ anRs F xs vs from ⟨p, vs, a, b, anRs_all.mpr c⟩)⟩
theorem an_t {F : Hp} {v : V} {xs : List An} : pA.r F v (.t xs) ↔ (pTL pA).r F v xs :=
  ⟨fun r => let ⟨p, vs, a, b, c⟩ := (show ∃ p vs, v = .ref p ∧ F p = some (.tup vs) ∧ anRs F xs vs from r); ⟨p, vs, a, b, anRs_all.mp c⟩, fun ⟨p, vs, a, b, c⟩ => (show ∃ p vs, v = .ref p ∧ F p = some (.tup vs) ∧ anRs F xs vs from ⟨p, vs, a, b, anRs_all.mpr c⟩)⟩
/-- readings as things of any kind -/
def Cv {α : Type} (e : Rep α) (f : α → An) : Prop := ∀ {F : Hp} {v : V} {x : α}, e.r F v x → pA.r F v (f x)
theorem cv_nat : Cv pN (fun n => .i (n : Int)) := fun r => r
theorem cv_any : Cv pA (fun x => x) := fun r => r
theorem cv_all {α : Type} {e : Rep α} {f : α → An} (h : Cv e f) {F : Hp} : ∀ {vs : List V} {xs : List α}, All e F vs xs → All pA F vs (xs.map f)
  | [], [], _ => trivial
  | _ :: _, _ :: _, ⟨a, b⟩ => ⟨h a, cv_all h b⟩
  | [], _ :: _, q => q.elim
  | _ :: _, [], q => q.elim
theorem cv_L {α : Type} {e : Rep α} {f : α → An} (h : Cv e f) : Cv (pL e) (fun xs => .l (xs.map f)) := fun ⟨p, vs, a, b, c⟩ => an_l.mpr ⟨p, vs, a, b, cv_all h c⟩
theorem cv_TL {α : Type} {e : Rep α} {f : α → An} (h : Cv e f) : Cv (pTL e) (fun xs => .t (xs.map f)) := fun ⟨p, vs, a, b, c⟩ => an_t.mpr ⟨p, vs, a, b, cv_all h c⟩
theorem cv_T2 {α β : Type} {e : Rep α} {g : Rep β} {f : α → An} {k : β → An} (h : Cv e f) (h2 : Cv g k) : Cv (pT2 e g) (fun x => .t [f x.1, k x.2]) := fun ⟨p, u, w, a, b, c, d⟩ => an_t.mpr ⟨p, _, a, b, h c, h2 d, trivial⟩
theorem cv_T3 {α β γ : Type} {e : Rep α} {g : Rep β} {g2 : Rep γ} {f : α → An} {k : β → An} {k2 : γ → An} (h : Cv e f) (h2 : Cv g k) (h3 : Cv g2 k2) : Cv (pT3 e g g2) (fun x => .t [f x.1, k x.2.1, k2 x.2.2]) := fun ⟨p, u, w, y, a, b, c, d, q⟩ => an_t.mpr ⟨p, _, a, b, h c, h2 d, h3 q, trivial⟩
def An.ty : An → String
  | .i _ => "int"
  | .b _ => "bool"
  | .n => "NoneType"
  | .s _ => "str"
  | .o T => T
  | .l _ => "list"
  | .t _ => "tuple"
/-- isinstance(x, T) for a built-in T -/
def isA (T : String) (x : An) : Bool := x.ty == T || (T == "int" && x.ty == "bool")
section
variable {α β : Type} {e : Rep α} {f : Rep β} {K : PySem.W.Frag} {σ : L2.St} {F F' H : Hp} {ta : TE} {v : V} {x : An} {xs : List α} {y : α × β}
theorem an_ty (r : pA.r F v x) (h : Ex F H) : TyX K H v (.type x.ty) := by
  cases x with
  | i n => cases (show v = V.int n from r); exact .base (.int _)
  | b b => cases (show v = V.bl b from r); exact .base (.bl _)
  | n => cases (show v = V.non from r); exact .base .non
  | s x => cases (show v = V.str x from r); exact .base (.str _)
  | o T =>
    obtain ⟨p, rfl, q⟩ := (show ∃ p, v = .ref p ∧ _ from r)
    rcases q with ⟨rfl, vs, q⟩ | ⟨rfl, vs, q⟩ | ⟨rfl, vs, q⟩
    · exact .base (.lst (h _ _ q))
    · exact .base (.tup (h _ _ q))
    · exact .base (.dK (h _ _ q))
  | l xs =>
    obtain ⟨p, vs, rfl, q, _⟩ := an_l.mp r
    exact .base (.lst (h _ _ q))
  | t xs =>
    obtain ⟨p, vs, rfl, q, _⟩ := an_t.mp r
    exact .base (.tup (h _ _ q))
theorem kit_isA (T : String) (r : pA.r F v x) (hT : ∀ u ∈ ["int", "bool", "NoneType", "str", "list", "tuple", "dict"], kitB u T = some (u == T || (T == "int" && u == "bool"))) : kitB x.ty T = some (isA T x) := by
  unfold isA
  cases x with
  | i n => exact hT "int" (by simp)
  | b b => exact hT "bool" (by simp)
  | n => exact hT "NoneType" (by simp)
  | s x => exact hT "str" (by simp)
  | o T' =>
    obtain ⟨p, _, q⟩ := (show ∃ p, v = .ref p ∧ _ from r)
    rcases q with ⟨e, _⟩ | ⟨e, _⟩ | ⟨e, _⟩ <;> subst e
    · exact hT "list" (by simp)
    · exact hT "tuple" (by simp)
    · exact hT "dict" (by simp)
  | l xs => exact hT "list" (by simp)
  | t xs => exact hT "tuple" (by simp)
theorem v_isiA (T : String) (ha : Val ta σ H v) (r : pA.r F v x) (h : Ex F H) (hT : ∀ u ∈ ["int", "bool", "NoneType", "str", "list", "tuple", "dict"], kitB u T = some (u == T || (T == "int" && u == "bool")) := by decide +kernel) : Val (tCB (rIsi K) (tCons ta (tCons (tC (.ty T)) tNil))) σ H (.bl (isA T x)) :=
  v_isi ha (an_ty r h) (kit_isA T r hT)
theorem an_i {n : Int} (r : pA.r F v x) (h : x = An.i n) : v = .int n := by subst h; exact r
theorem an_toL {ys : List An} (r : pA.r F v x) (h : x = An.l ys) : (pL pA).r F v ys := by subst h; exact an_l.mp r
end
/-- a constant of the module -/
theorem pe_globE {X : Cx} {x : Str} {v : V} {pos : Pos} (h : ∃ u, X.mg x = some u ∧ RelV v u) (hg : Gl X x) (hd : (x == ("__debug__" : Str)) = false := by decide) : PE X (.Name x pos) (tC v) := by
  obtain ⟨u, h1, h2⟩ := h
  exact pe_glob hg h1 h2 hd
end Wk
namespace PySem
open Sem (wp)
open AutoSeq1 (wpAny_loadPart')
end PySem
namespace Wk
open PySem PySem.Spec PyProof.Rows L2
section
variable {α : Type} {e : Rep α} {K : PySem.W.Frag} {F H : Hp} {v : V} {xs : List α}
/-- tuple(a list) -/
def rTupOf (K : PySem.W.Frag) : List V → Hp → VK → Prop := fun xs H Q => ∃ p ys, xs = [.ref p] ∧ ((SqL K H p ys ∧ ∀ l, H l = none → Q (.ref l) (upd H l (.tup ys))) ∨ (SqT K H p ys ∧ Q (.ref p) H))
theorem n_tupOf {F0 H0 : Hp} {Q : VK} (r : (pL e).r F v xs) (w : Wf F0 H0 F H) (k : ∀ p F' H', Wf F H F' H' → (pTL e).r F' (.ref p) xs → Q (.ref p) H') : rTupOf K [v] H Q := by
  obtain ⟨p, vs, rfl, hp, a⟩ := r
  exact ⟨p, vs, rfl, .inl ⟨SqL.of (w.f _ _ hp), fun l hl => k l _ _ (Wf.new w.f hl) ⟨l, vs, rfl, upd_same, a.mono (Ex.new (w.f.non hl))⟩⟩⟩
end
end Wk
namespace Wk
open PySem PySem.Spec PyProof.Rows L2
end Wk
namespace Wk
open PySem L2
end Wk
namespace Wk
open PySem L2
end Wk
namespace Wk
end Wk
namespace Wk.LZ
open PySem PyProof.Rows L2
theorem zip_no_len : typeLookup (.type "zip") "__len__" = pure none := am_miss_of_fast (by decide +kernel)
theorem zip_no_hint : typeLookup (.type "zip") "__length_hint__" = pure none := am_miss_of_fast (by decide +kernel)
/-- the zip's own things at turn i; S: a list that is none of them -/
structure ZS (h : Heap) (z TI TO i1 i2 l1 l2 S : Addr) (i : Nat) (xs ys : Array Value) : Prop where
  ti : IsPair h TI (.ref i1) (.ref i2)
  to : ∃ x y, IsPair h TO x y
  h1 : h.IsListIter i1 l1 i
  h2 : h.IsListIter i2 l2 i
  a1 : h.IsList l1 xs
  a2 : h.IsList l2 ys
  zz : IsZip h z TI TO .none ∨ ∃ T f oT, IsZipHeld h z TI TO T f ∧ h.get? T = some oT ∧ T ≠ S ∧ T ≠ z ∧ T ≠ i1 ∧ T ≠ i2
section
variable {prog : Program} {w : World} {A : Around} {E : Value → Shared → Prop} {s : Shared} {z TI TO i1 i2 l1 l2 S : Addr} {i : Nat} {xs ys : Array Value}
theorem ZS.ty (h : ZS s.heap z TI TO i1 i2 l1 l2 S i xs ys) : s.TypeIs (.ref z) "zip" := by
  rcases h.zz with q | ⟨T, f, oT, q, _⟩
  · exact ⟨_, q, rfl⟩
  · exact ⟨_, q, rfl⟩
theorem ZS.frame {h h' : Heap} (q : ZS h z TI TO i1 i2 l1 l2 S i xs ys) (n : ∀ b ∈ [z, TI, TO, i1, i2, l1, l2], b ≠ S) (k : ∀ b o, b ≠ S → h.get? b = some o → h'.get? b = some o) : ZS h' z TI TO i1 i2 l1 l2 S i xs ys := by
  refine ⟨k _ _ (n _ (by simp)) q.ti, ?_, q.h1.at fun o e => k _ o (n _ (by simp)) e, q.h2.at fun o e => k _ o (n _ (by simp)) e, q.a1.at fun o e => k _ o (n _ (by simp)) e, q.a2.at fun o e => k _ o (n _ (by simp)) e, ?_⟩
  · obtain ⟨x, y, e⟩ := q.to; exact ⟨x, y, k _ _ (n _ (by simp)) e⟩
  · rcases q.zz with e | ⟨T, f, oT, e1, e2, e3⟩
    · exact .inl (k _ _ (n _ (by simp)) e)
    · exact .inr ⟨T, f, oT, k _ _ (n _ (by simp)) e1, k _ _ e3.1 e2, e3⟩
theorem next_item {Q : Option Value → Shared → Prop} {x y : Value} (D : ZipApart z TI TO i1 i2 l1 l2) (q : ZS s.heap z TI TO i1 i2 l1 l2 S i xs ys) (hS : S < s.heap.objs.size) (hx : xs[i]? = some x) (hy : ys[i]? = some y)
    (hQ : ∀ h', ZS h' z TI TO i1 i2 l1 l2 S (i + 1) xs ys → IsPair h' s.heap.objs.size x y → h'.objs.size = s.heap.objs.size + 1 →
      (∀ c o, c ≠ z → c ≠ TO → c ≠ i1 → c ≠ i2 → s.heap.get? c = some o → h'.get? c = some o) → Q (some (.ref s.heap.objs.size)) { s with heap := h' }) :
    wpAny (model prog w) A (pyNext (.ref z)) Q E s := by
  obtain ⟨ti, ⟨x0, y0, to⟩, h1, h2, a1, a2, zz⟩ := q
  rcases zz with e | ⟨T, f, oT, e1, e2, e3⟩
  · refine wpAny_pyNext_zip_item D e ti to h1 h2 a1 a2 hx hy fun h' z' TO' h1' h2' hT hsz hk => ?_
    exact hQ h' ⟨hk _ _ D.TIz D.TITO D.TIi1 D.TIi2 ti, ⟨_, _, TO'⟩, h1', h2', a1.at fun o e => hk _ o D.l1z D.l1TO D.l1i1 D.l1i2 e, a2.at fun o e => hk _ o D.l2z D.l2TO D.l2i1 D.l2i2 e, .inr ⟨_, false, _, z', hT, Nat.ne_of_gt hS, Nat.ne_of_gt (Heap.lt_size e), (by obtain ⟨_, q, _⟩ := h1; exact Nat.ne_of_gt (Heap.lt_size q)), (by obtain ⟨_, q, _⟩ := h2; exact Nat.ne_of_gt (Heap.lt_size q))⟩⟩ hT hsz hk
  · refine wpAny_pyNext_zip_item_held D e1 e2 ti h1 h2 a1 a2 hx hy fun h' z' h1' h2' hT hsz hk => ?_
    exact hQ h' ⟨hk _ _ D.TIz D.TIi1 D.TIi2 ti, ⟨_, _, hk _ _ D.TOz D.TOi1 D.TOi2 to⟩, h1', h2', a1.at fun o e => hk _ o D.l1z D.l1i1 D.l1i2 e, a2.at fun o e => hk _ o D.l2z D.l2i1 D.l2i2 e, .inr ⟨T, true, oT, z', hk _ _ e3.2.1 e3.2.2.1 e3.2.2.2 e2, e3⟩⟩ hT hsz fun c o c1 _ c3 c4 e => hk c o c1 c3 c4 e
theorem next_end {Q : Option Value → Shared → Prop} (hh : A.handled = none) (D : ZipApart z TI TO i1 i2 l1 l2) (q : ZS s.heap z TI TO i1 i2 l1 l2 S i xs ys) (he : xs[i]? = none ∨ ys[i]? = none)
    (hQ : ∀ h', (∀ c o, c ≠ z → c ≠ TO → c ≠ i1 → c ≠ i2 → s.heap.get? c = some o → h'.get? c = some o) → Q none { s with heap := h' }) : wpAny (model prog w) A (pyNext (.ref z)) Q E s := by
  obtain ⟨ti, ⟨x0, y0, to⟩, h1, h2, a1, a2, zz⟩ := q
  rcases zz with e | ⟨T, f, oT, e1, e2, e3⟩
  · exact wpAny_pyNext_zip_end hh D e ti to h1 h2 a1 a2 he fun h' hk => hQ h' fun c o c1 c2 c3 c4 e => hk c o c1 c2 c3 c4 e
  · exact wpAny_pyNext_zip_end_held hh D e1 e2 ti h1 h2 a1 a2 he fun h' hk => hQ h' fun c o c1 _ c3 c4 e => hk c o c1 c3 c4 e
end
/-- one tuple after the other is made -/
def NewT : Hp → List (V × V) → List V → Hp → Prop
  | H, [], ts, H' => ts = [] ∧ H' = H
  | H, (x, y) :: r, ts, H' => ∃ T ts', ts = .ref T :: ts' ∧ H T = none ∧ NewT (upd H T (.tup [x, y])) r ts' H'
theorem lst_get {S : Addr} {h : Heap} {acc : Array Value} {c : Nat} {f : Array Value → Array Value} (e : h.get? S = some { cls := .type "list", dict := none, data := .seq acc c, slots := #[] }) : ∃ c', (h.update S (Obj.mapSeq f)).get? S = some { cls := .type "list", dict := none, data := .seq (f acc) c', slots := #[] } :=
  ⟨_, Heap.get?_update_self (Obj.mapSeq f) e rfl⟩
section
variable {X : Cx} {pins : List (Addr × Obj)} {σ : L2.St} {z TI TO i1 i2 l1 l2 S : Addr} {vx vy : List V} {ix iy : List Value}
theorem loop {R : Result → Shared → Prop} {A : Around} (hh : A.handled = none) (D : ZipApart z TI TO i1 i2 l1 l2) (hS : ∀ b ∈ [z, TI, TO, i1, i2, l1, l2], b ≠ S) (rx : Vals vx ix) (ry : Vals vy iy) (hx : vx.length ≤ sizeLine) (res : Value) :
    ∀ (rest : List (V × V)) (i : Nat) (s : Shared) (H : Hp) (acc : Array Value) (c : Nat) (outs : List V), (vx.zip vy).drop i = rest → i ≤ (vx.zip vy).length → Inv X pins σ H s → (∀ b ∈ [S, z, TO, i1, i2], FpOk X pins H b) → ZS s.heap z TI TO i1 i2 l1 l2 S i ix.toArray iy.toArray →
    s.heap.get? S = some { cls := .type "list", dict := none, data := .seq acc c, slots := #[] } → Vals outs acc.toList → outs.length = i →
    (∀ s' H' acc' c' ts, Inv X pins σ H' s' → (∀ b ∈ [S, z, TO, i1, i2], FpOk X pins H' b) → s'.heap.get? S = some { cls := .type "list", dict := none, data := .seq acc' c', slots := #[] } → NewT H rest ts H' → Vals (outs ++ ts) acc'.toList → R (.ok (.ret res)) s') →
    codeAny (model X.prog X.w) A (.builtin "list.extend.loop" ⟨[.ref S, .ref z, res], []⟩) R s := by
  intro rest
  induction rest with
  | nil =>
    intro i s H acc c outs hd hi I hf q hL r hl hR
    have hin : (vx.zip vy).length ≤ i := List.drop_eq_nil_iff.mp hd
    rw [List.length_zip] at hin
    have he : ix.toArray[i]? = none ∨ iy.toArray[i]? = none := by
      have l1 := rx.length
      have l2 := ry.length
      rcases Nat.le_total vx.length vy.length with h | h
      · rw [Nat.min_eq_left h] at hin; exact .inl (by simp; omega)
      · rw [Nat.min_eq_right h] at hin; exact .inr (by simp; omega)
    refine codeAny_builtin F.entry_extend_loop ?_
    rw [Around.under_plainId F.plain_extend_loop _]
    show wpAny _ A.in1 (pyNext (.ref z) >>= _) _ _ s
    refine wpAny_bind (next_end hh D q he fun h' hk => ?_)
    have I' : Inv X pins σ H { s with heap := h' } := I.turnedL (t' := s.toks) (ch := [S, z, TO, i1, i2]) (fun b o hb e => hk b o (fun q => hb (by simp [q])) (fun q => hb (by simp [q])) (fun q => hb (by simp [q])) (fun q => hb (by simp [q])) e) hf
    exact wpAny_pure (hR _ H acc c [] I' hf (hk S _ (hS _ (by simp)).symm (hS _ (by simp)).symm (hS _ (by simp)).symm (hS _ (by simp)).symm hL) ⟨rfl, rfl⟩ (by rw [List.append_nil]; exact r))
  | cons p rest ih =>
    obtain ⟨x, y⟩ := p
    intro i s H acc c outs hd hi I hf q hL r hl hR
    have hget : (vx.zip vy)[i]? = some (x, y) := by
      have e : ((vx.zip vy).drop i)[0]? = some (x, y) := by rw [hd]; rfl
      rw [List.getElem?_drop] at e; exact e
    have hlt : i < (vx.zip vy).length := (List.getElem?_eq_some_iff.mp hget).1
    obtain ⟨ex, ey⟩ := List.getElem?_zip_eq_some.mp hget
    obtain ⟨u, hu, ru⟩ := rx.get ex
    obtain ⟨u2, hu2, ru2⟩ := ry.get ey
    have hmin : (vx.zip vy).length ≤ vx.length := by rw [List.length_zip]; exact Nat.min_le_left _ _
    have hacc : acc.size = i := by rw [← Array.length_toList, ← r.length]; exact hl
    refine codeAny_builtin F.entry_extend_loop ?_
    rw [Around.under_plainId F.plain_extend_loop _]
    show wpAny _ A.in1 (pyNext (.ref z) >>= _) _ _ s
    have hSl : S < s.heap.objs.size := Heap.lt_size hL
    refine wpAny_bind (next_item D q hSl (x := u) (y := u2) (by simpa using hu) (by simpa using hu2) fun h' q' hT hsz hk => ?_)
    have new : ObjOk X.prog X.w (upd H s.heap.objs.size (.tup [x, y])) h' s.heap.objs.size (.tup [x, y]) :=
      ⟨by show 2 ≤ sizeLine; decide, [u, u2], .cons ru (.cons ru2 .nil), ⟨_, hT, rfl, _, rfl⟩⟩
    have hfr : H s.heap.objs.size = none := I.hok.fresh (Nat.le_refl _)
    have I1 : Inv X pins σ (upd H s.heap.objs.size (.tup [x, y])) { s with heap := h' } :=
      I.turnedNew (t' := s.toks) (ch := [S, z, TO, i1, i2]) (fun b o hb e => hk b o (fun q => hb (by simp [q])) (fun q => hb (by simp [q])) (fun q => hb (by simp [q])) (fun q => hb (by simp [q])) e) hf (Nat.le_refl _) new
    have hlts : ∀ b ∈ [S, z, TO, i1, i2], b < s.heap.objs.size := by
      intro b hb
      have e' : b = S ∨ b = z ∨ b = TO ∨ b = i1 ∨ b = i2 := by simpa using hb
      rcases e' with e | e | e | e | e
      · rw [e]; exact hSl
      · rw [e]; rcases q.zz with e1 | ⟨_, _, _, e1, _⟩
        · exact Heap.lt_size e1
        · exact Heap.lt_size e1
      · rw [e]; obtain ⟨_, _, e1⟩ := q.to; exact Heap.lt_size e1
      · rw [e]; obtain ⟨_, e1, _⟩ := q.h1; exact Heap.lt_size e1
      · rw [e]; obtain ⟨_, e1, _⟩ := q.h2; exact Heap.lt_size e1
    have hf1 : ∀ b ∈ [S, z, TO, i1, i2], FpOk X pins (upd H s.heap.objs.size (.tup [x, y])) b := fun b hb => by
      obtain ⟨n1, rest⟩ := hf b hb
      exact ⟨by rw [upd_ne (Nat.ne_of_lt (hlts b hb))]; exact n1, rest⟩
    have hL' := hk S _ (hS _ (by simp)).symm (hS _ (by simp)).symm (hS _ (by simp)).symm (hS _ (by simp)).symm hL
    show wpAny _ A.in1 (updateSeq S (·.push (.ref s.heap.objs.size)) >>= _) _ _ _
    refine wpAny_bind ?_
    refine wpAny_updateSeq hL' rfl (wpAny_pure ⟨plainId_quiet F.plain_extend_loop _, ?_⟩) (by rw [hacc]; omega) (by show (acc.push _).size ≤ sizeLine + 1; rw [Array.size_push, hacc]; omega)
    obtain ⟨c2, hL2⟩ := lst_get (f := (·.push (.ref s.heap.objs.size))) hL'
    have oth : ∀ b o, b ≠ S → h'.get? b = some o → (h'.update S (Obj.mapSeq (·.push (.ref s.heap.objs.size)))).get? b = some o := fun b o hb e => (Heap.get?_update_other _ _ (Ne.symm hb)).trans e
    have I2 : Inv X pins σ (upd H s.heap.objs.size (.tup [x, y])) { s with heap := h'.update S (Obj.mapSeq (·.push (.ref s.heap.objs.size))) } :=
      Inv.turnedL (s := { s with heap := h' }) I1 (t' := s.toks) (ch := [S]) (fun b o hb e => oth b o (fun q => hb (by simp [q])) e) (fun b hb => hf1 b (by rw [List.mem_singleton.mp hb]; simp))
    refine ih (i + 1) _ _ (acc.push (.ref s.heap.objs.size)) c2 (outs ++ [.ref s.heap.objs.size]) (by rw [← List.drop_drop, hd]; rfl) hlt I2 hf1 (q'.frame hS oth) hL2 (by rw [Array.toList_push]; exact r.append (.cons rfl .nil)) (by rw [List.length_append, hl]; rfl) fun s' H' acc' c' ts I' hf' hL' hn hv => ?_
    exact hR s' H' acc' c' (.ref s.heap.objs.size :: ts) I' hf' hL' ⟨_, _, rfl, hfr, hn⟩ (by rw [List.append_assoc] at hv; exact hv)
end
section
variable {X : Cx} {pins : List (Addr × Obj)} {σ : L2.St} {z TI TO i1 i2 l1 l2 : Addr} {vx vy : List V} {ix iy : List Value}
/-- extend by a zip -/
theorem extend_zip {R : Result → Shared → Prop} {A : Around} {s : Shared} {H : Hp} {S : Addr} {c₀ : Nat} (hh : A.handled = none) (D : ZipApart z TI TO i1 i2 l1 l2) (hS : ∀ b ∈ [z, TI, TO, i1, i2, l1, l2], b ≠ S) (rx : Vals vx ix) (ry : Vals vy iy) (hx : vx.length ≤ sizeLine) (res : Value)
    (I : Inv X pins σ H s) (hf : ∀ b ∈ [S, z, TO, i1, i2], FpOk X pins H b) (q : ZS s.heap z TI TO i1 i2 l1 l2 S 0 ix.toArray iy.toArray) (hL : s.heap.get? S = some { cls := .type "list", data := .seq #[] c₀ })
    (hR : ∀ s' H' acc' c' ts, Inv X pins σ H' s' → (∀ b ∈ [S, z, TO, i1, i2], FpOk X pins H' b) → s'.heap.get? S = some { cls := .type "list", dict := none, data := .seq acc' c', slots := #[] } → NewT H (vx.zip vy) ts H' → Vals ts acc'.toList → R (.ok (.ret res)) s') :
    wpAny (model X.prog X.w) A.in1 (Builtin.List.listExtendWith (.ref S) (.ref z) res)
      (fun fin s' => match fin with | .done f => R (.ok f) s' | .again c' => c'.quiet = true ∧ codeAny (model X.prog X.w) A c' R s') (fun e s' => R (.error e) s') s := by
  have hSz : S ≠ z := (hS z (by simp)).symm
  have h1 : Builtin.List.listSameRef (.ref S) (.ref z) = false := by simp [Builtin.List.listSameRef, hSz]
  have h2 : (Value.type "zip" == Value.type "list") = false := by decide
  have h3 : (Value.type "zip" == Value.type "tuple") = false := by decide
  unfold Builtin.List.listExtendWith
  refine wpAny_bind (wpAny_typeOf q.ty ?_)
  simp only [h1, h2, h3, Bool.or_false, Bool.false_eq_true, if_false]
  have hit : ∀ {Q : Value → Shared → Prop} {E : Value → Shared → Prop}, Q (.ref z) s → wpAny (model X.prog X.w) A.in1 (pyIter (.ref z)) Q E s := fun h => by
    rcases q.zz with e | ⟨T, f, oT, e, _⟩
    · exact wpAny_pyIter_zip e h
    · have hT : s.TypeIs (.ref z) "zip" := ⟨_, e, rfl⟩
      refine wpAny_pyIter_slot hT F.slot_zip_iter (wpAny_call_entry F.slot_zip_iter hT F.entry_zip_iter ?_ (F.args_zip_iter_1 _))
      show wpAny _ _ (ret (.ref z)) _ _ s
      exact wpAny_pure ⟨_, rfl, "zip", _, hT, F.slot_zip_next.lookup, h⟩
  refine wpAny_bind (hit ?_)
  refine wpAny_bind (wpAny_holding ?_)
  unfold Builtin.List.listLengthHint
  refine wpAny_bind (wpAny_specialOf q.ty zip_no_len ?_)
  show wpAny _ A.in1 (specialOf (Value.ref z) (Str.ofString "__length_hint__") >>= _) _ _ _
  refine wpAny_bind (wpAny_specialOf q.ty zip_no_hint ?_)
  refine wpAny_pure ?_
  show wpAny _ A.in1 (rule "list.extend.makes-room" >>= fun _ => Builtin.List.listTouch (.ref S) >>= fun _ =>
    again (.builtin "list.extend.loop" ⟨[.ref S, .ref z, res], []⟩)) _ _ _
  refine wpAny_bind (wpAny_rule ?_)
  refine wpAny_bind ?_
  show wpAny _ A.in1 (updateSeq S (·.push .none) >>= fun _ => updateSeq S (·.pop)) _ _ _
  refine wpAny_bind (wpAny_updateSeq hL rfl ?_)
  obtain ⟨c1, hL1⟩ := lst_get (f := (·.push Value.none)) hL
  refine wpAny_updateSeq hL1 rfl ?_
  obtain ⟨c2, hL2⟩ := lst_get (f := (·.pop)) hL1
  have oth : ∀ b o, b ≠ S → s.heap.get? b = some o → ((s.heap.update S (Obj.mapSeq (·.push Value.none))).update S (Obj.mapSeq (·.pop))).get? b = some o :=
    fun b o hb e => (Heap.get?_update_other _ _ (Ne.symm hb)).trans ((Heap.get?_update_other _ _ (Ne.symm hb)).trans e)
  have I2 : Inv X pins σ H { s with heap := (s.heap.update S (Obj.mapSeq (·.push Value.none))).update S (Obj.mapSeq (·.pop)) } :=
    I.turnedL (t' := s.toks) (ch := [S]) (fun b o hb e => oth b o (fun q => hb (by simp [q])) e) (fun b hb => hf b (by rw [List.mem_singleton.mp hb]; simp))
  refine wpAny_pure ⟨plainId_quiet F.plain_extend_loop _, loop hh D hS rx ry hx res (vx.zip vy) 0 _ H #[] c2 [] rfl (Nat.zero_le _) I2 hf (q.frame hS oth) hL2 .nil rfl fun s' H' acc' c' ts I' hf' hL' hn hv => ?_⟩
  exact hR s' H' acc' c' ts I' hf' hL' hn hv
end
end Wk.LZ
namespace Wk
open PySem L2 PyProof.Rows
def rLstZip (K : PySem.W.Frag) (Q : VK) (vs : List V) (H1 : Hp) : Prop := ∃ (a b : Addr) (xs ys : List V), vs = [.ref a, .ref b] ∧ SqL K H1 a xs ∧ SqL K H1 b ys ∧ ∀ ts H2, LZ.NewT H1 (xs.zip ys) ts H2 → ∀ q, H2 q = none → Q (.ref q) (upd H2 q (.lst ts))
def tLstZip (K : PySem.W.Frag) (ta : TA) : TE := fun σ H Q => ta σ H (rLstZip K Q)
theorem e_lzip {K : PySem.W.Frag} {ta : TA} {σ : L2.St} {H : Hp} {Q : VK} (h : ta σ H (rLstZip K Q)) : tLstZip K ta σ H Q := h
theorem LZ.len : ∀ {r : List (V × V)} {H : Hp} {ts : List V} {H2 : Hp}, LZ.NewT H r ts H2 → ts.length = r.length
  | [], _, _, _, ⟨a, _⟩ => by rw [a]; rfl
  | (x, y) :: r, _, _, _, ⟨T, ts', a, _, c⟩ => by rw [a, List.length_cons, List.length_cons, LZ.len c]
section
variable {X : Cx}
theorem pe_lstZip {e e2 : Expr} {ta : TA} {p p2 pos pos2 : Pos} (hc : X.calm = true) (hg : Gl X "list") (hm : X.mg "list" = none) (hg2 : Gl X "zip") (hm2 : X.mg "zip" = none) (ha : PA X [e, e2] ta)
    (hs : starEach [e, e2] X.env = (false, eval e X.env) :: starEach [e2] X.env := by rfl) (hpl : (backTo pos2 (starEach [e2] X.env)).any (·.1) = false := by rfl)
    (hs2 : starEach [.Call (.Name "zip" p2) [e, e2] [] pos2] X.env = (false, eval (.Call (.Name "zip" p2) [e, e2] [] pos2) X.env) :: starEach [] X.env := by rfl) :
    PE X (.Call (.Name "list" p) [.Call (.Name "zip" p2) [e, e2] [] pos2] [] pos) (tLstZip X.K ta) := by
  refine ⟨fun pins s σ H Q I h => ?_⟩
  refine Call_ (ld_blt I hg hm PyProof.Rows.boot_list (PyProof.Rows.callWith_type1 (args_cons (Call_ (ld_blt I hg2 hm2 PyProof.Rows.boot_zip (PyProof.Rows.callWith_type1 (thn (ha.run pos2 pins s σ H _ I h) fun us s1 ⟨vs, H1, I1, r1, q1⟩ => ?_) hs hpl))) hs2) hs2 rfl))
  obtain ⟨a, b, xs, ys, ex, hqx, hqy, q⟩ := q1
  subst ex
  cases r1 with
  | cons r rr =>
    cases rr with
    | cons r' rr =>
      cases rr
      cases r
      cases r'
      obtain ⟨its, rv, p1, hz1⟩ := I1.list hqx
      obtain ⟨its2, rv2, p2', _⟩ := I1.list hqy
      have la : a < s1.heap.objs.size := p1.lt
      have lb : b < s1.heap.objs.size := p2'.lt
      refine call_zip_2 p1.isList p2'.isList fun h' hz hTI hTO h1 h2 hsz hk => args_nil ?_
      have D := PySem.W.ktu_apart s1.heap.objs.size a b la lb
      have I2 : Inv X pins σ H1 { s1 with heap := h' } := I1.kept (t' := s1.toks) hk
      -- the list
      refine callType_codes (Q₁ := fun obj s₁ => obj = .ref h'.objs.size ∧ s₁ = { s1 with heap := h'.push { cls := .type "list", data := .seq #[] } }) F.called_list (F.typeCall_list_1 _) F.entry_list_init
        (code_list_new _ ⟨rfl, rfl⟩) fun obj s₁ h₁ => ?_
      obtain ⟨rfl, rfl⟩ := h₁
      have hS : (h'.push { cls := .type "list", data := .seq #[] }).get? h'.objs.size = some { cls := .type "list", data := .seq #[] } := Heap.get?_push_size _ rfl
      refine ⟨⟨_, hS, rfl⟩, F.args_list_init_2 _ _, ?_⟩
      show wpAny _ _ (do let old ← Builtin.List.listItems (.ref h'.objs.size); Builtin.List.listUpdate (.ref h'.objs.size) (fun _ => #[]); letGo old.toList.reverse; Builtin.List.listExtendWith (.ref h'.objs.size) (.ref (s1.heap.objs.size + 4)) .none) _ _ _
      refine wpAny_bind ?_
      unfold Builtin.List.listItems
      refine wpAny_bind (wpAny_seqItems hS rfl (wpAny_pure ?_))
      show wpAny _ _ (updateSeq h'.objs.size (fun _ => #[]) >>= fun _ => letGo (#[] : Array Value).toList.reverse >>= fun _ => Builtin.List.listExtendWith (.ref h'.objs.size) (.ref (s1.heap.objs.size + 4)) .none) _ _ _
      refine wpAny_bind (wpAny_updateSeq hS rfl ?_)
      obtain ⟨c₂, hS₂⟩ : ∃ c, ((h'.push { cls := .type "list", data := .seq #[] }).update h'.objs.size (Obj.mapSeq (fun _ => (#[] : Array Value)))).get? h'.objs.size = some { cls := .type "list", data := .seq #[] c } := ⟨_, Heap.get?_update_self (Obj.mapSeq (fun _ => (#[] : Array Value))) hS rfl⟩
      have oth : ∀ b o, h'.get? b = some o → ((h'.push { cls := .type "list", data := .seq #[] }).update h'.objs.size (Obj.mapSeq (fun _ => (#[] : Array Value)))).get? b = some o :=
        fun b o e => (Heap.get?_update_other _ _ (Nat.ne_of_gt (Heap.lt_size e))).trans (Heap.get?_push_of_some _ e)
      refine wpAny_bind (wpAny_letGo ?_)
      have I3 : Inv X pins σ H1 { s1 with heap := (h'.push { cls := .type "list", data := .seq #[] }).update h'.objs.size (Obj.mapSeq (fun _ => (#[] : Array Value))) } := I1.kept (t' := s1.toks) fun b u e => oth b u (hk b u e)
      have hlt : ∀ {b o}, h'.get? b = some o → b ≠ h'.objs.size := fun e => Nat.ne_of_lt (Heap.lt_size e)
      have hSs : ∀ c ∈ [s1.heap.objs.size + 4, s1.heap.objs.size + 2, s1.heap.objs.size + 3, s1.heap.objs.size, s1.heap.objs.size + 1, a, b], c ≠ h'.objs.size := by
        intro c hc
        rw [hsz]
        have e' : c = s1.heap.objs.size + 4 ∨ c = s1.heap.objs.size + 2 ∨ c = s1.heap.objs.size + 3 ∨ c = s1.heap.objs.size ∨ c = s1.heap.objs.size + 1 ∨ c = a ∨ c = b := by simpa using hc
        refine Nat.ne_of_lt ?_
        rcases e' with e | e | e | e | e | e | e
        · rw [e]; exact Nat.lt_succ_self _
        · rw [e]; exact Nat.add_lt_add_left (by decide) _
        · rw [e]; exact Nat.add_lt_add_left (by decide) _
        · rw [e]; exact Nat.lt_add_of_pos_right (by decide)
        · rw [e]; exact Nat.add_lt_add_left (by decide) _
        · rw [e]; exact Nat.lt_of_lt_of_le la (Nat.le_add_right _ _)
        · rw [e]; exact Nat.lt_of_lt_of_le lb (Nat.le_add_right _ _)
      have hf : ∀ c ∈ [h'.objs.size, s1.heap.objs.size + 4, s1.heap.objs.size + 3, s1.heap.objs.size, s1.heap.objs.size + 1], FpOk X pins H1 c := by
        intro c hc
        have e' : c = h'.objs.size ∨ c = s1.heap.objs.size + 4 ∨ c = s1.heap.objs.size + 3 ∨ c = s1.heap.objs.size ∨ c = s1.heap.objs.size + 1 := by simpa using hc
        have hle : s1.heap.objs.size ≤ c := by
          rw [hsz] at e'
          rcases e' with e | e | e | e | e
          · rw [e]; exact Nat.le_add_right _ _
          · rw [e]; exact Nat.le_add_right _ _
          · rw [e]; exact Nat.le_add_right _ _
          · rw [e]; exact Nat.le_refl _
          · rw [e]; exact Nat.le_add_right _ _
        exact I1.fpOk hle (I1.hok.fresh hle)
      refine LZ.extend_zip (X := X) (pins := pins) (σ := σ) (H := H1) (A := X.A.in1) (R := wants (fun r s₂ => r = Value.none ∧ _) _) (I1.ok.hd hc) D hSs rv rv2 hz1 .none I3 hf ⟨oth _ _ hTI, ⟨_, _, oth _ _ hTO⟩, h1.at fun o e => oth _ o e, h2.at fun o e => oth _ o e, (p1.isList.at fun o e => oth _ o (hk _ o e)), (p2'.isList.at fun o e => oth _ o (hk _ o e)), .inl (oth _ _ hz)⟩ hS₂ fun s' H' acc' c' ts I' hf' hL' hn hv => ?_
      refine ⟨rfl, ?_⟩
      have hl : ts.length ≤ sizeLine := by rw [LZ.len hn, List.length_zip]; exact Nat.le_trans (Nat.min_le_left _ _) hz1
      have hnew : ObjOk X.prog X.w (upd H' h'.objs.size (.lst ts)) s'.heap h'.objs.size (.lst ts) := ⟨hl, acc'.toList, c', hv, by rw [Array.toArray_toList]; exact hL'⟩
      have hfS := hf' h'.objs.size (by simp)
      exact ⟨.ref h'.objs.size, upd H' h'.objs.size (.lst ts), I'.take (t' := s'.toks) (fun _ _ _ e => e) hfS hnew, rfl, q ts H' hn _ hfS.1⟩
end
section
variable {α β : Type} {e : Rep α} {f : Rep β} {K : PySem.W.Frag} {F0 H0 F H H2 : Hp} {p q : Addr} {xs : List α} {ys : List β} {Q : VK}
/-- the new tuples -/
theorem newT_all : ∀ {us vs : List V} {xs : List α} {ys : List β} {F H : Hp} {ts : List V}, Ex F H → All e F us xs → All f F vs ys → LZ.NewT H (us.zip vs) ts H2 →
    ∃ F2, Wf F H F2 H2 ∧ All (pT2 e f) F2 ts (xs.zip ys)
  | [], _, [], _, F, H, ts, hf, _, _, ⟨a, b⟩ => by subst a b; exact ⟨F, Wf.id hf, trivial⟩
  | _ :: _, [], _ :: _, [], F, H, ts, hf, _, _, ⟨a, b⟩ => by subst a b; exact ⟨F, Wf.id hf, trivial⟩
  | u :: us, v :: vs, x :: xs, y :: ys, F, H, ts, hf, ⟨a1, a2⟩, ⟨b1, b2⟩, ⟨T, ts', hts, hT, hn⟩ => by
    subst hts
    have w := Wf.new (o := .tup [u, v]) hf hT
    have g := w.g
    obtain ⟨F2, w2, a⟩ := newT_all w.f (a2.mono g) (b2.mono g) hn
    refine ⟨F2, w.tr w2, ⟨⟨T, u, v, rfl, w2.g _ _ upd_same, e.mono w2.g (e.mono g a1), f.mono w2.g (f.mono g b1)⟩, a⟩⟩
  | [], _, _ :: _, _, _, _, _, _, q, _, _ => q.elim
  | _ :: _, _, [], _, _, _, _, _, q, _, _ => q.elim
  | _ :: _, [], _ :: _, _ :: _, _, _, _, _, _, q, _ => q.elim
  | _ :: _, _ :: _, _ :: _, [], _, _, _, _, _, q, _ => q.elim
theorem n_lzip {v1 v2 : V} (r1 : (pL e).r F v1 xs) (r2 : (pL f).r F v2 ys) (w : Wf F0 H0 F H) (k : ∀ p F' H', H p = none → Wf F H F' H' → XL (pT2 e f) H0 F' H' p (xs.zip ys) → Q (.ref p) H') : rLstZip K Q [v1, v2] H := by
  obtain ⟨p1, us, rfl, h1, a1⟩ := r1
  obtain ⟨p2, vs, rfl, h2, a2⟩ := r2
  refine ⟨p1, p2, us, vs, rfl, SqL.of (w.f _ _ h1), SqL.of (w.f _ _ h2), fun ts H2 hn l hl => ?_⟩
  obtain ⟨F2, w2, a⟩ := newT_all w.f a1 a2 hn
  exact k l F2 _ (w2.h.non hl) (w2.tr (Wf.newX w2.f hl)) ⟨ts, Xc.mk' (w.tr w2) hl, a⟩
end
end Wk
namespace Wk
open PySem L2
/-- a raw value -/
def pV : Rep V := ⟨fun _ v x => v = x, fun _ h => h⟩
section
variable {α β γ : Type} {e : Rep α} {f : Rep β} {g : Rep γ} {K : PySem.W.Frag} {F H : Hp} {v : V} {x : α × β × γ}
theorem ix_3b (r : (pT3 e f g).r F v x) (h : Ex F H) : ∃ w, f.r F w x.2.1 ∧ ∀ ⦃σ ta tb⦄, Val ta σ H v → Val tb σ H (.int 1) → Val (tOp (rIxT K) ta tb) σ H w := by
  obtain ⟨p, u, w, y, rfl, hp, a, b, c⟩ := r
  exact ⟨w, b, fun _ _ _ ha hb => v2 ha hb fun Q k => ⟨p, _, _, w, rfl, rfl, SqT.of (h _ _ hp), rfl, k⟩⟩
theorem ix_3c (r : (pT3 e f g).r F v x) (h : Ex F H) : ∃ w, g.r F w x.2.2 ∧ ∀ ⦃σ ta tb⦄, Val ta σ H v → Val tb σ H (.int 2) → Val (tOp (rIxT K) ta tb) σ H w := by
  obtain ⟨p, u, w, y, rfl, hp, a, b, c⟩ := r
  exact ⟨y, c, fun _ _ _ ha hb => v2 ha hb fun Q k => ⟨p, _, _, y, rfl, rfl, SqT.of (h _ _ hp), rfl, k⟩⟩
theorem ix_3a (r : (pT3 e f g).r F v x) (h : Ex F H) : ∃ w, e.r F w x.1 ∧ ∀ ⦃σ ta tb⦄, Val ta σ H v → Val tb σ H (.int 0) → Val (tOp (rIxT K) ta tb) σ H w := by
  obtain ⟨p, u, w, y, rfl, hp, a, b, c⟩ := r
  exact ⟨u, a, fun _ _ _ ha hb => v2 ha hb fun Q k => ⟨p, _, _, u, rfl, rfl, SqT.of (h _ _ hp), rfl, k⟩⟩
instance {n m k : Nat} [Dat e n] [Dat f m] [Dat g k] : Dat (pT3 e f g) (max n (max m k) + 1) := ⟨fun x => .tuple [Dat.d e x.1, Dat.d f x.2.1, Dat.d g x.2.2], fun {K F v x} h => by
    obtain ⟨p, u, w, y, rfl, hp, a, b, c⟩ := h
    exact .tup (SqT.of hp) (.cons (Dat.dp a) (.cons (Dat.dp b) (.cons (Dat.dp c) .nil))), fun x => by
    show (PyData.canLay0 (Dat.d e x.1) && (PyData.canLay0 (Dat.d f x.2.1) && (PyData.canLay0 (Dat.d g x.2.2) && PyData.canLayAll0 []))) = true
    rw [Dat.lay, Dat.lay, Dat.lay]; rfl, fun x => by
    have a := Dat.dep (e := e) x.1
    have b := Dat.dep (e := f) x.2.1
    have c := Dat.dep (e := g) x.2.2
    simp only [PyData.depth, PyData.depthAll]
    omega, fun x y => by
    show (PyData.eqv (Dat.d e x.1) (Dat.d e y.1) && (PyData.eqv (Dat.d f x.2.1) (Dat.d f y.2.1) && (PyData.eqv (Dat.d g x.2.2) (Dat.d g y.2.2) && PyData.eqvAll [] []))) = true ↔ _
    have z : PyData.eqvAll [] [] = true := rfl
    rw [z, Bool.and_true, Bool.and_eq_true, Bool.and_eq_true, Dat.inj, Dat.inj, Dat.inj, Prod.ext_iff, Prod.ext_iff]⟩
end
def nw (H F : Hp) : Hp := fun a => if H a = none then F a else none
theorem nw_ex {H F F' : Hp} (h : Ex F F') : Ex (nw H F) (nw H F') := fun a o e => by
  unfold nw at e ⊢
  by_cases q : H a = none
  · rw [if_pos q] at e ⊢; exact h a o e
  · rw [if_neg q] at e; cases e
theorem nw_sub {H F : Hp} : Ex (nw H F) F := fun a o e => by
  unfold nw at e
  by_cases q : H a = none
  · rw [if_pos q] at e; exact e
  · rw [if_neg q] at e; cases e
def Fre {α : Type} (H : Hp) (e : Rep α) (F : Hp) (v : V) (x : α) : Prop := e.r (nw H F) v x
section
variable {α β : Type} {e : Rep α} {f : Rep β} {F0 H0 F F' Fl H H2 F2 : Hp} {v u : V} {x : α} {y : β} {p : Addr} {Q : VK}
theorem Fre.r (h : Fre H e F v x) : e.r F v x := e.mono nw_sub h
theorem Fre.mono (g : Ex F F') (h : Fre H e F v x) : Fre H e F' v x := e.mono (nw_ex g) h
end
end Wk
namespace Wk
/-- bits below w, all together -/
def px (f : Nat → Bool) : Nat → Bool
  | 0 => false
  | m + 1 => xor (px f m) (f m)
abbrev Mach := Nat × List (Nat × Nat) × List (Nat × Nat)
structure MOk (M : Mach) : Prop where
  i : M.1 ≤ 6
  n : M.2.1.length ≤ 120
  o : M.2.2.length ≤ 6
  mn : ∀ p ∈ M.2.1, p.1 < 2 ^ M.2.1.length ∧ p.2 < 2 ^ M.1
  mo : ∀ p ∈ M.2.2, p.1 < 2 ^ M.2.1.length ∧ p.2 < 2 ^ M.1
def okA (x : An) (w : Nat) : Prop := ∃ n : Nat, x = An.i (n : Int) ∧ n < 2 ^ w
def fineA : An → Prop
  | .o T => T ≠ "int" ∧ T ≠ "bool"
  | _ => True
theorem isA_int (x : An) (h : fineA x) : (isA "int" x = true ∧ ¬ isA "bool" x = true) ↔ ∃ z : Int, x = An.i z := by
  cases x with
  | i z => exact ⟨fun _ => ⟨z, rfl⟩, fun _ => by simp [isA, An.ty]⟩
  | b b => exact ⟨fun q => absurd (by simp [isA, An.ty]) q.2, fun ⟨z, e⟩ => by cases e⟩
  | n => exact ⟨fun q => absurd q.1 (by simp [isA, An.ty]), fun ⟨z, e⟩ => by cases e⟩
  | s t => exact ⟨fun q => absurd q.1 (by simp [isA, An.ty]), fun ⟨z, e⟩ => by cases e⟩
  | l t => exact ⟨fun q => absurd q.1 (by simp [isA, An.ty]), fun ⟨z, e⟩ => by cases e⟩
  | t t => exact ⟨fun q => absurd q.1 (by simp [isA, An.ty]), fun ⟨z, e⟩ => by cases e⟩
  | o T =>
    refine ⟨fun q => absurd q.1 ?_, fun ⟨z, e⟩ => by cases e⟩
    obtain ⟨h1, h2⟩ := h
    unfold isA An.ty
    simp [h1, h2]
section
variable {α : Type}
theorem enumT_snd (xs : List α) : (enumT xs).map (·.2) = xs := by
  unfold enumT
  exact List.map_snd_zip (by rw [List.length_range]; exact Nat.le_refl _)
theorem enumT_split {xs : List α} {pre post : List (Nat × α)} {x : Nat × α} (h : enumT xs = pre ++ x :: post) : x.1 = pre.length ∧ xs = pre.map (·.2) ++ x.2 :: post.map (·.2) := by
  constructor
  · have e := enumT_get xs pre.length
    rw [h, List.getElem?_append_right (Nat.le_refl _), Nat.sub_self] at e
    have e' : some x = xs[pre.length]?.map fun y => (pre.length, y) := e
    cases q : xs[pre.length]? with
    | none => rw [q] at e'; cases e'
    | some y => rw [q] at e'; cases e'; rfl
  · have e := enumT_snd xs
    rw [h, List.map_append, List.map_cons] at e
    exact e.symm
theorem forW_enum {S : Type} {ps : List α} {s : S} {body : Nat × α → S → (S → Prop) → (S → Prop) → Prop} {k : S → Prop} (P : List α → S → Prop) (h0 : P [] s)
    (hb : ∀ pre p post s nx bk, ps = pre ++ p :: post → P pre s → (∀ s', P (pre ++ [p]) s' → nx s') → body (pre.length, p) s nx bk) (hk : ∀ s, P ps s → k s) : forW (enumT ps) s body k := by
  refine forW_ind (fun pre s => P (pre.map (·.2)) s) h0 (fun pre x post s nx bk e hs hn _ => ?_) fun s hs => ?_
  · obtain ⟨e1, e2⟩ := enumT_split e
    obtain ⟨i, p⟩ := x
    have e1' : i = pre.length := e1
    subst e1'
    have := hb (pre.map (·.2)) p (post.map (·.2)) s nx bk e2 hs (fun s' h => hn s' (by rw [List.map_append]; exact h))
    rwa [List.length_map] at this
  · rw [enumT_snd] at hs; exact hk s hs
end
end Wk
namespace Wk
end Wk
namespace Wk
open PySem L2
def tTryAs (K : PySem.W.Frag) (c : Value) (i : Nat) (tb : WX → TS) (ts : Addr → Value → Option Addr → TS) (Wout : WX) : TS := fun D σ H => tb (wAs K c i ts Wout D) D σ H
theorem a_tryAs {K : PySem.W.Frag} {c : Value} {i : Nat} {tb : WX → TS} {ts : Addr → Value → Option Addr → TS} {Wout : WX} {D : Ends} {σ : L2.St} {H : Hp} (h : tb (wAs K c i ts Wout D) D σ H) : tTryAs K c i tb ts Wout D σ H := h
theorem a_excAs {K : PySem.W.Frag} {c cls : Value} {i : Nat} {d : Option Addr} {ts : Addr → Value → Option Addr → TS} {Wout : WX} {D : Ends} {σ : L2.St} {H : Hp} (he : PySem.W.exmOne K cls c = some true)
    (h : ∀ a, H a = none → ts a cls d { nx := fun σ' H' => D.nx (σ'.set i none) H', rt := D.rt, bk := fun σ' H' => D.bk (σ'.set i none) H', ct := fun σ' H' => D.ct (σ'.set i none) H' } (σ.set i (some (.ref a))) H) : wAs K c i ts Wout D cls d σ H :=
  ⟨true, he, fun _ => h, fun q => Bool.noConfusion q⟩
/-- isinstance of the exception that is held -/
def tIsE (K : PySem.W.Frag) (i : Nat) (cls : Value) (d : Option Addr) (a C : Addr) : TE := fun σ H Q => ∃ (D : Addr) (b : Bool), cls = .ref D ∧ d = none ∧ ExcC K D ∧ PySem.W.kitOne K (.ref D) (.ref C) = some b ∧ σ[i]? = some (some (.ref a)) ∧ Q (.bl b) H
theorem pe_isE {X : Cx} {a C : Addr} {oe : Obj} {cls : Value} {d : Option Addr} {pn : List (Addr × Obj)} {i : Nat} {x c : Str} {pf px pc pos : Pos} (hz : Zc cls d oe) (hf : ∃ vs, oe.data = .fields vs) (hg : Gl X "isinstance") (hm : X.mg "isinstance" = none)
    (hx : PE (X.suite a ((a, oe) :: pn)) (.Name x px) (tVar i)) (hc : Gl X c) (hcm : X.mg c = some (.ref C)) (hd : (c == ("__debug__" : Str)) = false := by decide)
    (he : starEach [.Name x px, .Name c pc] X.env = (false, eval (.Name x px) X.env) :: starEach [.Name c pc] X.env := by rfl) (he2 : starEach [.Name c pc] X.env = (false, eval (.Name c pc) X.env) :: starEach [] X.env := by rfl)
    (hpl : (backTo pos (starEach [.Name c pc] X.env)).any (·.1) = false := by rfl) :
    PE (X.suite a ((a, oe) :: pn)) (.Call (.Name "isinstance" pf) [.Name x px, .Name c pc] [] pos) (tIsE X.K i cls d a C) := by
  refine ⟨fun pins s σ H Q I h => ?_⟩
  obtain ⟨D, b, rfl, rfl, hC, hk, hs, q⟩ := h
  have hcl : PE (X.suite a ((a, oe) :: pn)) (.Name c pc) (tC (.ref C)) := pe_glob (X := X.suite a ((a, oe) :: pn)) hc hcm rfl hd
  have ha : PA (X.suite a ((a, oe) :: pn)) [.Name x px, .Name c pc] (tCons (tVar i) (tCons (tC (.ref C)) tNil)) := pa_cons hx (pa_cons hcl pa_nil)
  exact (pe_callB (X := X.suite a ((a, oe) :: pn)) (call_isE (X := X) (pn := pn) hC hz hf) hg hm PyProof.Rows.boot_isinstance ha (by decide) (by decide) he hpl).run pins s σ H Q I
    ⟨_, hs, _, _, b, rfl, fun u ru => (show u = Value.ref C from ru), hk, q⟩
theorem kit_own {K : PySem.W.Frag} {S T : Addr} {b : Bool} (h2 : PySem.W.isClsIn K T = true) (h3 : PySem.W.typeIn K (.ref T) = some (.type "type")) (h0 : PySem.W.subIn K (.ref S) (.ref S) = some true) (h4 : PySem.W.subIn K (.ref S) (.ref T) = some b) :
    PySem.W.kitOne K (.ref S) (.ref T) = some b := by
  have e2 : ((PySem.W.clsIn K T).isSome && PySem.W.typeIn K (.ref T) == some (.type "type")) = true := by
    have h2' : (PySem.W.clsIn K T).isSome = true := h2
    rw [h2', h3]; rfl
  show (if ((Value.ref S == Value.ref T) = true) then some true else (if ((PySem.W.clsIn K T).isSome && PySem.W.typeIn K (.ref T) == some (.type "type")) = true then PySem.W.subIn K (.ref S) (.ref T) else none)) = some b
  by_cases q : (Value.ref S == Value.ref T) = true
  · rw [if_pos q]
    have e : S = T := Value.ref.inj (beq_iff_eq.mp q)
    subst e
    rw [h0] at h4; exact h4
  · rw [if_neg q, if_pos e2]; exact h4
end Wk
namespace Wk
open PySem L2
theorem an_D {κ α : Type} [KeyT κ] {e : Rep α} {F : Hp} {v : V} {m : List (κ × α)} (r : (pD e).r F v m) : pA.r F v (.o "dict") := by
  obtain ⟨p, kvs, rfl, hp, _⟩ := r
  exact ⟨p, rfl, .inr (.inr ⟨rfl, kvs, hp⟩)⟩
end Wk
namespace Wk
open PySem L2
/-- what a call has made -/
def NLst (o : HO) : Prop := ∀ vs, o ≠ .lst vs
/-- what stands in a region is new and not in F, or is in F and no list -/
abbrev NewOr (H0 F G : Hp) : Prop := ∀ a o, G a = some o → (H0 a = none ∧ F a = none) ∨ (F a = some o ∧ NLst o)
structure RG (H0 F H G : Hp) : Prop where
  z : NewOr H0 F G
  h : Ex G H
/-- the same, its lists changed: each has grown by at most k -/
structure RD (H0 F H G : Hp) (k : Nat) : Prop where
  z : NewOr H0 F G
  c : ∀ a o, G a = some o → ∃ o', H a = some o'
  l : ∀ a vs, G a = some (.lst vs) → ∃ ws, H a = some (.lst ws) ∧ ws.length ≤ vs.length + k
/-- but for its lists -/
def nl (G : Hp) : Hp := fun a => match G a with | some (.lst _) => none | o => o
theorem nl_sub {G : Hp} : Ex (nl G) G := fun a o e => by
  unfold nl at e
  split at e
  · cases e
  · exact e
theorem nl_tup {G : Hp} {p : Addr} {vs : List V} (h : G p = some (.tup vs)) : nl G p = some (.tup vs) := by unfold nl; rw [h]
section
variable {α β γ : Type} {e : Rep α} {f : Rep β} {k3 : Rep γ} {K : PySem.W.Frag} {σ : L2.St} {F0 H0 F F' F2 H H' H2 G : Hp} {p q : Addr} {v u : V} {x : α} {xs : List α} {Q : VK} {to : TE} {tA : TA} {vs : List V} {o : HO} {k : Nat}
theorem NewOr.lst (z : NewOr H0 F G) {vs : List V} (e : G p = some (.lst vs)) : H0 p = none ∧ F p = none := (z p _ e).resolve_right fun q => q.2 vs rfl
theorem NewOr.step (z : NewOr H0 F G) (c : ∀ a o, G a = some o → ∃ o', H a = some o') (w : Wf F H F' H') : NewOr H0 F' G := fun a o e => by
  rcases z a o e with ⟨h0, hn⟩ | ⟨h1, h2⟩
  · refine .inl ⟨h0, ?_⟩
    cases q : F' a with
    | none => rfl
    | some u =>
      obtain ⟨o', h⟩ := c a o e
      have := w.n a u q hn
      rw [h] at this
      cases this
  · exact .inr ⟨w.g _ _ h1, h2⟩
theorem NewOr.frzO (z : NewOr H0 F G) (fz : Fz F F' p) (hq : G p = none) (g : Ex F F') : NewOr H0 F' G := fun a o e => by
  rcases z a o e with ⟨h0, hn⟩ | ⟨h1, h2⟩
  · exact .inl ⟨h0, fz a (ne_of_none e hq) hn⟩
  · exact .inr ⟨g _ _ h1, h2⟩
theorem RG.step (g : RG H0 F H G) (w : Wf F H F' H') : RG H0 F' H' G := ⟨g.z.step (fun a o e => ⟨o, g.h a o e⟩) w, g.h.tr w.h⟩
theorem RG.ne (g : RG H0 F H G) (h : H q = none) : G q = none := g.h.non h
theorem RG.frzO (g : RG H0 F H G) (fz : Fz F F' p) (hq : G p = none) (x : Ex F F') : RG H0 F' H G := ⟨g.z.frzO fz hq x, g.h⟩
theorem RG.kept (g : RG H0 F H G) (h : ∀ q o, H q = some o → q ≠ p → H' q = some o) (hq : G p = none) : RG H0 F H' G := ⟨g.z, fun a o e => h a o (g.h a o e) (ne_of_none e hq)⟩
theorem RD.step (g : RD H0 F H G k) (w : Wf F H F' H') : RD H0 F' H' G k := by
  refine ⟨g.z.step g.c w, fun a o e => ?_, fun a vs e => ?_⟩
  · obtain ⟨o', h⟩ := g.c a o e
    exact ⟨o', w.h _ _ h⟩
  · obtain ⟨ws, h1, h2⟩ := g.l a vs e
    exact ⟨ws, w.h _ _ h1, h2⟩
theorem RD.ne (g : RD H0 F H G k) (h : H q = none) : G q = none := by
  cases e : G q with
  | none => rfl
  | some o => obtain ⟨o', z⟩ := g.c q o e; rw [h] at z; cases z
theorem RD.frzO (g : RD H0 F H G k) (fz : Fz F F' p) (hq : G p = none) (x : Ex F F') : RD H0 F' H G k := ⟨g.z.frzO fz hq x, g.c, g.l⟩
theorem RD.kept (g : RD H0 F H G k) (h : ∀ q o, H q = some o → q ≠ p → H' q = some o) (hq : G p = none) : RD H0 F H' G k := by
  refine ⟨g.z, fun a o e => ?_, fun a vs e => ?_⟩
  · obtain ⟨o', z⟩ := g.c a o e
    exact ⟨o', h a o' z (ne_of_none e hq)⟩
  · obtain ⟨ws, h1, h2⟩ := g.l a vs e
    exact ⟨ws, h _ _ h1 (ne_of_none e hq), h2⟩
theorem RG.rd (g : RG H0 F H G) : RD H0 F H G 0 := ⟨g.z, fun a o e => ⟨o, g.h a o e⟩, fun a vs e => ⟨vs, g.h a _ e, Nat.le_refl _⟩⟩
/-- both heaps together -/
def un (F G : Hp) : Hp := fun a => match F a with | some o => some o | none => G a
theorem un_l {F G : Hp} : Ex F (un F G) := fun a o e => by unfold un; rw [e]
theorem RG.un_r (g : RG H0 F H G) : Ex G (un F G) := fun a o e => by
  unfold un
  rcases g.z a o e with ⟨_, hn⟩ | ⟨h1, _⟩
  · rw [hn]; exact e
  · rw [h1]
theorem RG.frz (g : RG H0 F H G) (w : Wf F0 H0 F H) : Wf F0 H0 (un F G) H := ⟨w.h, fun a o e => by
    unfold un at e
    cases q : F a with
    | some u => rw [q] at e; cases e; exact w.f a _ q
    | none => rw [q] at e; exact g.h a o e, w.g.tr un_l, fun a o e e0 => by
    unfold un at e
    cases q : F a with
    | some u => exact w.n a u q e0
    | none => rw [q] at e; exact (g.z a o e).elim (fun y => y.1) fun y => by rw [y.1] at q; cases q⟩
theorem RG.frzE (g : RG H0 F H G) (w : Wf F0 H0 F H) : ∃ F', Wf F0 H0 F' H ∧ Ex F F' ∧ Ex G F' ∧ (∀ q, G q = none → F q = none → F' q = none) :=
  ⟨_, g.frz w, un_l, g.un_r, fun q h x => by unfold un; rw [x]; exact h⟩
/-- behind a call -/
theorem RG.of (w : Wf F0 H0 F H) (sf : Ex F2 H2) : RG H0 F H2 (nw H F2) := by
  have key : ∀ a o, nw H F2 a = some o → H a = none := fun a o e => by
    unfold nw at e
    by_cases c : H a = none
    · exact c
    · rw [if_neg c] at e; cases e
  exact ⟨fun a o e => .inl ⟨w.h.non (key a o e), w.f.non (key a o e)⟩, fun a o e => sf a o (nw_sub a o e)⟩
def NoL {α : Type} (e : Rep α) : Prop := ∀ {F : Hp} {v : V} {x : α}, e.r F v x → e.r (Wk.nl F) v x
theorem nl_o {o : HO} (h : G p = some o) (n : NLst o) : Wk.nl G p = some o := by
  unfold Wk.nl
  rw [h]
  cases o <;> first | rfl | exact absurd rfl (n _)
theorem NoL.N : NoL pN := fun r => r
theorem NoL.all (h : NoL e) : ∀ {vs : List V} {xs : List α}, All e F vs xs → All e (Wk.nl F) vs xs
  | [], [], _ => trivial
  | _ :: _, _ :: _, ⟨a, b⟩ => ⟨h a, NoL.all h b⟩
  | [], _ :: _, q => q.elim
  | _ :: _, [], q => q.elim
theorem NoL.TL (h : NoL e) : NoL (pTL e) := fun ⟨p, vs, a, b, c⟩ => ⟨p, vs, a, nl_tup b, h.all c⟩
theorem NoL.T2 (h : NoL e) (k : NoL f) : NoL (pT2 e f) := fun ⟨p, u, w, a, b, c, d⟩ => ⟨p, u, w, a, nl_tup b, h c, k d⟩
theorem NoL.O3 {C : Addr} {a b c : Str} (h : NoL e) (k : NoL f) (l : NoL k3) : NoL (pO3 C a b c e f k3) := fun {F v x} r => by
  obtain ⟨p, dx, fs, rfl, hp, u1, u2, u3, rfl, r1, r2, r3⟩ := r
  exact ⟨p, dx, _, rfl, nl_o hp (fun vs z => by cases z), u1, u2, u3, rfl, h r1, k r2, l r3⟩
end
class Dao {α : Type} (e : Rep α) (lv : outParam Nat) where
  ok : α → Prop
  d : α → PyData
  dp : ∀ {K : PySem.W.Frag} {F : Hp} {v : V} {x : α}, e.r F v x → Dp K F v (d x)
  lay : ∀ x, ok x → (d x).canLay0 = true
  dep : ∀ x, (d x).depth ≤ lv
  inj : ∀ x y, PyData.eqv (d x) (d y) = true ↔ x = y
def okV {α : Type} (e : Rep α) {n : Nat} [Dao e n] (x : α) : Prop := Dao.ok e x
def okS (x : Str) : Prop := PyData.canLay0 (.str x) = true
instance : Dao pI 0 := ⟨fun _ => True, Dat.d pI, Dat.dp, fun x _ => Dat.lay (e := pI) x, Dat.dep, Dat.inj⟩
instance : Dao pN 0 := ⟨fun _ => True, Dat.d pN, Dat.dp, fun x _ => Dat.lay (e := pN) x, Dat.dep, Dat.inj⟩
instance : Dao pB 0 := ⟨fun _ => True, Dat.d pB, Dat.dp, fun x _ => Dat.lay (e := pB) x, Dat.dep, Dat.inj⟩
instance : Dao pS 0 := ⟨okS, .str, fun h => by cases (show _ = V.str _ from h); exact .str _, fun _ h => h, fun _ => Nat.le_refl _, fun x y => by
  show ((x == y) = true) ↔ _
  exact beq_iff_eq⟩
theorem lay_allO {α : Type} {d : α → PyData} {ok : α → Prop} (h : ∀ x, ok x → (d x).canLay0 = true) : ∀ xs : List α, (∀ x ∈ xs, ok x) → PyData.canLayAll0 (xs.map d) = true
  | [], _ => rfl
  | x :: xs, q => by
    show (PyData.canLay0 (d x) && PyData.canLayAll0 (xs.map d)) = true
    rw [h x (q x (List.mem_cons_self ..)), lay_allO h xs fun y hy => q y (List.mem_cons_of_mem _ hy)]; rfl
theorem dp_allO {α : Type} {e : Rep α} {lv : Nat} [Dao e lv] {K : PySem.W.Frag} {F : Hp} : ∀ {vs : List V} {xs : List α}, All e F vs xs → DpAll K F vs (xs.map (Dao.d e))
  | [], [], _ => .nil
  | _ :: _, _ :: _, ⟨a, b⟩ => .cons (Dao.dp a) (dp_allO b)
  | [], _ :: _, q => q.elim
  | _ :: _, [], q => q.elim
instance {α : Type} {e : Rep α} {n : Nat} [Dao e n] : Dao (pL e) (n + 1) := ⟨fun xs => ∀ x ∈ xs, Dao.ok e x, fun xs => .list (xs.map (Dao.d e)), fun {K F v xs} h => by
    obtain ⟨p, vs, rfl, hp, a⟩ := h
    exact .lst (SqL.of hp) (dp_allO a), fun xs => lay_allO (Dao.lay (e := e)) xs, fun xs => by
    have := dep_all (Dao.dep (e := e)) xs
    simp only [PyData.depth]
    omega, fun xs ys => by
    show PyData.eqvAll (xs.map (Dao.d e)) (ys.map (Dao.d e)) = true ↔ _
    exact eqv_all (Dao.inj (e := e)) xs ys⟩
instance {α : Type} {e : Rep α} {n : Nat} [Dao e n] : Dao (pTL e) (n + 1) := ⟨fun xs => ∀ x ∈ xs, Dao.ok e x, fun xs => .tuple (xs.map (Dao.d e)), fun {K F v xs} h => by
    obtain ⟨p, vs, rfl, hp, a⟩ := h
    exact .tup (SqT.of hp) (dp_allO a), fun xs => lay_allO (Dao.lay (e := e)) xs, fun xs => by
    have := dep_all (Dao.dep (e := e)) xs
    simp only [PyData.depth]
    omega, fun xs ys => by
    show PyData.eqvAll (xs.map (Dao.d e)) (ys.map (Dao.d e)) = true ↔ _
    exact eqv_all (Dao.inj (e := e)) xs ys⟩
instance {α β : Type} {e : Rep α} {f : Rep β} {n m : Nat} [Dao e n] [Dao f m] : Dao (pT2 e f) (max n m + 1) := ⟨fun x => Dao.ok e x.1 ∧ Dao.ok f x.2, fun x => .tuple [Dao.d e x.1, Dao.d f x.2], fun {K F v x} h => by
    obtain ⟨p, u, w, rfl, hp, a, b⟩ := h
    exact .tup (SqT.of hp) (.cons (Dao.dp a) (.cons (Dao.dp b) .nil)), fun x h => by
    show (PyData.canLay0 (Dao.d e x.1) && (PyData.canLay0 (Dao.d f x.2) && PyData.canLayAll0 [])) = true
    rw [Dao.lay _ h.1, Dao.lay _ h.2]; rfl, fun x => by
    have a := Dao.dep (e := e) x.1
    have b := Dao.dep (e := f) x.2
    simp only [PyData.depth, PyData.depthAll]
    omega, fun x y => by
    show (PyData.eqv (Dao.d e x.1) (Dao.d e y.1) && (PyData.eqv (Dao.d f x.2) (Dao.d f y.2) && PyData.eqvAll [] [])) = true ↔ _
    have z : PyData.eqvAll [] [] = true := rfl
    rw [z, Bool.and_true, Bool.and_eq_true, Dao.inj, Dao.inj, Prod.ext_iff]⟩
instance {α β γ : Type} {e : Rep α} {f : Rep β} {g : Rep γ} {n m k : Nat} [Dao e n] [Dao f m] [Dao g k] : Dao (pT3 e f g) (max n (max m k) + 1) := ⟨fun x => Dao.ok e x.1 ∧ Dao.ok f x.2.1 ∧ Dao.ok g x.2.2, fun x => .tuple [Dao.d e x.1, Dao.d f x.2.1, Dao.d g x.2.2], fun {K F v x} h => by
    obtain ⟨p, u, w, y, rfl, hp, a, b, c⟩ := h
    exact .tup (SqT.of hp) (.cons (Dao.dp a) (.cons (Dao.dp b) (.cons (Dao.dp c) .nil))), fun x h => by
    show (PyData.canLay0 (Dao.d e x.1) && (PyData.canLay0 (Dao.d f x.2.1) && (PyData.canLay0 (Dao.d g x.2.2) && PyData.canLayAll0 []))) = true
    rw [Dao.lay _ h.1, Dao.lay _ h.2.1, Dao.lay _ h.2.2]; rfl, fun x => by
    have a := Dao.dep (e := e) x.1
    have b := Dao.dep (e := f) x.2.1
    have c := Dao.dep (e := g) x.2.2
    simp only [PyData.depth, PyData.depthAll]
    omega, fun x y => by
    show (PyData.eqv (Dao.d e x.1) (Dao.d e y.1) && (PyData.eqv (Dao.d f x.2.1) (Dao.d f y.2.1) && (PyData.eqv (Dao.d g x.2.2) (Dao.d g y.2.2) && PyData.eqvAll [] []))) = true ↔ _
    have z : PyData.eqvAll [] [] = true := rfl
    rw [z, Bool.and_true, Bool.and_eq_true, Bool.and_eq_true, Dao.inj, Dao.inj, Dao.inj, Prod.ext_iff, Prod.ext_iff]⟩
instance {α : Type} {e : Rep α} {n : Nat} [Dao e n] : Dao (pAlt (pL e) pN) (n + 1) := ⟨fun x => match x with | .inl xs => ∀ y ∈ xs, Dao.ok e y | .inr _ => True, fun x => match x with | .inl xs => .list (xs.map (Dao.d e)) | .inr m => .int (m : Int), fun {K F v x} h => by
    cases x with
    | inl xs =>
      obtain ⟨p, vs, rfl, hp, a⟩ := (show (pL e).r F v xs from h)
      exact .lst (SqL.of hp) (dp_allO a)
    | inr m => cases (show v = V.int _ from h); exact .int _, fun x h => by
    cases x with
    | inl xs => exact lay_allO (Dao.lay (e := e)) xs h
    | inr m => rfl, fun x => by
    cases x with
    | inl xs =>
      have := dep_all (Dao.dep (e := e)) xs
      simp only [PyData.depth]
      omega
    | inr m => simp only [PyData.depth]; omega, fun x y => by
    cases x with
    | inl xs =>
      cases y with
      | inl ys =>
        show PyData.eqvAll (xs.map (Dao.d e)) (ys.map (Dao.d e)) = true ↔ _
        rw [eqv_all (Dao.inj (e := e)) xs ys]
        exact ⟨fun h => by rw [h], fun h => Sum.inl.inj h⟩
      | inr m => exact ⟨fun h => absurd (show false = true from h) (by decide), fun h => nomatch h⟩
    | inr m =>
      cases y with
      | inl ys => exact ⟨fun h => absurd (show false = true from h) (by decide), fun h => nomatch h⟩
      | inr k =>
        show (((m : Int) == (k : Int)) = true) ↔ _
        rw [beq_iff_eq]
        exact ⟨fun h => by rw [show m = k by omega], fun h => by rw [Sum.inr.inj h]⟩⟩
theorem Dao.shp {α : Type} {e : Rep α} {n : Nat} [Dao e n] (h : n ≤ 64) {x : α} (o : okV e x) : SeqAt.shaped (Dao.d e x) = true := by
  unfold SeqAt.shaped
  rw [Dao.lay x o, decide_eq_true (Nat.le_trans (Dao.dep x) h)]; rfl
section
variable {α : Type} {e : Rep α} {K : PySem.W.Frag} {σ : L2.St} {F F' H : Hp} {ta tb : TE} {v w : V} {x y : α} {n : Nat}
theorem c_neO [DecidableEq α] [Dao e n] (ha : Val ta σ H v) (hb : Val tb σ H w) (f : Ex F H) (r : e.r F v x) (g : Ex F' H) (s : e.r F' w y) (o : okV e x ∧ okV e y) (h : n ≤ 64 := by decide) : Val (tOp (rNeD K) ta tb) σ H (.bl (decide (x ≠ y))) :=
  v2 ha hb fun Q k => ⟨_, _, Dao.dp (e.mono f r), Dao.dp (e.mono g s), Dao.shp h o.1, Dao.shp h o.2, by
    have z : PyData.eqv (Dao.d e x) (Dao.d e y) = decide (x = y) := Bool.eq_iff_iff.mpr (by rw [Dao.inj, decide_eq_true_iff])
    rw [z, ← decide_not]; exact k⟩
end
end Wk
namespace Wk
class Ctx (C : Type) where
  Out : Type
  at_ : Out → C → Prop
instance {α : Type} : Ctx (α → Prop) := ⟨α, fun z c => c z⟩
instance {C E : Type} [Ctx C] [Ctx E] : Ctx (C × E) := ⟨Sum (Ctx.Out C) (Ctx.Out E), fun o d => match o with | .inl o => Ctx.at_ o d.1 | .inr o => Ctx.at_ o d.2⟩
def Det {C : Type} [Ctx C] (W : C → Prop) : Prop := ∀ c, W c → (∀ c', W c') ∨ ∃ o : Ctx.Out C, Ctx.at_ o c ∧ ∀ c', Ctx.at_ o c' → W c'
section
variable {C α S β : Type} [Ctx C]
theorem Det.ex {W : α → C → Prop} (h : ∀ x, Det (W x)) : Det (fun c => ∃ x, W x c) := fun c ⟨a, b⟩ => (h a c b).imp (fun q c' => ⟨a, q c'⟩) fun ⟨o, x, y⟩ => ⟨o, x, fun c' q => ⟨a, y c' q⟩⟩
/-- a call -/
theorem Det.call {W : (S → Prop) → Prop} {K : S → C → Prop} (hW : Det W) (hK : ∀ x, Det (K x)) : Det (fun c => W (fun x => K x c)) := fun c h => by
  rcases hW (fun x => K x c) h with h1 | ⟨x, h2, h3⟩
  · exact .inl fun c' => h1 _
  · rcases hK x c h2 with a | ⟨o, a, b⟩
    · exact .inl fun c' => h3 (fun x => K x c') (a c')
    · exact .inr ⟨o, a, fun c' q => h3 (fun x => K x c') (b c' q)⟩
theorem Det.mono {W : C → Prop} (h : Det W) {c c' : C} (hc : ∀ o : Ctx.Out C, Ctx.at_ o c → Ctx.at_ o c') (hw : W c) : W c' := by
  rcases h c hw with a | ⟨o, a, b⟩
  · exact a c'
  · exact b c' (hc o a)
theorem Det.fst {E : Type} [Ctx E] {W : C → Prop} (h : Det W) : Det (fun d : C × E => W d.1) := fun d k => by
  rcases h d.1 k with a | ⟨o, a, b⟩
  · exact .inl fun d' => a d'.1
  · exact .inr ⟨.inl o, a, fun d' q => b d'.1 q⟩
end
end Wk
namespace Wk
open PySem L2
end Wk
namespace Wk
open PySem L2 ClX
abbrev WireV := Sum (Str × Nat) (Sum (Str × List Str) (Str × Str × Nat))
def pW (I S T : Addr) : Rep WireV := pAlt (pO2 I "name" "number" pS pN) (pAlt (pO2 S "name" "wires" pS (pTL pS)) (pO3 T "name" "wire" "number" pS pS pN))
theorem Md.mono {P : Program} {w : World} {K : PySem.W.Frag} {mg : Str → Option Value} {base : Heap} {CX : CXT} {j k : Nat} {C : Addr} {m : Str} {ps : List Str} {sp : Sp} (M : Md P w K mg base CX j C m ps sp) (h : j ≤ k) : Md P w K mg base CX k C m ps sp := let ⟨f, fd, F, a, b⟩ := M.ex; ⟨f, fd, F.mono h, a, b⟩
def pT4 {α β γ δ : Type} (e : Rep α) (f : Rep β) (g : Rep γ) (h : Rep δ) : Rep (α × β × γ × δ) := ⟨fun F v x => ∃ p u w y z, v = .ref p ∧ F p = some (.tup [u, w, y, z]) ∧ e.r F u x.1 ∧ f.r F w x.2.1 ∧ g.r F y x.2.2.1 ∧ h.r F z x.2.2.2, fun ex ⟨p, u, w, y, z, a, b, c, d, k, l⟩ => ⟨p, u, w, y, z, a, ex _ _ b, e.mono ex c, f.mono ex d, g.mono ex k, h.mono ex l⟩⟩
end Wk
namespace Wk
open PySem L2
section
variable {α : Type} {e : Rep α} {K : PySem.W.Frag} {σ : L2.St} {F0 H0 F H F' H' : Hp} {v : V} {xs : List α} {p q : Addr} {Q : VK} {ta : TE}
theorem BL.made (b : BL e F H p xs) {x dx : Addr} {o o' : HO} (nx : H x = none) (nd : H dx = none) : BL e F (upd (upd H dx o) x o') p xs := by
  obtain ⟨vs, hp, a⟩ := b.x
  exact ⟨vs, by rw [upd_ne (ne_of_none hp nx), upd_ne (ne_of_none hp nd)]; exact hp, a⟩
end
end Wk
namespace Wk
open PySem L2
/-- the heap without some places -/
def woL (H : Hp) (L : List Addr) : Hp := fun a => if a ∈ L then none else H a
section
variable {α β κ : Type} [KeyT κ] {e : Rep α} {F0 H0 F F' H H' : Hp} {L : List Addr} {p d : Addr} {o : HO} {xs : List α} {m : List (κ × α)} {C dx : Addr} {fs : List (Str × V)}
theorem woL_in (h : d ∈ L) : woL H L d = none := if_pos h
theorem woL_out (h : d ∉ L) : woL H L d = H d := if_neg h
theorem woL_sub : Ex (woL H L) H := fun a u q => by
  by_cases c : a ∈ L
  · rw [woL_in c] at q; cases q
  · rw [woL_out c] at q; exact q
theorem Xc.fromL {H1 : Hp} (x : Xc H1 F' H' p o) (z : H0 p = none) : Xc H0 F' H' p o := ⟨z, x.n, x.h⟩
theorem XL.fromL {H1 : Hp} (x : XL e H1 F' H' p xs) (z : H0 p = none) : XL e H0 F' H' p xs := let ⟨vs, a, b⟩ := x.x; ⟨vs, a.fromL z, b⟩
theorem XD.fromL {H1 : Hp} (x : XD e H1 F' H' p m) (z : H0 p = none) : XD e H0 F' H' p m := let ⟨vs, a, b⟩ := x.x; ⟨vs, a.fromL z, b⟩
theorem XL.nF (x : XL e H0 F H p xs) : F p = none := let ⟨_, a, _⟩ := x.x; a.n
theorem XD.nF (x : XD e H0 F H p m) : F p = none := let ⟨_, a, _⟩ := x.x; a.n
end
section
variable {α β κ : Type} [DecidableEq κ] [KeyT κ] {e : Rep α} {b : Rep β} {K : PySem.W.Frag} {σ : L2.St} {F0 H0 F H : Hp} {d ob C dx : Addr} {fs : List (Str × V)} {m : List (κ × β)} {Q : VK} {g : TG} {te to : TE} {tc : TT} {vs : List Nat}
theorem DA.got : ∀ {kvs : List (Key × V)} {m : List (κ × β)} {i : Nat} {k : Key} {v : V}, DA b F kvs m → kvs[i]? = some (k, v) → ∃ q, m[i]? = some q ∧ b.r F v q.2
  | [], [], _, _, _, _, h => by simp at h
  | p :: r, q :: s, 0, k, v, ⟨_, c, _⟩, h => by
    simp at h
    subst h
    exact ⟨q, rfl, c⟩
  | p :: r, q :: s, i + 1, k, v, ⟨_, _, c⟩, h => by
    obtain ⟨z, h1, h2⟩ := DA.got (i := i) c (by simpa using h)
    exact ⟨z, by simpa using h1, h2⟩
  | [], _ :: _, _, _, _, q, _ => q.elim
  | _ :: _, [], _, _, _, q, _ => q.elim
/-- things that hold nothing but objects and tuples -/
def NoD {α : Type} (e : Rep α) : Prop := ∀ (F G : Hp) (d : Addr) (v : V) (x : α), (∀ a o, a ≠ d → F a = some o → G a = some o) → (∀ C dx fs, F d ≠ some (.ins C dx fs)) → (∀ us, F d ≠ some (.tup us)) → e.r F v x → e.r G v x
theorem NoD.S : NoD pS := fun _ _ _ _ _ _ _ _ h => h
theorem NoD.N : NoD pN := fun _ _ _ _ _ _ _ _ h => h
theorem NoD.all (n : NoD e) {F G : Hp} {d : Addr} (h : ∀ a o, a ≠ d → F a = some o → G a = some o) (h1 : ∀ C dx fs, F d ≠ some (.ins C dx fs)) (h2 : ∀ us, F d ≠ some (.tup us)) : ∀ {us : List V} {xs : List α}, All e F us xs → All e G us xs
  | [], [], _ => trivial
  | _ :: _, _ :: _, ⟨a, c⟩ => ⟨n F G d _ _ h h1 h2 a, NoD.all n h h1 h2 c⟩
  | [], _ :: _, q => q.elim
  | _ :: _, [], q => q.elim
theorem NoD.TL (n : NoD e) : NoD (pTL e) := fun F G d v x h h1 h2 ⟨p, us, a, b, c⟩ => ⟨p, us, a, h p _ (fun z => h2 us (by rw [← z]; exact b)) b, n.all h h1 h2 c⟩
theorem NoD.O2 {γ : Type} {f : Rep γ} {C : Addr} {a c : Str} (n : NoD e) (k : NoD f) : NoD (pO2 C a c e f) := fun F G d v x h h1 h2 ⟨p, dx, fs, a, b, u, w, q, r1, r2⟩ => ⟨p, dx, fs, a, h p _ (fun z => h1 C dx fs (by rw [← z]; exact b)) b, u, w, q, n F G d _ _ h h1 h2 r1, k F G d _ _ h h1 h2 r2⟩
theorem NoD.O3 {γ δ : Type} {f : Rep γ} {i : Rep δ} {C : Addr} {a c l : Str} (n : NoD e) (k : NoD f) (j : NoD i) : NoD (pO3 C a c l e f i) := fun F G d v x h h1 h2 ⟨p, dx, fs, a, b, u, w, y, q, r1, r2, r3⟩ => ⟨p, dx, fs, a, h p _ (fun z => h1 C dx fs (by rw [← z]; exact b)) b, u, w, y, q, n F G d _ _ h h1 h2 r1, k F G d _ _ h h1 h2 r2, j F G d _ _ h h1 h2 r3⟩
theorem NoD.W {I S T : Addr} : NoD (pW I S T) := fun F G d v x h h1 h2 r => match x, r with
  | .inl _, r => NoD.O2 NoD.S NoD.N F G d v _ h h1 h2 r
  | .inr (.inl _), r => NoD.O2 NoD.S (NoD.TL NoD.S) F G d v _ h h1 h2 r
  | .inr (.inr _), r => NoD.O3 NoD.S NoD.S NoD.N F G d v _ h h1 h2 r
end
def F4s {α β γ δ : Type} (n m l k : Str) (e : Rep α) (f : Rep β) (g : Rep γ) (i : Rep δ) (F : Hp) (fs : List (Str × V)) (x : α × β × γ × δ) : Prop := ∃ u w y t, fs = [(n, u), (m, w), (l, y), (k, t)] ∧ e.r F u x.1 ∧ f.r F w x.2.1 ∧ g.r F y x.2.2.1 ∧ i.r F t x.2.2.2
theorem F4s.mono {α β γ δ : Type} {n m l k : Str} {e : Rep α} {f : Rep β} {g : Rep γ} {i : Rep δ} {F F' : Hp} {fs : List (Str × V)} {x : α × β × γ × δ} (h : Ex F F') : F4s n m l k e f g i F fs x → F4s n m l k e f g i F' fs x := fun ⟨u, w, y, t, a, b, c, d, j⟩ => ⟨u, w, y, t, a, e.mono h b, f.mono h c, g.mono h d, i.mono h j⟩
end Wk
namespace Wk
open PySem L2
section
variable {α : Type} {e : Rep α} {F0 H0 F F' H H' : Hp} {x dx d : Addr} {o u : HO} {xs : List α}
theorem XL.made (r : XL e (wo (upd (upd H dx o) x u) x) F' H' d xs) (hne : d ≠ x) (w : Wf F0 H0 F H) : XL e H0 F' H' d xs ∧ H d = none := by
  have z := r.zero
  rw [wo_ne hne, upd_ne hne] at z
  have hd : d ≠ dx := fun q => by rw [q, upd_same] at z; cases z
  rw [upd_ne hd] at z
  exact ⟨r.fromL (w.h.non z), z⟩
end
end Wk
namespace Wk
open PySem L2
end Wk
namespace Wk
open PySem L2
end Wk
namespace Wk
open PySem L2
instance {α β γ δ : Type} {e : Rep α} {f : Rep β} {g : Rep γ} {i : Rep δ} {n m k l : Nat} [Dao e n] [Dao f m] [Dao g k] [Dao i l] : Dao (pT4 e f g i) (max n (max m (max k l)) + 1) := ⟨fun x => Dao.ok e x.1 ∧ Dao.ok f x.2.1 ∧ Dao.ok g x.2.2.1 ∧ Dao.ok i x.2.2.2, fun x => .tuple [Dao.d e x.1, Dao.d f x.2.1, Dao.d g x.2.2.1, Dao.d i x.2.2.2], fun {K F v x} h => by
    obtain ⟨p, u, w, y, z, rfl, hp, a, b, c, d⟩ := h
    exact .tup (SqT.of hp) (.cons (Dao.dp a) (.cons (Dao.dp b) (.cons (Dao.dp c) (.cons (Dao.dp d) .nil)))), fun x h => by
    show (PyData.canLay0 (Dao.d e x.1) && (PyData.canLay0 (Dao.d f x.2.1) && (PyData.canLay0 (Dao.d g x.2.2.1) && (PyData.canLay0 (Dao.d i x.2.2.2) && PyData.canLayAll0 [])))) = true
    rw [Dao.lay _ h.1, Dao.lay _ h.2.1, Dao.lay _ h.2.2.1, Dao.lay _ h.2.2.2]; rfl, fun x => by
    have a := Dao.dep (e := e) x.1
    have b := Dao.dep (e := f) x.2.1
    have c := Dao.dep (e := g) x.2.2.1
    have d := Dao.dep (e := i) x.2.2.2
    simp only [PyData.depth, PyData.depthAll]
    omega, fun x y => by
    show (PyData.eqv (Dao.d e x.1) (Dao.d e y.1) && (PyData.eqv (Dao.d f x.2.1) (Dao.d f y.2.1) && (PyData.eqv (Dao.d g x.2.2.1) (Dao.d g y.2.2.1) && (PyData.eqv (Dao.d i x.2.2.2) (Dao.d i y.2.2.2) && PyData.eqvAll [] [])))) = true ↔ _
    have z : PyData.eqvAll [] [] = true := rfl
    rw [z, Bool.and_true, Bool.and_eq_true, Bool.and_eq_true, Bool.and_eq_true, Dao.inj, Dao.inj, Dao.inj, Dao.inj, Prod.ext_iff, Prod.ext_iff, Prod.ext_iff]⟩
end Wk
namespace Wk
open PySem L2
end Wk
namespace Wk
open PySem L2
end Wk
namespace Wk
open PySem L2
theorem bm_ty {α : Type} {e : Rep α} {K : PySem.W.Frag} {H0 F H : Hp} {p : Addr} {xs : List α} (z : XL e H0 F H p xs) : tyV K "list" (.ref p) H := let ⟨_, a, _⟩ := z.x; Or.inl ⟨rfl, _, Or.inl (Or.inl a.h)⟩
end Wk
namespace Wk
open PySem L2
end Wk
namespace Wk
open PySem L2 ClX
end Wk
namespace Wk
open PySem L2 ClX
end Wk
namespace Wk
open PySem L2 ClX
/-- the dict of an exception with one field -/
def pXd {α : Type} (f : Str) (e : Rep α) : Rep α := ⟨fun F v z => ∃ d w, v = .ref d ∧ F d = some (.xd [(f, w)]) ∧ e.r F w z, fun h q => by
  obtain ⟨d, w, rfl, hd, r⟩ := q
  exact ⟨d, w, rfl, h _ _ hd, e.mono h r⟩⟩
section
variable {α : Type} {f : Str} {e : Rep α} {F H : Hp} {d a C : Addr} {v w : V} {z : α} {K : PySem.W.Frag} {i : Nat} {σ : L2.St}
theorem pXd.get (r : (pXd f e).r F (.ref d) z) : ∃ w, F d = some (.xd [(f, w)]) ∧ e.r F w z := by
  obtain ⟨d', w, q, hd, r⟩ := r
  cases q
  exact ⟨w, hd, r⟩
end
end Wk
namespace Wk
open PySem PySem.Spec PySem.Calls PyProof.Rows L2 PySem.W
end Wk
namespace Wk
open PySem PySem.Spec PyProof.Rows L2
end Wk
namespace Wk
open PySem L2 ClX
end Wk
namespace Wk
open PySem L2
mutual
/-- as data (what is only of a told kind: nothing) -/
def dA : An → PyData
  | .i n => .int n
  | .b b => .bool b
  | .n => .none
  | .s x => .str x
  | .o _ => .none
  | .l xs => .list (dAs xs)
  | .t xs => .tuple (dAs xs)
def dAs : List An → List PyData
  | [] => []
  | x :: xs => dA x :: dAs xs
end
mutual
def anP : An → Bool
  | .o _ => false
  | .l xs => anPs xs
  | .t xs => anPs xs
  | .i _ => true
  | .b _ => true
  | .n => true
  | .s _ => true
def anPs : List An → Bool
  | [] => true
  | x :: xs => anP x && anPs xs
end
/-- can be compared -/
def aok (x : An) : Bool := anP x && SeqAt.shaped (dA x)
/-- compared -/
def aeq (x y : An) : Bool := PyData.eqv (dA x) (dA y)
mutual
theorem dp_A {K : PySem.W.Frag} {F : Hp} : ∀ {x : An} {v : V}, pA.r F v x → anP x = true → Dp K F v (dA x)
  | .i n, v, r, _ => by cases (show v = V.int n from r); exact .int _
  | .b b, v, r, _ => by cases (show v = V.bl b from r); exact .bl _
  | .n, v, r, _ => by cases (show v = V.non from r); exact .non
  | .s x, v, r, _ => by cases (show v = V.str x from r); exact .str _
  | .o T, _, _, h => by cases h
  | .l xs, v, r, h => by
    obtain ⟨p, vs, rfl, hp, a⟩ := (show ∃ p vs, v = .ref p ∧ F p = some (.lst vs) ∧ anRs F xs vs from r)
    exact .lst (SqL.of hp) (dp_As a h)
  | .t xs, v, r, h => by
    obtain ⟨p, vs, rfl, hp, a⟩ := (show ∃ p vs, v = .ref p ∧ F p = some (.tup vs) ∧ anRs F xs vs from r)
    exact .tup (SqT.of hp) (dp_As a h)
theorem dp_As {K : PySem.W.Frag} {F : Hp} : ∀ {xs : List An} {vs : List V}, anRs F xs vs → anPs xs = true → DpAll K F vs (dAs xs)
  | [], [], _, _ => .nil
  | x :: xs, v :: vs, ⟨a, b⟩, h => by
    obtain ⟨h1, h2⟩ := Bool.and_eq_true_iff.mp h
    exact .cons (dp_A a h1) (dp_As b h2)
  | [], _ :: _, r, _ => r.elim
  | _ :: _, [], r, _ => r.elim
end
section
variable {K : PySem.W.Frag} {σ : L2.St} {F F' H : Hp} {ta tb : TE} {v w : V} {x y : An}
theorem c_neA (ha : Val ta σ H v) (hb : Val tb σ H w) (f : Ex F H) (r : pA.r F v x) (g : Ex F' H) (s : pA.r F' w y) (h : aok x = true ∧ aok y = true) : Val (tOp (rNeD K) ta tb) σ H (.bl (decide (¬ aeq x y = true))) := by
  obtain ⟨a1, a2⟩ := Bool.and_eq_true_iff.mp h.1
  obtain ⟨b1, b2⟩ := Bool.and_eq_true_iff.mp h.2
  exact v2 ha hb fun Q k => ⟨_, _, dp_A (pA.mono f r) a1, dp_A (pA.mono g s) b1, a2, b2, by
    have z : (!PyData.eqv (dA x) (dA y)) = decide (¬ aeq x y = true) := by
      unfold aeq
      cases PyData.eqv (dA x) (dA y) <;> rfl
    rw [z]; exact k⟩
end
end Wk
namespace Wk
open PySem L2
/-- a list of two, of three things of unlike kinds -/
def pH2 {α β : Type} (e : Rep α) (f : Rep β) : Rep (α × β) := ⟨fun F v x => ∃ p u w, v = .ref p ∧ F p = some (.lst [u, w]) ∧ e.r F u x.1 ∧ f.r F w x.2, fun h ⟨p, u, w, a, b, c, d⟩ => ⟨p, u, w, a, h _ _ b, e.mono h c, f.mono h d⟩⟩
def pH3 {α β γ : Type} (e : Rep α) (f : Rep β) (g : Rep γ) : Rep (α × β × γ) := ⟨fun F v x => ∃ p u w y, v = .ref p ∧ F p = some (.lst [u, w, y]) ∧ e.r F u x.1 ∧ f.r F w x.2.1 ∧ g.r F y x.2.2, fun h ⟨p, u, w, y, a, b, c, d, k⟩ => ⟨p, u, w, y, a, h _ _ b, e.mono h c, f.mono h d, g.mono h k⟩⟩
section
variable {α β γ : Type} {e : Rep α} {f : Rep β} {g : Rep γ} {K : PySem.W.Frag} {F0 H0 F H : Hp} {v w u : V} {x : α} {y : β} {z : γ} {Q : VK} {n m k : Nat}
instance [Dat e n] [Dat f m] : Dat (pH2 e f) (max n m + 1) := ⟨fun x => .list [Dat.d e x.1, Dat.d f x.2], fun {K F v x} h => by
    obtain ⟨p, u, w, rfl, hp, a, b⟩ := h
    exact .lst (SqL.of hp) (.cons (Dat.dp a) (.cons (Dat.dp b) .nil)), fun x => by
    show (PyData.canLay0 (Dat.d e x.1) && (PyData.canLay0 (Dat.d f x.2) && PyData.canLayAll0 [])) = true
    rw [Dat.lay, Dat.lay]; rfl, fun x => by
    have a := Dat.dep (e := e) x.1
    have b := Dat.dep (e := f) x.2
    simp only [PyData.depth, PyData.depthAll]
    omega, fun x y => by
    show (PyData.eqv (Dat.d e x.1) (Dat.d e y.1) && (PyData.eqv (Dat.d f x.2) (Dat.d f y.2) && PyData.eqvAll [] [])) = true ↔ _
    have z : PyData.eqvAll [] [] = true := rfl
    rw [z, Bool.and_true, Bool.and_eq_true, Dat.inj, Dat.inj, Prod.ext_iff]⟩
instance [Dat e n] [Dat f m] [Dat g k] : Dat (pH3 e f g) (max n (max m k) + 1) := ⟨fun x => .list [Dat.d e x.1, Dat.d f x.2.1, Dat.d g x.2.2], fun {K F v x} h => by
    obtain ⟨p, u, w, y, rfl, hp, a, b, c⟩ := h
    exact .lst (SqL.of hp) (.cons (Dat.dp a) (.cons (Dat.dp b) (.cons (Dat.dp c) .nil))), fun x => by
    show (PyData.canLay0 (Dat.d e x.1) && (PyData.canLay0 (Dat.d f x.2.1) && (PyData.canLay0 (Dat.d g x.2.2) && PyData.canLayAll0 []))) = true
    rw [Dat.lay, Dat.lay, Dat.lay]; rfl, fun x => by
    have a := Dat.dep (e := e) x.1
    have b := Dat.dep (e := f) x.2.1
    have c := Dat.dep (e := g) x.2.2
    simp only [PyData.depth, PyData.depthAll]
    omega, fun x y => by
    show (PyData.eqv (Dat.d e x.1) (Dat.d e y.1) && (PyData.eqv (Dat.d f x.2.1) (Dat.d f y.2.1) && (PyData.eqv (Dat.d g x.2.2) (Dat.d g y.2.2) && PyData.eqvAll [] []))) = true ↔ _
    have z : PyData.eqvAll [] [] = true := rfl
    rw [z, Bool.and_true, Bool.and_eq_true, Bool.and_eq_true, Dat.inj, Dat.inj, Dat.inj, Prod.ext_iff, Prod.ext_iff]⟩
end
end Wk
namespace Wk
open PySem L2
end Wk
namespace Wk
open PySem L2
end Wk
namespace Wk
open PySem L2
end Wk
namespace Wk
open PySem PySem.Spec PyProof.Rows L2
end Wk
namespace Wk
open PySem PySem.Spec PyProof.Rows L2
/-- reversed(x), the next place i -/
def IsRv (h : Heap) (a : Addr) (x : Str) (t : Tok) (i : Int) : Prop := ∃ ob, h.get? a = some ob ∧ ob.cls = .type "reversed" ∧ ob.data = .fields #[.str x t, rawInt i]
section
variable {prog : Program} {w : World} {A : Around} {E : Value → Shared → Prop} {s : Shared}
theorem IsRv.ty {a : Addr} {x : Str} {t : Tok} {i : Int} (q : IsRv s.heap a x t i) : s.TypeIs (.ref a) "reversed" := let ⟨ob, ho, hc, _⟩ := q; ⟨ob, ho, hc⟩
end
end Wk
namespace Wk
open PySem PySem.Spec PyProof.Rows L2
/-- isinstance of the exception that is held and a class of the language's own -/
def tIsET (K : PySem.W.Frag) (i : Nat) (cls : Value) (d : Option Addr) (a : Addr) (T : String) : TE := fun σ H Q => ∃ (D : Addr) (b : Bool), cls = .ref D ∧ d = none ∧ ExcC K D ∧ PySem.W.kitOne K (.ref D) (.type T) = some b ∧ σ[i]? = some (some (.ref a)) ∧ Q (.bl b) H
theorem pe_isET {X : Cx} {a : Addr} {T : String} {oe : Obj} {cls : Value} {d : Option Addr} {pn : List (Addr × Obj)} {i : Nat} {x c : Str} {pf px pc pos : Pos} (hz : Zc cls d oe) (hf : ∃ vs, oe.data = .fields vs) (hg : Gl X "isinstance") (hm : X.mg "isinstance" = none)
    (hx : PE (X.suite a ((a, oe) :: pn)) (.Name x px) (tVar i)) (hcl : PE (X.suite a ((a, oe) :: pn)) (.Name c pc) (tC (.ty T)))
    (he : starEach [.Name x px, .Name c pc] X.env = (false, eval (.Name x px) X.env) :: starEach [.Name c pc] X.env := by rfl) (he2 : starEach [.Name c pc] X.env = (false, eval (.Name c pc) X.env) :: starEach [] X.env := by rfl)
    (hpl : (backTo pos (starEach [.Name c pc] X.env)).any (·.1) = false := by rfl) :
    PE (X.suite a ((a, oe) :: pn)) (.Call (.Name "isinstance" pf) [.Name x px, .Name c pc] [] pos) (tIsET X.K i cls d a T) := by
  refine ⟨fun pins s σ H Q I h => ?_⟩
  obtain ⟨D, b, rfl, rfl, hC, hk, hs, q⟩ := h
  have ha : PA (X.suite a ((a, oe) :: pn)) [.Name x px, .Name c pc] (tCons (tVar i) (tCons (tC (.ty T)) tNil)) := pa_cons hx (pa_cons hcl pa_nil)
  exact (pe_callB (X := X.suite a ((a, oe) :: pn)) (call_isE (X := X) (pn := pn) hC hz hf) hg hm PyProof.Rows.boot_isinstance ha (by decide) (by decide) he hpl).run pins s σ H Q I
    ⟨_, hs, _, _, b, rfl, fun u ru => (show u = Value.type T from ru), hk, q⟩
theorem kit_ty {K : PySem.W.Frag} {S : Addr} {T : String} {b : Bool} (hT : PySem.W.kitMeta T = true) (h : PySem.W.subIn K (.ref S) (.type T) = some b) : PySem.W.kitOne K (.ref S) (.type T) = some b := by
  show (if ((Value.ref S == Value.type T) = true) then some true else (if PySem.W.kitMeta T = true then PySem.W.subIn K (.ref S) (.type T) else none)) = some b
  rw [if_neg (by intro z; cases beq_iff_eq.mp z), if_pos hT]; exact h
end Wk
namespace Wk
open PySem PySem.Spec PyProof.Rows L2
end Wk
namespace Wk
open PySem L2
end Wk
namespace Wk
open PySem PySem.Spec PyProof.Rows L2
end Wk
namespace Wk
open PySem L2
instance {α β γ δ : Type} {e : Rep α} {f : Rep β} {g : Rep γ} {i : Rep δ} {n m k l : Nat} [Dao e n] [Dao f m] [Dao g k] [Dao i l] : Dao (pT4 e f g i) (max n (max m (max k l)) + 1) := ⟨fun x => Dao.ok e x.1 ∧ Dao.ok f x.2.1 ∧ Dao.ok g x.2.2.1 ∧ Dao.ok i x.2.2.2, fun x => .tuple [Dao.d e x.1, Dao.d f x.2.1, Dao.d g x.2.2.1, Dao.d i x.2.2.2], fun {K F v x} h => by
    obtain ⟨p, u, w, y, z, rfl, hp, a, b, c, d⟩ := h
    exact .tup (SqT.of hp) (.cons (Dao.dp a) (.cons (Dao.dp b) (.cons (Dao.dp c) (.cons (Dao.dp d) .nil)))), fun x h => by
    show (PyData.canLay0 (Dao.d e x.1) && (PyData.canLay0 (Dao.d f x.2.1) && (PyData.canLay0 (Dao.d g x.2.2.1) && (PyData.canLay0 (Dao.d i x.2.2.2) && PyData.canLayAll0 [])))) = true
    rw [Dao.lay _ h.1, Dao.lay _ h.2.1, Dao.lay _ h.2.2.1, Dao.lay _ h.2.2.2]; rfl, fun x => by
    have a := Dao.dep (e := e) x.1
    have b := Dao.dep (e := f) x.2.1
    have c := Dao.dep (e := g) x.2.2.1
    have d := Dao.dep (e := i) x.2.2.2
    simp only [PyData.depth, PyData.depthAll]
    omega, fun x y => by
    show (PyData.eqv (Dao.d e x.1) (Dao.d e y.1) && (PyData.eqv (Dao.d f x.2.1) (Dao.d f y.2.1) && (PyData.eqv (Dao.d g x.2.2.1) (Dao.d g y.2.2.1) && (PyData.eqv (Dao.d i x.2.2.2) (Dao.d i y.2.2.2) && PyData.eqvAll [] [])))) = true ↔ _
    have z : PyData.eqvAll [] [] = true := rfl
    rw [z, Bool.and_true, Bool.and_eq_true, Bool.and_eq_true, Bool.and_eq_true, Dao.inj, Dao.inj, Dao.inj, Dao.inj, Prod.ext_iff, Prod.ext_iff, Prod.ext_iff]⟩
instance decSum {α β : Type} [DecidableEq α] [DecidableEq β] : DecidableEq (Sum α β) := instDecidableEqSum
/-- never alike -/
class Dsj {α β : Type} (e : Rep α) (f : Rep β) (n m : outParam Nat) [Dao e n] [Dao f m] : Prop where
  l : ∀ x y, PyData.eqv (Dao.d e x) (Dao.d f y) = false
  r : ∀ x y, PyData.eqv (Dao.d f y) (Dao.d e x) = false
instance {α β γ α' β' γ' δ' : Type} {e : Rep α} {f : Rep β} {g : Rep γ} {e' : Rep α'} {f' : Rep β'} {g' : Rep γ'} {i' : Rep δ'} {n m k n' m' k' l' : Nat} [Dao e n] [Dao f m] [Dao g k] [Dao e' n'] [Dao f' m'] [Dao g' k'] [Dao i' l'] :
    Dsj (pT3 e f g) (pT4 e' f' g' i') (max n (max m k) + 1) (max n' (max m' (max k' l')) + 1) := ⟨fun x y => by
    show (PyData.eqv _ _ && (PyData.eqv _ _ && (PyData.eqv _ _ && false))) = false
    rw [Bool.and_false, Bool.and_false, Bool.and_false], fun x y => by
    show (PyData.eqv _ _ && (PyData.eqv _ _ && (PyData.eqv _ _ && false))) = false
    rw [Bool.and_false, Bool.and_false, Bool.and_false]⟩
instance {α β : Type} {e : Rep α} {f : Rep β} {n m : Nat} [Dao e n] [Dao f m] [D : Dsj e f n m] : Dao (pAlt e f) (max n m) := ⟨fun x => match x with | .inl y => Dao.ok e y | .inr y => Dao.ok f y, fun x => match x with | .inl y => Dao.d e y | .inr y => Dao.d f y, fun {K F v x} h => match x, h with
    | .inl y, h => Dao.dp (e := e) h
    | .inr y, h => Dao.dp (e := f) h, fun x h => match x, h with
    | .inl y, h => Dao.lay (e := e) y h
    | .inr y, h => Dao.lay (e := f) y h, fun x => match x with
    | .inl y => Nat.le_trans (Dao.dep (e := e) y) (Nat.le_max_left ..)
    | .inr y => Nat.le_trans (Dao.dep (e := f) y) (Nat.le_max_right ..), fun x y => match x, y with
    | .inl a, .inl b => (Dao.inj (e := e) a b).trans ⟨fun h => by rw [h], fun h => Sum.inl.inj h⟩
    | .inr a, .inr b => (Dao.inj (e := f) a b).trans ⟨fun h => by rw [h], fun h => Sum.inr.inj h⟩
    | .inl a, .inr b => ⟨fun h => absurd ((D.l a b).symm.trans h) (by decide), fun h => nomatch h⟩
    | .inr a, .inl b => ⟨fun h => absurd ((D.r b a).symm.trans h) (by decide), fun h => nomatch h⟩⟩
end Wk
namespace Wk
open PySem L2
def pT6 {α β γ δ ε ζ : Type} (e : Rep α) (f : Rep β) (g : Rep γ) (h : Rep δ) (i : Rep ε) (j : Rep ζ) : Rep (α × β × γ × δ × ε × ζ) := ⟨fun F v x => ∃ p u1 u2 u3 u4 u5 u6, v = .ref p ∧ F p = some (.tup [u1, u2, u3, u4, u5, u6]) ∧ e.r F u1 x.1 ∧ f.r F u2 x.2.1 ∧ g.r F u3 x.2.2.1 ∧ h.r F u4 x.2.2.2.1 ∧ i.r F u5 x.2.2.2.2.1 ∧ j.r F u6 x.2.2.2.2.2, fun ex ⟨p, u1, u2, u3, u4, u5, u6, a, b, c1, c2, c3, c4, c5, c6⟩ => ⟨p, u1, u2, u3, u4, u5, u6, a, ex _ _ b, e.mono ex c1, f.mono ex c2, g.mono ex c3, h.mono ex c4, i.mono ex c5, j.mono ex c6⟩⟩
end Wk
namespace Wk
open PySem PySem.Spec PyProof.Rows L2 LamX
section
variable {X : Cx} {pins : List (Addr × Obj)} {σ : L2.St} {H : Hp} {s : Shared}
/-- what one sees of the table at P behind the making: c is the lambda's code object -/
structure Made (P : Addr) (q : Str) (ps : Array Value) (H H1 : Hp) (c : Addr) : Prop where
  keep : ∀ r o, H r = some o → r ≠ P → H1 r = some o
  tab : ∃ qs : Array Value, H1 P = some (.tbl qs) ∧ TriplesOk qs.toList ∧ ∀ x u, codeAmong x qs.toList = some u → codeAmong x ps.toList = some u ∨ u = .ref c
  new : H c = none ∨ ∃ x, codeAmong x ps.toList = some (.ref c)
  code : H1 c = some (CodeO c q)
end
structure XT (H0 F H : Hp) (P : Addr) (q : Str) : Prop where
  z : H0 P = none
  nF : F P = none
  t : ∃ ps : Array Value, H P = some (.tbl ps) ∧ TriplesOk ps.toList ∧ ∀ x u, codeAmong x ps.toList = some u → ∃ c, u = .ref c ∧ F c = some (CodeO c q)
section
variable {F0 H0 F H F' H' H1 : Hp} {P p : Addr} {q : Str} {L : List Addr} {o : HO}
theorem XT.zero (x : XT H0 F H P q) : H0 P = none := x.z
theorem XT.ne (x : XT H0 F H P q) (h : H p = none) : P ≠ p := let ⟨_, a, _⟩ := x.t; ne_of_none a h
theorem XT.step (x : XT H0 F H P q) (w : Wf F H F' H') : XT H0 F' H' P q := by
  obtain ⟨ps, a, b, c⟩ := x.t
  refine ⟨x.z, ?_, ps, w.h _ _ a, b, fun y u e => let ⟨d, e1, e2⟩ := c y u e; ⟨d, e1, w.g _ _ e2⟩⟩
  cases h : F' P with
  | none => rfl
  | some y => have := w.n P y h x.nF; rw [a] at this; cases this
theorem XT.kept (x : XT H0 F H P q) (h : ∀ r o, H r = some o → r ≠ p → H' r = some o) (hq : P ≠ p) : XT H0 F H' P q := let ⟨ps, a, b⟩ := x.t; ⟨x.z, x.nF, ps, h _ _ a hq, b⟩
theorem XT.frzO (x : XT H0 F H P q) (h : Fz F F' p) (hq : P ≠ p) (g : Ex F F') : XT H0 F' H P q := let ⟨ps, a, b, c⟩ := x.t; ⟨x.z, h _ hq x.nF, ps, a, b, fun y u e => let ⟨d, e1, e2⟩ := c y u e; ⟨d, e1, g _ _ e2⟩⟩
theorem XT.fromL (x : XT H1 F H P q) (z : H0 P = none) : XT H0 F H P q := ⟨z, x.nF, x.t⟩
/-- the lambda is made: its code stays -/
theorem XT.made {ps : Array Value} {H2 : Hp} {c : Addr} (x : XT H0 F H P q) (w : Wf F0 H0 F H) (hP : H P = some (.tbl ps)) (m : Made P q ps H H2 c) : ∃ F2, Wf F (woL H [P]) F2 H2 ∧ XT (woL H [P]) F2 H2 P q ∧ F2 c = some (CodeO c q) := by
  obtain ⟨ps', a, b, d⟩ := x.t
  rw [hP] at a; cases a
  obtain ⟨qs, q1, q2, q3⟩ := m.tab
  have exH : Ex (woL H [P]) H2 := fun r o e => by
    by_cases h : r ∈ [P]
    · rw [woL_in h] at e; cases e
    · rw [woL_out h] at e; exact m.keep r o e fun z => h (List.mem_singleton.mpr z)
  have exF : Ex F H2 := fun r o e => m.keep r o (w.f r o e) fun z => by rw [z, x.nF] at e; cases e
  by_cases hc : F c = some (CodeO c q)
  · refine ⟨F, ⟨exH, exF, Ex.rfl', fun r o e e0 => by rw [e] at e0; cases e0⟩, ⟨woL_in (List.mem_singleton.mpr rfl), x.nF, qs, q1, q2, fun y u e => ?_⟩, hc⟩
    rcases q3 y u e with z | z
    · exact d y u z
    · exact ⟨c, z, hc⟩
  · have nc : H c = none := m.new.resolve_right fun ⟨y, z⟩ => let ⟨c2, e1, e2⟩ := d y _ z; hc (by cases e1; exact e2)
    have ncF : F c = none := w.f.non nc
    have cP : P ≠ c := ne_of_none hP nc
    refine ⟨upd F c (CodeO c q), ⟨exH, fun r o e => ?_, Ex.new ncF, fun r o e e0 => ?_⟩, ⟨woL_in (List.mem_singleton.mpr rfl), (upd_ne cP).trans x.nF, qs, q1, q2, fun y u e => ?_⟩, upd_same⟩
    · by_cases h : r = c
      · rw [h, upd_same] at e; cases e; rw [h]; exact m.code
      · rw [upd_ne h] at e; exact exF r o e
    · by_cases h : r = c
      · rw [h]; exact woL_sub.non nc
      · rw [upd_ne h, e0] at e; cases e
    · rcases q3 y u e with z | z
      · obtain ⟨c2, e1, e2⟩ := d y u z
        exact ⟨c2, e1, (Ex.new ncF) _ _ e2⟩
      · exact ⟨c, z, upd_same⟩
end
end Wk
namespace Wk
open PySem PySem.Spec PyProof.Rows L2 LamX
/-- statements that are not come to -/
def tCut : TS := fun _ _ _ => False
theorem pss_cut {X : Cx} {sts : List Stmt} : PSs X sts tCut := ⟨fun _ _ _ _ _ _ h => h.elim⟩
end Wk
namespace Wk
open PySem L2 LamX
end Wk
namespace Wk
end Wk
namespace Wk
open PySem L2
end Wk
namespace Wk
open PySem L2
end Wk
namespace Wk
open PySem L2
instance {α : Type} {e : Rep α} {n : Nat} [Dao e n] : Dsj pN (pL e) 0 (n + 1) := ⟨fun x y => rfl, fun x y => rfl⟩
end Wk
namespace Wk
open PySem L2
instance {α β γ α' β' γ' : Type} {e : Rep α} {f : Rep β} {g : Rep γ} {e' : Rep α'} {f' : Rep β'} {g' : Rep γ'} {n m k n' m' k' : Nat} [Dao e n] [Dao f m] [Dao g k] [Dao e' n'] [Dao f' m'] [Dao g' k'] [D : Dsj f f' m m'] :
    Dsj (pT3 e f g) (pT3 e' f' g') (max n (max m k) + 1) (max n' (max m' k') + 1) := ⟨fun x y => by
    show (PyData.eqv _ _ && (PyData.eqv _ _ && (PyData.eqv _ _ && PyData.eqvAll [] []))) = false
    rw [D.l, Bool.false_and, Bool.and_false], fun x y => by
    show (PyData.eqv _ _ && (PyData.eqv _ _ && (PyData.eqv _ _ && PyData.eqvAll [] []))) = false
    rw [D.r, Bool.false_and, Bool.and_false]⟩
end Wk
namespace Wk
open PySem L2
end Wk
namespace Wk
open PySem PySem.Spec PyProof.Rows L2
end Wk
namespace Wk
open PySem L2
def pT0 : Rep Unit := ⟨fun F v _ => ∃ p, v = .ref p ∧ F p = some (.tup []), fun ex ⟨p, a, b⟩ => ⟨p, a, ex _ _ b⟩⟩
end Wk
namespace Wk
open PySem L2
instance : Dao pT0 1 := ⟨fun _ => True, fun _ => .tuple [], fun {K F v x} h => by
    obtain ⟨p, rfl, hp⟩ := h
    exact .tup (SqT.of hp) .nil, fun _ _ => rfl, fun _ => by simp [PyData.depth, PyData.depthAll], fun x y => ⟨fun _ => rfl, fun _ => rfl⟩⟩
instance {α β γ α' β' : Type} {e : Rep α} {f : Rep β} {g : Rep γ} {e' : Rep α'} {f' : Rep β'} {n m k n' m' : Nat} [Dao e n] [Dao f m] [Dao g k] [Dao e' n'] [Dao f' m'] :
    Dsj (pT3 e f g) (pT2 e' f') (max n (max m k) + 1) (max n' m' + 1) := ⟨fun x y => by
    show (PyData.eqv _ _ && (PyData.eqv _ _ && false)) = false
    rw [Bool.and_false, Bool.and_false], fun x y => by
    show (PyData.eqv _ _ && (PyData.eqv _ _ && false)) = false
    rw [Bool.and_false, Bool.and_false]⟩
instance {α β γ : Type} {e : Rep α} {f : Rep β} {g : Rep γ} {n m k : Nat} [Dao e n] [Dao f m] [Dao g k] : Dsj (pT3 e f g) pT0 (max n (max m k) + 1) 1 := ⟨fun _ _ => rfl, fun _ _ => rfl⟩
instance {α β : Type} {e : Rep α} {f : Rep β} {n m : Nat} [Dao e n] [Dao f m] : Dsj (pT2 e f) pT0 (max n m + 1) 1 := ⟨fun _ _ => rfl, fun _ _ => rfl⟩
instance dsjAlt {α β γ : Type} {e : Rep α} {f : Rep β} {g : Rep γ} {n m k : Nat} [Dao e n] [Dao f m] [Dao g k] [Dsj e f n m] [D1 : Dsj e g n k] [D2 : Dsj f g m k] : Dsj (pAlt e f) g (max n m) k := ⟨fun x y => match x with
    | .inl a => D1.l a y
    | .inr a => D2.l a y, fun x y => match x with
    | .inl a => D1.r a y
    | .inr a => D2.r a y⟩
end Wk
namespace Wk
open PySem L2
end Wk
namespace Wk
open PySem L2
end Wk
namespace Wk
open PySem L2
instance {α β γ δ ε ζ : Type} {e : Rep α} {f : Rep β} {g : Rep γ} {i : Rep δ} {j : Rep ε} {k6 : Rep ζ} {n m k l o q : Nat} [Dao e n] [Dao f m] [Dao g k] [Dao i l] [Dao j o] [Dao k6 q] : Dao (pT6 e f g i j k6) (max n (max m (max k (max l (max o q)))) + 1) := ⟨fun x => Dao.ok e x.1 ∧ Dao.ok f x.2.1 ∧ Dao.ok g x.2.2.1 ∧ Dao.ok i x.2.2.2.1 ∧ Dao.ok j x.2.2.2.2.1 ∧ Dao.ok k6 x.2.2.2.2.2, fun x => .tuple [Dao.d e x.1, Dao.d f x.2.1, Dao.d g x.2.2.1, Dao.d i x.2.2.2.1, Dao.d j x.2.2.2.2.1, Dao.d k6 x.2.2.2.2.2], fun {K F v x} h => by
    obtain ⟨p, u1, u2, u3, u4, u5, u6, rfl, hp, a, b, c, d, m, n⟩ := h
    exact .tup (SqT.of hp) (.cons (Dao.dp a) (.cons (Dao.dp b) (.cons (Dao.dp c) (.cons (Dao.dp d) (.cons (Dao.dp m) (.cons (Dao.dp n) .nil)))))), fun x h => by
    show (PyData.canLay0 (Dao.d e x.1) && (PyData.canLay0 (Dao.d f x.2.1) && (PyData.canLay0 (Dao.d g x.2.2.1) && (PyData.canLay0 (Dao.d i x.2.2.2.1) && (PyData.canLay0 (Dao.d j x.2.2.2.2.1) && (PyData.canLay0 (Dao.d k6 x.2.2.2.2.2) && PyData.canLayAll0 [])))))) = true
    rw [Dao.lay _ h.1, Dao.lay _ h.2.1, Dao.lay _ h.2.2.1, Dao.lay _ h.2.2.2.1, Dao.lay _ h.2.2.2.2.1, Dao.lay _ h.2.2.2.2.2]; rfl, fun x => by
    have a := Dao.dep (e := e) x.1
    have b := Dao.dep (e := f) x.2.1
    have c := Dao.dep (e := g) x.2.2.1
    have d := Dao.dep (e := i) x.2.2.2.1
    have m' := Dao.dep (e := j) x.2.2.2.2.1
    have n' := Dao.dep (e := k6) x.2.2.2.2.2
    simp only [PyData.depth, PyData.depthAll]
    omega, fun x y => by
    show (PyData.eqv (Dao.d e x.1) (Dao.d e y.1) && (PyData.eqv (Dao.d f x.2.1) (Dao.d f y.2.1) && (PyData.eqv (Dao.d g x.2.2.1) (Dao.d g y.2.2.1) && (PyData.eqv (Dao.d i x.2.2.2.1) (Dao.d i y.2.2.2.1) && (PyData.eqv (Dao.d j x.2.2.2.2.1) (Dao.d j y.2.2.2.2.1) && (PyData.eqv (Dao.d k6 x.2.2.2.2.2) (Dao.d k6 y.2.2.2.2.2) && PyData.eqvAll [] [])))))) = true ↔ _
    have z : PyData.eqvAll [] [] = true := rfl
    rw [z, Bool.and_true, Bool.and_eq_true, Bool.and_eq_true, Bool.and_eq_true, Bool.and_eq_true, Bool.and_eq_true, Dao.inj, Dao.inj, Dao.inj, Dao.inj, Dao.inj, Dao.inj, Prod.ext_iff, Prod.ext_iff, Prod.ext_iff, Prod.ext_iff, Prod.ext_iff]⟩
structure XA {α : Type} (e : Rep α) (H0 F H : Hp) (p : Addr) (xs : List α) (n : Nat) : Prop where
  x : ∃ vs, Xc H0 F H p (.lst (vs ++ [.int (n : Int)])) ∧ All e F vs xs
section
variable {α : Type} {e : Rep α} {F0 H0 F F' H H' : Hp} {p q : Addr} {xs : List α} {n : Nat} {Q : VK} {K : PySem.W.Frag} {σ : L2.St} {te tp tq : TE}
theorem XA.step (x : XA e H0 F H p xs n) (w : Wf F H F' H') : XA e H0 F' H' p xs n := let ⟨vs, a, b⟩ := x.x; ⟨vs, a.step w, b.mono w.g⟩
theorem XA.ne (x : XA e H0 F H p xs n) (h : H q = none) : p ≠ q := let ⟨_, a, _⟩ := x.x; a.ne h
theorem XA.kept (x : XA e H0 F H q xs n) (h : ∀ q o, H q = some o → q ≠ p → H' q = some o) (hq : q ≠ p) : XA e H0 F H' q xs n := let ⟨vs, a, b⟩ := x.x; ⟨vs, a.kept h hq, b⟩
theorem XA.frzO (x : XA e H0 F H q xs n) (h : Fz F F' p) (hq : q ≠ p) (g : Ex F F') : XA e H0 F' H q xs n := let ⟨vs, a, b⟩ := x.x; ⟨vs, ⟨a.z, h _ hq a.n, a.h⟩, b.mono g⟩
end
end Wk
namespace Wk
instance dec6 {α β γ δ ε ζ : Type} [DecidableEq α] [DecidableEq β] [DecidableEq γ] [DecidableEq δ] [DecidableEq ε] [DecidableEq ζ] : DecidableEq (α × β × γ × δ × ε × ζ) := fun a b => instDecidableEqProd a b
end Wk
namespace Wk
open PySem PySem.Spec PyProof.Rows L2
section
variable {X : Cx} {CX : CXT} {k : Nat} {f C : Addr} {fd : FuncData} {ps : List Str} {sp : Sp} {E : L2.St → XK} {x : Str} {p pos : Pos} {e : Expr} {es : List Expr} {t : TA} {W : WX}
def tMakeS (C : Addr) (sp : Sp) (E : L2.St → XK) (t : TA) : TE := fun σ H Q => t σ H fun vs H1 => ∀ x dx, H1 x = none → H1 dx = none → dx ≠ x → sp (.ref x :: vs) (upd (upd H1 dx (.own x)) x (.ins C dx [])) (fun v H2 => v = .non ∧ Q (.ref x) H2) (E σ)
theorem run_makeS {pins : List (Addr × Obj)} {σ : L2.St} {H : Hp} {s : Shared} {Q : VK} {us : List Value} {vs : List V} (M : Mk X.K C f) (F : FnOk X.prog X.w X.K X.mg X.base CX k f fd ps sp) (hr : Room (k + 1) X.A) (hb : Binds X.K fd ps [])
    (hx : PassesAt CX X σ (E σ)) (I : Inv X pins σ H s) (r : Vals vs us)
    (h : ∀ x dx, H x = none → H dx = none → dx ≠ x → sp (.ref x :: vs) (upd (upd H dx (.own x)) x (.ins C dx [])) (fun v H2 => v = .non ∧ Q (.ref x) H2) (E σ)) :
    wpAny (model X.prog X.w) X.A (call (.ref C) us) (EP X pins σ Q) X.xe s := by
  have hq := h (s.heap.objs.size + 1) s.heap.objs.size (I.hok.fresh (Nat.le_succ _)) (I.hok.fresh (Nat.le_refl _)) (Nat.ne_of_lt (Nat.lt_succ_self _))
  have I2 := Inv.made (C := C) I
  have r2 : Vals (V.ref (s.heap.objs.size + 1) :: vs) (Value.ref (s.heap.objs.size + 1) :: us) := .cons rfl r
  have hl : (Value.ref (s.heap.objs.size + 1) :: us ++ []).length = ps.length := by
    have e := r2.length
    rw [F.len _ _ _ _ hq] at e
    rw [List.append_nil]
    exact e.symm
  have b := hb _ (Value.ref (s.heap.objs.size + 1) :: us) I2.kIn hl
  rw [List.append_nil] at b
  refine wpAny_call (make_map (f := f) I.kIn M.makes M.init (beq_iff_eq.mp M.fn) (codeAny_mono (F.run _ X.stack _ _ ⟨Value.ref (s.heap.objs.size + 1) :: us, []⟩ (Value.ref (s.heap.objs.size + 1) :: us) _ _ (E σ) (hr.make C us [])
    (I2.env0.make C us []) b r2 hq) fun r s' hq' => ?_))
  cases r with
  | error e => exact hx pins _ _ e s' I2 hq'
  | ok fl =>
    cases fl with
    | ret u =>
      obtain ⟨v, H', I3, rv, ev, q3⟩ := I2.after hq'
      subst ev
      exact ⟨rv, ⟨V.ref (s.heap.objs.size + 1), H', I3, rfl, q3⟩⟩
    | next => exact False.elim hq'
    | brk => exact False.elim hq'
    | cont => exact False.elim hq'
theorem pe_nwS (M : Nw X.prog X.w X.K X.mg X.base (L2.CX X.prog X.w) k C x ps sp) (tk : Takes X W) (hr : Room (k + 1) X.A) (hg : Gl X x) (ha : PA X (e :: es) t) (hdb : (x == ("__debug__" : Str)) = false := by decide)
    (he : starEach (e :: es) X.env = (false, eval e X.env) :: starEach es X.env := by rfl) (hpl : (backTo pos (starEach es X.env)).any (·.1) = false := by rfl) : PE X (.Call (.Name x p) (e :: es) [] pos) (tMakeS C sp (WE W) t) := by
  obtain ⟨f, fd, F, hk, hm, hb⟩ := M.ex
  refine ⟨fun pins s σ H Q I h => ?_⟩
  refine wpAny_Call_Name_kw (ld_glob I hg hm ?_ hdb)
  refine PySem.W.callWith_K (h₀ := X.base) I.ok.mod.kin hk.kp (thn (ha.run pos pins s σ H _ I h) fun us s1 ⟨vs, H1, I1, r, q⟩ => ⟨I1.kIn, ?_⟩) he hpl
  exact run_makeS hk F hr hb (passAt tk σ) I1 r q
end
section
variable {σ : L2.St} {H : Hp} {C : Addr} {sp : Sp} {E : L2.St → XK} {t : TA} {Q : VK}
theorem e_nwS (h : t σ H fun vs H1 => ∀ x dx, H1 x = none → H1 dx = none → dx ≠ x → sp (.ref x :: vs) (upd (upd H1 dx (.own x)) x (.ins C dx [])) (fun v H2 => v = .non ∧ Q (.ref x) H2) (E σ)) : tMakeS C sp E t σ H Q := h
theorem Wf.mk2 {F F' H' : Hp} {x dx : Addr} {o u : HO} (nx : H x = none) (nd : H dx = none) (w : Wf F (upd (upd H dx o) x u) F' H') : Wf F H F' H' := by
  refine ⟨fun a v h => w.h a v ?_, w.f, w.g, fun a v h h0 => ?_⟩
  · rw [upd_ne (ne_of_none h nx), upd_ne (ne_of_none h nd)]; exact h
  · have q := w.n a v h h0
    by_cases e : a = x
    · subst e; exact nx
    · rw [upd_ne e] at q
      by_cases e' : a = dx
      · subst e'; exact nd
      · rw [upd_ne e'] at q; exact q
end
end Wk
namespace Wk
open PySem L2
section
variable {α β γ : Type} {e : Rep α} {f : Rep β} {g : Rep γ} {F0 H0 F H : Hp} {K : PySem.W.Frag} {σ : L2.St} {u1 u2 v : V} {Q : VK} {te : TE} {tp tq : TE}
/-- list((a, b)) -/
theorem n_listX2 {x : α × α} (r : (pT2 e e).r F v x) (w : Wf F0 H0 F H) (k : ∀ p H', H p = none → Wf F H F H' → XL e H0 F H' p [x.1, x.2] → Q (.ref p) H') : rListOf K [v] H Q := by
  obtain ⟨p, a, b, rfl, hp, ra, rb⟩ := r
  exact ⟨p, [a, b], rfl, .inr (SqT.of (w.f _ _ hp)), fun l hl => k l _ hl (Wf.newX w.f hl) ⟨[a, b], Xc.mk' w hl, ra, rb, trivial⟩⟩
/-- (a, b) + (c,) -/
theorem n_catT21 {y : α × β} {z : γ} (r : (pT2 e f).r F u1 y) (s : (pTL g).r F u2 [z]) (w : Wf F0 H0 F H) (k : ∀ p F' H', Wf F H F' H' → (pT3 e f g).r F' (.ref p) (y.1, y.2, z) → Q (.ref p) H') : rCatT K u1 u2 H Q := by
  obtain ⟨p, a, b, rfl, hp, ra, rb⟩ := r
  obtain ⟨q, vs, rfl, hq, hv⟩ := s
  match vs, hv with
  | [c], ⟨rc, _⟩ =>
    refine ⟨p, q, [a, b], [c], rfl, rfl, SqT.of (w.f _ _ hp), SqT.of (w.f _ _ hq), by simp, Nat.le_of_lt (small_len (n := 3) (by decide)), (fun z => nomatch z), fun _ l hl => ?_⟩
    have z := Ex.new (o := .tup [a, b, c]) (w.f.non hl)
    exact k l _ _ (Wf.new w.f hl) ⟨l, a, b, c, rfl, upd_same, e.mono z ra, f.mono z rb, g.mono z rc⟩
  | [], h => exact h.elim
  | _ :: _ :: _, ⟨_, h⟩ => exact h.elim
end
end Wk
namespace Wk
open PySem L2
section
variable {α β : Type} {e : Rep α} {f : Rep β} {F0 H0 F H : Hp} {K : PySem.W.Frag} {σ : L2.St} {v : V} {Q : VK} {te : TE}
/-- (a, b)[:1] -/
theorem n_cutT2 {tp tq} {x : α × β} (r : (pT2 e f).r F v x) (hv : Val te σ H v) (h1 : Part tp σ H none) (h2 : Part tq σ H (some 1)) (w : Wf F0 H0 F H) (k : ∀ p F' H', Wf F H F' H' → (pTL e).r F' (.ref p) [x.1] → Q (.ref p) H') : tSl (rSlT K) te tp tq σ H Q := by
  obtain ⟨p, a, b, rfl, hp, ra, rb⟩ := r
  exact hv _ (h1 _ (h2 _ ⟨p, [a, b], rfl, SqT.of (w.f _ _ hp), fun z => absurd (show HT.sIx 2 2 (some 1) = 2 from z.2) (by decide), fun l hl => by
    rw [cutV_T]
    exact k l _ _ (Wf.new w.f hl) ⟨l, [a], rfl, upd_same, e.mono (Ex.new (w.f.non hl)) ra, trivial⟩⟩))
end
end Wk
namespace Wk
open PySem L2
section
variable {α β γ : Type} {e : Rep α} {f : Rep β} {g : Rep γ} {F0 H0 F F2 F' H H' : Hp} {p q : Addr} {v : V} {xs : List α} {ys : List β} {m : γ}
/-- two lists of one's own were lent, nothing of the result is a list: they are one's own again -/
theorem lend_back2 (x : XL e H0 F H p xs) (y : XL f H0 F H q ys) (hpq : p ≠ q) (gF : Ex F F2) (fz : ∀ a, a ≠ p → a ≠ q → F a = none → F2 a = none) (rp : (pL e).r F2 (.ref p) xs) (rq : (pL f).r F2 (.ref q) ys)
    (w : Wf F2 H F' H') (N : NoL g) (r : g.r F' v m) : ∃ F3, Wf F H F3 H' ∧ g.r F3 v m ∧ XL e H0 F3 H' p xs ∧ XL f H0 F3 H' q ys := by
  obtain ⟨vs, a, ax⟩ := x.x
  obtain ⟨us, b, bx⟩ := y.x
  obtain ⟨p', vs2, e1, hp, _⟩ := rp
  obtain ⟨q', us2, e2, hq, _⟩ := rq
  cases e1; cases e2
  have s3 : Ex (fun c => if c = p then none else if c = q then none else F' c) F' := fun c o h => by
    by_cases h1 : c = p
    · simp [h1] at h
    · by_cases h2 : c = q
      · simp [h1, h2] at h
      · simpa [h1, h2] using h
  have s1 : Ex (Wk.nl F') (fun c => if c = p then none else if c = q then none else F' c) := fun c o h => by
    have hc := nl_sub c o h
    have n1 : c ≠ p := fun z => by
      subst z
      unfold Wk.nl at h
      rw [w.g _ _ hp] at h
      cases h
    have n2 : c ≠ q := fun z => by
      subst z
      unfold Wk.nl at h
      rw [w.g _ _ hq] at h
      cases h
    simp [n1, n2, hc]
  have s2 : Ex F (fun c => if c = p then none else if c = q then none else F' c) := fun c o h => by
    have n1 : c ≠ p := fun z => by rw [z, a.n] at h; cases h
    have n2 : c ≠ q := fun z => by rw [z, b.n] at h; cases h
    simp [n1, n2, w.g _ _ (gF _ _ h)]
  refine ⟨_, ⟨w.h, s3.tr w.f, s2, fun c o h h0 => ?_⟩, g.mono s1 (N r), ⟨vs, ⟨a.z, by simp, w.h _ _ a.h⟩, ax.mono s2⟩, ⟨us, ⟨b.z, by simp, w.h _ _ b.h⟩, bx.mono s2⟩⟩
  by_cases h1 : c = p
  · simp [h1] at h
  · by_cases h2 : c = q
    · simp [h1, h2] at h
    · exact w.n c o (s3 c o h) (fz c h1 h2 h0)
theorem fz2 {F1 : Hp} (a : Fz F F1 p) (b : Fz F1 F2 q) : ∀ c, c ≠ p → c ≠ q → F c = none → F2 c = none := fun c h1 h2 h => b c h2 (a c h1 h)
/-- a list of two lists that are lent -/
theorem L2_up (r : (pL pV).r F v [.ref p, .ref q]) (h : Ex F F2) (rp : (pL e).r F2 (.ref p) xs) {zs : List α} (rq : (pL e).r F2 (.ref q) zs) : (pL (pL e)).r F2 v [xs, zs] := by
  obtain ⟨l, vs, rfl, hl, a⟩ := r
  match vs, a with
  | [u, w], ⟨ru, rw_, _⟩ =>
    obtain rfl : u = V.ref p := ru
    obtain rfl : w = V.ref q := rw_
    exact ⟨l, _, rfl, h _ _ hl, rp, rq, trivial⟩
end
end Wk
namespace Wk
open PySem L2
theorem XL_any {α : Type} {e : Rep α} {f : α → An} (h : Cv e f) {H0 F H : Hp} {p : Addr} {xs : List α} (x : XL e H0 F H p xs) : XL pA H0 F H p (xs.map f) := let ⟨vs, a, b⟩ := x.x; ⟨vs, a, cv_all h b⟩
end Wk
namespace Wk
open PySem L2
/-- None or a list -/
instance {α : Type} {e : Rep α} {n : Nat} [D : Dat e n] : Dat (pO (pL e)) (n + 1) := ⟨fun x => match x with | none => .none | some y => Dat.d (pL e) y, fun {K F v x} h => by
    cases x with
    | none => cases (show v = V.non from h); exact .non
    | some y => exact Dat.dp (show (pL e).r F v y from h), fun x => by
    cases x with
    | none => rfl
    | some y => exact Dat.lay (e := pL e) y, fun x => by
    cases x with
    | none => exact Nat.zero_le _
    | some y => exact Dat.dep (e := pL e) y, fun x y => by
    cases x with
    | none =>
      cases y with
      | none => exact ⟨fun _ => rfl, fun _ => rfl⟩
      | some y => exact ⟨fun h => absurd (show false = true from h) (by simp), fun h => by cases h⟩
    | some x =>
      cases y with
      | none => exact ⟨fun h => absurd (show false = true from h) (by simp), fun h => by cases h⟩
      | some y => exact (Dat.inj (e := pL e) x y).trans ⟨fun h => by rw [h], fun h => by cases h; rfl⟩⟩
end Wk
namespace My
open PySem L2 Wk
def topS (i : Nat) : Stmt := PySem.Challenge.pw_sumwires_k31_machines_made_or_refused.main.body.getD i (.Pass ⟨0, 0, 0, 0⟩)
structure Cz where
  Machine : Addr
  BadTable : Addr
  BadMask : Addr
  WireError : Addr
structure Tz (K : PySem.W.Frag) (mg : Str → Option Value) (cc : Cz) : Prop where
  cl_Machine : Cls K cc.Machine
  na_Machine_inputs : NoAttr K cc.Machine "inputs"
  na_Machine_nexts : NoAttr K cc.Machine "nexts"
  na_Machine_outs : NoAttr K cc.Machine "outs"
  xc_BadTable : XC K mg "BadTable" cc.BadTable
  xc_BadMask : XC K mg "BadMask" cc.BadMask
  xc_WireError : XC K mg "WireError" cc.WireError
  gl_MOST_INPUTS : ∃ u, mg "MOST_INPUTS" = some u ∧ RelV (.int 6) u
  gl_MOST_OUTS : ∃ u, mg "MOST_OUTS" = some u ∧ RelV (.int 6) u
  gl_MOST_STORES : ∃ u, mg "MOST_STORES" = some u ∧ RelV (.int 120) u
  xe_BadTable : ExcC K cc.BadTable
  xt_BadTable_ValueError : PySem.W.kitOne K (.ref cc.BadTable) (.type "ValueError") = some true
  xi_BadTable_BadMask : PySem.W.kitOne K (.ref cc.BadTable) (.ref cc.BadMask) = some false
  xi_BadTable_WireError : PySem.W.kitOne K (.ref cc.BadTable) (.ref cc.WireError) = some true
  xm_BadTable_BadTable : PySem.W.exmOne K (.ref cc.BadTable) (.ref cc.BadTable) = some true
abbrev s_is_whole : Stmt := topS 6
def W_is_whole (thing1 : An) (R : Bool → Prop) : Prop := R (decide (((isA "int" thing1) = true) ∧ (¬ ((isA "bool" thing1) = true))))
def sp_is_whole (K : PySem.W.Frag) (cc : Cz) : Sp := fun vs H Q _ => ∃ (F : Hp) (v1 : V) (thing1 : An) (R : Bool → Prop), vs = [v1] ∧ Ex F H ∧ pA.r F v1 thing1 ∧ W_is_whole thing1 R ∧ ∀ z, R z → ∀ F' H', Wf F H F' H' → Q (.bl (z)) H'
abbrev N_is_whole : List Str := ["thing"]
theorem sc_is_whole : FnScope N_is_whole ["thing"] (defScope s_is_whole) := ⟨rfl, rfl, rfl, by decide +kernel, rfl, by decide +kernel, by decide +kernel⟩
theorem ok_is_whole {P : Program} {w0 : World} {K : PySem.W.Frag} {mg : Str → Option Value} {base : Heap} {f : Addr} {fd : FuncData} {cc : Cz} (T : Tz K mg cc) (FU : Fun K "is_whole" "is_whole" s_is_whole f fd) (hm : mg "is_whole" = some (.ref f)) (hb : Binds K fd ["thing"] []) (n_bool : mg "bool" = none) (n_int : mg "int" = none) (n_isinstance : mg "isinstance" = none) : Fn P w0 K mg base CX0 1 "is_whole" ["thing"] (sp_is_whole K cc) := by
  refine ⟨f, fd, FU.ok sc_is_whole (fun vs H Q E h => ?_) (fun cdv A outer s H0 vs Q E hr h => ?_), hm, FU.kp, hb⟩
  · obtain ⟨_, _, _, _, rfl, _⟩ := h; rfl
  · obtain ⟨F0, v1, thing1, R, rfl, wf, r1, hW, hQ⟩ := h
    have nd := sc_is_whole.nd
    refine ⟨(tRet (tAndV (tCB (rIsi K) (tCons (tVar 0) (tCons (tC (.ty "int")) tNil))) (tNotV (tCB (rIsi K) (tCons (tVar 0) (tCons (tC (.ty "bool")) tNil)))))), (pss_one (ps_ret (pe_and (pe_callB call_isi (by rfl) n_isinstance PyProof.Rows.boot_isinstance (pa_cons (pv 0) (pa_cons (pe_bltn (v := .ty "int") (by rfl) n_int PyProof.Rows.boot_int rfl) pa_nil))) (pe_one (pe_not (pe_callB call_isi (by rfl) n_isinstance PyProof.Rows.boot_isinstance (pa_cons (pv 0) (pa_cons (pe_bltn (v := .ty "bool") (by rfl) n_bool PyProof.Rows.boot_bool rfl) pa_nil)))))))), ?_⟩
    have w := Wf.id wf
    refine a_ret (v := (.bl (decide (((isA "int" thing1) = true) ∧ (¬ ((isA "bool" thing1) = true)))))) (vt_and (vb_of (v_isiA "int" (val_var rfl) r1 w.f) dec_tt) (fun _ => (vt_not (vb_of (v_isiA "bool" (val_var rfl) r1 w.f) dec_tt)))) ?_
    exact hQ _ hW _ _ w
abbrev s_is_mask : Stmt := topS 7
def W_is_mask (thing1 : An) (width1 : Nat) (R : Bool → Prop) : Prop := jn (fun kk => W_is_whole thing1 fun z1 => if z1 = true then (∃ y1 : Int, thing1 = An.i y1 ∧ (width1 < 100000000) ∧ kk (decide (((0 : Nat) : Int) ≤ y1 ∧ y1 < ((2 ^ width1 : Nat) : Int)))) else (kk false)) fun b1 => R b1
def sp_is_mask (K : PySem.W.Frag) (cc : Cz) : Sp := fun vs H Q _ => ∃ (F : Hp) (v1 : V) (thing1 : An) (width1 : Nat) (R : Bool → Prop), vs = [v1, (.int ((width1 : Nat) : Int))] ∧ Ex F H ∧ pA.r F v1 thing1 ∧ W_is_mask thing1 width1 R ∧ ∀ z, R z → ∀ F' H', Wf F H F' H' → Q (.bl (z)) H'
abbrev N_is_mask : List Str := ["thing", "width"]
theorem sc_is_mask : FnScope N_is_mask ["thing", "width"] (defScope s_is_mask) := ⟨rfl, rfl, rfl, by decide +kernel, rfl, by decide +kernel, by decide +kernel⟩
theorem ok_is_mask {P : Program} {w0 : World} {K : PySem.W.Frag} {mg : Str → Option Value} {base : Heap} {f : Addr} {fd : FuncData} {cc : Cz} (T : Tz K mg cc) (FU : Fun K "is_mask" "is_mask" s_is_mask f fd) (hm : mg "is_mask" = some (.ref f)) (hb : Binds K fd ["thing", "width"] []) (c_is_whole : Fn P w0 K mg base CX0 1 "is_whole" ["thing"] (sp_is_whole K cc)) : Fn P w0 K mg base CX0 2 "is_mask" ["thing", "width"] (sp_is_mask K cc) := by
  refine ⟨f, fd, FU.ok sc_is_mask (fun vs H Q E h => ?_) (fun cdv A outer s H0 vs Q E hr h => ?_), hm, FU.kp, hb⟩
  · obtain ⟨_, _, _, _, _, rfl, _⟩ := h; rfl
  · obtain ⟨F0, v1, thing1, width1, R, rfl, wf, r1, hW, hQ⟩ := h
    have nd := sc_is_mask.nd
    refine ⟨(tRet (tAndV (tCall (sp_is_whole K cc) [] E0 (tCons (tVar 0) tNil)) (tChain kLe kLt (tC (.int 0)) (tVar 0) (tOp kShl (tC (.int 1)) (tVar 1))))), (pss_one (ps_ret (pe_and (pe_fn c_is_whole (hr.mono (by decide)) rfl (pa_cons (pv 0) pa_nil)) (pe_one (pe_chain op_le op_lt pe_int (pv 0) (pe_op op_shlW pe_int (pv 1))))))), ?_⟩
    have w := Wf.id wf
    refine a_retE ?_
    refine e_jnV hW (fun b F' H' => b = b ∧ Wf F0 H0 F' H' ∧ Ex F0 F') ?_ ?_
    · intro N1 hN1 hW
      have gx1 : Ex F0 F0 := Ex.rfl'
      refine e_AndV ?_
      refine e_call ?_
      refine a_val (v := v1) (val_var rfl) ?_
      refine a_nil ?_
      refine ⟨F0, (v1), (thing1), _, rfl, w.f, r1, hW, ?_⟩
      intro z1 hW F1 H1 s1
      replace r1 := Rep.mono _ s1.g r1
      replace w := w.tr s1
      replace gx1 := Ex.tr gx1 s1.g
      refine bl_if ?_
      refine bb_if (fun hc1 => ?_) (fun hc1 => ?_)
      · have hW := ifP hW hc1
        obtain ⟨y1, hy1, hW⟩ := hW
        have hv1 := an_i r1 hy1
        obtain ⟨c1, hW⟩ := hW
        refine e_val (v := .bl (decide (((0 : Nat) : Int) ≤ y1 ∧ y1 < ((2 ^ width1 : Nat) : Int)))) (vb_of (v_chain (b1 := decide (((0 : Nat) : Int) ≤ y1)) (b2 := decide (y1 < ((2 ^ width1 : Nat) : Int))) (x := (.int ((0 : Nat) : Int))) (y := (.int (y1))) (z := (.int ((2 ^ width1 : Nat) : Int))) val_c (v_eq (val_var rfl) hv1) (vn_one val_c (val_var rfl) c1) (fun Q k => rv2 (c_le val_c val_c) k) (fun Q k => rv2 (c_lt val_c val_c) k)) dec_and) ?_
        exact hN1 (decide (((0 : Nat) : Int) ≤ y1 ∧ y1 < ((2 ^ width1 : Nat) : Int))) _ _ ⟨rfl, w, gx1⟩ hW
      · have hW := ifN hW hc1
        exact hN1 false _ _ ⟨rfl, w, gx1⟩ hW
    intro b1 F2 H2 hI1 hW
    obtain ⟨_, w, gx2⟩ := hI1
    have r1 := Rep.mono _ gx2 r1
    exact hQ _ hW _ _ w
abbrev s_is_pairs : Stmt := topS 12
def W_is_pairs (thing1 : List (Nat × Nat)) (most1 : Nat) (stores1 : Nat) (inputs1 : Nat) (R : Bool → Prop) : Prop := if most1 < thing1.length then (R false) else (forW thing1 () (fun pair1 _ nx1 bk1 => if 2 ≠ 2 then (R false) else (jn (fun kk => W_is_mask (An.i ((pair1.1 : Nat) : Int)) stores1 fun z1 => if z1 = true then (W_is_mask (An.i ((pair1.2 : Nat) : Int)) inputs1 fun z2 => kk (!z2)) else (kk true)) fun b1 => if b1 = true then (R false) else (nx1 ()))) fun _ => R true)
def sp_is_pairs (K : PySem.W.Frag) (cc : Cz) : Sp := fun vs H Q _ => ∃ (F : Hp) (v1 : V) (thing1 : List (Nat × Nat)) (most1 : Nat) (stores1 : Nat) (inputs1 : Nat) (R : Bool → Prop), vs = [v1, (.int ((most1 : Nat) : Int)), (.int ((stores1 : Nat) : Int)), (.int ((inputs1 : Nat) : Int))] ∧ Ex F H ∧ (pL (pT2 pN pN)).r F v1 thing1 ∧ W_is_pairs thing1 most1 stores1 inputs1 R ∧ ∀ z, R z → ∀ F' H', Wf F H F' H' → Q (.bl (z)) H'
abbrev N_is_pairs : List Str := ["thing", "most", "stores", "inputs", "pair"]
theorem sc_is_pairs : FnScope N_is_pairs ["thing", "most", "stores", "inputs"] (defScope s_is_pairs) := ⟨rfl, rfl, rfl, by decide +kernel, rfl, by decide +kernel, by decide +kernel⟩
theorem ok_is_pairs {P : Program} {w0 : World} {K : PySem.W.Frag} {mg : Str → Option Value} {base : Heap} {f : Addr} {fd : FuncData} {cc : Cz} (T : Tz K mg cc) (FU : Fun K "is_pairs" "is_pairs" s_is_pairs f fd) (hm : mg "is_pairs" = some (.ref f)) (hb : Binds K fd ["thing", "most", "stores", "inputs"] []) (c_is_mask : Fn P w0 K mg base CX0 2 "is_mask" ["thing", "width"] (sp_is_mask K cc)) (n_isinstance : mg "isinstance" = none) (n_len : mg "len" = none) (n_list : mg "list" = none) (n_tuple : mg "tuple" = none) : Fn P w0 K mg base CX0 3 "is_pairs" ["thing", "most", "stores", "inputs"] (sp_is_pairs K cc) := by
  refine ⟨f, fd, FU.ok sc_is_pairs (fun vs H Q E h => ?_) (fun cdv A outer s H0 vs Q E hr h => ?_), hm, FU.kp, hb⟩
  · obtain ⟨_, _, _, _, _, _, _, rfl, _⟩ := h; rfl
  · obtain ⟨F0, v1, thing1, most1, stores1, inputs1, R, rfl, wf, r1, hW, hQ⟩ := h
    have nd := sc_is_pairs.nd
    refine ⟨(tSeq (tIfS (tOr (tNot (tB (tCB (rIsi K) (tCons (tVar 0) (tCons (tC (.ty "list")) tNil))))) (tTest (tOp kGt (tCB (Wk.rLen K) (tCons (tVar 0) tNil)) (tVar 1)))) (tRet (tC (.bl false))) tNext) (tSeq (tFor (iList K (tVar 0)) (gName 4) (tSeq (tIfS (tOr (tNot (tB (tCB (rIsi K) (tCons (tVar 4) (tCons (tC (.ty "tuple")) tNil))))) (tTest (tOp L2.rNe (tCB (Wk.rLen K) (tCons (tVar 4) tNil)) (tC (.int 2))))) (tRet (tC (.bl false))) tNext) (tIfS (tOr (tNot (tB (tCall (sp_is_mask K cc) [] E0 (tCons (tOp (L2.rIxT K) (tVar 4) (tC (.int 0))) (tCons (tVar 2) tNil))))) (tNot (tB (tCall (sp_is_mask K cc) [] E0 (tCons (tOp (L2.rIxT K) (tVar 4) (tC (.int 1))) (tCons (tVar 3) tNil)))))) (tRet (tC (.bl false))) tNext))) (tRet (tC (.bl true))))), (pss_cons (ps_if (PW.pt (pw_or (pt_not (pt_val (pe_callB call_isi (by rfl) n_isinstance PyProof.Rows.boot_isinstance (pa_cons (pv 0) (pa_cons (pe_bltn (v := .ty "list") (by rfl) n_list PyProof.Rows.boot_list rfl) pa_nil))))) (pw_or1 (pt_cmpR op_gt (pe_callB call_len_seq (by rfl) n_len PySem.boot_len (pa_cons (pv 0) pa_nil)) (pv 1) (nomark _))))) (pss_one (ps_ret pe_bl)) pss_nil) (pss_cons (ps_for PassesOwn.never rfl (pi_list (pv 0)) (pg_name (i := 4) nd rfl (Or.inl rfl)) (pss_cons (ps_if (PW.pt (pw_or (pt_not (pt_val (pe_callB call_isi (by rfl) n_isinstance PyProof.Rows.boot_isinstance (pa_cons (pv 4) (pa_cons (pe_bltn (v := .ty "tuple") (by rfl) n_tuple PyProof.Rows.boot_tuple rfl) pa_nil))))) (pw_or1 (pt_cmpR op_ne (pe_callB call_len_seq (by rfl) n_len PySem.boot_len (pa_cons (pv 4) pa_nil)) pe_int (nomark _))))) (pss_one (ps_ret pe_bl)) pss_nil) (pss_one (ps_if (PW.pt (pw_or (pt_not (pt_val (pe_fn c_is_mask (hr.mono (by decide)) rfl (pa_cons (pe_ix ix_tup (pv 4) pe_int (fun _ _ => rfl)) (pa_cons (pv 2) pa_nil))))) (pw_or1 (pt_not (pt_val (pe_fn c_is_mask (hr.mono (by decide)) rfl (pa_cons (pe_ix ix_tup (pv 4) pe_int (fun _ _ => rfl)) (pa_cons (pv 3) pa_nil)))))))) (pss_one (ps_ret pe_bl)) pss_nil)))) (pss_one (ps_ret pe_bl)))), ?_⟩
    have w := Wf.id wf
    refine q_sq fun N1 hN1 => ?_
    refine a_ifE ?_
    refine e_ans (b := decide (most1 < thing1.length)) (t_iff (p := (¬ (True)) ∨ (most1 < thing1.length)) (q := most1 < thing1.length) (t_or (t_not (t_ofB (vb_of (v_isi (b := true) (val_var rfl) (ty_L r1 w.f) (by decide +kernel)) dec_T))) (fun _ => (t_of (vb_dec (c_gt (len_L r1 w.f (val_var rfl)) (val_var rfl)) n_lt)))) (by simp)) ?_
    refine b_if (fun hc1 => ?_) (fun hc1 => ?_)
    · have hW := ifP hW hc1
      refine a_ret (v := (.bl (false))) val_c ?_
      exact hQ _ hW _ _ w
    · have hW := ifN hW hc1
      refine hN1 _ _ ?_
      refine q_sq fun N2 hN2 => ?_
      refine f_LE ?_
      refine e_val (v := v1) (val_var rfl) ?_
      refine w_forL (S := Unit) (fun _ σ' F' H' => ∃ (o1 : Option V), Wf F0 H0 F' H' ∧ Ex F0 F' ∧ σ' = [some v1, some (.int ((most1 : Nat) : Int)), some (.int ((stores1 : Nat) : Int)), some (.int ((inputs1 : Nat) : Int)), o1]) r1 hW ⟨_, w, Ex.rfl', rfl⟩ (fun s σ' F' H' hI => by obtain ⟨_, w', gx', _⟩ := hI; exact ⟨gx', w'.f⟩) w.f ?_ ?_
      · intro N3 Bk1 pair1 u1 s1 σ' F1 H1 nx1 bk1 hI1 hx1 ru1 hW hN3 hB1
        obtain ⟨o1, w, gx1, rfl⟩ := hI1
        have r1 := Rep.mono _ gx1 r1
        refine g_name ?_
        refine q_sq fun N4 hN4 => ?_
        refine a_ifE ?_
        refine e_ans (b := decide (2 ≠ 2)) (t_iff (p := (¬ (True)) ∨ (2 ≠ 2)) (q := 2 ≠ 2) (t_or (t_not (t_ofB (vb_of (v_isi (b := true) (val_var rfl) (ty_T2 ru1 w.f) (by decide +kernel)) dec_T))) (fun _ => (t_of (vb_dec (c_neI (len_T2 ru1 w.f (val_var rfl)) val_c) n_ne)))) (by simp)) ?_
        refine b_if (fun hc2 => ?_) (fun hc2 => ?_)
        · have hW := ifP hW hc2
          refine a_ret (v := (.bl (false))) val_c ?_
          exact hQ _ hW _ _ w
        · have hW := ifN hW hc2
          refine hN4 _ _ ?_
          refine a_ifE ?_
          refine e_jnT hW (fun b F' H' => b = b ∧ Wf F0 H0 F' H' ∧ Ex F1 F') ?_ ?_
          · intro N5 hN5 hW
            have gx2 : Ex F1 F1 := Ex.rfl'
            refine e_tOr ?_
            refine e_tNot ?_
            refine e_tB ?_
            refine e_call ?_
            obtain ⟨_, rfl, ix1⟩ := ix_2a (K := K) ru1 w.f
            refine a_val (v := (.int ((pair1.1 : Nat) : Int))) (ix1 (val_var rfl) val_c) ?_
            refine a_val (v := (.int ((stores1 : Nat) : Int))) (val_var rfl) ?_
            refine a_nil ?_
            refine ⟨F1, ((.int ((pair1.1 : Nat) : Int))), ((An.i ((pair1.1 : Nat) : Int))), (stores1), _, rfl, w.f, (show pA.r _ (.int ((pair1.1 : Nat) : Int)) (An.i ((pair1.1 : Nat) : Int)) from rfl), hW, ?_⟩
            intro z1 hW F2 H2 s2
            replace r1 := Rep.mono _ s2.g r1
            replace ru1 := Rep.mono _ s2.g ru1
            replace w := w.tr s2
            replace gx2 := Ex.tr gx2 s2.g
            replace gx1 := Ex.tr gx1 s2.g
            refine bl_v ?_
            refine bb_ifn (fun hc3 => ?_) (fun hc3 => ?_)
            · have hW := ifP hW hc3
              refine e_tNot ?_
              refine e_tB ?_
              refine e_call ?_
              obtain ⟨_, rfl, ix2⟩ := ix_2b (K := K) ru1 w.f
              refine a_val (v := (.int ((pair1.2 : Nat) : Int))) (ix2 (val_var rfl) val_c) ?_
              refine a_val (v := (.int ((inputs1 : Nat) : Int))) (val_var rfl) ?_
              refine a_nil ?_
              refine ⟨F2, ((.int ((pair1.2 : Nat) : Int))), ((An.i ((pair1.2 : Nat) : Int))), (inputs1), _, rfl, w.f, (show pA.r _ (.int ((pair1.2 : Nat) : Int)) (An.i ((pair1.2 : Nat) : Int)) from rfl), hW, ?_⟩
              intro z2 hW F3 H3 s3
              replace r1 := Rep.mono _ s3.g r1
              replace ru1 := Rep.mono _ s3.g ru1
              replace w := w.tr s3
              replace gx2 := Ex.tr gx2 s3.g
              replace gx1 := Ex.tr gx1 s3.g
              refine bl_v ?_
              exact hN5 (!z2) _ _ ⟨rfl, w, gx2⟩ hW
            · have hW := ifN hW hc3
              exact hN5 true _ _ ⟨rfl, w, gx2⟩ hW
          intro b1 F4 H4 hI2 hW
          obtain ⟨_, w, gx3⟩ := hI2
          have r1 := Rep.mono _ gx3 r1
          have ru1 := Rep.mono _ gx3 ru1
          have gx1 := Ex.tr gx1 gx3
          refine bb_if (fun hc4 => ?_) (fun hc4 => ?_)
          · have hW := ifP hW hc4
            refine a_ret (v := (.bl (false))) val_c ?_
            exact hQ _ hW _ _ w
          · have hW := ifN hW hc4
            exact hN3 () _ _ _ ⟨_, w, gx1, rfl⟩ hW
      · intro s4 σ' F5 H5 hI3 hW
        obtain ⟨o1, w, gx4, rfl⟩ := hI3
        have r1 := Rep.mono _ gx4 r1
        refine hN2 _ _ ?_
        refine a_ret (v := (.bl (true))) val_c ?_
        exact hQ _ hW _ _ w
abbrev s_Machine___init__ : Stmt := inClass (topS 13) 0
def W_Machine___init__ (inputs1 : Nat) (nexts1 : List (Nat × Nat)) (outs1 : List (Nat × Nat)) (R : (Nat × List (Nat × Nat) × List (Nat × Nat)) → Prop) : Prop := jn (fun kk => W_is_whole (An.i ((inputs1 : Nat) : Int)) fun z1 => if z1 = true then (kk (decide (¬ (0 ≤ inputs1 ∧ inputs1 ≤ 6)))) else (kk true)) fun b1 => if b1 = true then (False) else (jn (fun kk => W_is_pairs nexts1 120 nexts1.length inputs1 fun z2 => if z2 = true then (W_is_pairs outs1 6 nexts1.length inputs1 fun z3 => kk (!z3)) else (kk true)) fun b2 => if b2 = true then (False) else (R (inputs1, nexts1, outs1)))
def sp_Machine___init__ (K : PySem.W.Frag) (cc : Cz) : Sp := fun vs H Q _ => ∃ (F : Hp) (ob dx : Addr) (inputs1 : Nat) (v1 : V) (nexts1 : List (Nat × Nat)) (v2 : V) (outs1 : List (Nat × Nat)) (R : (Nat × List (Nat × Nat) × List (Nat × Nat)) → Prop), vs = [(.ref ob), (.int ((inputs1 : Nat) : Int)), v1, v2] ∧ H ob = some (.ins cc.Machine dx []) ∧ F ob = none ∧ Ex F H ∧ (pL (pT2 pN pN)).r F v1 nexts1 ∧ (pL (pT2 pN pN)).r F v2 outs1 ∧ W_Machine___init__ inputs1 nexts1 outs1 R ∧ ∀ z, R z → ∀ F' H', Wf F (wo H ob) F' H' → (pO3 cc.Machine "inputs" "nexts" "outs" pN (pTL (pT2 pN pN)) (pTL (pT2 pN pN))).r F' (.ref ob) z → Q .non H'
abbrev N_Machine___init__ : List Str := ["self", "inputs", "nexts", "outs"]
theorem sc_Machine___init__ : FnScope N_Machine___init__ ["self", "inputs", "nexts", "outs"] (defScope s_Machine___init__) := ⟨rfl, rfl, rfl, by decide +kernel, rfl, by decide +kernel, by decide +kernel⟩
theorem ok_Machine___init__ {P : Program} {w0 : World} {K : PySem.W.Frag} {mg : Str → Option Value} {base : Heap} {f : Addr} {fd : FuncData} {cc : Cz} (T : Tz K mg cc) (FU : Fun K "__init__" "Machine.__init__" s_Machine___init__ f fd) (hm : Mk K cc.Machine f) (hg : mg "Machine" = some (.ref cc.Machine)) (hb : Binds K fd ["self", "inputs", "nexts", "outs"] []) (c_is_whole : Fn P w0 K mg base CX0 1 "is_whole" ["thing"] (sp_is_whole K cc)) (c_is_pairs : Fn P w0 K mg base CX0 3 "is_pairs" ["thing", "most", "stores", "inputs"] (sp_is_pairs K cc)) (n_isinstance : mg "isinstance" = none) (n_len : mg "len" = none) (n_list : mg "list" = none) (n_tuple : mg "tuple" = none) : Nw P w0 K mg base CX0 4 cc.Machine "Machine" ["self", "inputs", "nexts", "outs"] (sp_Machine___init__ K cc) := by
  refine ⟨f, fd, FU.ok sc_Machine___init__ (fun vs H Q E h => ?_) (fun cdv A outer s H0 vs Q E hr h => ?_), hm, hg, hb⟩
  · obtain ⟨_, _, _, _, _, _, _, _, _, rfl, _⟩ := h; rfl
  · obtain ⟨F0, ob, dx, inputs1, v1, nexts1, v2, outs1, R, rfl, hob, nob, wf, r1, r2, hW, hQ⟩ := h
    have nd := sc_Machine___init__.nd
    refine ⟨(tSeq (tIfS (tOr (tNot (tB (tCall (sp_is_whole K cc) [] E0 (tCons (tVar 1) tNil)))) (tOr (tNot (tTest (tChain kLe kLe (tC (.int 0)) (tVar 1) (tC (.int 6))))) (tNot (tB (tCB (rIsi K) (tCons (tVar 2) (tCons (tC (.ty "list")) tNil))))))) tNever tNext) (tSeq (tIfS (tOr (tNot (tB (tCall (sp_is_pairs K cc) [] E0 (tCons (tVar 2) (tCons (tC (.int 120)) (tCons (tCB (Wk.rLen K) (tCons (tVar 2) tNil)) (tCons (tVar 1) tNil))))))) (tNot (tB (tCall (sp_is_pairs K cc) [] E0 (tCons (tVar 3) (tCons (tC (.int 6)) (tCons (tCB (Wk.rLen K) (tCons (tVar 2) tNil)) (tCons (tVar 1) tNil)))))))) tNever tNext) (tSeq (sFld K (tVar 0) (tVar 1) "inputs") (tSeq (sFld K (tVar 0) (tCB (rTupOf K) (tCons (tVar 2) tNil)) "nexts") (sFld K (tVar 0) (tCB (rTupOf K) (tCons (tVar 3) tNil)) "outs"))))), (pss_cons (ps_if (PW.pt (pw_or (pt_not (pt_val (pe_fn c_is_whole (hr.mono (by decide)) rfl (pa_cons (pv 1) pa_nil)))) (pw_or (pt_not (pt_chain op_le op_le pe_int (pv 1) (pe_globE T.gl_MOST_INPUTS rfl))) (pw_or1 (pt_not (pt_val (pe_callB call_isi (by rfl) n_isinstance PyProof.Rows.boot_isinstance (pa_cons (pv 2) (pa_cons (pe_bltn (v := .ty "list") (by rfl) n_list PyProof.Rows.boot_list rfl) pa_nil))))))))) (pss_one ps_never) pss_nil) (pss_cons (ps_if (PW.pt (pw_or (pt_not (pt_val (pe_fn c_is_pairs (hr.mono (by decide)) rfl (pa_cons (pv 2) (pa_cons (pe_globE T.gl_MOST_STORES rfl) (pa_cons (pe_callB call_len_seq (by rfl) n_len PySem.boot_len (pa_cons (pv 2) pa_nil)) (pa_cons (pv 1) pa_nil))))))) (pw_or1 (pt_not (pt_val (pe_fn c_is_pairs (hr.mono (by decide)) rfl (pa_cons (pv 3) (pa_cons (pe_globE T.gl_MOST_OUTS rfl) (pa_cons (pe_callB call_len_seq (by rfl) n_len PySem.boot_len (pa_cons (pv 2) pa_nil)) (pa_cons (pv 1) pa_nil)))))))))) (pss_one ps_never) pss_nil) (pss_cons (ps_fld (pv 0) (pv 1) rfl) (pss_cons (ps_fld (pv 0) (pe_callTy call_tuple_of (by rfl) n_tuple PyProof.Rows.boot_tuple (pa_cons (pv 2) pa_nil)) rfl) (pss_one (ps_fld (pv 0) (pe_callTy call_tuple_of (by rfl) n_tuple PyProof.Rows.boot_tuple (pa_cons (pv 3) pa_nil)) rfl)))))), ?_⟩
    have xs := Xc.start nob hob
    have w := Wf.start wf nob
    generalize hH0 : wo H0 ob = Hb at xs w hQ
    refine q_sq fun N1 hN1 => ?_
    refine a_ifE ?_
    refine e_jnT hW (fun b F' H' => b = b ∧ Wf F0 Hb F' H' ∧ Ex F0 F' ∧ Xc Hb F' H' ob (.ins cc.Machine dx [])) ?_ ?_
    · intro N2 hN2 hW
      have gx1 : Ex F0 F0 := Ex.rfl'
      refine e_tOr ?_
      refine e_tNot ?_
      refine e_tB ?_
      refine e_call ?_
      refine a_val (v := (.int ((inputs1 : Nat) : Int))) (val_var rfl) ?_
      refine a_nil ?_
      refine ⟨F0, ((.int ((inputs1 : Nat) : Int))), ((An.i ((inputs1 : Nat) : Int))), _, rfl, w.f, (show pA.r _ (.int ((inputs1 : Nat) : Int)) (An.i ((inputs1 : Nat) : Int)) from rfl), hW, ?_⟩
      intro z1 hW F1 H1 s1
      replace r1 := Rep.mono _ s1.g r1
      replace r2 := Rep.mono _ s1.g r2
      replace xs := xs.step s1
      replace w := w.tr s1
      replace gx1 := Ex.tr gx1 s1.g
      refine bl_v ?_
      refine bb_ifn (fun hc1 => ?_) (fun hc1 => ?_)
      · have hW := ifP hW hc1
        refine e_ans (b := decide (¬ (0 ≤ inputs1 ∧ inputs1 ≤ 6))) (t_iff (p := (¬ (0 ≤ inputs1 ∧ inputs1 ≤ 6)) ∨ (¬ (True))) (q := ¬ (0 ≤ inputs1 ∧ inputs1 ≤ 6)) (t_or (t_not (t_of (vb_of (v_chain (b1 := decide (0 ≤ inputs1)) (b2 := decide (inputs1 ≤ 6)) (x := (.int ((0 : Nat) : Int))) (y := (.int ((inputs1 : Nat) : Int))) (z := (.int ((6 : Nat) : Int))) val_c (val_var rfl) val_c (fun Q k => rv2 (vb_dec (c_le val_c val_c) n_le) k) (fun Q k => rv2 (vb_dec (c_le val_c val_c) n_le) k)) dec_and))) (fun _ => (t_not (t_ofB (vb_of (v_isi (b := true) (val_var rfl) (ty_L r1 w.f) (by decide +kernel)) dec_T))))) (by simp)) ?_
        exact hN2 (decide (¬ (0 ≤ inputs1 ∧ inputs1 ≤ 6))) _ _ ⟨rfl, w, gx1, xs⟩ hW
      · have hW := ifN hW hc1
        exact hN2 true _ _ ⟨rfl, w, gx1, xs⟩ hW
    intro b1 F2 H2 hI1 hW
    obtain ⟨_, w, gx2, x1⟩ := hI1
    have r1 := Rep.mono _ gx2 r1
    have r2 := Rep.mono _ gx2 r2
    refine bb_if (fun hc2 => ?_) (fun hc2 => ?_)
    · have hW := ifP hW hc2
      exact hW
    · have hW := ifN hW hc2
      refine hN1 _ _ ?_
      refine q_sq fun N3 hN3 => ?_
      refine a_ifE ?_
      refine e_jnT hW (fun b F' H' => b = b ∧ Wf F0 Hb F' H' ∧ Ex F2 F' ∧ Xc Hb F' H' ob (.ins cc.Machine dx [])) ?_ ?_
      · intro N4 hN4 hW
        have gx3 : Ex F2 F2 := Ex.rfl'
        refine e_tOr ?_
        refine e_tNot ?_
        refine e_tB ?_
        refine e_call ?_
        refine a_val (v := v1) (val_var rfl) ?_
        refine a_val (v := (.int ((120 : Nat) : Int))) val_c ?_
        refine a_val (v := (.int ((nexts1.length : Nat) : Int))) (len_L r1 w.f (val_var rfl)) ?_
        refine a_val (v := (.int ((inputs1 : Nat) : Int))) (val_var rfl) ?_
        refine a_nil ?_
        refine ⟨F2, (v1), (nexts1), (120), (nexts1.length), (inputs1), _, rfl, w.f, r1, hW, ?_⟩
        intro z2 hW F3 H3 s2
        replace r1 := Rep.mono _ s2.g r1
        replace r2 := Rep.mono _ s2.g r2
        replace x1 := x1.step s2
        replace w := w.tr s2
        replace gx3 := Ex.tr gx3 s2.g
        refine bl_v ?_
        refine bb_ifn (fun hc3 => ?_) (fun hc3 => ?_)
        · have hW := ifP hW hc3
          refine e_tNot ?_
          refine e_tB ?_
          refine e_call ?_
          refine a_val (v := v2) (val_var rfl) ?_
          refine a_val (v := (.int ((6 : Nat) : Int))) val_c ?_
          refine a_val (v := (.int ((nexts1.length : Nat) : Int))) (len_L r1 w.f (val_var rfl)) ?_
          refine a_val (v := (.int ((inputs1 : Nat) : Int))) (val_var rfl) ?_
          refine a_nil ?_
          refine ⟨F3, (v2), (outs1), (6), (nexts1.length), (inputs1), _, rfl, w.f, r2, hW, ?_⟩
          intro z3 hW F4 H4 s3
          replace r1 := Rep.mono _ s3.g r1
          replace r2 := Rep.mono _ s3.g r2
          replace x1 := x1.step s3
          replace w := w.tr s3
          replace gx3 := Ex.tr gx3 s3.g
          refine bl_v ?_
          exact hN4 (!z3) _ _ ⟨rfl, w, gx3, x1⟩ hW
        · have hW := ifN hW hc3
          exact hN4 true _ _ ⟨rfl, w, gx3, x1⟩ hW
      intro b2 F5 H5 hI2 hW
      obtain ⟨_, w, gx4, x2⟩ := hI2
      have r1 := Rep.mono _ gx4 r1
      have r2 := Rep.mono _ gx4 r2
      refine bb_if (fun hc4 => ?_) (fun hc4 => ?_)
      · have hW := ifP hW hc4
        exact hW
      · have hW := ifN hW hc4
        refine hN3 _ _ ?_
        refine q_sq fun N5 hN5 => ?_
        refine e_fld ?_
        refine e_val (v := (.int ((inputs1 : Nat) : Int))) (val_var rfl) ?_
        refine a_fld T.cl_Machine T.na_Machine_inputs x2 w (show 0 < 1000 from by decide) (val_var rfl) (fun H6 w1 x3 kp1 => ?_)
        replace w := w1
        replace x3 : Xc Hb F5 H6 ob (.ins cc.Machine dx [("inputs", (.int ((inputs1 : Nat) : Int)))]) := Xc.cast x3 rfl
        refine hN5 _ _ ?_
        refine q_sq fun N6 hN6 => ?_
        refine e_fld ?_
        refine e_cb ?_
        refine a_val (v := v1) (val_var rfl) ?_
        refine a_nil ?_
        refine n_tupOf r1 w ?_
        intro p1 F6 H7 s4 r3
        replace r1 := Rep.mono _ s4.g r1
        replace r2 := Rep.mono _ s4.g r2
        replace x3 := x3.step s4
        replace w := w.tr s4
        refine a_fld T.cl_Machine T.na_Machine_nexts x3 w (show 1 < 1000 from by decide) (val_var rfl) (fun H8 w2 x4 kp2 => ?_)
        replace w := w2
        replace x4 : Xc Hb F6 H8 ob (.ins cc.Machine dx [("inputs", (.int ((inputs1 : Nat) : Int))), ("nexts", (.ref p1))]) := Xc.cast x4 ((put_ne (by decide +kernel)).trans (congrArg _ rfl))
        refine hN6 _ _ ?_
        refine e_fld ?_
        refine e_cb ?_
        refine a_val (v := v2) (val_var rfl) ?_
        refine a_nil ?_
        refine n_tupOf r2 w ?_
        intro p2 F7 H9 s5 r4
        replace r1 := Rep.mono _ s5.g r1
        replace r2 := Rep.mono _ s5.g r2
        replace x4 := x4.step s5
        replace r3 := Rep.mono _ s5.g r3
        replace w := w.tr s5
        refine a_fld T.cl_Machine T.na_Machine_outs x4 w (show 2 < 1000 from by decide) (val_var rfl) (fun H10 w3 x5 kp3 => ?_)
        replace w := w3
        replace x5 : Xc Hb F7 H10 ob (.ins cc.Machine dx [("inputs", (.int ((inputs1 : Nat) : Int))), ("nexts", (.ref p1)), ("outs", (.ref p2))]) := Xc.cast x5 ((put_ne (by decide +kernel)).trans (congrArg _ ((put_ne (by decide +kernel)).trans (congrArg _ rfl))))
        obtain ⟨F8, w4, g1, h1⟩ := x5.frzE w
        exact hQ _ hW _ _ w4 ⟨ob, dx, _, rfl, h1, _, _, _, rfl, rfl, (Rep.mono _ g1 r3), (Rep.mono _ g1 r4)⟩
abbrev s_Machine_stores : Stmt := inClass (topS 13) 1
def W_Machine_stores (self1 : Nat × List (Nat × Nat) × List (Nat × Nat)) (R : Nat → Prop) : Prop := R self1.2.1.length
def sp_Machine_stores (K : PySem.W.Frag) (cc : Cz) : Sp := fun vs H Q _ => ∃ (F : Hp) (v1 : V) (self1 : Nat × List (Nat × Nat) × List (Nat × Nat)) (R : Nat → Prop), vs = [v1] ∧ Ex F H ∧ (pO3 cc.Machine "inputs" "nexts" "outs" pN (pTL (pT2 pN pN)) (pTL (pT2 pN pN))).r F v1 self1 ∧ W_Machine_stores self1 R ∧ ∀ z, R z → ∀ F' H', Wf F H F' H' → Q (.int ((z : Nat) : Int)) H'
abbrev N_Machine_stores : List Str := ["self"]
theorem sc_Machine_stores : FnScope N_Machine_stores ["self"] (defScope s_Machine_stores) := ⟨rfl, rfl, rfl, by decide +kernel, rfl, by decide +kernel, by decide +kernel⟩
theorem ok_Machine_stores {P : Program} {w0 : World} {K : PySem.W.Frag} {mg : Str → Option Value} {base : Heap} {f : Addr} {fd : FuncData} {cc : Cz} (T : Tz K mg cc) (FU : Fun K "stores" "Machine.stores" s_Machine_stores f fd) (hm : Meth K cc.Machine "stores" f) (hb : Binds K fd ["self"] []) (n_len : mg "len" = none) : Md P w0 K mg base CX0 1 cc.Machine "stores" ["self"] (sp_Machine_stores K cc) := by
  refine ⟨f, fd, FU.ok sc_Machine_stores (fun vs H Q E h => ?_) (fun cdv A outer s H0 vs Q E hr h => ?_), hm, hb⟩
  · obtain ⟨_, _, _, _, rfl, _⟩ := h; rfl
  · obtain ⟨F0, v1, self1, R, rfl, wf, r1, hW, hQ⟩ := h
    have nd := sc_Machine_stores.nd
    refine ⟨(tRet (tCB (Wk.rLen K) (tCons (tFld K (tVar 0) "nexts") tNil))), (pss_one (ps_ret (pe_callB call_len_seq (by rfl) n_len PySem.boot_len (pa_cons (pe_fld (pv 0) rfl) pa_nil)))), ?_⟩
    have w := Wf.id wf
    obtain ⟨v2, r2, fl1⟩ := fl_32 (K := K) T.cl_Machine T.na_Machine_nexts r1 w.f
    refine a_ret (v := (.int ((self1.2.1.length : Nat) : Int))) (len_TL r2 w.f (fl1 (val_var rfl))) ?_
    exact hQ _ hW _ _ w
abbrev s_Machine_outputs : Stmt := inClass (topS 13) 2
def W_Machine_outputs (self1 : Nat × List (Nat × Nat) × List (Nat × Nat)) (R : Nat → Prop) : Prop := R self1.2.2.length
def sp_Machine_outputs (K : PySem.W.Frag) (cc : Cz) : Sp := fun vs H Q _ => ∃ (F : Hp) (v1 : V) (self1 : Nat × List (Nat × Nat) × List (Nat × Nat)) (R : Nat → Prop), vs = [v1] ∧ Ex F H ∧ (pO3 cc.Machine "inputs" "nexts" "outs" pN (pTL (pT2 pN pN)) (pTL (pT2 pN pN))).r F v1 self1 ∧ W_Machine_outputs self1 R ∧ ∀ z, R z → ∀ F' H', Wf F H F' H' → Q (.int ((z : Nat) : Int)) H'
abbrev N_Machine_outputs : List Str := ["self"]
theorem sc_Machine_outputs : FnScope N_Machine_outputs ["self"] (defScope s_Machine_outputs) := ⟨rfl, rfl, rfl, by decide +kernel, rfl, by decide +kernel, by decide +kernel⟩
theorem ok_Machine_outputs {P : Program} {w0 : World} {K : PySem.W.Frag} {mg : Str → Option Value} {base : Heap} {f : Addr} {fd : FuncData} {cc : Cz} (T : Tz K mg cc) (FU : Fun K "outputs" "Machine.outputs" s_Machine_outputs f fd) (hm : Meth K cc.Machine "outputs" f) (hb : Binds K fd ["self"] []) (n_len : mg "len" = none) : Md P w0 K mg base CX0 1 cc.Machine "outputs" ["self"] (sp_Machine_outputs K cc) := by
  refine ⟨f, fd, FU.ok sc_Machine_outputs (fun vs H Q E h => ?_) (fun cdv A outer s H0 vs Q E hr h => ?_), hm, hb⟩
  · obtain ⟨_, _, _, _, rfl, _⟩ := h; rfl
  · obtain ⟨F0, v1, self1, R, rfl, wf, r1, hW, hQ⟩ := h
    have nd := sc_Machine_outputs.nd
    refine ⟨(tRet (tCB (Wk.rLen K) (tCons (tFld K (tVar 0) "outs") tNil))), (pss_one (ps_ret (pe_callB call_len_seq (by rfl) n_len PySem.boot_len (pa_cons (pe_fld (pv 0) rfl) pa_nil)))), ?_⟩
    have w := Wf.id wf
    obtain ⟨v2, r2, fl1⟩ := fl_33 (K := K) T.cl_Machine T.na_Machine_outs r1 w.f
    refine a_ret (v := (.int ((self1.2.2.length : Nat) : Int))) (len_TL r2 w.f (fl1 (val_var rfl))) ?_
    exact hQ _ hW _ _ w
abbrev s_Machine_told : Stmt := inClass (topS 13) 3
def W_Machine_told (self1 : Nat × List (Nat × Nat) × List (Nat × Nat)) (R : (Nat × List (Nat × Nat) × List (Nat × Nat)) → Prop) : Prop := R (self1.1, self1.2.1, self1.2.2)
def sp_Machine_told (K : PySem.W.Frag) (cc : Cz) : Sp := fun vs H Q _ => ∃ (F : Hp) (v1 : V) (self1 : Nat × List (Nat × Nat) × List (Nat × Nat)) (R : (Nat × List (Nat × Nat) × List (Nat × Nat)) → Prop), vs = [v1] ∧ Ex F H ∧ (pO3 cc.Machine "inputs" "nexts" "outs" pN (pTL (pT2 pN pN)) (pTL (pT2 pN pN))).r F v1 self1 ∧ W_Machine_told self1 R ∧ ∀ z, R z → ∀ v F' H', Wf F H F' H' → (pT3 pN (pL (pT2 pN pN)) (pL (pT2 pN pN))).r F' v z → Q v H'
abbrev N_Machine_told : List Str := ["self"]
theorem sc_Machine_told : FnScope N_Machine_told ["self"] (defScope s_Machine_told) := ⟨rfl, rfl, rfl, by decide +kernel, rfl, by decide +kernel, by decide +kernel⟩
theorem ok_Machine_told {P : Program} {w0 : World} {K : PySem.W.Frag} {mg : Str → Option Value} {base : Heap} {f : Addr} {fd : FuncData} {cc : Cz} (T : Tz K mg cc) (FU : Fun K "told" "Machine.told" s_Machine_told f fd) (hm : Meth K cc.Machine "told" f) (hb : Binds K fd ["self"] []) (n_list : mg "list" = none) : Md P w0 K mg base CX0 1 cc.Machine "told" ["self"] (sp_Machine_told K cc) := by
  refine ⟨f, fd, FU.ok sc_Machine_told (fun vs H Q E h => ?_) (fun cdv A outer s H0 vs Q E hr h => ?_), hm, hb⟩
  · obtain ⟨_, _, _, _, rfl, _⟩ := h; rfl
  · obtain ⟨F0, v1, self1, R, rfl, wf, r1, hW, hQ⟩ := h
    have nd := sc_Machine_told.nd
    refine ⟨(tRet (tTup (tCons (tFld K (tVar 0) "inputs") (tCons (tCB (rListOf K) (tCons (tFld K (tVar 0) "nexts") tNil)) (tCons (tCB (rListOf K) (tCons (tFld K (tVar 0) "outs") tNil)) tNil))))), (pss_one (ps_ret (pe_tup (pa_cons (pe_fld (pv 0) rfl) (pa_cons (pe_callTy call_list_of (by rfl) n_list PyProof.Rows.boot_list (pa_cons (pe_fld (pv 0) rfl) pa_nil)) (pa_cons (pe_callTy call_list_of (by rfl) n_list PyProof.Rows.boot_list (pa_cons (pe_fld (pv 0) rfl) pa_nil)) pa_nil)))))), ?_⟩
    have w := Wf.id wf
    refine a_retE ?_
    refine e_tup ?_
    obtain ⟨_, rfl, fl1⟩ := fl_31 (K := K) T.cl_Machine T.na_Machine_inputs r1 w.f
    refine a_val (v := (.int ((self1.1 : Nat) : Int))) (fl1 (val_var rfl)) ?_
    refine a_cons ?_
    refine e_cb ?_
    obtain ⟨v3, r3, fl2⟩ := fl_32 (K := K) T.cl_Machine T.na_Machine_nexts r1 w.f
    refine a_val (v := v3) (fl2 (val_var rfl)) ?_
    refine a_nil ?_
    refine n_listXT r3 w ?_
    intro p1 H1 hp1 s1 x1
    replace r1 := Rep.mono _ s1.g r1
    replace r3 := Rep.mono _ s1.g r3
    replace w := w.tr s1
    refine a_cons ?_
    refine e_cb ?_
    obtain ⟨v4, r4, fl3⟩ := fl_33 (K := K) T.cl_Machine T.na_Machine_outs r1 w.f
    refine a_val (v := v4) (fl3 (val_var rfl)) ?_
    refine a_nil ?_
    refine n_listXT r4 w ?_
    intro p2 H2 hp2 s2 x2
    have ne1 := x1.ne hp2
    replace r1 := Rep.mono _ s2.g r1
    replace r3 := Rep.mono _ s2.g r3
    replace x1 := x1.step s2
    replace r4 := Rep.mono _ s2.g r4
    replace w := w.tr s2
    refine a_nil ?_
    obtain ⟨F1, w1, g1, r5, fz1⟩ := x1.frzE w
    replace r1 := Rep.mono _ g1 r1
    replace r3 := Rep.mono _ g1 r3
    replace r4 := Rep.mono _ g1 r4
    replace x2 := x2.frzO fz1 (Ne.symm ne1) g1
    replace w := w1
    obtain ⟨F2, w2, g2, r6, fz2⟩ := x2.frzE w
    replace r1 := Rep.mono _ g2 r1
    replace r3 := Rep.mono _ g2 r3
    replace r5 := Rep.mono _ g2 r5
    replace r4 := Rep.mono _ g2 r4
    replace w := w2
    refine n_tup3 (e := pN) (f := (pL (pT2 pN pN))) (g := (pL (pT2 pN pN))) (x := self1.1) (y := self1.2.1) (z := self1.2.2) rfl r5 r6 w ?_
    intro p3 F3 H3 s3 r7
    replace r1 := Rep.mono _ s3.g r1
    replace r3 := Rep.mono _ s3.g r3
    replace r5 := Rep.mono _ s3.g r5
    replace r4 := Rep.mono _ s3.g r4
    replace r6 := Rep.mono _ s3.g r6
    replace w := w.tr s3
    exact hQ _ hW _ _ _ w r7
abbrev s_is_pairs_any : Stmt := topS 12
def W_is_pairs_any (thing1 : An) (most1 : Nat) (stores1 : Nat) (inputs1 : Nat) (R : Bool → Prop) : Prop := jn (fun kk => if ¬ ((isA "list" thing1) = true) then (kk true) else (∃ ys1 : List An, thing1 = An.l ys1 ∧ kk (decide (most1 < ys1.length)))) fun b1 => if b1 = true then (R false) else (∃ ys2 : List An, thing1 = An.l ys2 ∧ forW ys2 () (fun pair1 _ nx1 bk1 => jn (fun kk => if ¬ ((isA "tuple" pair1) = true) then (kk true) else (∃ ys3 : List An, pair1 = An.t ys3 ∧ kk (decide (ys3.length ≠ 2)))) fun b2 => if b2 = true then (R false) else (jn (fun kk => ∃ ys4 : List An, pair1 = An.t ys4 ∧ ∃ x1, ys4[0]? = some x1 ∧ W_is_mask x1 stores1 fun z1 => if z1 = true then (∃ x2, ys4[1]? = some x2 ∧ W_is_mask x2 inputs1 fun z2 => kk (!z2)) else (kk true)) fun b3 => if b3 = true then (R false) else (nx1 ()))) fun _ => R true)
def sp_is_pairs_any (K : PySem.W.Frag) (cc : Cz) : Sp := fun vs H Q _ => ∃ (F : Hp) (v1 : V) (thing1 : An) (most1 : Nat) (stores1 : Nat) (inputs1 : Nat) (R : Bool → Prop), vs = [v1, (.int ((most1 : Nat) : Int)), (.int ((stores1 : Nat) : Int)), (.int ((inputs1 : Nat) : Int))] ∧ Ex F H ∧ pA.r F v1 thing1 ∧ W_is_pairs_any thing1 most1 stores1 inputs1 R ∧ ∀ z, R z → ∀ F' H', Wf F H F' H' → Q (.bl (z)) H'
abbrev N_is_pairs_any : List Str := ["thing", "most", "stores", "inputs", "pair"]
theorem sc_is_pairs_any : FnScope N_is_pairs_any ["thing", "most", "stores", "inputs"] (defScope s_is_pairs_any) := ⟨rfl, rfl, rfl, by decide +kernel, rfl, by decide +kernel, by decide +kernel⟩
theorem ok_is_pairs_any {P : Program} {w0 : World} {K : PySem.W.Frag} {mg : Str → Option Value} {base : Heap} {f : Addr} {fd : FuncData} {cc : Cz} (T : Tz K mg cc) (FU : Fun K "is_pairs" "is_pairs" s_is_pairs_any f fd) (hm : mg "is_pairs" = some (.ref f)) (hb : Binds K fd ["thing", "most", "stores", "inputs"] []) (c_is_mask : Fn P w0 K mg base CX0 2 "is_mask" ["thing", "width"] (sp_is_mask K cc)) (n_isinstance : mg "isinstance" = none) (n_len : mg "len" = none) (n_list : mg "list" = none) (n_tuple : mg "tuple" = none) : Fn P w0 K mg base CX0 3 "is_pairs" ["thing", "most", "stores", "inputs"] (sp_is_pairs_any K cc) := by
  refine ⟨f, fd, FU.ok sc_is_pairs_any (fun vs H Q E h => ?_) (fun cdv A outer s H0 vs Q E hr h => ?_), hm, FU.kp, hb⟩
  · obtain ⟨_, _, _, _, _, _, _, rfl, _⟩ := h; rfl
  · obtain ⟨F0, v1, thing1, most1, stores1, inputs1, R, rfl, wf, r1, hW, hQ⟩ := h
    have nd := sc_is_pairs_any.nd
    refine ⟨(tSeq (tIfS (tOr (tNot (tB (tCB (rIsi K) (tCons (tVar 0) (tCons (tC (.ty "list")) tNil))))) (tTest (tOp kGt (tCB (Wk.rLen K) (tCons (tVar 0) tNil)) (tVar 1)))) (tRet (tC (.bl false))) tNext) (tSeq (tFor (iList K (tVar 0)) (gName 4) (tSeq (tIfS (tOr (tNot (tB (tCB (rIsi K) (tCons (tVar 4) (tCons (tC (.ty "tuple")) tNil))))) (tTest (tOp L2.rNe (tCB (Wk.rLen K) (tCons (tVar 4) tNil)) (tC (.int 2))))) (tRet (tC (.bl false))) tNext) (tIfS (tOr (tNot (tB (tCall (sp_is_mask K cc) [] E0 (tCons (tOp (L2.rIxT K) (tVar 4) (tC (.int 0))) (tCons (tVar 2) tNil))))) (tNot (tB (tCall (sp_is_mask K cc) [] E0 (tCons (tOp (L2.rIxT K) (tVar 4) (tC (.int 1))) (tCons (tVar 3) tNil)))))) (tRet (tC (.bl false))) tNext))) (tRet (tC (.bl true))))), (pss_cons (ps_if (PW.pt (pw_or (pt_not (pt_val (pe_callB call_isi (by rfl) n_isinstance PyProof.Rows.boot_isinstance (pa_cons (pv 0) (pa_cons (pe_bltn (v := .ty "list") (by rfl) n_list PyProof.Rows.boot_list rfl) pa_nil))))) (pw_or1 (pt_cmpR op_gt (pe_callB call_len_seq (by rfl) n_len PySem.boot_len (pa_cons (pv 0) pa_nil)) (pv 1) (nomark _))))) (pss_one (ps_ret pe_bl)) pss_nil) (pss_cons (ps_for PassesOwn.never rfl (pi_list (pv 0)) (pg_name (i := 4) nd rfl (Or.inl rfl)) (pss_cons (ps_if (PW.pt (pw_or (pt_not (pt_val (pe_callB call_isi (by rfl) n_isinstance PyProof.Rows.boot_isinstance (pa_cons (pv 4) (pa_cons (pe_bltn (v := .ty "tuple") (by rfl) n_tuple PyProof.Rows.boot_tuple rfl) pa_nil))))) (pw_or1 (pt_cmpR op_ne (pe_callB call_len_seq (by rfl) n_len PySem.boot_len (pa_cons (pv 4) pa_nil)) pe_int (nomark _))))) (pss_one (ps_ret pe_bl)) pss_nil) (pss_one (ps_if (PW.pt (pw_or (pt_not (pt_val (pe_fn c_is_mask (hr.mono (by decide)) rfl (pa_cons (pe_ix ix_tup (pv 4) pe_int (fun _ _ => rfl)) (pa_cons (pv 2) pa_nil))))) (pw_or1 (pt_not (pt_val (pe_fn c_is_mask (hr.mono (by decide)) rfl (pa_cons (pe_ix ix_tup (pv 4) pe_int (fun _ _ => rfl)) (pa_cons (pv 3) pa_nil)))))))) (pss_one (ps_ret pe_bl)) pss_nil)))) (pss_one (ps_ret pe_bl)))), ?_⟩
    have w := Wf.id wf
    refine q_sq fun N1 hN1 => ?_
    refine a_ifE ?_
    refine e_jnT hW (fun b F' H' => b = b ∧ Wf F0 H0 F' H' ∧ Ex F0 F') ?_ ?_
    · intro N2 hN2 hW
      have gx1 : Ex F0 F0 := Ex.rfl'
      refine e_tOr ?_
      refine e_ans (b := decide (¬ ((isA "list" thing1) = true))) (t_not (t_ofB (vb_of (v_isiA "list" (val_var rfl) r1 w.f) dec_tt))) ?_
      refine b_if (fun hc1 => ?_) (fun hc1 => ?_)
      · have hW := ifP hW hc1
        exact hN2 true _ _ ⟨rfl, w, gx1⟩ hW
      · have hW := ifN hW hc1
        obtain ⟨ys1, hy1, hW⟩ := hW
        have r2 := an_toL r1 hy1
        refine e_ans (b := decide (most1 < ys1.length)) (t_of (vb_dec (c_gt (len_L r2 w.f (val_var rfl)) (val_var rfl)) n_lt)) ?_
        exact hN2 (decide (most1 < ys1.length)) _ _ ⟨rfl, w, gx1⟩ hW
    intro b1 F1 H1 hI1 hW
    obtain ⟨_, w, gx2⟩ := hI1
    have r1 := Rep.mono _ gx2 r1
    refine bb_if (fun hc2 => ?_) (fun hc2 => ?_)
    · have hW := ifP hW hc2
      refine a_ret (v := (.bl (false))) val_c ?_
      exact hQ _ hW _ _ w
    · have hW := ifN hW hc2
      refine hN1 _ _ ?_
      refine q_sq fun N3 hN3 => ?_
      obtain ⟨ys2, hy2, hW⟩ := hW
      have r3 := an_toL r1 hy2
      refine f_LE ?_
      refine e_val (v := v1) (val_var rfl) ?_
      refine w_forL (S := Unit) (fun _ σ' F' H' => ∃ (o1 : Option V), Wf F0 H0 F' H' ∧ Ex F1 F' ∧ σ' = [some v1, some (.int ((most1 : Nat) : Int)), some (.int ((stores1 : Nat) : Int)), some (.int ((inputs1 : Nat) : Int)), o1]) r3 hW ⟨_, w, Ex.rfl', rfl⟩ (fun s σ' F' H' hI => by obtain ⟨_, w', gx', _⟩ := hI; exact ⟨gx', w'.f⟩) w.f ?_ ?_
      · intro N4 Bk1 pair1 u1 s1 σ' F2 H2 nx1 bk1 hI2 hx1 ru1 hW hN4 hB1
        obtain ⟨o1, w, gx3, rfl⟩ := hI2
        have r3 := Rep.mono _ gx3 r3
        refine g_name ?_
        refine q_sq fun N5 hN5 => ?_
        refine a_ifE ?_
        refine e_jnT hW (fun b F' H' => b = b ∧ Wf F0 H0 F' H' ∧ Ex F2 F') ?_ ?_
        · intro N6 hN6 hW
          have gx4 : Ex F2 F2 := Ex.rfl'
          refine e_tOr ?_
          refine e_ans (b := decide (¬ ((isA "tuple" pair1) = true))) (t_not (t_ofB (vb_of (v_isiA "tuple" (val_var rfl) ru1 w.f) dec_tt))) ?_
          refine b_if (fun hc3 => ?_) (fun hc3 => ?_)
          · have hW := ifP hW hc3
            exact hN6 true _ _ ⟨rfl, w, gx4⟩ hW
          · have hW := ifN hW hc3
            obtain ⟨ys3, hy3, hW⟩ := hW
            have r4 := an_t.mp (hy3 ▸ ru1)
            refine e_ans (b := decide (ys3.length ≠ 2)) (t_of (vb_dec (c_neI (len_TL r4 w.f (val_var rfl)) val_c) n_ne)) ?_
            exact hN6 (decide (ys3.length ≠ 2)) _ _ ⟨rfl, w, gx4⟩ hW
        intro b2 F3 H3 hI3 hW
        obtain ⟨_, w, gx5⟩ := hI3
        have r3 := Rep.mono _ gx5 r3
        have ru1 := Rep.mono _ gx5 ru1
        have gx3 := Ex.tr gx3 gx5
        refine bb_if (fun hc4 => ?_) (fun hc4 => ?_)
        · have hW := ifP hW hc4
          refine a_ret (v := (.bl (false))) val_c ?_
          exact hQ _ hW _ _ w
        · have hW := ifN hW hc4
          refine hN5 _ _ ?_
          refine a_ifE ?_
          refine e_jnT hW (fun b F' H' => b = b ∧ Wf F0 H0 F' H' ∧ Ex F3 F') ?_ ?_
          · intro N7 hN7 hW
            have gx6 : Ex F3 F3 := Ex.rfl'
            refine e_tOr ?_
            refine e_tNot ?_
            refine e_tB ?_
            refine e_call ?_
            obtain ⟨ys4, hy4, hW⟩ := hW
            have r5 := an_t.mp (hy4 ▸ ru1)
            obtain ⟨x1, hx1_1, hW⟩ := hW
            obtain ⟨v2, r6, ix1⟩ := ix_TL (K := K) r5 w.f hx1_1
            refine a_val (v := v2) (ix1 (val_var rfl) val_c) ?_
            refine a_val (v := (.int ((stores1 : Nat) : Int))) (val_var rfl) ?_
            refine a_nil ?_
            refine ⟨F3, (v2), (x1), (stores1), _, rfl, w.f, r6, hW, ?_⟩
            intro z1 hW F4 H4 s2
            replace r3 := Rep.mono _ s2.g r3
            replace r5 := Rep.mono _ s2.g r5
            replace r6 := Rep.mono _ s2.g r6
            replace w := w.tr s2
            replace gx6 := Ex.tr gx6 s2.g
            replace gx3 := Ex.tr gx3 s2.g
            refine bl_v ?_
            refine bb_ifn (fun hc5 => ?_) (fun hc5 => ?_)
            · have hW := ifP hW hc5
              refine e_tNot ?_
              refine e_tB ?_
              refine e_call ?_
              obtain ⟨x2, hx2_1, hW⟩ := hW
              obtain ⟨v3, r7, ix2⟩ := ix_TL (K := K) r5 w.f hx2_1
              refine a_val (v := v3) (ix2 (val_var rfl) val_c) ?_
              refine a_val (v := (.int ((inputs1 : Nat) : Int))) (val_var rfl) ?_
              refine a_nil ?_
              refine ⟨F4, (v3), (x2), (inputs1), _, rfl, w.f, r7, hW, ?_⟩
              intro z2 hW F5 H5 s3
              replace r3 := Rep.mono _ s3.g r3
              replace r5 := Rep.mono _ s3.g r5
              replace r6 := Rep.mono _ s3.g r6
              replace r7 := Rep.mono _ s3.g r7
              replace w := w.tr s3
              replace gx6 := Ex.tr gx6 s3.g
              replace gx3 := Ex.tr gx3 s3.g
              refine bl_v ?_
              exact hN7 (!z2) _ _ ⟨rfl, w, gx6⟩ hW
            · have hW := ifN hW hc5
              exact hN7 true _ _ ⟨rfl, w, gx6⟩ hW
          intro b3 F6 H6 hI4 hW
          obtain ⟨_, w, gx7⟩ := hI4
          have r3 := Rep.mono _ gx7 r3
          have ru1 := Rep.mono _ gx7 ru1
          have gx3 := Ex.tr gx3 gx7
          refine bb_if (fun hc6 => ?_) (fun hc6 => ?_)
          · have hW := ifP hW hc6
            refine a_ret (v := (.bl (false))) val_c ?_
            exact hQ _ hW _ _ w
          · have hW := ifN hW hc6
            exact hN4 () _ _ _ ⟨_, w, gx3, rfl⟩ hW
      · intro s4 σ' F7 H7 hI5 hW
        obtain ⟨o1, w, gx8, rfl⟩ := hI5
        have r3 := Rep.mono _ gx8 r3
        refine hN3 _ _ ?_
        refine a_ret (v := (.bl (true))) val_c ?_
        exact hQ _ hW _ _ w
abbrev s_Machine___init___bad : Stmt := inClass (topS 13) 0
def W_Machine___init___bad (inputs1 : An) (nexts1 : An) (outs1 : An) (E_BadTable : Prop) (R : Unit → Prop) : Prop := jn (fun kk => W_is_whole inputs1 fun z1 => if z1 = true then (∃ y1 : Int, inputs1 = An.i y1 ∧ kk (decide ((¬ (((0 : Nat) : Int) ≤ y1 ∧ y1 ≤ ((6 : Nat) : Int))) ∨ (¬ ((isA "list" nexts1) = true))))) else (kk true)) fun b1 => if b1 = true then (E_BadTable) else (∃ y2 : Nat, inputs1 = An.i ((y2 : Nat) : Int) ∧ jn (fun kk => ∃ ys1 : List An, nexts1 = An.l ys1 ∧ W_is_pairs_any nexts1 120 ys1.length y2 fun z2 => if z2 = true then (W_is_pairs_any outs1 6 ys1.length y2 fun z3 => kk (!z3)) else (kk true)) fun b2 => if b2 = true then (E_BadTable) else (False))
def sp_Machine___init___bad (K : PySem.W.Frag) (cc : Cz) : Sp := fun vs H Q E => ∃ (F : Hp) (ob : Addr) (v1 : V) (inputs1 : An) (v2 : V) (nexts1 : An) (v3 : V) (outs1 : An) (E_BadTable : Prop) (R : Unit → Prop), vs = [(.ref ob), v1, v2, v3] ∧ Ex F H ∧ pA.r F v1 inputs1 ∧ pA.r F v2 nexts1 ∧ pA.r F v3 outs1 ∧ W_Machine___init___bad inputs1 nexts1 outs1 E_BadTable R ∧ (E_BadTable → ∀ F' H', Wf F H F' H' → E (.ref cc.BadTable) none H') ∧ ∀ z, R z → ∀ F' H', Wf F H F' H' → Q .non H'
abbrev N_Machine___init___bad : List Str := ["self", "inputs", "nexts", "outs"]
theorem sc_Machine___init___bad : FnScope N_Machine___init___bad ["self", "inputs", "nexts", "outs"] (defScope s_Machine___init___bad) := ⟨rfl, rfl, rfl, by decide +kernel, rfl, by decide +kernel, by decide +kernel⟩
theorem ok_Machine___init___bad {P : Program} {w0 : World} {K : PySem.W.Frag} {mg : Str → Option Value} {base : Heap} {f : Addr} {fd : FuncData} {cc : Cz} (T : Tz K mg cc) (FU : Fun K "__init__" "Machine.__init__" s_Machine___init___bad f fd) (hm : Mk K cc.Machine f) (hg : mg "Machine" = some (.ref cc.Machine)) (hb : Binds K fd ["self", "inputs", "nexts", "outs"] []) (c_is_whole : Fn P w0 K mg base CX0 1 "is_whole" ["thing"] (sp_is_whole K cc)) (c_is_pairs_any : Fn P w0 K mg base CX0 3 "is_pairs" ["thing", "most", "stores", "inputs"] (sp_is_pairs_any K cc)) (n_isinstance : mg "isinstance" = none) (n_len : mg "len" = none) (n_list : mg "list" = none) : Nw P w0 K mg base (L2.CX P w0) 4 cc.Machine "Machine" ["self", "inputs", "nexts", "outs"] (sp_Machine___init___bad K cc) := by
  refine ⟨f, fd, FU.okX sc_Machine___init___bad (fun vs H Q E h => ?_) (fun cdv A outer s H0 vs Q E hr h => ?_), hm, hg, hb⟩
  · obtain ⟨_, _, _, _, _, _, _, _, _, _, rfl, _⟩ := h; rfl
  · obtain ⟨F0, ob, v1, inputs1, v2, nexts1, v3, outs1, E_BadTable, R, rfl, wf, r1, r2, r3, hW, hE_BadTable, hQ⟩ := h
    have nd := sc_Machine___init___bad.nd
    refine ⟨(tSeq (tIfS (tOr (tNot (tB (tCall (sp_is_whole K cc) [] E0 (tCons (tVar 1) tNil)))) (tOr (tNot (tTest (tChain kLe kLe (tC (.int 0)) (tVar 1) (tC (.int 6))))) (tNot (tB (tCB (rIsi K) (tCons (tVar 2) (tCons (tC (.ty "list")) tNil))))))) (tRaise (fun cls d _ H => E cls d H) cc.BadTable) tNext) (tSeq (tIfS (tOr (tNot (tB (tCall (sp_is_pairs_any K cc) [] E0 (tCons (tVar 2) (tCons (tC (.int 120)) (tCons (tCB (Wk.rLen K) (tCons (tVar 2) tNil)) (tCons (tVar 1) tNil))))))) (tNot (tB (tCall (sp_is_pairs_any K cc) [] E0 (tCons (tVar 3) (tCons (tC (.int 6)) (tCons (tCB (Wk.rLen K) (tCons (tVar 2) tNil)) (tCons (tVar 1) tNil)))))))) (tRaise (fun cls d _ H => E cls d H) cc.BadTable) tNext) tCut)), (pss_cons (ps_if (PW.pt (pw_or (pt_not (pt_val (pe_fn c_is_whole (hr.mono (by decide)) rfl (pa_cons (pv 1) pa_nil)))) (pw_or (pt_not (pt_chain op_le op_le pe_int (pv 1) (pe_globE T.gl_MOST_INPUTS rfl))) (pw_or1 (pt_not (pt_val (pe_callB call_isi (by rfl) n_isinstance PyProof.Rows.boot_isinstance (pa_cons (pv 2) (pa_cons (pe_bltn (v := .ty "list") (by rfl) n_list PyProof.Rows.boot_list rfl) pa_nil))))))))) (pss_one (ps_raise (W := (fun cls d _ H => E cls d H)) rfl (takes_of rfl rfl rfl rfl) (pmk_own PySem.F.excBase_ValueError T.xc_BadTable.x T.xc_BadTable.g T.xc_BadTable.k (raises_own T.xc_BadTable.b T.xc_BadTable.t) (by exact rfl)))) pss_nil) (pss_cons (ps_if (PW.pt (pw_or (pt_not (pt_val (pe_fn c_is_pairs_any (hr.mono (by decide)) rfl (pa_cons (pv 2) (pa_cons (pe_globE T.gl_MOST_STORES rfl) (pa_cons (pe_callB call_len_seq (by rfl) n_len PySem.boot_len (pa_cons (pv 2) pa_nil)) (pa_cons (pv 1) pa_nil))))))) (pw_or1 (pt_not (pt_val (pe_fn c_is_pairs_any (hr.mono (by decide)) rfl (pa_cons (pv 3) (pa_cons (pe_globE T.gl_MOST_OUTS rfl) (pa_cons (pe_callB call_len_seq (by rfl) n_len PySem.boot_len (pa_cons (pv 2) pa_nil)) (pa_cons (pv 1) pa_nil)))))))))) (pss_one (ps_raise (W := (fun cls d _ H => E cls d H)) rfl (takes_of rfl rfl rfl rfl) (pmk_own PySem.F.excBase_ValueError T.xc_BadTable.x T.xc_BadTable.g T.xc_BadTable.k (raises_own T.xc_BadTable.b T.xc_BadTable.t) (by exact rfl)))) pss_nil) pss_cut)), ?_⟩
    have w := Wf.id wf
    refine q_sq fun N1 hN1 => ?_
    refine a_ifE ?_
    refine e_jnT hW (fun b F' H' => b = b ∧ Wf F0 H0 F' H' ∧ Ex F0 F') ?_ ?_
    · intro N2 hN2 hW
      have gx1 : Ex F0 F0 := Ex.rfl'
      refine e_tOr ?_
      refine e_tNot ?_
      refine e_tB ?_
      refine e_call ?_
      refine a_val (v := v1) (val_var rfl) ?_
      refine a_nil ?_
      refine ⟨F0, (v1), (inputs1), _, rfl, w.f, r1, hW, ?_⟩
      intro z1 hW F1 H1 s1
      replace r1 := Rep.mono _ s1.g r1
      replace r2 := Rep.mono _ s1.g r2
      replace r3 := Rep.mono _ s1.g r3
      replace w := w.tr s1
      replace gx1 := Ex.tr gx1 s1.g
      refine bl_v ?_
      refine bb_ifn (fun hc1 => ?_) (fun hc1 => ?_)
      · have hW := ifP hW hc1
        obtain ⟨y1, hy1, hW⟩ := hW
        have hv1 := an_i r1 hy1
        refine e_ans (b := decide ((¬ (((0 : Nat) : Int) ≤ y1 ∧ y1 ≤ ((6 : Nat) : Int))) ∨ (¬ ((isA "list" nexts1) = true)))) (t_or (t_not (t_of (vb_of (v_chain (b1 := decide (((0 : Nat) : Int) ≤ y1)) (b2 := decide (y1 ≤ ((6 : Nat) : Int))) (x := (.int ((0 : Nat) : Int))) (y := (.int (y1))) (z := (.int ((6 : Nat) : Int))) val_c (v_eq (val_var rfl) hv1) val_c (fun Q k => rv2 (c_le val_c val_c) k) (fun Q k => rv2 (c_le val_c val_c) k)) dec_and))) (fun _ => (t_not (t_ofB (vb_of (v_isiA "list" (val_var rfl) r2 w.f) dec_tt))))) ?_
        exact hN2 (decide ((¬ (((0 : Nat) : Int) ≤ y1 ∧ y1 ≤ ((6 : Nat) : Int))) ∨ (¬ ((isA "list" nexts1) = true)))) _ _ ⟨rfl, w, gx1⟩ hW
      · have hW := ifN hW hc1
        exact hN2 true _ _ ⟨rfl, w, gx1⟩ hW
    intro b1 F2 H2 hI1 hW
    obtain ⟨_, w, gx2⟩ := hI1
    have r1 := Rep.mono _ gx2 r1
    have r2 := Rep.mono _ gx2 r2
    have r3 := Rep.mono _ gx2 r3
    refine bb_if (fun hc2 => ?_) (fun hc2 => ?_)
    · have hW := ifP hW hc2
      refine a_raise ?_
      exact hE_BadTable hW _ _ w
    · have hW := ifN hW hc2
      obtain ⟨y2, hy2, hW⟩ := hW
      obtain rfl : v1 = .int ((y2 : Nat) : Int) := an_i r1 hy2
      refine hN1 _ _ ?_
      refine q_sq fun N3 hN3 => ?_
      refine a_ifE ?_
      refine e_jnT hW (fun b F' H' => b = b ∧ Wf F0 H0 F' H' ∧ Ex F2 F') ?_ ?_
      · intro N4 hN4 hW
        have gx3 : Ex F2 F2 := Ex.rfl'
        refine e_tOr ?_
        refine e_tNot ?_
        refine e_tB ?_
        refine e_call ?_
        refine a_val (v := v2) (val_var rfl) ?_
        refine a_val (v := (.int ((120 : Nat) : Int))) val_c ?_
        obtain ⟨ys1, hy3, hW⟩ := hW
        have r4 := an_toL r2 hy3
        refine a_val (v := (.int ((ys1.length : Nat) : Int))) (len_L r4 w.f (val_var rfl)) ?_
        refine a_val (v := (.int ((y2 : Nat) : Int))) (val_var rfl) ?_
        refine a_nil ?_
        refine ⟨F2, (v2), (nexts1), (120), (ys1.length), (y2), _, rfl, w.f, r2, hW, ?_⟩
        intro z2 hW F3 H3 s2
        replace r4 := Rep.mono _ s2.g r4
        replace r3 := Rep.mono _ s2.g r3
        replace w := w.tr s2
        replace gx3 := Ex.tr gx3 s2.g
        refine bl_v ?_
        refine bb_ifn (fun hc3 => ?_) (fun hc3 => ?_)
        · have hW := ifP hW hc3
          refine e_tNot ?_
          refine e_tB ?_
          refine e_call ?_
          refine a_val (v := v3) (val_var rfl) ?_
          refine a_val (v := (.int ((6 : Nat) : Int))) val_c ?_
          refine a_val (v := (.int ((ys1.length : Nat) : Int))) (len_L r4 w.f (val_var rfl)) ?_
          refine a_val (v := (.int ((y2 : Nat) : Int))) (val_var rfl) ?_
          refine a_nil ?_
          refine ⟨F3, (v3), (outs1), (6), (ys1.length), (y2), _, rfl, w.f, r3, hW, ?_⟩
          intro z3 hW F4 H4 s3
          replace r4 := Rep.mono _ s3.g r4
          replace r3 := Rep.mono _ s3.g r3
          replace w := w.tr s3
          replace gx3 := Ex.tr gx3 s3.g
          refine bl_v ?_
          exact hN4 (!z3) _ _ ⟨rfl, w, gx3⟩ hW
        · have hW := ifN hW hc3
          exact hN4 true _ _ ⟨rfl, w, gx3⟩ hW
      intro b2 F5 H5 hI2 hW
      obtain ⟨_, w, gx4⟩ := hI2
      have r2 := Rep.mono _ gx4 r2
      have r3 := Rep.mono _ gx4 r3
      refine bb_if (fun hc4 => ?_) (fun hc4 => ?_)
      · have hW := ifP hW hc4
        refine a_raise ?_
        exact hE_BadTable hW _ _ w
      · have hW := ifN hW hc4
        refine hN3 _ _ ?_
        exact hW
abbrev s_Machine_told_one : Stmt := inClass (topS 13) 3
def W_Machine_told_one (self1 : Nat × List (Nat × Nat) × List (Nat × Nat)) (R : (Nat × List (Nat × Nat) × List (Nat × Nat)) → Prop) : Prop := R (self1.1, self1.2.1, self1.2.2)
def sp_Machine_told_one (K : PySem.W.Frag) (cc : Cz) : Sp := fun vs H Q _ => ∃ (F : Hp) (v1 : V) (self1 : Nat × List (Nat × Nat) × List (Nat × Nat)) (R : (Nat × List (Nat × Nat) × List (Nat × Nat)) → Prop), vs = [v1] ∧ Ex F H ∧ (pO3 cc.Machine "inputs" "nexts" "outs" pN (pTL (pT2 pN pN)) (pTL (pT2 pN pN))).r F v1 self1 ∧ W_Machine_told_one self1 R ∧ ∀ z, R z → ∀ (l1 : Addr) v F' H', Wf F H F' H' → (pT3 pN pV (pL (pT2 pN pN))).r F' v (z.1, V.ref l1, z.2.2) → XL (pT2 pN pN) H F' H' l1 z.2.1 → Q v H'
abbrev N_Machine_told_one : List Str := ["self"]
theorem sc_Machine_told_one : FnScope N_Machine_told_one ["self"] (defScope s_Machine_told_one) := ⟨rfl, rfl, rfl, by decide +kernel, rfl, by decide +kernel, by decide +kernel⟩
theorem ok_Machine_told_one {P : Program} {w0 : World} {K : PySem.W.Frag} {mg : Str → Option Value} {base : Heap} {f : Addr} {fd : FuncData} {cc : Cz} (T : Tz K mg cc) (FU : Fun K "told" "Machine.told" s_Machine_told_one f fd) (hm : Meth K cc.Machine "told" f) (hb : Binds K fd ["self"] []) (n_list : mg "list" = none) : Md P w0 K mg base CX0 1 cc.Machine "told" ["self"] (sp_Machine_told_one K cc) := by
  refine ⟨f, fd, FU.ok sc_Machine_told_one (fun vs H Q E h => ?_) (fun cdv A outer s H0 vs Q E hr h => ?_), hm, hb⟩
  · obtain ⟨_, _, _, _, rfl, _⟩ := h; rfl
  · obtain ⟨F0, v1, self1, R, rfl, wf, r1, hW, hQ⟩ := h
    have nd := sc_Machine_told_one.nd
    refine ⟨(tRet (tTup (tCons (tFld K (tVar 0) "inputs") (tCons (tCB (rListOf K) (tCons (tFld K (tVar 0) "nexts") tNil)) (tCons (tCB (rListOf K) (tCons (tFld K (tVar 0) "outs") tNil)) tNil))))), (pss_one (ps_ret (pe_tup (pa_cons (pe_fld (pv 0) rfl) (pa_cons (pe_callTy call_list_of (by rfl) n_list PyProof.Rows.boot_list (pa_cons (pe_fld (pv 0) rfl) pa_nil)) (pa_cons (pe_callTy call_list_of (by rfl) n_list PyProof.Rows.boot_list (pa_cons (pe_fld (pv 0) rfl) pa_nil)) pa_nil)))))), ?_⟩
    have w := Wf.id wf
    refine a_retE ?_
    refine e_tup ?_
    obtain ⟨_, rfl, fl1⟩ := fl_31 (K := K) T.cl_Machine T.na_Machine_inputs r1 w.f
    refine a_val (v := (.int ((self1.1 : Nat) : Int))) (fl1 (val_var rfl)) ?_
    refine a_cons ?_
    refine e_cb ?_
    obtain ⟨v3, r3, fl2⟩ := fl_32 (K := K) T.cl_Machine T.na_Machine_nexts r1 w.f
    refine a_val (v := v3) (fl2 (val_var rfl)) ?_
    refine a_nil ?_
    refine n_listXT r3 w ?_
    intro p1 H1 hp1 s1 x1
    replace r1 := Rep.mono _ s1.g r1
    replace r3 := Rep.mono _ s1.g r3
    replace w := w.tr s1
    refine a_cons ?_
    refine e_cb ?_
    obtain ⟨v4, r4, fl3⟩ := fl_33 (K := K) T.cl_Machine T.na_Machine_outs r1 w.f
    refine a_val (v := v4) (fl3 (val_var rfl)) ?_
    refine a_nil ?_
    refine n_listXT r4 w ?_
    intro p2 H2 hp2 s2 x2
    have ne1 := x1.ne hp2
    replace r1 := Rep.mono _ s2.g r1
    replace r3 := Rep.mono _ s2.g r3
    replace x1 := x1.step s2
    replace r4 := Rep.mono _ s2.g r4
    replace w := w.tr s2
    refine a_nil ?_
    obtain ⟨F1, w1, g1, r5, fz1⟩ := x2.frzE w
    replace r1 := Rep.mono _ g1 r1
    replace r3 := Rep.mono _ g1 r3
    replace x1 := x1.frzO fz1 ne1 g1
    replace r4 := Rep.mono _ g1 r4
    replace w := w1
    refine n_tup3 (e := pN) (f := pV) (g := (pL (pT2 pN pN))) (x := self1.1) (y := V.ref p1) (z := self1.2.2) rfl rfl r5 w ?_
    intro p3 F2 H3 s3 r6
    replace r1 := Rep.mono _ s3.g r1
    replace r3 := Rep.mono _ s3.g r3
    replace x1 := x1.step s3
    replace r4 := Rep.mono _ s3.g r4
    replace r5 := Rep.mono _ s3.g r5
    replace w := w.tr s3
    exact hQ (self1.1, self1.2.1, self1.2.2) hW _ _ _ _ w r6 x1
abbrev s_Machine_told_two : Stmt := inClass (topS 13) 3
def W_Machine_told_two (self1 : Nat × List (Nat × Nat) × List (Nat × Nat)) (R : (Nat × List (Nat × Nat) × List (Nat × Nat)) → Prop) : Prop := R (self1.1, self1.2.1, self1.2.2)
def sp_Machine_told_two (K : PySem.W.Frag) (cc : Cz) : Sp := fun vs H Q _ => ∃ (F : Hp) (v1 : V) (self1 : Nat × List (Nat × Nat) × List (Nat × Nat)) (R : (Nat × List (Nat × Nat) × List (Nat × Nat)) → Prop), vs = [v1] ∧ Ex F H ∧ (pO3 cc.Machine "inputs" "nexts" "outs" pN (pTL (pT2 pN pN)) (pTL (pT2 pN pN))).r F v1 self1 ∧ W_Machine_told_two self1 R ∧ ∀ z, R z → ∀ (l2 : Addr) v F' H', Wf F H F' H' → (pT3 pN (pL (pT2 pN pN)) pV).r F' v (z.1, z.2.1, V.ref l2) → XL (pT2 pN pN) H F' H' l2 z.2.2 → Q v H'
abbrev N_Machine_told_two : List Str := ["self"]
theorem sc_Machine_told_two : FnScope N_Machine_told_two ["self"] (defScope s_Machine_told_two) := ⟨rfl, rfl, rfl, by decide +kernel, rfl, by decide +kernel, by decide +kernel⟩
theorem ok_Machine_told_two {P : Program} {w0 : World} {K : PySem.W.Frag} {mg : Str → Option Value} {base : Heap} {f : Addr} {fd : FuncData} {cc : Cz} (T : Tz K mg cc) (FU : Fun K "told" "Machine.told" s_Machine_told_two f fd) (hm : Meth K cc.Machine "told" f) (hb : Binds K fd ["self"] []) (n_list : mg "list" = none) : Md P w0 K mg base CX0 1 cc.Machine "told" ["self"] (sp_Machine_told_two K cc) := by
  refine ⟨f, fd, FU.ok sc_Machine_told_two (fun vs H Q E h => ?_) (fun cdv A outer s H0 vs Q E hr h => ?_), hm, hb⟩
  · obtain ⟨_, _, _, _, rfl, _⟩ := h; rfl
  · obtain ⟨F0, v1, self1, R, rfl, wf, r1, hW, hQ⟩ := h
    have nd := sc_Machine_told_two.nd
    refine ⟨(tRet (tTup (tCons (tFld K (tVar 0) "inputs") (tCons (tCB (rListOf K) (tCons (tFld K (tVar 0) "nexts") tNil)) (tCons (tCB (rListOf K) (tCons (tFld K (tVar 0) "outs") tNil)) tNil))))), (pss_one (ps_ret (pe_tup (pa_cons (pe_fld (pv 0) rfl) (pa_cons (pe_callTy call_list_of (by rfl) n_list PyProof.Rows.boot_list (pa_cons (pe_fld (pv 0) rfl) pa_nil)) (pa_cons (pe_callTy call_list_of (by rfl) n_list PyProof.Rows.boot_list (pa_cons (pe_fld (pv 0) rfl) pa_nil)) pa_nil)))))), ?_⟩
    have w := Wf.id wf
    refine a_retE ?_
    refine e_tup ?_
    obtain ⟨_, rfl, fl1⟩ := fl_31 (K := K) T.cl_Machine T.na_Machine_inputs r1 w.f
    refine a_val (v := (.int ((self1.1 : Nat) : Int))) (fl1 (val_var rfl)) ?_
    refine a_cons ?_
    refine e_cb ?_
    obtain ⟨v3, r3, fl2⟩ := fl_32 (K := K) T.cl_Machine T.na_Machine_nexts r1 w.f
    refine a_val (v := v3) (fl2 (val_var rfl)) ?_
    refine a_nil ?_
    refine n_listXT r3 w ?_
    intro p1 H1 hp1 s1 x1
    replace r1 := Rep.mono _ s1.g r1
    replace r3 := Rep.mono _ s1.g r3
    replace w := w.tr s1
    refine a_cons ?_
    refine e_cb ?_
    obtain ⟨v4, r4, fl3⟩ := fl_33 (K := K) T.cl_Machine T.na_Machine_outs r1 w.f
    refine a_val (v := v4) (fl3 (val_var rfl)) ?_
    refine a_nil ?_
    refine n_listXT r4 w ?_
    intro p2 H2 hp2 s2 x2
    have ne1 := x1.ne hp2
    replace r1 := Rep.mono _ s2.g r1
    replace r3 := Rep.mono _ s2.g r3
    replace x1 := x1.step s2
    replace r4 := Rep.mono _ s2.g r4
    replace w := w.tr s2
    refine a_nil ?_
    obtain ⟨F1, w1, g1, r5, fz1⟩ := x1.frzE w
    replace r1 := Rep.mono _ g1 r1
    replace r3 := Rep.mono _ g1 r3
    replace r4 := Rep.mono _ g1 r4
    replace x2 := x2.frzO fz1 (Ne.symm ne1) g1
    replace w := w1
    refine n_tup3 (e := pN) (f := (pL (pT2 pN pN))) (g := pV) (x := self1.1) (y := self1.2.1) (z := V.ref p2) rfl r5 rfl w ?_
    intro p3 F2 H3 s3 r6
    replace r1 := Rep.mono _ s3.g r1
    replace r3 := Rep.mono _ s3.g r3
    replace r5 := Rep.mono _ s3.g r5
    replace r4 := Rep.mono _ s3.g r4
    replace x2 := x2.step s3
    replace w := w.tr s3
    exact hQ (self1.1, self1.2.1, self1.2.2) hW _ _ _ _ w r6 x2
abbrev s_cell : Stmt := topS 15
def W_cell (script1 : List Int) (k1 : Nat) (R : Int → Prop) : Prop := if k1 < script1.length then (∃ x1, script1[k1]? = some x1 ∧ R x1) else (R (((41 * k1) + 3 : Nat) : Int))
def sp_cell (K : PySem.W.Frag) (cc : Cz) : Sp := fun vs H Q _ => ∃ (F : Hp) (v1 : V) (script1 : List Int) (k1 : Nat) (R : Int → Prop), vs = [v1, (.int ((k1 : Nat) : Int))] ∧ Ex F H ∧ (pScr K).r F v1 script1 ∧ W_cell script1 k1 R ∧ ∀ z, R z → ∀ F' H', Wf F H F' H' → Q (.int (z)) H'
abbrev N_cell : List Str := ["_law_script", "_law_k"]
theorem sc_cell : FnScope N_cell ["_law_script", "_law_k"] (defScope s_cell) := ⟨rfl, rfl, rfl, by decide +kernel, rfl, by decide +kernel, by decide +kernel⟩
theorem ok_cell {P : Program} {w0 : World} {K : PySem.W.Frag} {mg : Str → Option Value} {base : Heap} {f : Addr} {fd : FuncData} {cc : Cz} (T : Tz K mg cc) (FU : Fun K "_law_cell" "_law_cell" s_cell f fd) (hm : mg "_law_cell" = some (.ref f)) (hb : Binds K fd ["_law_script", "_law_k"] []) (n_len : mg "len" = none) : Fn P w0 K mg base CX0 1 "_law_cell" ["_law_script", "_law_k"] (sp_cell K cc) := by
  refine ⟨f, fd, FU.ok sc_cell (fun vs H Q E h => ?_) (fun cdv A outer s H0 vs Q E hr h => ?_), hm, FU.kp, hb⟩
  · obtain ⟨_, _, _, _, _, rfl, _⟩ := h; rfl
  · obtain ⟨F0, v1, script1, k1, R, rfl, wf, r1, hW, hQ⟩ := h
    have nd := sc_cell.nd
    refine ⟨(tSeq (tIfS (tTest (tOp kLt (tVar 1) (tCB (Wk.rLen K) (tCons (tVar 0) tNil)))) (tRet (tOp (L2.rIxL K) (tVar 0) (tVar 1))) tNext) (tRet (tOp kAdd (tOp kMul (tC (.int 41)) (tVar 1)) (tC (.int 3))))), (pss_cons (ps_if (pt_cmpR op_lt (pv 1) (pe_callB call_len_seq (by rfl) n_len PySem.boot_len (pa_cons (pv 0) pa_nil)) (nomark _)) (pss_one (ps_ret (pe_ix ix_list (pv 0) (pv 1) (fun _ _ => rfl)))) pss_nil) (pss_one (ps_ret (pe_op op_add (pe_op op_mul pe_int (pv 1)) pe_int)))), ?_⟩
    have w := Wf.id wf
    refine q_sq fun N1 hN1 => ?_
    refine a_ifE ?_
    refine e_ans (b := decide (k1 < script1.length)) (t_of (vb_dec (c_lt (val_var rfl) (len_S r1 w.f (val_var rfl))) n_lt)) ?_
    refine b_if (fun hc1 => ?_) (fun hc1 => ?_)
    · have hW := ifP hW hc1
      obtain ⟨x1, hx1_1, hW⟩ := hW
      have ix1 := ix_S (K := K) w.f r1 hx1_1
      refine a_ret (v := (.int (x1))) (ix1 (val_var rfl) (val_var rfl)) ?_
      exact hQ _ hW _ _ w
    · have hW := ifN hW hc1
      refine hN1 _ _ ?_
      refine a_ret (v := (.int ((((41 * k1) + 3 : Nat) : Int)))) (vn_add (vn_mul val_c (val_var rfl) (.inl (by decide))) val_c) ?_
      exact hQ _ hW _ _ w
abbrev s_mix : Stmt := topS 16
def W_mix (cell_here1 : Int) (k1 : Nat) (R : Nat → Prop) : Prop := ∀ number1 : Nat, number1 = ((((modN cell_here1 2147483647) * 48271) + (7919 * k1)) + 11) % 2147483647 → (NMul number1 number1) ∧ ∀ number2 : Nat, number2 = (number1 * number1) % 2147483629 → (NMul number2 ((number2 + (48271 * k1)) + 7)) ∧ R ((number2 * ((number2 + (48271 * k1)) + 7)) % 2147483587)
def sp_mix (K : PySem.W.Frag) (cc : Cz) : Sp := fun vs H Q _ => ∃ (F : Hp) (cell_here1 : Int) (k1 : Nat) (R : Nat → Prop), vs = [(.int (cell_here1)), (.int ((k1 : Nat) : Int))] ∧ Ex F H ∧ W_mix cell_here1 k1 R ∧ ∀ z, R z → ∀ F' H', Wf F H F' H' → Q (.int ((z : Nat) : Int)) H'
abbrev N_mix : List Str := ["_law_cell_here", "_law_k", "_law_number"]
theorem sc_mix : FnScope N_mix ["_law_cell_here", "_law_k"] (defScope s_mix) := ⟨rfl, rfl, rfl, by decide +kernel, rfl, by decide +kernel, by decide +kernel⟩
theorem ok_mix {P : Program} {w0 : World} {K : PySem.W.Frag} {mg : Str → Option Value} {base : Heap} {f : Addr} {fd : FuncData} {cc : Cz} (T : Tz K mg cc) (FU : Fun K "_law_mix" "_law_mix" s_mix f fd) (hm : mg "_law_mix" = some (.ref f)) (hb : Binds K fd ["_law_cell_here", "_law_k"] []) : Fn P w0 K mg base CX0 1 "_law_mix" ["_law_cell_here", "_law_k"] (sp_mix K cc) := by
  refine ⟨f, fd, FU.ok sc_mix (fun vs H Q E h => ?_) (fun cdv A outer s H0 vs Q E hr h => ?_), hm, FU.kp, hb⟩
  · obtain ⟨_, _, _, _, rfl, _⟩ := h; rfl
  · obtain ⟨F0, cell_here1, k1, R, rfl, wf, hW, hQ⟩ := h
    have nd := sc_mix.nd
    refine ⟨(tSeq (tAsg (tOp kMod (tOp kAdd (tOp kAdd (tOp kMul (tOp kMod (tVar 0) (tC (.int 2147483647))) (tC (.int 48271))) (tOp kMul (tC (.int 7919)) (tVar 1))) (tC (.int 11))) (tC (.int 2147483647))) (gName 2)) (tSeq (tAsg (tOp kMod (tOp kMul (tVar 2) (tVar 2)) (tC (.int 2147483629))) (gName 2)) (tRet (tOp kMod (tOp kMul (tVar 2) (tOp kAdd (tOp kAdd (tVar 2) (tOp kMul (tC (.int 48271)) (tVar 1))) (tC (.int 7)))) (tC (.int 2147483587)))))), (pss_cons (ps_set (i := 2) nd rfl (Or.inl rfl) (pe_op op_mod (pe_op op_add (pe_op op_add (pe_op op_mul (pe_op op_mod (pv 0) pe_int) pe_int) (pe_op op_mul pe_int (pv 1))) pe_int) pe_int)) (pss_cons (ps_set (i := 2) nd rfl (Or.inl rfl) (pe_op op_mod (pe_op op_mul (pv 2) (pv 2)) pe_int)) (pss_one (ps_ret (pe_op op_mod (pe_op op_mul (pv 2) (pe_op op_add (pe_op op_add (pv 2) (pe_op op_mul pe_int (pv 1))) pe_int)) pe_int))))), ?_⟩
    have w := Wf.id wf
    refine q_sq fun N1 hN1 => ?_
    obtain ⟨number1, enumber1⟩ : ∃ number1 : Nat, number1 = ((((modN cell_here1 2147483647) * 48271) + (7919 * k1)) + 11) % 2147483647 := ⟨_, rfl⟩
    replace hW := hW number1 enumber1
    refine a_asg (v := (.int ((number1 : Nat) : Int))) (v_eq (vn_mod (vn_add (vn_add (vn_mul (vm_mod (val_var rfl) val_c (by decide)) val_c (.inr (by decide))) (vn_mul val_c (val_var rfl) (.inl (by decide)))) val_c) val_c (by decide)) (by rw [enumber1])) ?_
    refine hN1 _ _ ?_
    refine q_sq fun N2 hN2 => ?_
    obtain ⟨c1, hW⟩ := hW
    obtain ⟨number2, enumber2⟩ : ∃ number2 : Nat, number2 = (number1 * number1) % 2147483629 := ⟨_, rfl⟩
    replace hW := hW number2 enumber2
    refine a_asg (v := (.int ((number2 : Nat) : Int))) (v_eq (vn_mod (vn_mul (val_var rfl) (val_var rfl) c1) val_c (by decide)) (by rw [enumber2])) ?_
    refine hN2 _ _ ?_
    obtain ⟨c2, hW⟩ := hW
    refine a_ret (v := (.int (((number2 * ((number2 + (48271 * k1)) + 7)) % 2147483587 : Nat) : Int))) (vn_mod (vn_mul (val_var rfl) (vn_add (vn_add (val_var rfl) (vn_mul val_c (val_var rfl) (.inl (by decide)))) val_c) c2) val_c (by decide)) ?_
    exact hQ _ hW _ _ w
abbrev s_masks : Stmt := topS 17
def W_masks (cell_here1 : Int) (start1 : Nat) (many1 : Nat) (width1 : Nat) (digits1 : Bool) (R : (List Nat) → Prop) : Prop := (NMul many1 width1) ∧ ((many1 * width1) + 1 < 100000000) ∧ ∀ left1 : Nat, left1 = (modN cell_here1 (2 ^ ((many1 * width1) + 1))) / 2 → (many1 < 1000000) ∧ forW (List.range many1) (([] : List Nat), left1) (fun k1 (found1, left2) nx1 bk1 => if digits1 = true then ((width1 < 100000000) ∧ (found1.length < 1000000) ∧ (width1 < 100000000) ∧ (NDiv (2 ^ width1)) ∧ ∀ left3 : Nat, left3 = left2 / (2 ^ width1) → nx1 (found1 ++ [left2 % (2 ^ width1)], left3)) else (W_mix cell_here1 (start1 + k1) fun z1 => (width1 < 100000000) ∧ (found1.length < 1000000) ∧ nx1 (found1 ++ [z1 % (2 ^ width1)], left2))) fun (found1, left2) => R found1
def sp_masks (K : PySem.W.Frag) (cc : Cz) : Sp := fun vs H Q _ => ∃ (F : Hp) (cell_here1 : Int) (start1 : Nat) (many1 : Nat) (width1 : Nat) (digits1 : Bool) (R : (List Nat) → Prop), vs = [(.int (cell_here1)), (.int ((start1 : Nat) : Int)), (.int ((many1 : Nat) : Int)), (.int ((width1 : Nat) : Int)), (.bl (digits1))] ∧ Ex F H ∧ W_masks cell_here1 start1 many1 width1 digits1 R ∧ ∀ z, R z → ∀ p F' H', Wf F H F' H' → XL pN H F' H' p z → Q (.ref p) H'
abbrev N_masks : List Str := ["_law_cell_here", "_law_start", "_law_many", "_law_width", "_law_digits", "_law_found", "_law_left", "_law_k"]
theorem sc_masks : FnScope N_masks ["_law_cell_here", "_law_start", "_law_many", "_law_width", "_law_digits"] (defScope s_masks) := ⟨rfl, rfl, rfl, by decide +kernel, rfl, by decide +kernel, by decide +kernel⟩
theorem ok_masks {P : Program} {w0 : World} {K : PySem.W.Frag} {mg : Str → Option Value} {base : Heap} {f : Addr} {fd : FuncData} {cc : Cz} (T : Tz K mg cc) (FU : Fun K "_law_masks" "_law_masks" s_masks f fd) (hm : mg "_law_masks" = some (.ref f)) (hb : Binds K fd ["_law_cell_here", "_law_start", "_law_many", "_law_width", "_law_digits"] []) (c_mix : Fn P w0 K mg base CX0 1 "_law_mix" ["_law_cell_here", "_law_k"] (sp_mix K cc)) (n_range : mg "range" = none) : Fn P w0 K mg base CX0 2 "_law_masks" ["_law_cell_here", "_law_start", "_law_many", "_law_width", "_law_digits"] (sp_masks K cc) := by
  refine ⟨f, fd, FU.ok sc_masks (fun vs H Q E h => ?_) (fun cdv A outer s H0 vs Q E hr h => ?_), hm, FU.kp, hb⟩
  · obtain ⟨_, _, _, _, _, _, _, rfl, _⟩ := h; rfl
  · obtain ⟨F0, cell_here1, start1, many1, width1, digits1, R, rfl, wf, hW, hQ⟩ := h
    have nd := sc_masks.nd
    refine ⟨(tSeq (tAsg (tLst tNil) (gName 5)) (tSeq (tAsg (tOp kDiv (tOp kMod (tVar 0) (tOp kShl (tC (.int 1)) (tOp kAdd (tOp kMul (tVar 2) (tVar 3)) (tC (.int 1))))) (tC (.int 2))) (gName 6)) (tSeq (tFor (iRng1 (tCons (tVar 2) tNil)) (gName 7) (tIfS (tB (tVar 4)) (tSeq (tDrop (tBM K "list" rAppend (tVar 5) (tCons (tOp kMod (tVar 6) (tOp kShl (tC (.int 1)) (tVar 3))) tNil))) (tAsg (tOp kDiv (tVar 6) (tOp kShl (tC (.int 1)) (tVar 3))) (gName 6))) (tDrop (tBM K "list" rAppend (tVar 5) (tCons (tOp kMod (tCall (sp_mix K cc) [] E0 (tCons (tVar 0) (tCons (tOp kAdd (tVar 1) (tVar 7)) tNil))) (tOp kShl (tC (.int 1)) (tVar 3))) tNil))))) (tRet (tVar 5))))), (pss_cons (ps_set (i := 5) nd rfl (Or.inl rfl) (pe_lst pa_nil)) (pss_cons (ps_set (i := 6) nd rfl (Or.inl rfl) (pe_op op_fdivW (pe_op op_mod (pv 0) (pe_op op_shlW pe_int (pe_op op_add (pe_op op_mul (pv 2) (pv 3)) pe_int))) pe_int)) (pss_cons (ps_for PassesOwn.never rfl (pi_range1 rfl n_range (pa_cons (pv 2) pa_nil)) (pg_name (i := 7) nd rfl (Or.inl rfl)) (pss_one (ps_if (pt_val (pv 4)) (pss_cons (ps_expr (pe_bm PySem.F.plainAttrs_list PySem.F.slot_list_append PySem.F.type_list_append mt_append (pv 5) (pa_cons (pe_op op_mod (pv 6) (pe_op op_shlW pe_int (pv 3))) pa_nil))) (pss_one (ps_set (i := 6) nd rfl (Or.inl rfl) (pe_op op_fdivW (pv 6) (pe_op op_shlW pe_int (pv 3)))))) (pss_one (ps_expr (pe_bm PySem.F.plainAttrs_list PySem.F.slot_list_append PySem.F.type_list_append mt_append (pv 5) (pa_cons (pe_op op_mod (pe_fn c_mix (hr.mono (by decide)) rfl (pa_cons (pv 0) (pa_cons (pe_op op_add (pv 1) (pv 7)) pa_nil))) (pe_op op_shlW pe_int (pv 3))) pa_nil))))))) (pss_one (ps_ret (pv 5)))))), ?_⟩
    have w := Wf.id wf
    refine q_sq fun N1 hN1 => ?_
    refine a_asgE ?_
    refine e_lst ?_
    refine a_nil ?_
    refine n_lstX (e := pN) (xs := []) (vs := []) (show All pN _ [] [] from trivial) (show 0 < 1000000 from by decide) w ?_
    intro p1 H1 hp1 s1 x1
    replace w := w.tr s1
    refine hN1 _ _ ?_
    refine q_sq fun N2 hN2 => ?_
    obtain ⟨c1, hW⟩ := hW
    obtain ⟨c2, hW⟩ := hW
    obtain ⟨left1, eleft1⟩ : ∃ left1 : Nat, left1 = (modN cell_here1 (2 ^ ((many1 * width1) + 1))) / 2 := ⟨_, rfl⟩
    replace hW := hW left1 eleft1
    refine a_asg (v := (.int ((left1 : Nat) : Int))) (v_eq (vn_div (vm_mod (val_var rfl) (vn_one val_c (vn_add (vn_mul (val_var rfl) (val_var rfl) c1) val_c) c2) (Nat.two_pow_pos _)) val_c ⟨by decide, by decide +kernel⟩) (by rw [eleft1])) ?_
    refine hN2 _ _ ?_
    refine q_sq fun N3 hN3 => ?_
    refine f_RE ?_
    refine e_val (v := (.int ((many1 : Nat) : Int))) (val_var rfl) ?_
    obtain ⟨c3, hW⟩ := hW
    refine w_forR (S := List Nat × Nat) (fun s σ' F' H' => match s with | (found1, left2) => ∃ (o1 : Option V), Wf F0 H0 F' H' ∧ Ex F0 F' ∧ σ' = [some (.int (cell_here1)), some (.int ((start1 : Nat) : Int)), some (.int ((many1 : Nat) : Int)), some (.int ((width1 : Nat) : Int)), some (.bl (digits1)), some ((.ref p1)), some (.int ((left2 : Nat) : Int)), o1] ∧ XL pN H0 F' H' p1 found1) c3 hW ⟨_, w, Ex.rfl', rfl, x1⟩ ?_ ?_
    · intro N4 Bk1 k1 s2 σ' F1 H2 nx1 bk1 hI1 hx1 hW hN4 hB1
      obtain ⟨found1, left2⟩ := s2
      obtain ⟨o1, w, gx1, rfl, x2⟩ := hI1
      refine g_name ?_
      refine a_ifE ?_
      refine e_ans (b := decide (digits1 = true)) (t_ofB (vb_of (val_var rfl) dec_tt)) ?_
      refine b_if (fun hc1 => ?_) (fun hc1 => ?_)
      · have hW := ifP hW hc1
        refine q_sq fun N5 hN5 => ?_
        refine a_dropE ?_
        refine m_list x2 (val_var rfl) ?_
        obtain ⟨c4, hW⟩ := hW
        refine a_val (v := (.int ((left2 % (2 ^ width1) : Nat) : Int))) (vn_mod (val_var rfl) (vn_one val_c (val_var rfl) c4) (Nat.two_pow_pos _)) ?_
        refine a_nil ?_
        obtain ⟨c5, hW⟩ := hW
        refine a_app x2 w c5 rfl (fun H3 w1 x3 kp1 => ?_)
        replace w := w1
        refine hN5 _ _ ?_
        obtain ⟨c6, hW⟩ := hW
        obtain ⟨c7, hW⟩ := hW
        obtain ⟨left3, eleft2⟩ : ∃ left3 : Nat, left3 = left2 / (2 ^ width1) := ⟨_, rfl⟩
        replace hW := hW left3 eleft2
        refine a_asg (v := (.int ((left3 : Nat) : Int))) (v_eq (vn_div (val_var rfl) (vn_one val_c (val_var rfl) c6) c7) (by rw [eleft2])) ?_
        exact hN4 (found1 ++ [left2 % (2 ^ width1)], left3) _ _ _ ⟨_, w, gx1, rfl, x3⟩ hW
      · have hW := ifN hW hc1
        refine a_dropE ?_
        refine m_list x2 (val_var rfl) ?_
        refine a_cons ?_
        refine e_op ?_
        refine e_call ?_
        refine a_val (v := (.int (cell_here1))) (val_var rfl) ?_
        refine a_val (v := (.int ((start1 + k1 : Nat) : Int))) (vn_add (val_var rfl) (val_var rfl)) ?_
        refine a_nil ?_
        refine ⟨F1, (cell_here1), (start1 + k1), _, rfl, w.f, hW, ?_⟩
        intro z1 hW F2 H4 s3
        replace x2 := x2.step s3
        replace w := w.tr s3
        replace gx1 := Ex.tr gx1 s3.g
        obtain ⟨c8, hW⟩ := hW
        refine e_val (v := (.int ((2 ^ width1 : Nat) : Int))) (vn_one val_c (val_var rfl) c8) ?_
        refine rv2 (z := (.int ((z1 % (2 ^ width1) : Nat) : Int))) (vn_mod val_c val_c (Nat.two_pow_pos _)) ?_
        refine a_nil ?_
        obtain ⟨c9, hW⟩ := hW
        refine a_app x2 w c9 rfl (fun H5 w2 x4 kp2 => ?_)
        replace w := w2
        exact hN4 (found1 ++ [z1 % (2 ^ width1)], left2) _ _ _ ⟨_, w, gx1, rfl, x4⟩ hW
    · intro s4 σ' F3 H6 hI2 hW
      obtain ⟨found1, left2⟩ := s4
      obtain ⟨o1, w, gx2, rfl, x2⟩ := hI2
      refine hN3 _ _ ?_
      refine a_ret (v := (.ref p1)) (val_var rfl) ?_
      exact hQ _ hW _ _ _ w x2
abbrev s_thinned : Stmt := topS 18
def W_thinned (masks_here1 : List Nat) (cell_here1 : Int) (start1 : Nat) (way1 : Nat) (R : (List Nat) → Prop) : Prop := forW (enumT masks_here1) ([] : List Nat) (fun it1 found1 nx1 bk1 => jn (fun kk => if way1 = 1 then (W_mix cell_here1 (start1 + it1.1) fun z1 => ∀ mask3 : Nat, mask3 = it1.2 &&& z1 → kk mask3) else (kk it1.2)) fun mask2 => jn (fun kk => if (way1 = 2) ∧ (0 < it1.1) then ((1 ≤ it1.1) ∧ (it1.1 - 1 < 100000000) ∧ ∀ mask5 : Nat, mask5 = 2 ^ (it1.1 - 1) → kk mask5) else (kk mask2)) fun mask4 => jn (fun kk => if way1 = 3 then (∃ x7, [43690, 21845][it1.1 % 2]? = some x7 ∧ ∀ mask7 : Nat, mask7 = mask4 &&& x7 → kk mask7) else (kk mask4)) fun mask6 => (found1.length < 1000000) ∧ nx1 (found1 ++ [mask6])) fun found1 => R found1
def sp_thinned (K : PySem.W.Frag) (cc : Cz) : Sp := fun vs H Q _ => ∃ (F : Hp) (v1 : V) (masks_here1 : List Nat) (cell_here1 : Int) (start1 : Nat) (way1 : Nat) (R : (List Nat) → Prop), vs = [v1, (.int (cell_here1)), (.int ((start1 : Nat) : Int)), (.int ((way1 : Nat) : Int))] ∧ Ex F H ∧ (pL pN).r F v1 masks_here1 ∧ W_thinned masks_here1 cell_here1 start1 way1 R ∧ ∀ z, R z → ∀ p F' H', Wf F H F' H' → XL pN H F' H' p z → Q (.ref p) H'
abbrev N_thinned : List Str := ["_law_masks_here", "_law_cell_here", "_law_start", "_law_way", "_law_found", "_law_k", "_law_mask"]
theorem sc_thinned : FnScope N_thinned ["_law_masks_here", "_law_cell_here", "_law_start", "_law_way"] (defScope s_thinned) := ⟨rfl, rfl, rfl, by decide +kernel, rfl, by decide +kernel, by decide +kernel⟩
theorem ok_thinned {P : Program} {w0 : World} {K : PySem.W.Frag} {mg : Str → Option Value} {base : Heap} {f : Addr} {fd : FuncData} {cc : Cz} (T : Tz K mg cc) (FU : Fun K "_law_thinned" "_law_thinned" s_thinned f fd) (hm : mg "_law_thinned" = some (.ref f)) (hb : Binds K fd ["_law_masks_here", "_law_cell_here", "_law_start", "_law_way"] []) (c_mix : Fn P w0 K mg base CX0 1 "_law_mix" ["_law_cell_here", "_law_k"] (sp_mix K cc)) (n_enumerate : mg "enumerate" = none) : Fn P w0 K mg base CX0 2 "_law_thinned" ["_law_masks_here", "_law_cell_here", "_law_start", "_law_way"] (sp_thinned K cc) := by
  refine ⟨f, fd, FU.ok sc_thinned (fun vs H Q E h => ?_) (fun cdv A outer s H0 vs Q E hr h => ?_), hm, FU.kp, hb⟩
  · obtain ⟨_, _, _, _, _, _, _, rfl, _⟩ := h; rfl
  · obtain ⟨F0, v1, masks_here1, cell_here1, start1, way1, R, rfl, wf, r1, hW, hQ⟩ := h
    have nd := sc_thinned.nd
    refine ⟨(tSeq (tAsg (tLst tNil) (gName 4)) (tSeq (tFor (iEnum K (tCons (tVar 0) tNil)) (gTup K 2 (gCons (gName 5) (gCons (gName 6) gNil))) (tSeq (tIfS (tTest (tOp L2.rEq (tVar 3) (tC (.int 1)))) (tAsg (tOp kAnd (tVar 6) (tCall (sp_mix K cc) [] E0 (tCons (tVar 1) (tCons (tOp kAdd (tVar 2) (tVar 5)) tNil)))) (gName 6)) tNext) (tSeq (tIfS (tAnd (tTest (tOp L2.rEq (tVar 3) (tC (.int 2)))) (tTest (tOp kGt (tVar 5) (tC (.int 0))))) (tAsg (tOp kShl (tC (.int 1)) (tOp kSub (tVar 5) (tC (.int 1)))) (gName 6)) tNext) (tSeq (tIfS (tTest (tOp L2.rEq (tVar 3) (tC (.int 3)))) (tAsg (tOp kAnd (tVar 6) (tOp (L2.rIxL K) (tLst (tCons (tC (.int 43690)) (tCons (tC (.int 21845)) tNil))) (tOp kMod (tVar 5) (tC (.int 2))))) (gName 6)) tNext) (tDrop (tBM K "list" rAppend (tVar 4) (tCons (tVar 6) tNil))))))) (tRet (tVar 4)))), (pss_cons (ps_set (i := 4) nd rfl (Or.inl rfl) (pe_lst pa_nil)) (pss_cons (ps_for PassesOwn.never rfl (pi_enum (by rfl) n_enumerate (pa_cons (pv 0) pa_nil)) (pg_tup rfl (pgs_cons (pg_name (i := 5) nd rfl (Or.inl rfl)) (pgs_cons (pg_name (i := 6) nd rfl (Or.inl rfl)) pgs_nil)) (by rfl)) (pss_cons (ps_if (pt_cmpR op_eq (pv 3) pe_int (nomark _)) (pss_one (ps_set (i := 6) nd rfl (Or.inl rfl) (pe_op op_and (pv 6) (pe_fn c_mix (hr.mono (by decide)) rfl (pa_cons (pv 1) (pa_cons (pe_op op_add (pv 2) (pv 5)) pa_nil)))))) pss_nil) (pss_cons (ps_if (PW.pt (pw_and (pt_cmpR op_eq (pv 3) pe_int (nomark _)) (pw_and1 (pt_cmpR op_gt (pv 5) pe_int (nomark _))))) (pss_one (ps_set (i := 6) nd rfl (Or.inl rfl) (pe_op op_shlW pe_int (pe_op op_sub (pv 5) pe_int)))) pss_nil) (pss_cons (ps_if (pt_cmpR op_eq (pv 3) pe_int (nomark _)) (pss_one (ps_set (i := 6) nd rfl (Or.inl rfl) (pe_op op_and (pv 6) (pe_ix ix_list (pe_lst (pa_cons pe_int (pa_cons pe_int pa_nil))) (pe_op op_mod (pv 5) pe_int) (fun _ _ => rfl))))) pss_nil) (pss_one (ps_expr (pe_bm PySem.F.plainAttrs_list PySem.F.slot_list_append PySem.F.type_list_append mt_append (pv 4) (pa_cons (pv 6) pa_nil)))))))) (pss_one (ps_ret (pv 4))))), ?_⟩
    have w := Wf.id wf
    refine q_sq fun N1 hN1 => ?_
    refine a_asgE ?_
    refine e_lst ?_
    refine a_nil ?_
    refine n_lstX (e := pN) (xs := []) (vs := []) (show All pN _ [] [] from trivial) (show 0 < 1000000 from by decide) w ?_
    intro p1 H1 hp1 s1 x1
    replace r1 := Rep.mono _ s1.g r1
    replace w := w.tr s1
    refine hN1 _ _ ?_
    refine q_sq fun N2 hN2 => ?_
    refine f_J ?_
    refine a_val (v := v1) (val_var rfl) ?_
    refine a_nil ?_
    refine src_enum r1 w.f (fun a1 T1 => ?_)
    refine w_forG (S := List Nat) T1 (fun found1 σ' F' H' => ∃ (o1 : Option V) (o2 : Option V), Wf F0 H0 F' H' ∧ Ex F0 F' ∧ σ' = [some v1, some (.int (cell_here1)), some (.int ((start1 : Nat) : Int)), some (.int ((way1 : Nat) : Int)), some ((.ref p1)), o1, o2] ∧ XL pN H0 F' H' p1 found1) hW ⟨_, _, w, Ex.rfl', rfl, x1⟩ (fun s σ' F' H' hI => by obtain ⟨_, _, w', gx', _⟩ := hI; exact ⟨gx', w'.f⟩) w.f ?_ ?_
    · intro N3 Bk1 it1 u1 found1 σ' F1 H2 F2 H3 nx1 bk1 hI1 hx1 s3 ru1 hW hN3 hB1
      obtain ⟨o1, o2, w, gx1, rfl, x2⟩ := hI1
      have r1 := Rep.mono _ gx1 r1
      replace r1 := Rep.mono _ s3.g r1
      replace x2 := x2.step s3
      replace w := w.tr s3
      replace gx1 := Ex.tr gx1 s3.g
      obtain ⟨p2, u2, u3, rfl, h1, rfl, rfl⟩ := ru1
      refine ⟨p2, _, rfl, SqT.of (w.f _ _ h1), rfl, _, _, rfl, _, _, rfl, rfl, ?_⟩
      refine q_jn (S := Nat) hW (fun mask2 σ' F' H' => Wf F0 H0 F' H' ∧ Ex F2 F' ∧ σ' = [some v1, some (.int (cell_here1)), some (.int ((start1 : Nat) : Int)), some (.int ((way1 : Nat) : Int)), some (.ref p1), some (.int ((it1.1 : Nat) : Int)), some (.int ((mask2 : Nat) : Int))] ∧ XL pN H0 F' H' p1 found1) ?_ ?_
      · intro N4 hN4 hW
        have gx2 : Ex F2 F2 := Ex.rfl'
        refine a_ifE ?_
        refine e_ans (b := decide (way1 = 1)) (t_of (vb_dec (c_eqI (val_var rfl) val_c) n_eq)) ?_
        refine b_if (fun hc1 => ?_) (fun hc1 => ?_)
        · have hW := ifP hW hc1
          refine a_asgE ?_
          refine e_op ?_
          refine e_val (v := (.int ((it1.2 : Nat) : Int))) (val_var rfl) ?_
          refine e_call ?_
          refine a_val (v := (.int (cell_here1))) (val_var rfl) ?_
          refine a_val (v := (.int ((start1 + it1.1 : Nat) : Int))) (vn_add (val_var rfl) (val_var rfl)) ?_
          refine a_nil ?_
          refine ⟨F2, (cell_here1), (start1 + it1.1), _, rfl, w.f, hW, ?_⟩
          intro z1 hW F3 H4 s4
          replace r1 := Rep.mono _ s4.g r1
          replace x2 := x2.step s4
          replace w := w.tr s4
          replace gx2 := Ex.tr gx2 s4.g
          replace gx1 := Ex.tr gx1 s4.g
          refine rv2 (z := (.int ((it1.2 &&& z1 : Nat) : Int))) (vn_and val_c val_c) ?_
          obtain ⟨mask3, emask1⟩ : ∃ mask3 : Nat, mask3 = it1.2 &&& z1 := ⟨_, rfl⟩
          replace hW := hW mask3 emask1
          refine nx_set (v := (.int ((mask3 : Nat) : Int))) (by rw [emask1]) ?_
          exact hN4 mask3 _ _ _ ⟨w, gx2, rfl, x2⟩ hW
        · have hW := ifN hW hc1
          exact hN4 it1.2 _ _ _ ⟨w, gx2, rfl, x2⟩ hW
      · intro mask2 σ' F4 H5 hI2 hW
        obtain ⟨w, gx3, rfl, x3⟩ := hI2
        have r1 := Rep.mono _ gx3 r1
        have gx1 := Ex.tr gx1 gx3
        refine q_jn (S := Nat) hW (fun mask4 σ' F' H' => Wf F0 H0 F' H' ∧ Ex F4 F' ∧ σ' = [some v1, some (.int (cell_here1)), some (.int ((start1 : Nat) : Int)), some (.int ((way1 : Nat) : Int)), some (.ref p1), some (.int ((it1.1 : Nat) : Int)), some (.int ((mask4 : Nat) : Int))] ∧ XL pN H0 F' H' p1 found1) ?_ ?_
        · intro N5 hN5 hW
          have gx4 : Ex F4 F4 := Ex.rfl'
          refine a_ifE ?_
          refine e_ans (b := decide ((way1 = 2) ∧ (0 < it1.1))) (t_and (t_of (vb_dec (c_eqI (val_var rfl) val_c) n_eq)) (fun _ => (t_of (vb_dec (c_gt (val_var rfl) val_c) n_lt)))) ?_
          refine b_if (fun hc2 => ?_) (fun hc2 => ?_)
          · have hW := ifP hW hc2
            obtain ⟨c1, hW⟩ := hW
            obtain ⟨c2, hW⟩ := hW
            obtain ⟨mask5, emask2⟩ : ∃ mask5 : Nat, mask5 = 2 ^ (it1.1 - 1) := ⟨_, rfl⟩
            replace hW := hW mask5 emask2
            refine a_asg (v := (.int ((mask5 : Nat) : Int))) (v_eq (vn_one val_c (vn_sub (val_var rfl) val_c c1) c2) (by rw [emask2])) ?_
            exact hN5 mask5 _ _ _ ⟨w, gx4, rfl, x3⟩ hW
          · have hW := ifN hW hc2
            exact hN5 mask2 _ _ _ ⟨w, gx4, rfl, x3⟩ hW
        · intro mask4 σ' F5 H6 hI3 hW
          obtain ⟨w, gx5, rfl, x4⟩ := hI3
          have r1 := Rep.mono _ gx5 r1
          have gx3 := Ex.tr gx3 gx5
          have gx1 := Ex.tr gx1 gx5
          refine q_jn (S := Nat) hW (fun mask6 σ' F' H' => Wf F0 H0 F' H' ∧ Ex F5 F' ∧ σ' = [some v1, some (.int (cell_here1)), some (.int ((start1 : Nat) : Int)), some (.int ((way1 : Nat) : Int)), some (.ref p1), some (.int ((it1.1 : Nat) : Int)), some (.int ((mask6 : Nat) : Int))] ∧ XL pN H0 F' H' p1 found1) ?_ ?_
          · intro N6 hN6 hW
            have gx6 : Ex F5 F5 := Ex.rfl'
            refine a_ifE ?_
            refine e_ans (b := decide (way1 = 3)) (t_of (vb_dec (c_eqI (val_var rfl) val_c) n_eq)) ?_
            refine b_if (fun hc3 => ?_) (fun hc3 => ?_)
            · have hW := ifP hW hc3
              refine a_asgE ?_
              refine e_op ?_
              refine e_val (v := (.int ((mask4 : Nat) : Int))) (val_var rfl) ?_
              refine e_op ?_
              refine e_lst ?_
              refine a_val (v := (.int ((43690 : Nat) : Int))) val_c ?_
              refine a_val (v := (.int ((21845 : Nat) : Int))) val_c ?_
              refine a_nil ?_
              refine n_lstX (e := pN) (xs := [43690, 21845]) (vs := [(.int ((43690 : Nat) : Int)), (.int ((21845 : Nat) : Int))]) (show All pN _ [(.int ((43690 : Nat) : Int)), (.int ((21845 : Nat) : Int))] [43690, 21845] from ⟨rfl, ⟨rfl, trivial⟩⟩) (show 2 < 1000000 from by decide) w ?_
              intro p3 H7 hp2 s7 x6
              have ne1 := x4.ne hp2
              replace r1 := Rep.mono _ s7.g r1
              replace x4 := x4.step s7
              replace w := w.tr s7
              replace gx6 := Ex.tr gx6 s7.g
              replace gx5 := Ex.tr gx5 s7.g
              replace gx3 := Ex.tr gx3 s7.g
              replace gx1 := Ex.tr gx1 s7.g
              refine e_val (v := (.int ((it1.1 % 2 : Nat) : Int))) (vn_mod (val_var rfl) val_c (by decide)) ?_
              obtain ⟨x7, hx7_1, hW⟩ := hW
              obtain ⟨_, rfl, ix1⟩ := ix_X (K := K) x6 hx7_1
              refine rv2 (z := (.int ((x7 : Nat) : Int))) (ix1 val_c val_c) ?_
              refine rv2 (z := (.int ((mask4 &&& x7 : Nat) : Int))) (vn_and val_c val_c) ?_
              obtain ⟨mask7, emask3⟩ : ∃ mask7 : Nat, mask7 = mask4 &&& x7 := ⟨_, rfl⟩
              replace hW := hW mask7 emask3
              refine nx_set (v := (.int ((mask7 : Nat) : Int))) (by rw [emask3]) ?_
              exact hN6 mask7 _ _ _ ⟨w, gx6, rfl, x4⟩ hW
            · have hW := ifN hW hc3
              exact hN6 mask4 _ _ _ ⟨w, gx6, rfl, x4⟩ hW
          · intro mask6 σ' F6 H8 hI4 hW
            obtain ⟨w, gx7, rfl, x5⟩ := hI4
            have r1 := Rep.mono _ gx7 r1
            have gx5 := Ex.tr gx5 gx7
            have gx3 := Ex.tr gx3 gx7
            have gx1 := Ex.tr gx1 gx7
            refine a_dropE ?_
            refine m_list x5 (val_var rfl) ?_
            refine a_val (v := (.int ((mask6 : Nat) : Int))) (val_var rfl) ?_
            refine a_nil ?_
            obtain ⟨c3, hW⟩ := hW
            refine a_app x5 w c3 rfl (fun H9 w1 x8 kp1 => ?_)
            replace w := w1
            exact hN3 (found1 ++ [mask6]) _ _ _ ⟨_, _, w, gx1, rfl, x8⟩ hW
    · intro found1 σ' F7 H10 hI5 hW
      obtain ⟨o1, o2, w, gx8, rfl, x2⟩ := hI5
      have r1 := Rep.mono _ gx8 r1
      refine hN2 _ _ ?_
      refine a_ret (v := (.ref p1)) (val_var rfl) ?_
      exact hQ _ hW _ _ _ w x2
abbrev s_machine : Stmt := topS 19
def W_machine (script1 : List Int) (start1 : Nat) (most1 : Nat) (R : (Nat × List (Nat × Nat) × List (Nat × Nat)) → Prop) : Prop := W_cell script1 start1 fun z1 => (0 < most1 + 1) ∧ ∀ stores1 : Nat, stores1 = modN (z1 / ((2 : Nat) : Int)) (most1 + 1) → ∀ stores2 : Nat, stores2 = (if (modN (z1 / ((64 : Nat) : Int)) 8) = 5 then modN (z1 / ((512 : Nat) : Int)) 17 else stores1) → W_mix z1 1 fun z2 => ∀ inputs1 : Nat, inputs1 = z2 % 4 → W_mix z1 2 fun z3 => ∀ outputs1 : Nat, outputs1 = z3 % 4 → jn (fun kk => if (modN (z1 / ((64 : Nat) : Int)) 8) = 6 then (W_mix z1 1 fun z4 => ∀ inputs3 : Nat, inputs3 = z4 % 7 → W_mix z1 2 fun z5 => ∀ outputs3 : Nat, outputs3 = z5 % 7 → kk (inputs3, outputs3)) else (kk (inputs1, outputs1))) fun (inputs2, outputs2) => ∀ digits1 : Bool, digits1 = decide ((modN z1 2) = 0) → W_mix z1 3 fun z6 => ∀ way1 : Nat, way1 = z6 % 5 → W_cell script1 (start1 + 1) fun z7 => W_masks z7 100 stores2 stores2 digits1 fun z8 => W_cell script1 (start1 + 2) fun z9 => W_masks z9 140 stores2 inputs2 digits1 fun z10 => jn (fun kk => if ¬ (digits1 = true) then (W_cell script1 (start1 + 1) fun z11 => W_thinned z8 z11 180 way1 fun z12 => if 0 < way1 then (((enumT z10).length < 1000000) ∧ compW (enumT z10) (fun it1 kk => W_cell script1 (start1 + 2) fun z13 => W_mix z13 (220 + it1.1) fun z14 => kk (some (it1.2 &&& z14))) fun ys1 => kk (z12, ys1)) else (kk (z12, z10))) else (kk (z8, z10))) fun (one1, other1) => W_cell script1 (start1 + 3) fun z15 => W_masks z15 260 outputs2 stores2 digits1 fun z16 => W_cell script1 (start1 + 4) fun z17 => W_masks z17 280 outputs2 inputs2 digits1 fun z18 => jn (fun kk => if (¬ (digits1 = true)) ∧ (1 < way1) then (((enumT z16).length < 1000000) ∧ compW (enumT z16) (fun it2 kk => W_cell script1 (start1 + 3) fun z19 => W_mix z19 (300 + it2.1) fun z20 => kk (some (it2.2 &&& z20))) fun ys2 => kk ys2) else (kk z16)) fun shown1 => jn (fun kk => if (¬ (digits1 = true)) ∧ (2 < way1) then ((z18.length < 1000000) ∧ compW z18 (fun mask3 kk => kk (some 0)) fun ys3 => kk ys3) else (kk z18)) fun straight1 => R (inputs2, one1.zip other1, shown1.zip straight1)
def sp_machine (K : PySem.W.Frag) (cc : Cz) : Sp := fun vs H Q _ => ∃ (F : Hp) (v1 : V) (script1 : List Int) (start1 : Nat) (most1 : Nat) (R : (Nat × List (Nat × Nat) × List (Nat × Nat)) → Prop), vs = [v1, (.int ((start1 : Nat) : Int)), (.int ((most1 : Nat) : Int))] ∧ Ex F H ∧ (pScr K).r F v1 script1 ∧ W_machine script1 start1 most1 R ∧ ∀ z, R z → ∀ v F' H', Wf F H F' H' → (pT3 pN (pL (pT2 pN pN)) (pL (pT2 pN pN))).r F' v z → Q v H'
abbrev N_machine : List Str := ["_law_script", "_law_start", "_law_most", "_law_cell_here", "_law_stores", "_law_inputs", "_law_outputs", "_law_digits", "_law_way", "_law_one", "_law_other", "_law_k", "_law_mask", "_law_shown", "_law_straight"]
theorem sc_machine : FnScope N_machine ["_law_script", "_law_start", "_law_most"] (defScope s_machine) := ⟨rfl, rfl, rfl, by decide +kernel, rfl, by decide +kernel, by decide +kernel⟩
theorem ok_machine {P : Program} {w0 : World} {K : PySem.W.Frag} {mg : Str → Option Value} {base : Heap} {f : Addr} {fd : FuncData} {cc : Cz} (T : Tz K mg cc) (FU : Fun K "_law_machine" "_law_machine" s_machine f fd) (hm : mg "_law_machine" = some (.ref f)) (hb : Binds K fd ["_law_script", "_law_start", "_law_most"] []) (c_cell : Fn P w0 K mg base CX0 1 "_law_cell" ["_law_script", "_law_k"] (sp_cell K cc)) (c_mix : Fn P w0 K mg base CX0 1 "_law_mix" ["_law_cell_here", "_law_k"] (sp_mix K cc)) (c_masks : Fn P w0 K mg base CX0 2 "_law_masks" ["_law_cell_here", "_law_start", "_law_many", "_law_width", "_law_digits"] (sp_masks K cc)) (c_thinned : Fn P w0 K mg base CX0 2 "_law_thinned" ["_law_masks_here", "_law_cell_here", "_law_start", "_law_way"] (sp_thinned K cc)) (n_enumerate : mg "enumerate" = none) (n_list : mg "list" = none) (n_zip : mg "zip" = none) : Fn P w0 K mg base CX0 3 "_law_machine" ["_law_script", "_law_start", "_law_most"] (sp_machine K cc) := by
  refine ⟨f, fd, FU.ok sc_machine (fun vs H Q E h => ?_) (fun cdv A outer s H0 vs Q E hr h => ?_), hm, FU.kp, hb⟩
  · obtain ⟨_, _, _, _, _, _, rfl, _⟩ := h; rfl
  · obtain ⟨F0, v1, script1, start1, most1, R, rfl, wf, r1, hW, hQ⟩ := h
    have nd := sc_machine.nd
    refine ⟨(tSeq (tAsg (tCall (sp_cell K cc) [] E0 (tCons (tVar 0) (tCons (tVar 1) tNil))) (gName 3)) (tSeq (tAsg (tOp kMod (tOp kDiv (tVar 3) (tC (.int 2))) (tOp kAdd (tVar 2) (tC (.int 1)))) (gName 4)) (tSeq (tIfS (tTest (tOp L2.rEq (tOp kMod (tOp kDiv (tVar 3) (tC (.int 64))) (tC (.int 8))) (tC (.int 5)))) (tAsg (tOp kMod (tOp kDiv (tVar 3) (tC (.int 512))) (tC (.int 17))) (gName 4)) tNext) (tSeq (tAsg (tOp kMod (tCall (sp_mix K cc) [] E0 (tCons (tVar 3) (tCons (tC (.int 1)) tNil))) (tC (.int 4))) (gName 5)) (tSeq (tAsg (tOp kMod (tCall (sp_mix K cc) [] E0 (tCons (tVar 3) (tCons (tC (.int 2)) tNil))) (tC (.int 4))) (gName 6)) (tSeq (tIfS (tTest (tOp L2.rEq (tOp kMod (tOp kDiv (tVar 3) (tC (.int 64))) (tC (.int 8))) (tC (.int 6)))) (tSeq (tAsg (tOp kMod (tCall (sp_mix K cc) [] E0 (tCons (tVar 3) (tCons (tC (.int 1)) tNil))) (tC (.int 7))) (gName 5)) (tAsg (tOp kMod (tCall (sp_mix K cc) [] E0 (tCons (tVar 3) (tCons (tC (.int 2)) tNil))) (tC (.int 7))) (gName 6))) tNext) (tSeq (tAsg (tOp L2.rEq (tOp kMod (tVar 3) (tC (.int 2))) (tC (.int 0))) (gName 7)) (tSeq (tAsg (tOp kMod (tCall (sp_mix K cc) [] E0 (tCons (tVar 3) (tCons (tC (.int 3)) tNil))) (tC (.int 5))) (gName 8)) (tSeq (tAsg (tCall (sp_masks K cc) [] E0 (tCons (tCall (sp_cell K cc) [] E0 (tCons (tVar 0) (tCons (tOp kAdd (tVar 1) (tC (.int 1))) tNil))) (tCons (tC (.int 100)) (tCons (tVar 4) (tCons (tVar 4) (tCons (tVar 7) tNil)))))) (gName 9)) (tSeq (tAsg (tCall (sp_masks K cc) [] E0 (tCons (tCall (sp_cell K cc) [] E0 (tCons (tVar 0) (tCons (tOp kAdd (tVar 1) (tC (.int 2))) tNil))) (tCons (tC (.int 140)) (tCons (tVar 4) (tCons (tVar 5) (tCons (tVar 7) tNil)))))) (gName 10)) (tSeq (tIfS (tNot (tB (tVar 7))) (tSeq (tAsg (tCall (sp_thinned K cc) [] E0 (tCons (tVar 9) (tCons (tCall (sp_cell K cc) [] E0 (tCons (tVar 0) (tCons (tOp kAdd (tVar 1) (tC (.int 1))) tNil))) (tCons (tC (.int 180)) (tCons (tVar 8) tNil))))) (gName 9)) (tIfS (tTest (tOp kGt (tVar 8) (tC (.int 0)))) (tAsg (tLc (iEnum K (tCons (tVar 10) tNil)) (gTup K 2 (gCons (gName 11) (gCons (gName 12) gNil))) tYes (tOp kAnd (tVar 12) (tCall (sp_mix K cc) [] E0 (tCons (tCall (sp_cell K cc) [] E0 (tCons (tVar 0) (tCons (tOp kAdd (tVar 1) (tC (.int 2))) tNil))) (tCons (tOp kAdd (tC (.int 220)) (tVar 11)) tNil)))) [11, 12]) (gName 10)) tNext)) tNext) (tSeq (tAsg (tCall (sp_masks K cc) [] E0 (tCons (tCall (sp_cell K cc) [] E0 (tCons (tVar 0) (tCons (tOp kAdd (tVar 1) (tC (.int 3))) tNil))) (tCons (tC (.int 260)) (tCons (tVar 6) (tCons (tVar 4) (tCons (tVar 7) tNil)))))) (gName 13)) (tSeq (tAsg (tCall (sp_masks K cc) [] E0 (tCons (tCall (sp_cell K cc) [] E0 (tCons (tVar 0) (tCons (tOp kAdd (tVar 1) (tC (.int 4))) tNil))) (tCons (tC (.int 280)) (tCons (tVar 6) (tCons (tVar 5) (tCons (tVar 7) tNil)))))) (gName 14)) (tSeq (tIfS (tAnd (tNot (tB (tVar 7))) (tTest (tOp kGt (tVar 8) (tC (.int 1))))) (tAsg (tLc (iEnum K (tCons (tVar 13) tNil)) (gTup K 2 (gCons (gName 11) (gCons (gName 12) gNil))) tYes (tOp kAnd (tVar 12) (tCall (sp_mix K cc) [] E0 (tCons (tCall (sp_cell K cc) [] E0 (tCons (tVar 0) (tCons (tOp kAdd (tVar 1) (tC (.int 3))) tNil))) (tCons (tOp kAdd (tC (.int 300)) (tVar 11)) tNil)))) [11, 12]) (gName 13)) tNext) (tSeq (tIfS (tAnd (tNot (tB (tVar 7))) (tTest (tOp kGt (tVar 8) (tC (.int 2))))) (tAsg (tLc (iList K (tVar 14)) (gName 12) tYes (tC (.int 0)) [12]) (gName 14)) tNext) (tRet (tTup (tCons (tVar 5) (tCons (tLstZip K (tCons (tVar 9) (tCons (tVar 10) tNil))) (tCons (tLstZip K (tCons (tVar 13) (tCons (tVar 14) tNil))) tNil)))))))))))))))))))), (pss_cons (ps_set (i := 3) nd rfl (Or.inl rfl) (pe_fn c_cell (hr.mono (by decide)) rfl (pa_cons (pv 0) (pa_cons (pv 1) pa_nil)))) (pss_cons (ps_set (i := 4) nd rfl (Or.inl rfl) (pe_op op_mod (pe_op op_fdivW (pv 3) pe_int) (pe_op op_add (pv 2) pe_int))) (pss_cons (ps_if (pt_cmpR op_eq (pe_op op_mod (pe_op op_fdivW (pv 3) pe_int) pe_int) pe_int (nomark _)) (pss_one (ps_set (i := 4) nd rfl (Or.inl rfl) (pe_op op_mod (pe_op op_fdivW (pv 3) pe_int) pe_int))) pss_nil) (pss_cons (ps_set (i := 5) nd rfl (Or.inl rfl) (pe_op op_mod (pe_fn c_mix (hr.mono (by decide)) rfl (pa_cons (pv 3) (pa_cons pe_int pa_nil))) pe_int)) (pss_cons (ps_set (i := 6) nd rfl (Or.inl rfl) (pe_op op_mod (pe_fn c_mix (hr.mono (by decide)) rfl (pa_cons (pv 3) (pa_cons pe_int pa_nil))) pe_int)) (pss_cons (ps_if (pt_cmpR op_eq (pe_op op_mod (pe_op op_fdivW (pv 3) pe_int) pe_int) pe_int (nomark _)) (pss_cons (ps_set (i := 5) nd rfl (Or.inl rfl) (pe_op op_mod (pe_fn c_mix (hr.mono (by decide)) rfl (pa_cons (pv 3) (pa_cons pe_int pa_nil))) pe_int)) (pss_one (ps_set (i := 6) nd rfl (Or.inl rfl) (pe_op op_mod (pe_fn c_mix (hr.mono (by decide)) rfl (pa_cons (pv 3) (pa_cons pe_int pa_nil))) pe_int)))) pss_nil) (pss_cons (ps_set (i := 7) nd rfl (Or.inl rfl) (pe_cmpR op_eq (pe_op op_mod (pv 3) pe_int) pe_int (nomark _))) (pss_cons (ps_set (i := 8) nd rfl (Or.inl rfl) (pe_op op_mod (pe_fn c_mix (hr.mono (by decide)) rfl (pa_cons (pv 3) (pa_cons pe_int pa_nil))) pe_int)) (pss_cons (ps_set (i := 9) nd rfl (Or.inl rfl) (pe_fn c_masks (hr.mono (by decide)) rfl (pa_cons (pe_fn c_cell (hr.mono (by decide)) rfl (pa_cons (pv 0) (pa_cons (pe_op op_add (pv 1) pe_int) pa_nil))) (pa_cons pe_int (pa_cons (pv 4) (pa_cons (pv 4) (pa_cons (pv 7) pa_nil))))))) (pss_cons (ps_set (i := 10) nd rfl (Or.inl rfl) (pe_fn c_masks (hr.mono (by decide)) rfl (pa_cons (pe_fn c_cell (hr.mono (by decide)) rfl (pa_cons (pv 0) (pa_cons (pe_op op_add (pv 1) pe_int) pa_nil))) (pa_cons pe_int (pa_cons (pv 4) (pa_cons (pv 5) (pa_cons (pv 7) pa_nil))))))) (pss_cons (ps_if (pt_not (pt_val (pv 7))) (pss_cons (ps_set (i := 9) nd rfl (Or.inl rfl) (pe_fn c_thinned (hr.mono (by decide)) rfl (pa_cons (pv 9) (pa_cons (pe_fn c_cell (hr.mono (by decide)) rfl (pa_cons (pv 0) (pa_cons (pe_op op_add (pv 1) pe_int) pa_nil))) (pa_cons pe_int (pa_cons (pv 8) pa_nil)))))) (pss_one (ps_if (pt_cmpR op_gt (pv 8) pe_int (nomark _)) (pss_one (ps_setLc (i := 10) (own := [("_law_k", 11), ("_law_mask", 12)]) (wi := (iEnum K (tCons (tVar 10) tNil))) (g := (gTup K 2 (gCons (gName 11) (gCons (gName 12) gNil)))) (tt := tYes) (te := (tOp kAnd (tVar 12) (tCall (sp_mix K cc) [] E0 (tCons (tCall (sp_cell K cc) [] E0 (tCons (tVar 0) (tCons (tOp kAdd (tVar 1) (tC (.int 2))) tNil))) (tCons (tOp kAdd (tC (.int 220)) (tVar 11)) tNil))))) rfl nd rfl rfl (sw_true rfl rfl rfl (by decide +kernel)) (pi_enum (by rfl) n_enumerate (pa_cons (pv 10) pa_nil)) (blkOk_by (N := N_machine) (sc := defScope s_machine) (by decide +kernel)) (fun _ _ _ _ _ => (pg_tup rfl (pgs_cons (pg_name (i := 11) nd rfl (Or.inl rfl)) (pgs_cons (pg_name (i := 12) nd rfl (Or.inl rfl)) pgs_nil)) (by rfl))) (fun _ _ _ _ _ => pts_nil) (fun _ _ _ _ _ => (pe_op op_and (pv 12) (pe_fn c_mix (hr.mono (by decide)) rfl (pa_cons (pe_fn c_cell (hr.mono (by decide)) rfl (pa_cons (pv 0) (pa_cons (pe_op op_add (pv 1) pe_int) pa_nil))) (pa_cons (pe_op op_add pe_int (pv 11)) pa_nil))))))) pss_nil))) pss_nil) (pss_cons (ps_set (i := 13) nd rfl (Or.inl rfl) (pe_fn c_masks (hr.mono (by decide)) rfl (pa_cons (pe_fn c_cell (hr.mono (by decide)) rfl (pa_cons (pv 0) (pa_cons (pe_op op_add (pv 1) pe_int) pa_nil))) (pa_cons pe_int (pa_cons (pv 6) (pa_cons (pv 4) (pa_cons (pv 7) pa_nil))))))) (pss_cons (ps_set (i := 14) nd rfl (Or.inl rfl) (pe_fn c_masks (hr.mono (by decide)) rfl (pa_cons (pe_fn c_cell (hr.mono (by decide)) rfl (pa_cons (pv 0) (pa_cons (pe_op op_add (pv 1) pe_int) pa_nil))) (pa_cons pe_int (pa_cons (pv 6) (pa_cons (pv 5) (pa_cons (pv 7) pa_nil))))))) (pss_cons (ps_if (PW.pt (pw_and (pt_not (pt_val (pv 7))) (pw_and1 (pt_cmpR op_gt (pv 8) pe_int (nomark _))))) (pss_one (ps_setLc (i := 13) (own := [("_law_k", 11), ("_law_mask", 12)]) (wi := (iEnum K (tCons (tVar 13) tNil))) (g := (gTup K 2 (gCons (gName 11) (gCons (gName 12) gNil)))) (tt := tYes) (te := (tOp kAnd (tVar 12) (tCall (sp_mix K cc) [] E0 (tCons (tCall (sp_cell K cc) [] E0 (tCons (tVar 0) (tCons (tOp kAdd (tVar 1) (tC (.int 3))) tNil))) (tCons (tOp kAdd (tC (.int 300)) (tVar 11)) tNil))))) rfl nd rfl rfl (sw_true rfl rfl rfl (by decide +kernel)) (pi_enum (by rfl) n_enumerate (pa_cons (pv 13) pa_nil)) (blkOk_by (N := N_machine) (sc := defScope s_machine) (by decide +kernel)) (fun _ _ _ _ _ => (pg_tup rfl (pgs_cons (pg_name (i := 11) nd rfl (Or.inl rfl)) (pgs_cons (pg_name (i := 12) nd rfl (Or.inl rfl)) pgs_nil)) (by rfl))) (fun _ _ _ _ _ => pts_nil) (fun _ _ _ _ _ => (pe_op op_and (pv 12) (pe_fn c_mix (hr.mono (by decide)) rfl (pa_cons (pe_fn c_cell (hr.mono (by decide)) rfl (pa_cons (pv 0) (pa_cons (pe_op op_add (pv 1) pe_int) pa_nil))) (pa_cons (pe_op op_add pe_int (pv 11)) pa_nil))))))) pss_nil) (pss_cons (ps_if (PW.pt (pw_and (pt_not (pt_val (pv 7))) (pw_and1 (pt_cmpR op_gt (pv 8) pe_int (nomark _))))) (pss_one (ps_setLc (i := 14) (own := [("_law_mask", 12)]) (wi := (iList K (tVar 14))) (g := (gName 12)) (tt := tYes) (te := (tC (.int 0))) rfl nd rfl rfl (sw_true rfl rfl rfl (by decide +kernel)) (pi_list (pv 14)) (blkOk_by (N := N_machine) (sc := defScope s_machine) (by decide +kernel)) (fun _ _ _ _ _ => (pg_name (i := 12) nd rfl (Or.inl rfl))) (fun _ _ _ _ _ => pts_nil) (fun _ _ _ _ _ => pe_int))) pss_nil) (pss_one (ps_ret (pe_tup (pa_cons (pv 5) (pa_cons (pe_lstZip rfl (by rfl) n_list (by rfl) n_zip (pa_cons (pv 9) (pa_cons (pv 10) pa_nil))) (pa_cons (pe_lstZip rfl (by rfl) n_list (by rfl) n_zip (pa_cons (pv 13) (pa_cons (pv 14) pa_nil))) pa_nil))))))))))))))))))))), ?_⟩
    have w := Wf.id wf
    refine q_sq fun N1 hN1 => ?_
    refine a_asgE ?_
    refine e_call ?_
    refine a_val (v := v1) (val_var rfl) ?_
    refine a_val (v := (.int ((start1 : Nat) : Int))) (val_var rfl) ?_
    refine a_nil ?_
    refine ⟨F0, (v1), (script1), (start1), _, rfl, w.f, r1, hW, ?_⟩
    intro z1 hW F1 H1 s1
    replace r1 := Rep.mono _ s1.g r1
    replace w := w.tr s1
    refine hN1 _ _ ?_
    refine q_sq fun N2 hN2 => ?_
    obtain ⟨c1, hW⟩ := hW
    obtain ⟨stores1, estores1⟩ : ∃ stores1 : Nat, stores1 = modN (z1 / ((2 : Nat) : Int)) (most1 + 1) := ⟨_, rfl⟩
    replace hW := hW stores1 estores1
    refine a_asg (v := (.int ((stores1 : Nat) : Int))) (v_eq (vm_mod (vi_div (val_var rfl) val_c ⟨by decide, by decide +kernel⟩) (vn_add (val_var rfl) val_c) c1) (by rw [estores1])) ?_
    refine hN2 _ _ ?_
    refine q_sq fun N3 hN3 => ?_
    obtain ⟨stores2, estores2⟩ : ∃ stores2 : Nat, stores2 = (if (modN (z1 / ((64 : Nat) : Int)) 8) = 5 then modN (z1 / ((512 : Nat) : Int)) 17 else stores1) := ⟨_, rfl⟩
    replace hW := hW stores2 estores2
    refine a_ifAsg (pr := (modN (z1 / ((64 : Nat) : Int)) 8) = 5) (v := (.int ((stores2 : Nat) : Int))) (t_of (vb_dec (c_eqI (vm_mod (vi_div (val_var rfl) val_c ⟨by decide, by decide +kernel⟩) val_c (by decide)) val_c) n_eq)) (fun hq => v_eq (vm_mod (vi_div (val_var rfl) val_c ⟨by decide, by decide +kernel⟩) val_c (by decide)) (by rw [estores2, if_pos hq])) (fun hq => by rw [estores2, if_neg hq]; rfl) ?_
    refine hN3 _ _ ?_
    refine q_sq fun N4 hN4 => ?_
    refine a_asgE ?_
    refine e_op ?_
    refine e_call ?_
    refine a_val (v := (.int (z1))) (val_var rfl) ?_
    refine a_val (v := (.int ((1 : Nat) : Int))) val_c ?_
    refine a_nil ?_
    refine ⟨F1, (z1), (1), _, rfl, w.f, hW, ?_⟩
    intro z2 hW F2 H2 s2
    replace r1 := Rep.mono _ s2.g r1
    replace w := w.tr s2
    refine e_val (v := (.int ((4 : Nat) : Int))) val_c ?_
    refine rv2 (z := (.int ((z2 % 4 : Nat) : Int))) (vn_mod val_c val_c (by decide)) ?_
    obtain ⟨inputs1, einputs1⟩ : ∃ inputs1 : Nat, inputs1 = z2 % 4 := ⟨_, rfl⟩
    replace hW := hW inputs1 einputs1
    refine nx_set (v := (.int ((inputs1 : Nat) : Int))) (by rw [einputs1]) ?_
    refine hN4 _ _ ?_
    refine q_sq fun N5 hN5 => ?_
    refine a_asgE ?_
    refine e_op ?_
    refine e_call ?_
    refine a_val (v := (.int (z1))) (val_var rfl) ?_
    refine a_val (v := (.int ((2 : Nat) : Int))) val_c ?_
    refine a_nil ?_
    refine ⟨F2, (z1), (2), _, rfl, w.f, hW, ?_⟩
    intro z3 hW F3 H3 s3
    replace r1 := Rep.mono _ s3.g r1
    replace w := w.tr s3
    refine e_val (v := (.int ((4 : Nat) : Int))) val_c ?_
    refine rv2 (z := (.int ((z3 % 4 : Nat) : Int))) (vn_mod val_c val_c (by decide)) ?_
    obtain ⟨outputs1, eoutputs1⟩ : ∃ outputs1 : Nat, outputs1 = z3 % 4 := ⟨_, rfl⟩
    replace hW := hW outputs1 eoutputs1
    refine nx_set (v := (.int ((outputs1 : Nat) : Int))) (by rw [eoutputs1]) ?_
    refine hN5 _ _ ?_
    refine q_jn (S := Nat × Nat) hW (fun s σ' F' H' => match s with | (inputs2, outputs2) => Wf F0 H0 F' H' ∧ Ex F3 F' ∧ σ' = [some v1, some (.int ((start1 : Nat) : Int)), some (.int ((most1 : Nat) : Int)), some (.int (z1)), some (.int ((stores2 : Nat) : Int)), some (.int ((inputs2 : Nat) : Int)), some (.int ((outputs2 : Nat) : Int)), none, none, none, none, none, none, none, none]) ?_ ?_
    · intro N6 hN6 hW
      have gx1 : Ex F3 F3 := Ex.rfl'
      refine a_ifE ?_
      refine e_ans (b := decide ((modN (z1 / ((64 : Nat) : Int)) 8) = 6)) (t_of (vb_dec (c_eqI (vm_mod (vi_div (val_var rfl) val_c ⟨by decide, by decide +kernel⟩) val_c (by decide)) val_c) n_eq)) ?_
      refine b_if (fun hc1 => ?_) (fun hc1 => ?_)
      · have hW := ifP hW hc1
        refine q_sq fun N7 hN7 => ?_
        refine a_asgE ?_
        refine e_op ?_
        refine e_call ?_
        refine a_val (v := (.int (z1))) (val_var rfl) ?_
        refine a_val (v := (.int ((1 : Nat) : Int))) val_c ?_
        refine a_nil ?_
        refine ⟨F3, (z1), (1), _, rfl, w.f, hW, ?_⟩
        intro z4 hW F4 H4 s4
        replace r1 := Rep.mono _ s4.g r1
        replace w := w.tr s4
        replace gx1 := Ex.tr gx1 s4.g
        refine e_val (v := (.int ((7 : Nat) : Int))) val_c ?_
        refine rv2 (z := (.int ((z4 % 7 : Nat) : Int))) (vn_mod val_c val_c (by decide)) ?_
        obtain ⟨inputs3, einputs2⟩ : ∃ inputs3 : Nat, inputs3 = z4 % 7 := ⟨_, rfl⟩
        replace hW := hW inputs3 einputs2
        refine nx_set (v := (.int ((inputs3 : Nat) : Int))) (by rw [einputs2]) ?_
        refine hN7 _ _ ?_
        refine a_asgE ?_
        refine e_op ?_
        refine e_call ?_
        refine a_val (v := (.int (z1))) (val_var rfl) ?_
        refine a_val (v := (.int ((2 : Nat) : Int))) val_c ?_
        refine a_nil ?_
        refine ⟨F4, (z1), (2), _, rfl, w.f, hW, ?_⟩
        intro z5 hW F5 H5 s5
        replace r1 := Rep.mono _ s5.g r1
        replace w := w.tr s5
        replace gx1 := Ex.tr gx1 s5.g
        refine e_val (v := (.int ((7 : Nat) : Int))) val_c ?_
        refine rv2 (z := (.int ((z5 % 7 : Nat) : Int))) (vn_mod val_c val_c (by decide)) ?_
        obtain ⟨outputs3, eoutputs2⟩ : ∃ outputs3 : Nat, outputs3 = z5 % 7 := ⟨_, rfl⟩
        replace hW := hW outputs3 eoutputs2
        refine nx_set (v := (.int ((outputs3 : Nat) : Int))) (by rw [eoutputs2]) ?_
        exact hN6 (inputs3, outputs3) _ _ _ ⟨w, gx1, rfl⟩ hW
      · have hW := ifN hW hc1
        exact hN6 (inputs1, outputs1) _ _ _ ⟨w, gx1, rfl⟩ hW
    · intro s6 σ' F6 H6 hI1 hW
      obtain ⟨inputs2, outputs2⟩ := s6
      obtain ⟨w, gx2, rfl⟩ := hI1
      have r1 := Rep.mono _ gx2 r1
      refine q_sq fun N8 hN8 => ?_
      obtain ⟨digits1, edigits1⟩ : ∃ digits1 : Bool, digits1 = decide ((modN z1 2) = 0) := ⟨_, rfl⟩
      replace hW := hW digits1 edigits1
      refine a_asg (v := (.bl (digits1))) (v_eq (vb_dec (c_eqI (vm_mod (val_var rfl) val_c (by decide)) val_c) n_eq) (by rw [edigits1])) ?_
      refine hN8 _ _ ?_
      refine q_sq fun N9 hN9 => ?_
      refine a_asgE ?_
      refine e_op ?_
      refine e_call ?_
      refine a_val (v := (.int (z1))) (val_var rfl) ?_
      refine a_val (v := (.int ((3 : Nat) : Int))) val_c ?_
      refine a_nil ?_
      refine ⟨F6, (z1), (3), _, rfl, w.f, hW, ?_⟩
      intro z6 hW F7 H7 s7
      replace r1 := Rep.mono _ s7.g r1
      replace w := w.tr s7
      replace gx2 := Ex.tr gx2 s7.g
      refine e_val (v := (.int ((5 : Nat) : Int))) val_c ?_
      refine rv2 (z := (.int ((z6 % 5 : Nat) : Int))) (vn_mod val_c val_c (by decide)) ?_
      obtain ⟨way1, eway1⟩ : ∃ way1 : Nat, way1 = z6 % 5 := ⟨_, rfl⟩
      replace hW := hW way1 eway1
      refine nx_set (v := (.int ((way1 : Nat) : Int))) (by rw [eway1]) ?_
      refine hN9 _ _ ?_
      refine q_sq fun N10 hN10 => ?_
      refine a_asgE ?_
      refine e_call ?_
      refine a_cons ?_
      refine e_call ?_
      refine a_val (v := v1) (val_var rfl) ?_
      refine a_val (v := (.int ((start1 + 1 : Nat) : Int))) (vn_add (val_var rfl) val_c) ?_
      refine a_nil ?_
      refine ⟨F7, (v1), (script1), (start1 + 1), _, rfl, w.f, r1, hW, ?_⟩
      intro z7 hW F8 H8 s8
      replace r1 := Rep.mono _ s8.g r1
      replace w := w.tr s8
      replace gx2 := Ex.tr gx2 s8.g
      refine a_val (v := (.int ((100 : Nat) : Int))) val_c ?_
      refine a_val (v := (.int ((stores2 : Nat) : Int))) (val_var rfl) ?_
      refine a_val (v := (.int ((stores2 : Nat) : Int))) (val_var rfl) ?_
      refine a_val (v := (.bl (digits1))) (val_var rfl) ?_
      refine a_nil ?_
      refine ⟨F8, (z7), (100), (stores2), (stores2), (digits1), _, rfl, w.f, hW, ?_⟩
      intro z8 hW p1 F9 H9 s9 x1
      replace x1 := x1.base w
      replace r1 := Rep.mono _ s9.g r1
      replace w := w.tr s9
      replace gx2 := Ex.tr gx2 s9.g
      obtain ⟨F10, w1, g1, r2, fz1⟩ := x1.frzE w
      replace r1 := Rep.mono _ g1 r1
      replace w := w1
      replace gx2 := Ex.tr gx2 g1
      refine hN10 _ _ ?_
      refine q_sq fun N11 hN11 => ?_
      refine a_asgE ?_
      refine e_call ?_
      refine a_cons ?_
      refine e_call ?_
      refine a_val (v := v1) (val_var rfl) ?_
      refine a_val (v := (.int ((start1 + 2 : Nat) : Int))) (vn_add (val_var rfl) val_c) ?_
      refine a_nil ?_
      refine ⟨F10, (v1), (script1), (start1 + 2), _, rfl, w.f, r1, hW, ?_⟩
      intro z9 hW F11 H10 s10
      replace r1 := Rep.mono _ s10.g r1
      replace r2 := Rep.mono _ s10.g r2
      replace w := w.tr s10
      replace gx2 := Ex.tr gx2 s10.g
      refine a_val (v := (.int ((140 : Nat) : Int))) val_c ?_
      refine a_val (v := (.int ((stores2 : Nat) : Int))) (val_var rfl) ?_
      refine a_val (v := (.int ((inputs2 : Nat) : Int))) (val_var rfl) ?_
      refine a_val (v := (.bl (digits1))) (val_var rfl) ?_
      refine a_nil ?_
      refine ⟨F11, (z9), (140), (stores2), (inputs2), (digits1), _, rfl, w.f, hW, ?_⟩
      intro z10 hW p2 F12 H11 s11 x2
      replace x2 := x2.base w
      replace r1 := Rep.mono _ s11.g r1
      replace r2 := Rep.mono _ s11.g r2
      replace w := w.tr s11
      replace gx2 := Ex.tr gx2 s11.g
      obtain ⟨F13, w2, g2, r3, fz2⟩ := x2.frzE w
      replace r1 := Rep.mono _ g2 r1
      replace r2 := Rep.mono _ g2 r2
      replace w := w2
      replace gx2 := Ex.tr gx2 g2
      refine hN11 _ _ ?_
      refine q_jn (S := List Nat × List Nat) hW (fun s σ' F' H' => match s with | (one1, other1) => ∃ (v2 : V) (v3 : V), Wf F0 H0 F' H' ∧ Ex F13 F' ∧ σ' = [some v1, some (.int ((start1 : Nat) : Int)), some (.int ((most1 : Nat) : Int)), some (.int (z1)), some (.int ((stores2 : Nat) : Int)), some (.int ((inputs2 : Nat) : Int)), some (.int ((outputs2 : Nat) : Int)), some (.bl (digits1)), some (.int ((way1 : Nat) : Int)), some v2, some v3, none, none, none, none] ∧ (pL pN).r F' v2 one1 ∧ (pL pN).r F' v3 other1) ?_ ?_
      · intro N12 hN12 hW
        have gx3 : Ex F13 F13 := Ex.rfl'
        refine a_ifE ?_
        refine e_ans (b := decide (¬ (digits1 = true))) (t_not (t_ofB (vb_of (val_var rfl) dec_tt))) ?_
        refine b_if (fun hc2 => ?_) (fun hc2 => ?_)
        · have hW := ifP hW hc2
          refine q_sq fun N13 hN13 => ?_
          refine a_asgE ?_
          refine e_call ?_
          refine a_val (v := (.ref p1)) (val_var rfl) ?_
          refine a_cons ?_
          refine e_call ?_
          refine a_val (v := v1) (val_var rfl) ?_
          refine a_val (v := (.int ((start1 + 1 : Nat) : Int))) (vn_add (val_var rfl) val_c) ?_
          refine a_nil ?_
          refine ⟨F13, (v1), (script1), (start1 + 1), _, rfl, w.f, r1, hW, ?_⟩
          intro z11 hW F14 H12 s12
          replace r1 := Rep.mono _ s12.g r1
          replace r2 := Rep.mono _ s12.g r2
          replace r3 := Rep.mono _ s12.g r3
          replace w := w.tr s12
          replace gx3 := Ex.tr gx3 s12.g
          replace gx2 := Ex.tr gx2 s12.g
          refine a_val (v := (.int ((180 : Nat) : Int))) val_c ?_
          refine a_val (v := (.int ((way1 : Nat) : Int))) (val_var rfl) ?_
          refine a_nil ?_
          refine ⟨F14, ((.ref p1)), (z8), (z11), (180), (way1), _, rfl, w.f, r2, hW, ?_⟩
          intro z12 hW p3 F15 H13 s13 x3
          replace x3 := x3.base w
          replace r1 := Rep.mono _ s13.g r1
          replace r2 := Rep.mono _ s13.g r2
          replace r3 := Rep.mono _ s13.g r3
          replace w := w.tr s13
          replace gx3 := Ex.tr gx3 s13.g
          replace gx2 := Ex.tr gx2 s13.g
          obtain ⟨F16, w3, g3, r6, fz3⟩ := x3.frzE w
          replace r1 := Rep.mono _ g3 r1
          replace r2 := Rep.mono _ g3 r2
          replace r3 := Rep.mono _ g3 r3
          replace w := w3
          replace gx3 := Ex.tr gx3 g3
          replace gx2 := Ex.tr gx2 g3
          refine hN13 _ _ ?_
          refine a_ifE ?_
          refine e_ans (b := decide (0 < way1)) (t_of (vb_dec (c_gt (val_var rfl) val_c) n_lt)) ?_
          refine b_if (fun hc3 => ?_) (fun hc3 => ?_)
          · have hW := ifP hW hc3
            refine a_asgE ?_
            refine c_J ?_
            refine a_val (v := (.ref p2)) (val_var rfl) ?_
            refine a_nil ?_
            refine src_enum r3 w.f (fun a1 T1 => ?_)
            obtain ⟨c2, hW⟩ := hW
            refine w_compG (e := pN) T1 w c2 hW ?_ ?_
            · intro Qy Qn it1 u1 F17 H14 R1 q1 hx1 ru1 hW hy1 hn1
              have r1 := Rep.mono _ q1.g r1
              have r6 := Rep.mono _ q1.g r6
              have r3 := Rep.mono _ q1.g r3
              have w := Wf.id q1.f
              obtain ⟨p4, u2, u3, rfl, h1, rfl, rfl⟩ := ru1
              refine ⟨p4, _, rfl, SqT.of (w.f _ _ h1), rfl, _, _, rfl, _, _, rfl, rfl, ?_⟩
              refine ⟨rfl, ?_⟩
              refine c_yes ?_
              refine e_op ?_
              refine e_val (v := (.int ((it1.2 : Nat) : Int))) (val_var rfl) ?_
              refine e_call ?_
              refine a_cons ?_
              refine e_call ?_
              refine a_val (v := v1) (val_var rfl) ?_
              refine a_val (v := (.int ((start1 + 2 : Nat) : Int))) (vn_add (val_var rfl) val_c) ?_
              refine a_nil ?_
              refine ⟨F17, (v1), (script1), (start1 + 2), _, rfl, w.f, r1, hW, ?_⟩
              intro z13 hW F18 H15 s14
              replace r1 := Rep.mono _ s14.g r1
              replace r6 := Rep.mono _ s14.g r6
              replace r3 := Rep.mono _ s14.g r3
              replace w := w.tr s14
              refine a_val (v := (.int ((220 + it1.1 : Nat) : Int))) (vn_add val_c (val_var rfl)) ?_
              refine a_nil ?_
              refine ⟨F18, (z13), (220 + it1.1), _, rfl, w.f, hW, ?_⟩
              intro z14 hW F19 H16 s15
              replace r1 := Rep.mono _ s15.g r1
              replace r6 := Rep.mono _ s15.g r6
              replace r3 := Rep.mono _ s15.g r3
              replace w := w.tr s15
              refine rv2 (z := (.int ((it1.2 &&& z14 : Nat) : Int))) (vn_and val_c val_c) ?_
              exact hy1 _ _ _ _ w rfl hW
            intro p5 ys1 F20 H17 hp1 s16 x4 hW
            replace r1 := Rep.mono _ s16.g r1
            replace r6 := Rep.mono _ s16.g r6
            replace r3 := Rep.mono _ s16.g r3
            replace w := w.tr s16
            replace gx3 := Ex.tr gx3 s16.g
            replace gx2 := Ex.tr gx2 s16.g
            obtain ⟨F21, w4, g4, r7, fz4⟩ := x4.frzE w
            replace r1 := Rep.mono _ g4 r1
            replace r6 := Rep.mono _ g4 r6
            replace r3 := Rep.mono _ g4 r3
            replace w := w4
            replace gx3 := Ex.tr gx3 g4
            replace gx2 := Ex.tr gx2 g4
            exact hN12 (z12, ys1) _ _ _ ⟨_, _, w, gx3, rfl, r6, r7⟩ hW
          · have hW := ifN hW hc3
            exact hN12 (z12, z10) _ _ _ ⟨_, _, w, gx3, rfl, r6, r3⟩ hW
        · have hW := ifN hW hc2
          exact hN12 (z8, z10) _ _ _ ⟨_, _, w, gx3, rfl, r2, r3⟩ hW
      · intro s17 σ' F22 H18 hI2 hW
        obtain ⟨one1, other1⟩ := s17
        obtain ⟨v2, v3, w, gx4, rfl, r4, r5⟩ := hI2
        have r1 := Rep.mono _ gx4 r1
        have gx2 := Ex.tr gx2 gx4
        refine q_sq fun N14 hN14 => ?_
        refine a_asgE ?_
        refine e_call ?_
        refine a_cons ?_
        refine e_call ?_
        refine a_val (v := v1) (val_var rfl) ?_
        refine a_val (v := (.int ((start1 + 3 : Nat) : Int))) (vn_add (val_var rfl) val_c) ?_
        refine a_nil ?_
        refine ⟨F22, (v1), (script1), (start1 + 3), _, rfl, w.f, r1, hW, ?_⟩
        intro z15 hW F23 H19 s18
        replace r1 := Rep.mono _ s18.g r1
        replace r4 := Rep.mono _ s18.g r4
        replace r5 := Rep.mono _ s18.g r5
        replace w := w.tr s18
        replace gx4 := Ex.tr gx4 s18.g
        replace gx2 := Ex.tr gx2 s18.g
        refine a_val (v := (.int ((260 : Nat) : Int))) val_c ?_
        refine a_val (v := (.int ((outputs2 : Nat) : Int))) (val_var rfl) ?_
        refine a_val (v := (.int ((stores2 : Nat) : Int))) (val_var rfl) ?_
        refine a_val (v := (.bl (digits1))) (val_var rfl) ?_
        refine a_nil ?_
        refine ⟨F23, (z15), (260), (outputs2), (stores2), (digits1), _, rfl, w.f, hW, ?_⟩
        intro z16 hW p6 F24 H20 s19 x5
        replace x5 := x5.base w
        replace r1 := Rep.mono _ s19.g r1
        replace r4 := Rep.mono _ s19.g r4
        replace r5 := Rep.mono _ s19.g r5
        replace w := w.tr s19
        replace gx4 := Ex.tr gx4 s19.g
        replace gx2 := Ex.tr gx2 s19.g
        obtain ⟨F25, w5, g5, r8, fz5⟩ := x5.frzE w
        replace r1 := Rep.mono _ g5 r1
        replace r4 := Rep.mono _ g5 r4
        replace r5 := Rep.mono _ g5 r5
        replace w := w5
        replace gx4 := Ex.tr gx4 g5
        replace gx2 := Ex.tr gx2 g5
        refine hN14 _ _ ?_
        refine q_sq fun N15 hN15 => ?_
        refine a_asgE ?_
        refine e_call ?_
        refine a_cons ?_
        refine e_call ?_
        refine a_val (v := v1) (val_var rfl) ?_
        refine a_val (v := (.int ((start1 + 4 : Nat) : Int))) (vn_add (val_var rfl) val_c) ?_
        refine a_nil ?_
        refine ⟨F25, (v1), (script1), (start1 + 4), _, rfl, w.f, r1, hW, ?_⟩
        intro z17 hW F26 H21 s20
        replace r1 := Rep.mono _ s20.g r1
        replace r4 := Rep.mono _ s20.g r4
        replace r5 := Rep.mono _ s20.g r5
        replace r8 := Rep.mono _ s20.g r8
        replace w := w.tr s20
        replace gx4 := Ex.tr gx4 s20.g
        replace gx2 := Ex.tr gx2 s20.g
        refine a_val (v := (.int ((280 : Nat) : Int))) val_c ?_
        refine a_val (v := (.int ((outputs2 : Nat) : Int))) (val_var rfl) ?_
        refine a_val (v := (.int ((inputs2 : Nat) : Int))) (val_var rfl) ?_
        refine a_val (v := (.bl (digits1))) (val_var rfl) ?_
        refine a_nil ?_
        refine ⟨F26, (z17), (280), (outputs2), (inputs2), (digits1), _, rfl, w.f, hW, ?_⟩
        intro z18 hW p7 F27 H22 s21 x6
        replace x6 := x6.base w
        replace r1 := Rep.mono _ s21.g r1
        replace r4 := Rep.mono _ s21.g r4
        replace r5 := Rep.mono _ s21.g r5
        replace r8 := Rep.mono _ s21.g r8
        replace w := w.tr s21
        replace gx4 := Ex.tr gx4 s21.g
        replace gx2 := Ex.tr gx2 s21.g
        obtain ⟨F28, w6, g6, r9, fz6⟩ := x6.frzE w
        replace r1 := Rep.mono _ g6 r1
        replace r4 := Rep.mono _ g6 r4
        replace r5 := Rep.mono _ g6 r5
        replace r8 := Rep.mono _ g6 r8
        replace w := w6
        replace gx4 := Ex.tr gx4 g6
        replace gx2 := Ex.tr gx2 g6
        refine hN15 _ _ ?_
        refine q_jn (S := List Nat) hW (fun shown1 σ' F' H' => ∃ (v4 : V), Wf F0 H0 F' H' ∧ Ex F28 F' ∧ σ' = [some v1, some (.int ((start1 : Nat) : Int)), some (.int ((most1 : Nat) : Int)), some (.int (z1)), some (.int ((stores2 : Nat) : Int)), some (.int ((inputs2 : Nat) : Int)), some (.int ((outputs2 : Nat) : Int)), some (.bl (digits1)), some (.int ((way1 : Nat) : Int)), some v2, some v3, none, none, some v4, some (.ref p7)] ∧ (pL pN).r F' v4 shown1) ?_ ?_
        · intro N16 hN16 hW
          have gx5 : Ex F28 F28 := Ex.rfl'
          refine a_ifE ?_
          refine e_ans (b := decide ((¬ (digits1 = true)) ∧ (1 < way1))) (t_and (t_not (t_ofB (vb_of (val_var rfl) dec_tt))) (fun _ => (t_of (vb_dec (c_gt (val_var rfl) val_c) n_lt)))) ?_
          refine b_if (fun hc4 => ?_) (fun hc4 => ?_)
          · have hW := ifP hW hc4
            refine a_asgE ?_
            refine c_J ?_
            refine a_val (v := (.ref p6)) (val_var rfl) ?_
            refine a_nil ?_
            refine src_enum r8 w.f (fun a2 T2 => ?_)
            obtain ⟨c3, hW⟩ := hW
            refine w_compG (e := pN) T2 w c3 hW ?_ ?_
            · intro Qy Qn it2 u4 F29 H23 R2 q2 hx2 ru2 hW hy2 hn2
              have r1 := Rep.mono _ q2.g r1
              have r4 := Rep.mono _ q2.g r4
              have r5 := Rep.mono _ q2.g r5
              have r8 := Rep.mono _ q2.g r8
              have r9 := Rep.mono _ q2.g r9
              have w := Wf.id q2.f
              obtain ⟨p8, u5, u6, rfl, h2, rfl, rfl⟩ := ru2
              refine ⟨p8, _, rfl, SqT.of (w.f _ _ h2), rfl, _, _, rfl, _, _, rfl, rfl, ?_⟩
              refine ⟨rfl, ?_⟩
              refine c_yes ?_
              refine e_op ?_
              refine e_val (v := (.int ((it2.2 : Nat) : Int))) (val_var rfl) ?_
              refine e_call ?_
              refine a_cons ?_
              refine e_call ?_
              refine a_val (v := v1) (val_var rfl) ?_
              refine a_val (v := (.int ((start1 + 3 : Nat) : Int))) (vn_add (val_var rfl) val_c) ?_
              refine a_nil ?_
              refine ⟨F29, (v1), (script1), (start1 + 3), _, rfl, w.f, r1, hW, ?_⟩
              intro z19 hW F30 H24 s22
              replace r1 := Rep.mono _ s22.g r1
              replace r4 := Rep.mono _ s22.g r4
              replace r5 := Rep.mono _ s22.g r5
              replace r8 := Rep.mono _ s22.g r8
              replace r9 := Rep.mono _ s22.g r9
              replace w := w.tr s22
              refine a_val (v := (.int ((300 + it2.1 : Nat) : Int))) (vn_add val_c (val_var rfl)) ?_
              refine a_nil ?_
              refine ⟨F30, (z19), (300 + it2.1), _, rfl, w.f, hW, ?_⟩
              intro z20 hW F31 H25 s23
              replace r1 := Rep.mono _ s23.g r1
              replace r4 := Rep.mono _ s23.g r4
              replace r5 := Rep.mono _ s23.g r5
              replace r8 := Rep.mono _ s23.g r8
              replace r9 := Rep.mono _ s23.g r9
              replace w := w.tr s23
              refine rv2 (z := (.int ((it2.2 &&& z20 : Nat) : Int))) (vn_and val_c val_c) ?_
              exact hy2 _ _ _ _ w rfl hW
            intro p9 ys2 F32 H26 hp2 s24 x7 hW
            replace r1 := Rep.mono _ s24.g r1
            replace r4 := Rep.mono _ s24.g r4
            replace r5 := Rep.mono _ s24.g r5
            replace r8 := Rep.mono _ s24.g r8
            replace r9 := Rep.mono _ s24.g r9
            replace w := w.tr s24
            replace gx5 := Ex.tr gx5 s24.g
            replace gx4 := Ex.tr gx4 s24.g
            replace gx2 := Ex.tr gx2 s24.g
            obtain ⟨F33, w7, g7, r11, fz7⟩ := x7.frzE w
            replace r1 := Rep.mono _ g7 r1
            replace r4 := Rep.mono _ g7 r4
            replace r5 := Rep.mono _ g7 r5
            replace r8 := Rep.mono _ g7 r8
            replace r9 := Rep.mono _ g7 r9
            replace w := w7
            replace gx5 := Ex.tr gx5 g7
            replace gx4 := Ex.tr gx4 g7
            replace gx2 := Ex.tr gx2 g7
            exact hN16 ys2 _ _ _ ⟨_, w, gx5, rfl, r11⟩ hW
          · have hW := ifN hW hc4
            exact hN16 z16 _ _ _ ⟨_, w, gx5, rfl, r8⟩ hW
        · intro shown1 σ' F34 H27 hI3 hW
          obtain ⟨v4, w, gx6, rfl, r10⟩ := hI3
          have r1 := Rep.mono _ gx6 r1
          have r4 := Rep.mono _ gx6 r4
          have r5 := Rep.mono _ gx6 r5
          have r9 := Rep.mono _ gx6 r9
          have gx4 := Ex.tr gx4 gx6
          have gx2 := Ex.tr gx2 gx6
          refine q_jn (S := List Nat) hW (fun straight1 σ' F' H' => ∃ (v5 : V), Wf F0 H0 F' H' ∧ Ex F34 F' ∧ σ' = [some v1, some (.int ((start1 : Nat) : Int)), some (.int ((most1 : Nat) : Int)), some (.int (z1)), some (.int ((stores2 : Nat) : Int)), some (.int ((inputs2 : Nat) : Int)), some (.int ((outputs2 : Nat) : Int)), some (.bl (digits1)), some (.int ((way1 : Nat) : Int)), some v2, some v3, none, none, some v4, some v5] ∧ (pL pN).r F' v5 straight1) ?_ ?_
          · intro N17 hN17 hW
            have gx7 : Ex F34 F34 := Ex.rfl'
            refine a_ifE ?_
            refine e_ans (b := decide ((¬ (digits1 = true)) ∧ (2 < way1))) (t_and (t_not (t_ofB (vb_of (val_var rfl) dec_tt))) (fun _ => (t_of (vb_dec (c_gt (val_var rfl) val_c) n_lt)))) ?_
            refine b_if (fun hc5 => ?_) (fun hc5 => ?_)
            · have hW := ifP hW hc5
              refine a_asgE ?_
              refine c_LE ?_
              refine e_val (v := (.ref p7)) (val_var rfl) ?_
              obtain ⟨c4, hW⟩ := hW
              refine w_compL (e := pN) r9 w c4 hW ?_ ?_
              · intro Qy Qn mask3 u7 F35 H28 R3 q3 hx3 ru3 hW hy3 hn3
                have r1 := Rep.mono _ q3.g r1
                have r4 := Rep.mono _ q3.g r4
                have r5 := Rep.mono _ q3.g r5
                have r10 := Rep.mono _ q3.g r10
                have r9 := Rep.mono _ q3.g r9
                have w := Wf.id q3.f
                obtain rfl : u7 = (.int ((mask3 : Nat) : Int)) := ru3
                refine ⟨rfl, ?_⟩
                refine c_yes ?_
                refine e_val (v := (.int ((0 : Nat) : Int))) val_c ?_
                exact hy3 _ _ _ _ w rfl hW
              intro p10 ys3 F36 H29 hp3 s26 x8 hW
              replace r1 := Rep.mono _ s26.g r1
              replace r4 := Rep.mono _ s26.g r4
              replace r5 := Rep.mono _ s26.g r5
              replace r10 := Rep.mono _ s26.g r10
              replace r9 := Rep.mono _ s26.g r9
              replace w := w.tr s26
              replace gx7 := Ex.tr gx7 s26.g
              replace gx6 := Ex.tr gx6 s26.g
              replace gx4 := Ex.tr gx4 s26.g
              replace gx2 := Ex.tr gx2 s26.g
              obtain ⟨F37, w8, g8, r13, fz8⟩ := x8.frzE w
              replace r1 := Rep.mono _ g8 r1
              replace r4 := Rep.mono _ g8 r4
              replace r5 := Rep.mono _ g8 r5
              replace r10 := Rep.mono _ g8 r10
              replace r9 := Rep.mono _ g8 r9
              replace w := w8
              replace gx7 := Ex.tr gx7 g8
              replace gx6 := Ex.tr gx6 g8
              replace gx4 := Ex.tr gx4 g8
              replace gx2 := Ex.tr gx2 g8
              exact hN17 ys3 _ _ _ ⟨_, w, gx7, rfl, r13⟩ hW
            · have hW := ifN hW hc5
              exact hN17 z18 _ _ _ ⟨_, w, gx7, rfl, r9⟩ hW
          · intro straight1 σ' F38 H30 hI4 hW
            obtain ⟨v5, w, gx8, rfl, r12⟩ := hI4
            have r1 := Rep.mono _ gx8 r1
            have r4 := Rep.mono _ gx8 r4
            have r5 := Rep.mono _ gx8 r5
            have r10 := Rep.mono _ gx8 r10
            have gx6 := Ex.tr gx6 gx8
            have gx4 := Ex.tr gx4 gx8
            have gx2 := Ex.tr gx2 gx8
            refine a_retE ?_
            refine e_tup ?_
            refine a_val (v := (.int ((inputs2 : Nat) : Int))) (val_var rfl) ?_
            refine a_cons ?_
            refine e_lzip ?_
            refine a_val (v := v2) (val_var rfl) ?_
            refine a_val (v := v3) (val_var rfl) ?_
            refine a_nil ?_
            refine n_lzip r4 r5 w ?_
            intro p11 F39 H31 hp4 s28 x9
            replace r1 := Rep.mono _ s28.g r1
            replace r4 := Rep.mono _ s28.g r4
            replace r5 := Rep.mono _ s28.g r5
            replace r10 := Rep.mono _ s28.g r10
            replace r12 := Rep.mono _ s28.g r12
            replace w := w.tr s28
            replace gx8 := Ex.tr gx8 s28.g
            replace gx6 := Ex.tr gx6 s28.g
            replace gx4 := Ex.tr gx4 s28.g
            replace gx2 := Ex.tr gx2 s28.g
            refine a_cons ?_
            refine e_lzip ?_
            refine a_val (v := v4) (val_var rfl) ?_
            refine a_val (v := v5) (val_var rfl) ?_
            refine a_nil ?_
            refine n_lzip r10 r12 w ?_
            intro p12 F40 H32 hp5 s29 x10
            have ne1 := x9.ne hp5
            replace r1 := Rep.mono _ s29.g r1
            replace r4 := Rep.mono _ s29.g r4
            replace r5 := Rep.mono _ s29.g r5
            replace r10 := Rep.mono _ s29.g r10
            replace r12 := Rep.mono _ s29.g r12
            replace x9 := x9.step s29
            replace w := w.tr s29
            replace gx8 := Ex.tr gx8 s29.g
            replace gx6 := Ex.tr gx6 s29.g
            replace gx4 := Ex.tr gx4 s29.g
            replace gx2 := Ex.tr gx2 s29.g
            refine a_nil ?_
            obtain ⟨F41, w9, g9, r14, fz9⟩ := x9.frzE w
            replace r1 := Rep.mono _ g9 r1
            replace r4 := Rep.mono _ g9 r4
            replace r5 := Rep.mono _ g9 r5
            replace r10 := Rep.mono _ g9 r10
            replace r12 := Rep.mono _ g9 r12
            replace x10 := x10.frzO fz9 (Ne.symm ne1) g9
            replace w := w9
            replace gx8 := Ex.tr gx8 g9
            replace gx6 := Ex.tr gx6 g9
            replace gx4 := Ex.tr gx4 g9
            replace gx2 := Ex.tr gx2 g9
            obtain ⟨F42, w10, g10, r15, fz10⟩ := x10.frzE w
            replace r1 := Rep.mono _ g10 r1
            replace r4 := Rep.mono _ g10 r4
            replace r5 := Rep.mono _ g10 r5
            replace r10 := Rep.mono _ g10 r10
            replace r12 := Rep.mono _ g10 r12
            replace r14 := Rep.mono _ g10 r14
            replace w := w10
            replace gx8 := Ex.tr gx8 g10
            replace gx6 := Ex.tr gx6 g10
            replace gx4 := Ex.tr gx4 g10
            replace gx2 := Ex.tr gx2 g10
            refine n_tup3 (e := pN) (f := (pL (pT2 pN pN))) (g := (pL (pT2 pN pN))) (x := inputs2) (y := one1.zip other1) (z := shown1.zip straight1) rfl r14 r15 w ?_
            intro p13 F43 H33 s30 r16
            replace r1 := Rep.mono _ s30.g r1
            replace r4 := Rep.mono _ s30.g r4
            replace r5 := Rep.mono _ s30.g r5
            replace r10 := Rep.mono _ s30.g r10
            replace r12 := Rep.mono _ s30.g r12
            replace r14 := Rep.mono _ s30.g r14
            replace r15 := Rep.mono _ s30.g r15
            replace w := w.tr s30
            replace gx8 := Ex.tr gx8 s30.g
            replace gx6 := Ex.tr gx6 s30.g
            replace gx4 := Ex.tr gx4 s30.g
            replace gx2 := Ex.tr gx2 s30.g
            exact hQ _ hW _ _ _ w r16
abbrev s_bad_mask : Stmt := topS 20
def W_bad_mask (cell_here1 : Int) (width1 : Nat) (R : An → Prop) : Prop := ∀ far1 : Nat, far1 = modN (cell_here1 / ((8 : Nat) : Int)) 10000000000000000000000000000000000000000 → (width1 < 100000000) ∧ (width1 < 100000000) ∧ ∃ x2, [(An.i ((2 ^ width1 : Nat) : Int)), (An.i (((2 ^ width1) + far1 : Nat) : Int)), (An.i (-1)), (An.i ((-1) - ((far1 : Nat) : Int))), (An.b true), An.n, (An.s (PySem.Str.ofString "1")), (An.t ([1].map (fun n : Nat => An.i (n : Int))))][modN cell_here1 8]? = some x2 ∧ R x2
def sp_bad_mask (K : PySem.W.Frag) (cc : Cz) : Sp := fun vs H Q _ => ∃ (F : Hp) (cell_here1 : Int) (width1 : Nat) (R : An → Prop), vs = [(.int (cell_here1)), (.int ((width1 : Nat) : Int))] ∧ Ex F H ∧ W_bad_mask cell_here1 width1 R ∧ ∀ z, R z → ∀ v F' H', Wf F H F' H' → pA.r F' v z → Q v H'
abbrev N_bad_mask : List Str := ["_law_cell_here", "_law_width", "_law_far"]
theorem sc_bad_mask : FnScope N_bad_mask ["_law_cell_here", "_law_width"] (defScope s_bad_mask) := ⟨rfl, rfl, rfl, by decide +kernel, rfl, by decide +kernel, by decide +kernel⟩
theorem ok_bad_mask {P : Program} {w0 : World} {K : PySem.W.Frag} {mg : Str → Option Value} {base : Heap} {f : Addr} {fd : FuncData} {cc : Cz} (T : Tz K mg cc) (FU : Fun K "_law_bad_mask" "_law_bad_mask" s_bad_mask f fd) (hm : mg "_law_bad_mask" = some (.ref f)) (hb : Binds K fd ["_law_cell_here", "_law_width"] []) : Fn P w0 K mg base CX0 1 "_law_bad_mask" ["_law_cell_here", "_law_width"] (sp_bad_mask K cc) := by
  refine ⟨f, fd, FU.ok sc_bad_mask (fun vs H Q E h => ?_) (fun cdv A outer s H0 vs Q E hr h => ?_), hm, FU.kp, hb⟩
  · obtain ⟨_, _, _, _, rfl, _⟩ := h; rfl
  · obtain ⟨F0, cell_here1, width1, R, rfl, wf, hW, hQ⟩ := h
    have nd := sc_bad_mask.nd
    refine ⟨(tSeq (tAsg (tOp kMod (tOp kDiv (tVar 0) (tC (.int 8))) (tOp kPow (tC (.int 10)) (tC (.int 40)))) (gName 2)) (tRet (tOp (L2.rIxL K) (tLst (tCons (tOp kShl (tC (.int 1)) (tVar 1)) (tCons (tOp kAdd (tOp kShl (tC (.int 1)) (tVar 1)) (tVar 2)) (tCons (tUn kNeg (tC (.int 1))) (tCons (tOp kSub (tUn kNeg (tC (.int 1))) (tVar 2)) (tCons (tC (.bl true)) (tCons (tC .non) (tCons (tC (.str (PySem.Str.ofString "1"))) (tCons (tTup (tCons (tC (.int 1)) tNil)) tNil))))))))) (tOp kMod (tVar 0) (tC (.int 8)))))), (pss_cons (ps_set (i := 2) nd rfl (Or.inl rfl) (pe_op op_mod (pe_op op_fdivW (pv 0) pe_int) (pe_op op_pow pe_int pe_int))) (pss_one (ps_ret (pe_ix ix_list (pe_lst (pa_cons (pe_op op_shlW pe_int (pv 1)) (pa_cons (pe_op op_add (pe_op op_shlW pe_int (pv 1)) (pv 2)) (pa_cons (pe_un un_neg pe_int) (pa_cons (pe_op op_sub (pe_un un_neg pe_int) (pv 2)) (pa_cons pe_bl (pa_cons pe_non (pa_cons pe_str (pa_cons (pe_tup (pa_cons pe_int pa_nil)) pa_nil))))))))) (pe_op op_mod (pv 0) pe_int) (fun _ _ => rfl))))), ?_⟩
    have w := Wf.id wf
    refine q_sq fun N1 hN1 => ?_
    obtain ⟨far1, efar1⟩ : ∃ far1 : Nat, far1 = modN (cell_here1 / ((8 : Nat) : Int)) 10000000000000000000000000000000000000000 := ⟨_, rfl⟩
    replace hW := hW far1 efar1
    refine a_asg (v := (.int ((far1 : Nat) : Int))) (v_eq (vm_mod (vi_div (val_var rfl) val_c ⟨by decide, by decide +kernel⟩) (vn_pow (a := 10) (b := 40) (c := 10000000000000000000000000000000000000000) val_c val_c ⟨by decide, by decide⟩ (by decide +kernel)) (by decide)) (by rw [efar1])) ?_
    refine hN1 _ _ ?_
    refine a_retE ?_
    refine e_op ?_
    refine e_lst ?_
    obtain ⟨c1, hW⟩ := hW
    refine a_val (v := (.int ((2 ^ width1 : Nat) : Int))) (vn_one val_c (val_var rfl) c1) ?_
    obtain ⟨c2, hW⟩ := hW
    refine a_val (v := (.int (((2 ^ width1) + far1 : Nat) : Int))) (vn_add (vn_one val_c (val_var rfl) c2) (val_var rfl)) ?_
    refine a_val (v := (.int (-1))) (v_neg val_c) ?_
    refine a_val (v := (.int ((-1) - ((far1 : Nat) : Int)))) (vi0 (v_neg val_c) (val_var rfl)) ?_
    refine a_val (v := (.bl (true))) val_c ?_
    refine a_val (v := .non) val_c ?_
    refine a_val (v := (.str ((PySem.Str.ofString "1")))) val_c ?_
    refine a_cons ?_
    refine e_tup ?_
    refine a_val (v := (.int ((1 : Nat) : Int))) val_c ?_
    refine a_nil ?_
    refine n_tupL (e := pN) (xs := [1]) (show All pN _ _ _ from ⟨rfl, trivial⟩) (by decide) w ?_
    intro p1 F1 H1 s1 r1
    replace w := w.tr s1
    refine a_nil ?_
    have r2 : pA.r _ (.ref p1) (An.t ([1].map (fun n : Nat => An.i (n : Int)))) := (cv_TL cv_nat) r1
    refine n_lstX (e := pA) (xs := [(An.i ((2 ^ width1 : Nat) : Int)), (An.i (((2 ^ width1) + far1 : Nat) : Int)), (An.i (-1)), (An.i ((-1) - ((far1 : Nat) : Int))), (An.b true), An.n, (An.s (PySem.Str.ofString "1")), (An.t ([1].map (fun n : Nat => An.i (n : Int))))]) (vs := [(.int ((2 ^ width1 : Nat) : Int)), (.int (((2 ^ width1) + far1 : Nat) : Int)), (.int (-1)), (.int ((-1) - ((far1 : Nat) : Int))), (.bl (true)), .non, (.str ((PySem.Str.ofString "1"))), (.ref p1)]) (show All pA _ [(.int ((2 ^ width1 : Nat) : Int)), (.int (((2 ^ width1) + far1 : Nat) : Int)), (.int (-1)), (.int ((-1) - ((far1 : Nat) : Int))), (.bl (true)), .non, (.str ((PySem.Str.ofString "1"))), (.ref p1)] [(An.i ((2 ^ width1 : Nat) : Int)), (An.i (((2 ^ width1) + far1 : Nat) : Int)), (An.i (-1)), (An.i ((-1) - ((far1 : Nat) : Int))), (An.b true), An.n, (An.s (PySem.Str.ofString "1")), (An.t ([1].map (fun n : Nat => An.i (n : Int))))] from ⟨(show pA.r _ (.int ((2 ^ width1 : Nat) : Int)) (An.i ((2 ^ width1 : Nat) : Int)) from rfl), ⟨(show pA.r _ (.int (((2 ^ width1) + far1 : Nat) : Int)) (An.i (((2 ^ width1) + far1 : Nat) : Int)) from rfl), ⟨(show pA.r _ (.int (-1)) (An.i (-1)) from rfl), ⟨(show pA.r _ (.int ((-1) - ((far1 : Nat) : Int))) (An.i ((-1) - ((far1 : Nat) : Int))) from rfl), ⟨(show pA.r _ (.bl (true)) (An.b true) from rfl), ⟨(show pA.r _ V.non An.n from rfl), ⟨(show pA.r _ (.str ((PySem.Str.ofString "1"))) (An.s (PySem.Str.ofString "1")) from rfl), ⟨r2, trivial⟩⟩⟩⟩⟩⟩⟩⟩) (show 8 < 1000000 from by decide) w ?_
    intro p2 H2 hp1 s2 x1
    replace r1 := Rep.mono _ s2.g r1
    replace w := w.tr s2
    refine e_val (v := (.int ((modN cell_here1 8 : Nat) : Int))) (vm_mod (val_var rfl) val_c (by decide)) ?_
    obtain ⟨x2, hx2_1, hW⟩ := hW
    obtain ⟨v1, r3, ix1⟩ := ix_X (K := K) x1 hx2_1
    refine rv2 (z := v1) (ix1 val_c val_c) ?_
    exact hQ _ hW _ _ _ w r3
abbrev s_pair_spoilt : Stmt := topS 21
def W_pair_spoilt (pair1 : Nat × Nat) (cell_here1 : Int) (stores1 : Nat) (inputs1 : Nat) (R : An → Prop) : Prop := ∀ way1 : Nat, way1 = modN cell_here1 6 → if way1 < 2 then (W_bad_mask (cell_here1 / ((6 : Nat) : Int)) stores1 fun z1 => R ((fun (x : An × Nat) => An.t [(fun x : An => x) x.1, (fun n : Nat => An.i (n : Int)) x.2]) (z1, pair1.2))) else (if way1 < 4 then (W_bad_mask (cell_here1 / ((6 : Nat) : Int)) inputs1 fun z2 => R ((fun (x : Nat × An) => An.t [(fun n : Nat => An.i (n : Int)) x.1, (fun x : An => x) x.2]) (pair1.1, z2))) else (∃ x3, [(An.l ([pair1.1, pair1.2].map (fun n : Nat => An.i (n : Int)))), ((fun (x : Nat × Nat × Nat) => An.t [(fun n : Nat => An.i (n : Int)) x.1, (fun n : Nat => An.i (n : Int)) x.2.1, (fun n : Nat => An.i (n : Int)) x.2.2]) (pair1.1, pair1.2, 0)), (An.t ([pair1.1].map (fun n : Nat => An.i (n : Int)))), (An.i ((pair1.1 : Nat) : Int)), An.n][modN (cell_here1 / ((6 : Nat) : Int)) 5]? = some x3 ∧ R x3))
def sp_pair_spoilt (K : PySem.W.Frag) (cc : Cz) : Sp := fun vs H Q _ => ∃ (F : Hp) (v1 : V) (pair1 : Nat × Nat) (cell_here1 : Int) (stores1 : Nat) (inputs1 : Nat) (R : An → Prop), vs = [v1, (.int (cell_here1)), (.int ((stores1 : Nat) : Int)), (.int ((inputs1 : Nat) : Int))] ∧ Ex F H ∧ (pT2 pN pN).r F v1 pair1 ∧ W_pair_spoilt pair1 cell_here1 stores1 inputs1 R ∧ ∀ z, R z → ∀ v F' H', Wf F H F' H' → pA.r F' v z → Q v H'
abbrev N_pair_spoilt : List Str := ["_law_pair", "_law_cell_here", "_law_stores", "_law_inputs", "_law_way"]
theorem sc_pair_spoilt : FnScope N_pair_spoilt ["_law_pair", "_law_cell_here", "_law_stores", "_law_inputs"] (defScope s_pair_spoilt) := ⟨rfl, rfl, rfl, by decide +kernel, rfl, by decide +kernel, by decide +kernel⟩
theorem ok_pair_spoilt {P : Program} {w0 : World} {K : PySem.W.Frag} {mg : Str → Option Value} {base : Heap} {f : Addr} {fd : FuncData} {cc : Cz} (T : Tz K mg cc) (FU : Fun K "_law_pair_spoilt" "_law_pair_spoilt" s_pair_spoilt f fd) (hm : mg "_law_pair_spoilt" = some (.ref f)) (hb : Binds K fd ["_law_pair", "_law_cell_here", "_law_stores", "_law_inputs"] []) (c_bad_mask : Fn P w0 K mg base CX0 1 "_law_bad_mask" ["_law_cell_here", "_law_width"] (sp_bad_mask K cc)) (n_list : mg "list" = none) : Fn P w0 K mg base CX0 2 "_law_pair_spoilt" ["_law_pair", "_law_cell_here", "_law_stores", "_law_inputs"] (sp_pair_spoilt K cc) := by
  refine ⟨f, fd, FU.ok sc_pair_spoilt (fun vs H Q E h => ?_) (fun cdv A outer s H0 vs Q E hr h => ?_), hm, FU.kp, hb⟩
  · obtain ⟨_, _, _, _, _, _, _, rfl, _⟩ := h; rfl
  · obtain ⟨F0, v1, pair1, cell_here1, stores1, inputs1, R, rfl, wf, r1, hW, hQ⟩ := h
    have nd := sc_pair_spoilt.nd
    refine ⟨(tSeq (tAsg (tOp kMod (tVar 1) (tC (.int 6))) (gName 4)) (tSeq (tIfS (tTest (tOp kLt (tVar 4) (tC (.int 2)))) (tRet (tTup (tCons (tCall (sp_bad_mask K cc) [] E0 (tCons (tOp kDiv (tVar 1) (tC (.int 6))) (tCons (tVar 2) tNil))) (tCons (tOp (L2.rIxT K) (tVar 0) (tC (.int 1))) tNil)))) tNext) (tSeq (tIfS (tTest (tOp kLt (tVar 4) (tC (.int 4)))) (tRet (tTup (tCons (tOp (L2.rIxT K) (tVar 0) (tC (.int 0))) (tCons (tCall (sp_bad_mask K cc) [] E0 (tCons (tOp kDiv (tVar 1) (tC (.int 6))) (tCons (tVar 3) tNil))) tNil)))) tNext) (tRet (tOp (L2.rIxL K) (tLst (tCons (tCB (rListOf K) (tCons (tVar 0) tNil)) (tCons (tOp (rCatT K) (tVar 0) (tTup (tCons (tC (.int 0)) tNil))) (tCons (tSl (rSlT K) (tVar 0) tNoPart (tPart (tC (.int 1)))) (tCons (tOp (L2.rIxT K) (tVar 0) (tC (.int 0))) (tCons (tC .non) tNil)))))) (tOp kMod (tOp kDiv (tVar 1) (tC (.int 6))) (tC (.int 5)))))))), (pss_cons (ps_set (i := 4) nd rfl (Or.inl rfl) (pe_op op_mod (pv 1) pe_int)) (pss_cons (ps_if (pt_cmpR op_lt (pv 4) pe_int (nomark _)) (pss_one (ps_ret (pe_tup (pa_cons (pe_fn c_bad_mask (hr.mono (by decide)) rfl (pa_cons (pe_op op_fdivW (pv 1) pe_int) (pa_cons (pv 2) pa_nil))) (pa_cons (pe_ix ix_tup (pv 0) pe_int (fun _ _ => rfl)) pa_nil))))) pss_nil) (pss_cons (ps_if (pt_cmpR op_lt (pv 4) pe_int (nomark _)) (pss_one (ps_ret (pe_tup (pa_cons (pe_ix ix_tup (pv 0) pe_int (fun _ _ => rfl)) (pa_cons (pe_fn c_bad_mask (hr.mono (by decide)) rfl (pa_cons (pe_op op_fdivW (pv 1) pe_int) (pa_cons (pv 3) pa_nil))) pa_nil))))) pss_nil) (pss_one (ps_ret (pe_ix ix_list (pe_lst (pa_cons (pe_callTy call_list_of (by rfl) n_list PyProof.Rows.boot_list (pa_cons (pv 0) pa_nil)) (pa_cons (pe_op op_catT (pv 0) (pe_tup (pa_cons pe_int pa_nil))) (pa_cons (pe_slice sl_tup (pv 0) po_none (po_some pe_int)) (pa_cons (pe_ix ix_tup (pv 0) pe_int (fun _ _ => rfl)) (pa_cons pe_non pa_nil)))))) (pe_op op_mod (pe_op op_fdivW (pv 1) pe_int) pe_int) (fun _ _ => rfl))))))), ?_⟩
    have w := Wf.id wf
    refine q_sq fun N1 hN1 => ?_
    obtain ⟨way1, eway1⟩ : ∃ way1 : Nat, way1 = modN cell_here1 6 := ⟨_, rfl⟩
    replace hW := hW way1 eway1
    refine a_asg (v := (.int ((way1 : Nat) : Int))) (v_eq (vm_mod (val_var rfl) val_c (by decide)) (by rw [eway1])) ?_
    refine hN1 _ _ ?_
    refine q_sq fun N2 hN2 => ?_
    refine a_ifE ?_
    refine e_ans (b := decide (way1 < 2)) (t_of (vb_dec (c_lt (val_var rfl) val_c) n_lt)) ?_
    refine b_if (fun hc1 => ?_) (fun hc1 => ?_)
    · have hW := ifP hW hc1
      refine a_retE ?_
      refine e_tup ?_
      refine a_cons ?_
      refine e_call ?_
      refine a_val (v := (.int (cell_here1 / ((6 : Nat) : Int)))) (vi_div (val_var rfl) val_c ⟨by decide, by decide +kernel⟩) ?_
      refine a_val (v := (.int ((stores1 : Nat) : Int))) (val_var rfl) ?_
      refine a_nil ?_
      refine ⟨F0, (cell_here1 / ((6 : Nat) : Int)), (stores1), _, rfl, w.f, hW, ?_⟩
      intro z1 hW v2 F1 H1 s1 r2
      replace r1 := Rep.mono _ s1.g r1
      replace w := w.tr s1
      obtain ⟨_, rfl, ix1⟩ := ix_2b (K := K) r1 w.f
      refine a_val (v := (.int ((pair1.2 : Nat) : Int))) (ix1 (val_var rfl) val_c) ?_
      refine a_nil ?_
      refine n_tup2 (e := pA) (f := pN) (x := z1) (y := pair1.2) r2 rfl w ?_
      intro p1 F2 H2 s2 r4
      replace r1 := Rep.mono _ s2.g r1
      replace r2 := Rep.mono _ s2.g r2
      replace w := w.tr s2
      have r5 : pA.r _ (.ref p1) ((fun (x : An × Nat) => An.t [(fun x : An => x) x.1, (fun n : Nat => An.i (n : Int)) x.2]) (z1, pair1.2)) := (cv_T2 cv_any cv_nat) r4
      exact hQ ((fun (x : An × Nat) => An.t [(fun x : An => x) x.1, (fun n : Nat => An.i (n : Int)) x.2]) (z1, pair1.2)) hW _ _ _ w r5
    · have hW := ifN hW hc1
      refine hN2 _ _ ?_
      refine q_sq fun N3 hN3 => ?_
      refine a_ifE ?_
      refine e_ans (b := decide (way1 < 4)) (t_of (vb_dec (c_lt (val_var rfl) val_c) n_lt)) ?_
      refine b_if (fun hc2 => ?_) (fun hc2 => ?_)
      · have hW := ifP hW hc2
        refine a_retE ?_
        refine e_tup ?_
        obtain ⟨_, rfl, ix2⟩ := ix_2a (K := K) r1 w.f
        refine a_val (v := (.int ((pair1.1 : Nat) : Int))) (ix2 (val_var rfl) val_c) ?_
        refine a_cons ?_
        refine e_call ?_
        refine a_val (v := (.int (cell_here1 / ((6 : Nat) : Int)))) (vi_div (val_var rfl) val_c ⟨by decide, by decide +kernel⟩) ?_
        refine a_val (v := (.int ((inputs1 : Nat) : Int))) (val_var rfl) ?_
        refine a_nil ?_
        refine ⟨F0, (cell_here1 / ((6 : Nat) : Int)), (inputs1), _, rfl, w.f, hW, ?_⟩
        intro z2 hW v5 F3 H3 s3 r7
        replace r1 := Rep.mono _ s3.g r1
        replace w := w.tr s3
        refine a_nil ?_
        refine n_tup2 (e := pN) (f := pA) (x := pair1.1) (y := z2) rfl r7 w ?_
        intro p2 F4 H4 s4 r8
        replace r1 := Rep.mono _ s4.g r1
        replace r7 := Rep.mono _ s4.g r7
        replace w := w.tr s4
        have r9 : pA.r _ (.ref p2) ((fun (x : Nat × An) => An.t [(fun n : Nat => An.i (n : Int)) x.1, (fun x : An => x) x.2]) (pair1.1, z2)) := (cv_T2 cv_nat cv_any) r8
        exact hQ ((fun (x : Nat × An) => An.t [(fun n : Nat => An.i (n : Int)) x.1, (fun x : An => x) x.2]) (pair1.1, z2)) hW _ _ _ w r9
      · have hW := ifN hW hc2
        refine hN3 _ _ ?_
        refine a_retE ?_
        refine e_op ?_
        refine e_lst ?_
        refine a_cons ?_
        refine e_cb ?_
        refine a_val (v := v1) (val_var rfl) ?_
        refine a_nil ?_
        refine n_listX2 r1 w ?_
        intro p3 H5 hp1 s5 x1
        replace r1 := Rep.mono _ s5.g r1
        replace w := w.tr s5
        refine a_cons ?_
        refine e_op ?_
        refine e_val (v := v1) (val_var rfl) ?_
        refine e_tup ?_
        refine a_val (v := (.int ((0 : Nat) : Int))) val_c ?_
        refine a_nil ?_
        refine n_tupL (e := pN) (xs := [0]) (show All pN _ _ _ from ⟨rfl, trivial⟩) (by decide) w ?_
        intro p4 F5 H6 s6 r10
        replace r1 := Rep.mono _ s6.g r1
        replace x1 := x1.step s6
        replace w := w.tr s6
        refine n_catT21 r1 r10 w ?_
        intro p5 F6 H7 s7 r11
        replace r1 := Rep.mono _ s7.g r1
        replace x1 := x1.step s7
        replace r10 := Rep.mono _ s7.g r10
        replace w := w.tr s7
        refine a_cons ?_
        refine n_cutT2 r1 (val_var rfl) po_n (po_s (n := 1) val_c) w ?_
        intro p6 F7 H8 s8 r12
        replace r1 := Rep.mono _ s8.g r1
        replace x1 := x1.step s8
        replace r10 := Rep.mono _ s8.g r10
        replace r11 := Rep.mono _ s8.g r11
        replace w := w.tr s8
        obtain ⟨_, rfl, ix3⟩ := ix_2a (K := K) r1 w.f
        refine a_val (v := (.int ((pair1.1 : Nat) : Int))) (ix3 (val_var rfl) val_c) ?_
        refine a_val (v := .non) val_c ?_
        refine a_nil ?_
        obtain ⟨F8, w1, g1, r14, fz1⟩ := x1.frzE w
        replace r1 := Rep.mono _ g1 r1
        replace r10 := Rep.mono _ g1 r10
        replace r11 := Rep.mono _ g1 r11
        replace r12 := Rep.mono _ g1 r12
        replace w := w1
        have r15 : pA.r _ (.ref p3) (An.l ([pair1.1, pair1.2].map (fun n : Nat => An.i (n : Int)))) := (cv_L cv_nat) r14
        have r16 : pA.r _ (.ref p5) ((fun (x : Nat × Nat × Nat) => An.t [(fun n : Nat => An.i (n : Int)) x.1, (fun n : Nat => An.i (n : Int)) x.2.1, (fun n : Nat => An.i (n : Int)) x.2.2]) (pair1.1, pair1.2, 0)) := (cv_T3 cv_nat cv_nat cv_nat) r11
        have r17 : pA.r _ (.ref p6) (An.t ([pair1.1].map (fun n : Nat => An.i (n : Int)))) := (cv_TL cv_nat) r12
        refine n_lstX (e := pA) (xs := [(An.l ([pair1.1, pair1.2].map (fun n : Nat => An.i (n : Int)))), ((fun (x : Nat × Nat × Nat) => An.t [(fun n : Nat => An.i (n : Int)) x.1, (fun n : Nat => An.i (n : Int)) x.2.1, (fun n : Nat => An.i (n : Int)) x.2.2]) (pair1.1, pair1.2, 0)), (An.t ([pair1.1].map (fun n : Nat => An.i (n : Int)))), (An.i ((pair1.1 : Nat) : Int)), An.n]) (vs := [(.ref p3), (.ref p5), (.ref p6), (.int ((pair1.1 : Nat) : Int)), .non]) (show All pA _ [(.ref p3), (.ref p5), (.ref p6), (.int ((pair1.1 : Nat) : Int)), .non] [(An.l ([pair1.1, pair1.2].map (fun n : Nat => An.i (n : Int)))), ((fun (x : Nat × Nat × Nat) => An.t [(fun n : Nat => An.i (n : Int)) x.1, (fun n : Nat => An.i (n : Int)) x.2.1, (fun n : Nat => An.i (n : Int)) x.2.2]) (pair1.1, pair1.2, 0)), (An.t ([pair1.1].map (fun n : Nat => An.i (n : Int)))), (An.i ((pair1.1 : Nat) : Int)), An.n] from ⟨r15, ⟨r16, ⟨r17, ⟨(show pA.r _ (.int ((pair1.1 : Nat) : Int)) (An.i ((pair1.1 : Nat) : Int)) from rfl), ⟨(show pA.r _ V.non An.n from rfl), trivial⟩⟩⟩⟩⟩) (show 5 < 1000000 from by decide) w ?_
        intro p7 H9 hp2 s9 x2
        replace r1 := Rep.mono _ s9.g r1
        replace r14 := Rep.mono _ s9.g r14
        replace r10 := Rep.mono _ s9.g r10
        replace r11 := Rep.mono _ s9.g r11
        replace r12 := Rep.mono _ s9.g r12
        replace w := w.tr s9
        refine e_val (v := (.int ((modN (cell_here1 / ((6 : Nat) : Int)) 5 : Nat) : Int))) (vm_mod (vi_div (val_var rfl) val_c ⟨by decide, by decide +kernel⟩) val_c (by decide)) ?_
        obtain ⟨x3, hx3_1, hW⟩ := hW
        obtain ⟨v7, r18, ix4⟩ := ix_X (K := K) x2 hx3_1
        refine rv2 (z := v7) (ix4 val_c val_c) ?_
        exact hQ _ hW _ _ _ w r18
abbrev s_spoilt : Stmt := topS 22
def W_spoilt (tables1 : Nat × List (Nat × Nat) × List (Nat × Nat)) (cell_here1 : Int) (R : (An × An × An) → Prop) : Prop := ∀ way1 : Nat, way1 = modN cell_here1 7 → ∀ rest1 : Int, rest1 = cell_here1 / ((7 : Nat) : Int) → if way1 = 0 then (∃ x2, [(An.i (-1)), (An.i ((7 : Nat) : Int)), (An.b true), An.n, (An.s (PySem.Str.ofString "2")), (An.i ((8 + (modN rest1 100000000000000000000) : Nat) : Int))][modN rest1 6]? = some x2 ∧ R (x2, (An.l (tables1.2.1.map (fun (x : Nat × Nat) => An.t [(fun n : Nat => An.i (n : Int)) x.1, (fun n : Nat => An.i (n : Int)) x.2]))), (An.l (tables1.2.2.map (fun (x : Nat × Nat) => An.t [(fun n : Nat => An.i (n : Int)) x.1, (fun n : Nat => An.i (n : Int)) x.2]))))) else (if way1 = 1 then (∃ x5, [(An.t (tables1.2.1.map (fun (x : Nat × Nat) => An.t [(fun n : Nat => An.i (n : Int)) x.1, (fun n : Nat => An.i (n : Int)) x.2]))), An.n, (An.s (PySem.Str.ofString "ab")), (An.i ((3 : Nat) : Int)), (An.o "dict")][modN rest1 5]? = some x5 ∧ R ((An.i ((tables1.1 : Nat) : Int)), x5, (An.l (tables1.2.2.map (fun (x : Nat × Nat) => An.t [(fun n : Nat => An.i (n : Int)) x.1, (fun n : Nat => An.i (n : Int)) x.2]))))) else (if way1 = 2 then (∃ x8, [(An.t (tables1.2.2.map (fun (x : Nat × Nat) => An.t [(fun n : Nat => An.i (n : Int)) x.1, (fun n : Nat => An.i (n : Int)) x.2]))), An.n, (An.s (PySem.Str.ofString "ab")), (An.i ((3 : Nat) : Int)), (An.o "dict")][modN rest1 5]? = some x8 ∧ R ((An.i ((tables1.1 : Nat) : Int)), (An.l (tables1.2.1.map (fun (x : Nat × Nat) => An.t [(fun n : Nat => An.i (n : Int)) x.1, (fun n : Nat => An.i (n : Int)) x.2]))), x8)) else (if way1 = 3 then (([(0, 0)].length * (121 + (modN rest1 3)) < 1000000 ∧ 121 + (modN rest1 3) < 1000000) ∧ R ((An.i ((tables1.1 : Nat) : Int)), (An.l (((List.replicate (121 + (modN rest1 3)) [(0, 0)]).flatten).map (fun (x : Nat × Nat) => An.t [(fun n : Nat => An.i (n : Int)) x.1, (fun n : Nat => An.i (n : Int)) x.2]))), (An.l ((cutT tables1.2.2 none (some 0)).map (fun (x : Nat × Nat) => An.t [(fun n : Nat => An.i (n : Int)) x.1, (fun n : Nat => An.i (n : Int)) x.2]))))) else (if way1 = 4 then ((tables1.2.2.length ≤ 7) ∧ ([(0, 0)].length * (7 - tables1.2.2.length) < 1000000 ∧ 7 - tables1.2.2.length < 1000000) ∧ (tables1.2.2.length + ((List.replicate (7 - tables1.2.2.length) [(0, 0)]).flatten).length < 1000000) ∧ R ((An.i ((tables1.1 : Nat) : Int)), (An.l (tables1.2.1.map (fun (x : Nat × Nat) => An.t [(fun n : Nat => An.i (n : Int)) x.1, (fun n : Nat => An.i (n : Int)) x.2]))), (An.l ((tables1.2.2 ++ ((List.replicate (7 - tables1.2.2.length) [(0, 0)]).flatten)).map (fun (x : Nat × Nat) => An.t [(fun n : Nat => An.i (n : Int)) x.1, (fun n : Nat => An.i (n : Int)) x.2]))))) else (jn (fun kk => if way1 = 5 then (kk (decide (tables1.2.1 ≠ ([] : List (Nat × Nat))))) else (kk false)) fun b1 => if b1 = true then ((0 < tables1.2.1.length) ∧ ∀ at1 : Nat, at1 = modN rest1 tables1.2.1.length → ∃ x16, tables1.2.1[at1]? = some x16 ∧ W_pair_spoilt x16 (rest1 / ((16 : Nat) : Int)) tables1.2.1.length tables1.1 fun z1 => (((cutT tables1.2.1 none (some at1)).map (fun (x : Nat × Nat) => An.t [(fun n : Nat => An.i (n : Int)) x.1, (fun n : Nat => An.i (n : Int)) x.2])).length + [z1].length < 1000000) ∧ ((((cutT tables1.2.1 none (some at1)).map (fun (x : Nat × Nat) => An.t [(fun n : Nat => An.i (n : Int)) x.1, (fun n : Nat => An.i (n : Int)) x.2])) ++ [z1]).length + ((cutT tables1.2.1 (some (at1 + 1)) none).map (fun (x : Nat × Nat) => An.t [(fun n : Nat => An.i (n : Int)) x.1, (fun n : Nat => An.i (n : Int)) x.2])).length < 1000000) ∧ R ((An.i ((tables1.1 : Nat) : Int)), (An.l ((((cutT tables1.2.1 none (some at1)).map (fun (x : Nat × Nat) => An.t [(fun n : Nat => An.i (n : Int)) x.1, (fun n : Nat => An.i (n : Int)) x.2])) ++ [z1]) ++ ((cutT tables1.2.1 (some (at1 + 1)) none).map (fun (x : Nat × Nat) => An.t [(fun n : Nat => An.i (n : Int)) x.1, (fun n : Nat => An.i (n : Int)) x.2])))), (An.l (tables1.2.2.map (fun (x : Nat × Nat) => An.t [(fun n : Nat => An.i (n : Int)) x.1, (fun n : Nat => An.i (n : Int)) x.2]))))) else (W_pair_spoilt (0, 0) (rest1 / ((16 : Nat) : Int)) tables1.2.1.length tables1.1 fun z2 => (((cutT tables1.2.2 none (some 5)).map (fun (x : Nat × Nat) => An.t [(fun n : Nat => An.i (n : Int)) x.1, (fun n : Nat => An.i (n : Int)) x.2])).length + [z2].length < 1000000) ∧ R ((An.i ((tables1.1 : Nat) : Int)), (An.l (tables1.2.1.map (fun (x : Nat × Nat) => An.t [(fun n : Nat => An.i (n : Int)) x.1, (fun n : Nat => An.i (n : Int)) x.2]))), (An.l (((cutT tables1.2.2 none (some 5)).map (fun (x : Nat × Nat) => An.t [(fun n : Nat => An.i (n : Int)) x.1, (fun n : Nat => An.i (n : Int)) x.2])) ++ [z2])))))))))
def sp_spoilt (K : PySem.W.Frag) (cc : Cz) : Sp := fun vs H Q _ => ∃ (F : Hp) (v1 : V) (tables1 : Nat × List (Nat × Nat) × List (Nat × Nat)) (cell_here1 : Int) (R : (An × An × An) → Prop), vs = [v1, (.int (cell_here1))] ∧ Ex F H ∧ (pT3 pN (pL (pT2 pN pN)) (pL (pT2 pN pN))).r F v1 tables1 ∧ W_spoilt tables1 cell_here1 R ∧ ∀ z, R z → ∀ v F' H', Wf F H F' H' → (pT3 pA pA pA).r F' v z → Q v H'
abbrev N_spoilt : List Str := ["_law_tables", "_law_cell_here", "_law_inputs", "_law_nexts", "_law_outs", "_law_way", "_law_rest", "_law_at", "_law_bad"]
theorem sc_spoilt : FnScope N_spoilt ["_law_tables", "_law_cell_here"] (defScope s_spoilt) := ⟨rfl, rfl, rfl, by decide +kernel, rfl, by decide +kernel, by decide +kernel⟩
theorem ok_spoilt {P : Program} {w0 : World} {K : PySem.W.Frag} {mg : Str → Option Value} {base : Heap} {f : Addr} {fd : FuncData} {cc : Cz} (T : Tz K mg cc) (FU : Fun K "_law_spoilt" "_law_spoilt" s_spoilt f fd) (hm : mg "_law_spoilt" = some (.ref f)) (hb : Binds K fd ["_law_tables", "_law_cell_here"] []) (c_pair_spoilt : Fn P w0 K mg base CX0 2 "_law_pair_spoilt" ["_law_pair", "_law_cell_here", "_law_stores", "_law_inputs"] (sp_pair_spoilt K cc)) (n_len : mg "len" = none) (n_tuple : mg "tuple" = none) : Fn P w0 K mg base CX0 3 "_law_spoilt" ["_law_tables", "_law_cell_here"] (sp_spoilt K cc) := by
  refine ⟨f, fd, FU.ok sc_spoilt (fun vs H Q E h => ?_) (fun cdv A outer s H0 vs Q E hr h => ?_), hm, FU.kp, hb⟩
  · obtain ⟨_, _, _, _, _, rfl, _⟩ := h; rfl
  · obtain ⟨F0, v1, tables1, cell_here1, R, rfl, wf, r1, hW, hQ⟩ := h
    have nd := sc_spoilt.nd
    refine ⟨(tSeq (tAsg (tVar 0) (gTup K 3 (gCons (gName 2) (gCons (gName 3) (gCons (gName 4) gNil))))) (tSeq (tAsg (tOp kMod (tVar 1) (tC (.int 7))) (gName 5)) (tSeq (tAsg (tOp kDiv (tVar 1) (tC (.int 7))) (gName 6)) (tSeq (tIfS (tTest (tOp L2.rEq (tVar 5) (tC (.int 0)))) (tRet (tTup (tCons (tOp (L2.rIxL K) (tLst (tCons (tUn kNeg (tC (.int 1))) (tCons (tC (.int 7)) (tCons (tC (.bl true)) (tCons (tC .non) (tCons (tC (.str (PySem.Str.ofString "2"))) (tCons (tOp kAdd (tC (.int 8)) (tOp kMod (tVar 6) (tOp kPow (tC (.int 10)) (tC (.int 20))))) tNil))))))) (tOp kMod (tVar 6) (tC (.int 6)))) (tCons (tVar 3) (tCons (tVar 4) tNil))))) tNext) (tSeq (tIfS (tTest (tOp L2.rEq (tVar 5) (tC (.int 1)))) (tRet (tTup (tCons (tVar 2) (tCons (tOp (L2.rIxL K) (tLst (tCons (tCB (rTupOf K) (tCons (tVar 3) tNil)) (tCons (tC .non) (tCons (tC (.str (PySem.Str.ofString "ab"))) (tCons (tC (.int 3)) (tCons tDNewK tNil)))))) (tOp kMod (tVar 6) (tC (.int 5)))) (tCons (tVar 4) tNil))))) tNext) (tSeq (tIfS (tTest (tOp L2.rEq (tVar 5) (tC (.int 2)))) (tRet (tTup (tCons (tVar 2) (tCons (tVar 3) (tCons (tOp (L2.rIxL K) (tLst (tCons (tCB (rTupOf K) (tCons (tVar 4) tNil)) (tCons (tC .non) (tCons (tC (.str (PySem.Str.ofString "ab"))) (tCons (tC (.int 3)) (tCons tDNewK tNil)))))) (tOp kMod (tVar 6) (tC (.int 5)))) tNil))))) tNext) (tSeq (tIfS (tTest (tOp L2.rEq (tVar 5) (tC (.int 3)))) (tRet (tTup (tCons (tVar 2) (tCons (tOp L2.rRep (tLst (tCons (tTup (tCons (tC (.int 0)) (tCons (tC (.int 0)) tNil))) tNil)) (tOp kAdd (tC (.int 121)) (tOp kMod (tVar 6) (tC (.int 3))))) (tCons (tSl (rSlL K) (tVar 4) tNoPart (tPart (tC (.int 0)))) tNil))))) tNext) (tSeq (tIfS (tTest (tOp L2.rEq (tVar 5) (tC (.int 4)))) (tRet (tTup (tCons (tVar 2) (tCons (tVar 3) (tCons (tOp L2.rCat (tVar 4) (tOp L2.rRep (tLst (tCons (tTup (tCons (tC (.int 0)) (tCons (tC (.int 0)) tNil))) tNil)) (tOp kSub (tC (.int 7)) (tCB (Wk.rLen K) (tCons (tVar 4) tNil))))) tNil))))) tNext) (tSeq (tIfS (tAnd (tTest (tOp L2.rEq (tVar 5) (tC (.int 5)))) (tTest (tOp (L2.rNeD K) (tVar 3) (tLst tNil)))) (tSeq (tAsg (tOp kMod (tVar 6) (tCB (Wk.rLen K) (tCons (tVar 3) tNil))) (gName 7)) (tSeq (tAsg (tCall (sp_pair_spoilt K cc) [] E0 (tCons (tOp (L2.rIxL K) (tVar 3) (tVar 7)) (tCons (tOp kDiv (tVar 6) (tC (.int 16))) (tCons (tCB (Wk.rLen K) (tCons (tVar 3) tNil)) (tCons (tVar 2) tNil))))) (gName 8)) (tRet (tTup (tCons (tVar 2) (tCons (tOp L2.rCat (tOp L2.rCat (tSl (rSlL K) (tVar 3) tNoPart (tPart (tVar 7))) (tLst (tCons (tVar 8) tNil))) (tSl (rSlL K) (tVar 3) (tPart (tOp kAdd (tVar 7) (tC (.int 1)))) tNoPart)) (tCons (tVar 4) tNil))))))) tNext) (tSeq (tAsg (tCall (sp_pair_spoilt K cc) [] E0 (tCons (tTup (tCons (tC (.int 0)) (tCons (tC (.int 0)) tNil))) (tCons (tOp kDiv (tVar 6) (tC (.int 16))) (tCons (tCB (Wk.rLen K) (tCons (tVar 3) tNil)) (tCons (tVar 2) tNil))))) (gName 8)) (tRet (tTup (tCons (tVar 2) (tCons (tVar 3) (tCons (tOp L2.rCat (tSl (rSlL K) (tVar 4) tNoPart (tPart (tC (.int 5)))) (tLst (tCons (tVar 8) tNil))) tNil))))))))))))))), (pss_cons (ps_asg (pv 0) (pg_tup rfl (pgs_cons (pg_name (i := 2) nd rfl (Or.inl rfl)) (pgs_cons (pg_name (i := 3) nd rfl (Or.inl rfl)) (pgs_cons (pg_name (i := 4) nd rfl (Or.inl rfl)) pgs_nil))) (by rfl))) (pss_cons (ps_set (i := 5) nd rfl (Or.inl rfl) (pe_op op_mod (pv 1) pe_int)) (pss_cons (ps_set (i := 6) nd rfl (Or.inl rfl) (pe_op op_fdivW (pv 1) pe_int)) (pss_cons (ps_if (pt_cmpR op_eq (pv 5) pe_int (nomark _)) (pss_one (ps_ret (pe_tup (pa_cons (pe_ix ix_list (pe_lst (pa_cons (pe_un un_neg pe_int) (pa_cons pe_int (pa_cons pe_bl (pa_cons pe_non (pa_cons pe_str (pa_cons (pe_op op_add pe_int (pe_op op_mod (pv 6) (pe_op op_pow pe_int pe_int))) pa_nil))))))) (pe_op op_mod (pv 6) pe_int) (fun _ _ => rfl)) (pa_cons (pv 3) (pa_cons (pv 4) pa_nil)))))) pss_nil) (pss_cons (ps_if (pt_cmpR op_eq (pv 5) pe_int (nomark _)) (pss_one (ps_ret (pe_tup (pa_cons (pv 2) (pa_cons (pe_ix ix_list (pe_lst (pa_cons (pe_callTy call_tuple_of (by rfl) n_tuple PyProof.Rows.boot_tuple (pa_cons (pv 3) pa_nil)) (pa_cons pe_non (pa_cons pe_str (pa_cons pe_int (pa_cons pe_dnewK pa_nil)))))) (pe_op op_mod (pv 6) pe_int) (fun _ _ => rfl)) (pa_cons (pv 4) pa_nil)))))) pss_nil) (pss_cons (ps_if (pt_cmpR op_eq (pv 5) pe_int (nomark _)) (pss_one (ps_ret (pe_tup (pa_cons (pv 2) (pa_cons (pv 3) (pa_cons (pe_ix ix_list (pe_lst (pa_cons (pe_callTy call_tuple_of (by rfl) n_tuple PyProof.Rows.boot_tuple (pa_cons (pv 4) pa_nil)) (pa_cons pe_non (pa_cons pe_str (pa_cons pe_int (pa_cons pe_dnewK pa_nil)))))) (pe_op op_mod (pv 6) pe_int) (fun _ _ => rfl)) pa_nil)))))) pss_nil) (pss_cons (ps_if (pt_cmpR op_eq (pv 5) pe_int (nomark _)) (pss_one (ps_ret (pe_tup (pa_cons (pv 2) (pa_cons (pe_op op_rep (pe_lst (pa_cons (pe_tup (pa_cons pe_int (pa_cons pe_int pa_nil))) pa_nil)) (pe_op op_add pe_int (pe_op op_mod (pv 6) pe_int))) (pa_cons (pe_slice sl_list (pv 4) po_none (po_some pe_int)) pa_nil)))))) pss_nil) (pss_cons (ps_if (pt_cmpR op_eq (pv 5) pe_int (nomark _)) (pss_one (ps_ret (pe_tup (pa_cons (pv 2) (pa_cons (pv 3) (pa_cons (pe_op op_cat (pv 4) (pe_op op_rep (pe_lst (pa_cons (pe_tup (pa_cons pe_int (pa_cons pe_int pa_nil))) pa_nil)) (pe_op op_sub pe_int (pe_callB call_len_seq (by rfl) n_len PySem.boot_len (pa_cons (pv 4) pa_nil))))) pa_nil)))))) pss_nil) (pss_cons (ps_if (PW.pt (pw_and (pt_cmpR op_eq (pv 5) pe_int (nomark _)) (pw_and1 (pt_cmpR (op_neD hr.units) (pv 3) (pe_lst pa_nil) (nomark _))))) (pss_cons (ps_set (i := 7) nd rfl (Or.inl rfl) (pe_op op_mod (pv 6) (pe_callB call_len_seq (by rfl) n_len PySem.boot_len (pa_cons (pv 3) pa_nil)))) (pss_cons (ps_set (i := 8) nd rfl (Or.inl rfl) (pe_fn c_pair_spoilt (hr.mono (by decide)) rfl (pa_cons (pe_ix ix_list (pv 3) (pv 7) (fun _ _ => rfl)) (pa_cons (pe_op op_fdivW (pv 6) pe_int) (pa_cons (pe_callB call_len_seq (by rfl) n_len PySem.boot_len (pa_cons (pv 3) pa_nil)) (pa_cons (pv 2) pa_nil)))))) (pss_one (ps_ret (pe_tup (pa_cons (pv 2) (pa_cons (pe_op op_cat (pe_op op_cat (pe_slice sl_list (pv 3) po_none (po_some (pv 7))) (pe_lst (pa_cons (pv 8) pa_nil))) (pe_slice sl_list (pv 3) (po_some (pe_op op_add (pv 7) pe_int)) po_none)) (pa_cons (pv 4) pa_nil)))))))) pss_nil) (pss_cons (ps_set (i := 8) nd rfl (Or.inl rfl) (pe_fn c_pair_spoilt (hr.mono (by decide)) rfl (pa_cons (pe_tup (pa_cons pe_int (pa_cons pe_int pa_nil))) (pa_cons (pe_op op_fdivW (pv 6) pe_int) (pa_cons (pe_callB call_len_seq (by rfl) n_len PySem.boot_len (pa_cons (pv 3) pa_nil)) (pa_cons (pv 2) pa_nil)))))) (pss_one (ps_ret (pe_tup (pa_cons (pv 2) (pa_cons (pv 3) (pa_cons (pe_op op_cat (pe_slice sl_list (pv 4) po_none (po_some pe_int)) (pe_lst (pa_cons (pv 8) pa_nil))) pa_nil)))))))))))))))), ?_⟩
    have w := Wf.id wf
    refine q_sq fun N1 hN1 => ?_
    refine a_asgG ?_
    refine e_val (v := v1) (val_var rfl) ?_
    have rr1 := r1
    obtain ⟨p1, u1, u2, u3, hv1, h1, rfl, r2, r3⟩ := rr1
    refine ⟨p1, _, hv1, SqT.of (w.f _ _ h1), rfl, _, _, rfl, _, _, rfl, _, _, rfl, rfl, ?_⟩
    refine hN1 _ _ ?_
    refine q_sq fun N2 hN2 => ?_
    obtain ⟨way1, eway1⟩ : ∃ way1 : Nat, way1 = modN cell_here1 7 := ⟨_, rfl⟩
    replace hW := hW way1 eway1
    refine a_asg (v := (.int ((way1 : Nat) : Int))) (v_eq (vm_mod (val_var rfl) val_c (by decide)) (by rw [eway1])) ?_
    refine hN2 _ _ ?_
    refine q_sq fun N3 hN3 => ?_
    obtain ⟨rest1, erest1⟩ : ∃ rest1 : Int, rest1 = cell_here1 / ((7 : Nat) : Int) := ⟨_, rfl⟩
    replace hW := hW rest1 erest1
    refine a_asg (v := (.int (rest1))) (v_eq (vi_div (val_var rfl) val_c ⟨by decide, by decide +kernel⟩) (by rw [erest1])) ?_
    refine hN3 _ _ ?_
    refine q_sq fun N4 hN4 => ?_
    refine a_ifE ?_
    refine e_ans (b := decide (way1 = 0)) (t_of (vb_dec (c_eqI (val_var rfl) val_c) n_eq)) ?_
    refine b_if (fun hc1 => ?_) (fun hc1 => ?_)
    · have hW := ifP hW hc1
      refine a_retE ?_
      refine e_tup ?_
      refine a_cons ?_
      refine e_op ?_
      refine e_lst ?_
      refine a_val (v := (.int (-1))) (v_neg val_c) ?_
      refine a_val (v := (.int ((7 : Nat) : Int))) val_c ?_
      refine a_val (v := (.bl (true))) val_c ?_
      refine a_val (v := .non) val_c ?_
      refine a_val (v := (.str ((PySem.Str.ofString "2")))) val_c ?_
      refine a_val (v := (.int ((8 + (modN rest1 100000000000000000000) : Nat) : Int))) (vn_add val_c (vm_mod (val_var rfl) (vn_pow (a := 10) (b := 20) (c := 100000000000000000000) val_c val_c ⟨by decide, by decide⟩ (by decide +kernel)) (by decide))) ?_
      refine a_nil ?_
      refine n_lstX (e := pA) (xs := [(An.i (-1)), (An.i ((7 : Nat) : Int)), (An.b true), An.n, (An.s (PySem.Str.ofString "2")), (An.i ((8 + (modN rest1 100000000000000000000) : Nat) : Int))]) (vs := [(.int (-1)), (.int ((7 : Nat) : Int)), (.bl (true)), .non, (.str ((PySem.Str.ofString "2"))), (.int ((8 + (modN rest1 100000000000000000000) : Nat) : Int))]) (show All pA _ [(.int (-1)), (.int ((7 : Nat) : Int)), (.bl (true)), .non, (.str ((PySem.Str.ofString "2"))), (.int ((8 + (modN rest1 100000000000000000000) : Nat) : Int))] [(An.i (-1)), (An.i ((7 : Nat) : Int)), (An.b true), An.n, (An.s (PySem.Str.ofString "2")), (An.i ((8 + (modN rest1 100000000000000000000) : Nat) : Int))] from ⟨(show pA.r _ (.int (-1)) (An.i (-1)) from rfl), ⟨(show pA.r _ (.int ((7 : Nat) : Int)) (An.i ((7 : Nat) : Int)) from rfl), ⟨(show pA.r _ (.bl (true)) (An.b true) from rfl), ⟨(show pA.r _ V.non An.n from rfl), ⟨(show pA.r _ (.str ((PySem.Str.ofString "2"))) (An.s (PySem.Str.ofString "2")) from rfl), ⟨(show pA.r _ (.int ((8 + (modN rest1 100000000000000000000) : Nat) : Int)) (An.i ((8 + (modN rest1 100000000000000000000) : Nat) : Int)) from rfl), trivial⟩⟩⟩⟩⟩⟩) (show 6 < 1000000 from by decide) w ?_
      intro p2 H1 hp1 s1 x1
      replace r1 := Rep.mono _ s1.g r1
      replace r2 := Rep.mono _ s1.g r2
      replace r3 := Rep.mono _ s1.g r3
      replace w := w.tr s1
      refine e_val (v := (.int ((modN rest1 6 : Nat) : Int))) (vm_mod (val_var rfl) val_c (by decide)) ?_
      obtain ⟨x2, hx2_1, hW⟩ := hW
      obtain ⟨v2, r4, ix1⟩ := ix_X (K := K) x1 hx2_1
      refine rv2 (z := v2) (ix1 val_c val_c) ?_
      refine a_val (v := u2) (val_var rfl) ?_
      refine a_val (v := u3) (val_var rfl) ?_
      refine a_nil ?_
      have r5 : pA.r _ u2 (An.l (tables1.2.1.map (fun (x : Nat × Nat) => An.t [(fun n : Nat => An.i (n : Int)) x.1, (fun n : Nat => An.i (n : Int)) x.2]))) := (cv_L (cv_T2 cv_nat cv_nat)) r2
      have r6 : pA.r _ u3 (An.l (tables1.2.2.map (fun (x : Nat × Nat) => An.t [(fun n : Nat => An.i (n : Int)) x.1, (fun n : Nat => An.i (n : Int)) x.2]))) := (cv_L (cv_T2 cv_nat cv_nat)) r3
      refine n_tup3 (e := pA) (f := pA) (g := pA) (x := x2) (y := (An.l (tables1.2.1.map (fun (x : Nat × Nat) => An.t [(fun n : Nat => An.i (n : Int)) x.1, (fun n : Nat => An.i (n : Int)) x.2])))) (z := (An.l (tables1.2.2.map (fun (x : Nat × Nat) => An.t [(fun n : Nat => An.i (n : Int)) x.1, (fun n : Nat => An.i (n : Int)) x.2])))) r4 r5 r6 w ?_
      intro p3 F1 H2 s2 r7
      replace r1 := Rep.mono _ s2.g r1
      replace r2 := Rep.mono _ s2.g r2
      replace r3 := Rep.mono _ s2.g r3
      replace x1 := x1.step s2
      replace r4 := Rep.mono _ s2.g r4
      replace w := w.tr s2
      exact hQ _ hW _ _ _ w r7
    · have hW := ifN hW hc1
      refine hN4 _ _ ?_
      refine q_sq fun N5 hN5 => ?_
      refine a_ifE ?_
      refine e_ans (b := decide (way1 = 1)) (t_of (vb_dec (c_eqI (val_var rfl) val_c) n_eq)) ?_
      refine b_if (fun hc2 => ?_) (fun hc2 => ?_)
      · have hW := ifP hW hc2
        refine a_retE ?_
        refine e_tup ?_
        refine a_val (v := (.int ((tables1.1 : Nat) : Int))) (val_var rfl) ?_
        refine a_cons ?_
        refine e_op ?_
        refine e_lst ?_
        refine a_cons ?_
        refine e_cb ?_
        refine a_val (v := u2) (val_var rfl) ?_
        refine a_nil ?_
        refine n_tupOf r2 w ?_
        intro p4 F2 H3 s3 r8
        replace r1 := Rep.mono _ s3.g r1
        replace r2 := Rep.mono _ s3.g r2
        replace r3 := Rep.mono _ s3.g r3
        replace w := w.tr s3
        refine a_val (v := .non) val_c ?_
        refine a_val (v := (.str ((PySem.Str.ofString "ab")))) val_c ?_
        refine a_val (v := (.int ((3 : Nat) : Int))) val_c ?_
        refine a_cons ?_
        refine n_dict (κ := Nat) (e := pN) w ?_
        intro p5 H4 hp2 s4 x3
        replace r1 := Rep.mono _ s4.g r1
        replace r2 := Rep.mono _ s4.g r2
        replace r3 := Rep.mono _ s4.g r3
        replace r8 := Rep.mono _ s4.g r8
        replace w := w.tr s4
        refine a_nil ?_
        obtain ⟨F3, w1, g1, r9, fz1⟩ := x3.frzE w
        replace r1 := Rep.mono _ g1 r1
        replace r2 := Rep.mono _ g1 r2
        replace r3 := Rep.mono _ g1 r3
        replace r8 := Rep.mono _ g1 r8
        replace w := w1
        have r10 : pA.r _ (.ref p4) (An.t (tables1.2.1.map (fun (x : Nat × Nat) => An.t [(fun n : Nat => An.i (n : Int)) x.1, (fun n : Nat => An.i (n : Int)) x.2]))) := (cv_TL (cv_T2 cv_nat cv_nat)) r8
        refine n_lstX (e := pA) (xs := [(An.t (tables1.2.1.map (fun (x : Nat × Nat) => An.t [(fun n : Nat => An.i (n : Int)) x.1, (fun n : Nat => An.i (n : Int)) x.2]))), An.n, (An.s (PySem.Str.ofString "ab")), (An.i ((3 : Nat) : Int)), (An.o "dict")]) (vs := [(.ref p4), .non, (.str ((PySem.Str.ofString "ab"))), (.int ((3 : Nat) : Int)), (.ref p5)]) (show All pA _ [(.ref p4), .non, (.str ((PySem.Str.ofString "ab"))), (.int ((3 : Nat) : Int)), (.ref p5)] [(An.t (tables1.2.1.map (fun (x : Nat × Nat) => An.t [(fun n : Nat => An.i (n : Int)) x.1, (fun n : Nat => An.i (n : Int)) x.2]))), An.n, (An.s (PySem.Str.ofString "ab")), (An.i ((3 : Nat) : Int)), (An.o "dict")] from ⟨r10, ⟨(show pA.r _ V.non An.n from rfl), ⟨(show pA.r _ (.str ((PySem.Str.ofString "ab"))) (An.s (PySem.Str.ofString "ab")) from rfl), ⟨(show pA.r _ (.int ((3 : Nat) : Int)) (An.i ((3 : Nat) : Int)) from rfl), ⟨(an_D r9), trivial⟩⟩⟩⟩⟩) (show 5 < 1000000 from by decide) w ?_
        intro p6 H5 hp3 s5 x4
        replace r1 := Rep.mono _ s5.g r1
        replace r2 := Rep.mono _ s5.g r2
        replace r3 := Rep.mono _ s5.g r3
        replace r8 := Rep.mono _ s5.g r8
        replace r9 := Rep.mono _ s5.g r9
        replace w := w.tr s5
        refine e_val (v := (.int ((modN rest1 5 : Nat) : Int))) (vm_mod (val_var rfl) val_c (by decide)) ?_
        obtain ⟨x5, hx5_1, hW⟩ := hW
        obtain ⟨v3, r11, ix2⟩ := ix_X (K := K) x4 hx5_1
        refine rv2 (z := v3) (ix2 val_c val_c) ?_
        refine a_val (v := u3) (val_var rfl) ?_
        refine a_nil ?_
        have r12 : pA.r _ u3 (An.l (tables1.2.2.map (fun (x : Nat × Nat) => An.t [(fun n : Nat => An.i (n : Int)) x.1, (fun n : Nat => An.i (n : Int)) x.2]))) := (cv_L (cv_T2 cv_nat cv_nat)) r3
        refine n_tup3 (e := pA) (f := pA) (g := pA) (x := (An.i ((tables1.1 : Nat) : Int))) (y := x5) (z := (An.l (tables1.2.2.map (fun (x : Nat × Nat) => An.t [(fun n : Nat => An.i (n : Int)) x.1, (fun n : Nat => An.i (n : Int)) x.2])))) (show pA.r _ (.int ((tables1.1 : Nat) : Int)) (An.i ((tables1.1 : Nat) : Int)) from rfl) r11 r12 w ?_
        intro p7 F4 H6 s6 r13
        replace r1 := Rep.mono _ s6.g r1
        replace r2 := Rep.mono _ s6.g r2
        replace r3 := Rep.mono _ s6.g r3
        replace r8 := Rep.mono _ s6.g r8
        replace r9 := Rep.mono _ s6.g r9
        replace x4 := x4.step s6
        replace r11 := Rep.mono _ s6.g r11
        replace w := w.tr s6
        exact hQ _ hW _ _ _ w r13
      · have hW := ifN hW hc2
        refine hN5 _ _ ?_
        refine q_sq fun N6 hN6 => ?_
        refine a_ifE ?_
        refine e_ans (b := decide (way1 = 2)) (t_of (vb_dec (c_eqI (val_var rfl) val_c) n_eq)) ?_
        refine b_if (fun hc3 => ?_) (fun hc3 => ?_)
        · have hW := ifP hW hc3
          refine a_retE ?_
          refine e_tup ?_
          refine a_val (v := (.int ((tables1.1 : Nat) : Int))) (val_var rfl) ?_
          refine a_val (v := u2) (val_var rfl) ?_
          refine a_cons ?_
          refine e_op ?_
          refine e_lst ?_
          refine a_cons ?_
          refine e_cb ?_
          refine a_val (v := u3) (val_var rfl) ?_
          refine a_nil ?_
          refine n_tupOf r3 w ?_
          intro p8 F5 H7 s7 r14
          replace r1 := Rep.mono _ s7.g r1
          replace r2 := Rep.mono _ s7.g r2
          replace r3 := Rep.mono _ s7.g r3
          replace w := w.tr s7
          refine a_val (v := .non) val_c ?_
          refine a_val (v := (.str ((PySem.Str.ofString "ab")))) val_c ?_
          refine a_val (v := (.int ((3 : Nat) : Int))) val_c ?_
          refine a_cons ?_
          refine n_dict (κ := Nat) (e := pN) w ?_
          intro p9 H8 hp4 s8 x6
          replace r1 := Rep.mono _ s8.g r1
          replace r2 := Rep.mono _ s8.g r2
          replace r3 := Rep.mono _ s8.g r3
          replace r14 := Rep.mono _ s8.g r14
          replace w := w.tr s8
          refine a_nil ?_
          obtain ⟨F6, w2, g2, r15, fz2⟩ := x6.frzE w
          replace r1 := Rep.mono _ g2 r1
          replace r2 := Rep.mono _ g2 r2
          replace r3 := Rep.mono _ g2 r3
          replace r14 := Rep.mono _ g2 r14
          replace w := w2
          have r16 : pA.r _ (.ref p8) (An.t (tables1.2.2.map (fun (x : Nat × Nat) => An.t [(fun n : Nat => An.i (n : Int)) x.1, (fun n : Nat => An.i (n : Int)) x.2]))) := (cv_TL (cv_T2 cv_nat cv_nat)) r14
          refine n_lstX (e := pA) (xs := [(An.t (tables1.2.2.map (fun (x : Nat × Nat) => An.t [(fun n : Nat => An.i (n : Int)) x.1, (fun n : Nat => An.i (n : Int)) x.2]))), An.n, (An.s (PySem.Str.ofString "ab")), (An.i ((3 : Nat) : Int)), (An.o "dict")]) (vs := [(.ref p8), .non, (.str ((PySem.Str.ofString "ab"))), (.int ((3 : Nat) : Int)), (.ref p9)]) (show All pA _ [(.ref p8), .non, (.str ((PySem.Str.ofString "ab"))), (.int ((3 : Nat) : Int)), (.ref p9)] [(An.t (tables1.2.2.map (fun (x : Nat × Nat) => An.t [(fun n : Nat => An.i (n : Int)) x.1, (fun n : Nat => An.i (n : Int)) x.2]))), An.n, (An.s (PySem.Str.ofString "ab")), (An.i ((3 : Nat) : Int)), (An.o "dict")] from ⟨r16, ⟨(show pA.r _ V.non An.n from rfl), ⟨(show pA.r _ (.str ((PySem.Str.ofString "ab"))) (An.s (PySem.Str.ofString "ab")) from rfl), ⟨(show pA.r _ (.int ((3 : Nat) : Int)) (An.i ((3 : Nat) : Int)) from rfl), ⟨(an_D r15), trivial⟩⟩⟩⟩⟩) (show 5 < 1000000 from by decide) w ?_
          intro p10 H9 hp5 s9 x7
          replace r1 := Rep.mono _ s9.g r1
          replace r2 := Rep.mono _ s9.g r2
          replace r3 := Rep.mono _ s9.g r3
          replace r14 := Rep.mono _ s9.g r14
          replace r15 := Rep.mono _ s9.g r15
          replace w := w.tr s9
          refine e_val (v := (.int ((modN rest1 5 : Nat) : Int))) (vm_mod (val_var rfl) val_c (by decide)) ?_
          obtain ⟨x8, hx8_1, hW⟩ := hW
          obtain ⟨v4, r17, ix3⟩ := ix_X (K := K) x7 hx8_1
          refine rv2 (z := v4) (ix3 val_c val_c) ?_
          refine a_nil ?_
          have r18 : pA.r _ u2 (An.l (tables1.2.1.map (fun (x : Nat × Nat) => An.t [(fun n : Nat => An.i (n : Int)) x.1, (fun n : Nat => An.i (n : Int)) x.2]))) := (cv_L (cv_T2 cv_nat cv_nat)) r2
          refine n_tup3 (e := pA) (f := pA) (g := pA) (x := (An.i ((tables1.1 : Nat) : Int))) (y := (An.l (tables1.2.1.map (fun (x : Nat × Nat) => An.t [(fun n : Nat => An.i (n : Int)) x.1, (fun n : Nat => An.i (n : Int)) x.2])))) (z := x8) (show pA.r _ (.int ((tables1.1 : Nat) : Int)) (An.i ((tables1.1 : Nat) : Int)) from rfl) r18 r17 w ?_
          intro p11 F7 H10 s10 r19
          replace r1 := Rep.mono _ s10.g r1
          replace r2 := Rep.mono _ s10.g r2
          replace r3 := Rep.mono _ s10.g r3
          replace r14 := Rep.mono _ s10.g r14
          replace r15 := Rep.mono _ s10.g r15
          replace x7 := x7.step s10
          replace r17 := Rep.mono _ s10.g r17
          replace w := w.tr s10
          exact hQ _ hW _ _ _ w r19
        · have hW := ifN hW hc3
          refine hN6 _ _ ?_
          refine q_sq fun N7 hN7 => ?_
          refine a_ifE ?_
          refine e_ans (b := decide (way1 = 3)) (t_of (vb_dec (c_eqI (val_var rfl) val_c) n_eq)) ?_
          refine b_if (fun hc4 => ?_) (fun hc4 => ?_)
          · have hW := ifP hW hc4
            refine a_retE ?_
            refine e_tup ?_
            refine a_val (v := (.int ((tables1.1 : Nat) : Int))) (val_var rfl) ?_
            refine a_cons ?_
            refine e_op ?_
            refine e_lst ?_
            refine a_cons ?_
            refine e_tup ?_
            refine a_val (v := (.int ((0 : Nat) : Int))) val_c ?_
            refine a_val (v := (.int ((0 : Nat) : Int))) val_c ?_
            refine a_nil ?_
            refine n_tup2 (e := pN) (f := pN) (x := 0) (y := 0) rfl rfl w ?_
            intro p12 F8 H11 s11 r20
            replace r1 := Rep.mono _ s11.g r1
            replace r2 := Rep.mono _ s11.g r2
            replace r3 := Rep.mono _ s11.g r3
            replace w := w.tr s11
            refine a_nil ?_
            refine n_lstX (e := (pT2 pN pN)) (xs := [(0, 0)]) (vs := [(.ref p12)]) (show All (pT2 pN pN) _ [(.ref p12)] [(0, 0)] from ⟨r20, trivial⟩) (show 1 < 1000000 from by decide) w ?_
            intro p13 H12 hp6 s12 x9
            replace r1 := Rep.mono _ s12.g r1
            replace r2 := Rep.mono _ s12.g r2
            replace r3 := Rep.mono _ s12.g r3
            replace r20 := Rep.mono _ s12.g r20
            replace w := w.tr s12
            refine e_val (v := (.int ((121 + (modN rest1 3) : Nat) : Int))) (vn_add val_c (vm_mod (val_var rfl) val_c (by decide))) ?_
            obtain ⟨F9, w3, g3, r21, fz3⟩ := x9.frzE w
            replace r1 := Rep.mono _ g3 r1
            replace r2 := Rep.mono _ g3 r2
            replace r3 := Rep.mono _ g3 r3
            replace r20 := Rep.mono _ g3 r20
            replace w := w3
            obtain ⟨c1, hW⟩ := hW
            refine n_rep (n := 121 + (modN rest1 3)) r21 w c1.1 c1.2 ?_
            intro p14 H13 hp7 s13 x10
            replace r1 := Rep.mono _ s13.g r1
            replace r2 := Rep.mono _ s13.g r2
            replace r3 := Rep.mono _ s13.g r3
            replace r20 := Rep.mono _ s13.g r20
            replace r21 := Rep.mono _ s13.g r21
            replace w := w.tr s13
            refine a_cons ?_
            refine n_cutX (lo := none) (hi := (some 0)) r3 (val_var rfl) po_n (po_s (n := 0) val_c) w ?_
            intro p15 H14 hp8 s14 x11
            have ne1 := x10.ne hp8
            replace r1 := Rep.mono _ s14.g r1
            replace r2 := Rep.mono _ s14.g r2
            replace r3 := Rep.mono _ s14.g r3
            replace r20 := Rep.mono _ s14.g r20
            replace r21 := Rep.mono _ s14.g r21
            replace x10 := x10.step s14
            replace w := w.tr s14
            refine a_nil ?_
            obtain ⟨F10, w4, g4, r22, fz4⟩ := x10.frzE w
            replace r1 := Rep.mono _ g4 r1
            replace r2 := Rep.mono _ g4 r2
            replace r3 := Rep.mono _ g4 r3
            replace r20 := Rep.mono _ g4 r20
            replace r21 := Rep.mono _ g4 r21
            replace x11 := x11.frzO fz4 (Ne.symm ne1) g4
            replace w := w4
            obtain ⟨F11, w5, g5, r23, fz5⟩ := x11.frzE w
            replace r1 := Rep.mono _ g5 r1
            replace r2 := Rep.mono _ g5 r2
            replace r3 := Rep.mono _ g5 r3
            replace r20 := Rep.mono _ g5 r20
            replace r21 := Rep.mono _ g5 r21
            replace r22 := Rep.mono _ g5 r22
            replace w := w5
            have r24 : pA.r _ (.ref p14) (An.l (((List.replicate (121 + (modN rest1 3)) [(0, 0)]).flatten).map (fun (x : Nat × Nat) => An.t [(fun n : Nat => An.i (n : Int)) x.1, (fun n : Nat => An.i (n : Int)) x.2]))) := (cv_L (cv_T2 cv_nat cv_nat)) r22
            have r25 : pA.r _ (.ref p15) (An.l ((cutT tables1.2.2 none (some 0)).map (fun (x : Nat × Nat) => An.t [(fun n : Nat => An.i (n : Int)) x.1, (fun n : Nat => An.i (n : Int)) x.2]))) := (cv_L (cv_T2 cv_nat cv_nat)) r23
            refine n_tup3 (e := pA) (f := pA) (g := pA) (x := (An.i ((tables1.1 : Nat) : Int))) (y := (An.l (((List.replicate (121 + (modN rest1 3)) [(0, 0)]).flatten).map (fun (x : Nat × Nat) => An.t [(fun n : Nat => An.i (n : Int)) x.1, (fun n : Nat => An.i (n : Int)) x.2])))) (z := (An.l ((cutT tables1.2.2 none (some 0)).map (fun (x : Nat × Nat) => An.t [(fun n : Nat => An.i (n : Int)) x.1, (fun n : Nat => An.i (n : Int)) x.2])))) (show pA.r _ (.int ((tables1.1 : Nat) : Int)) (An.i ((tables1.1 : Nat) : Int)) from rfl) r24 r25 w ?_
            intro p16 F12 H15 s15 r26
            replace r1 := Rep.mono _ s15.g r1
            replace r2 := Rep.mono _ s15.g r2
            replace r3 := Rep.mono _ s15.g r3
            replace r20 := Rep.mono _ s15.g r20
            replace r21 := Rep.mono _ s15.g r21
            replace r22 := Rep.mono _ s15.g r22
            replace r23 := Rep.mono _ s15.g r23
            replace w := w.tr s15
            exact hQ _ hW _ _ _ w r26
          · have hW := ifN hW hc4
            refine hN7 _ _ ?_
            refine q_sq fun N8 hN8 => ?_
            refine a_ifE ?_
            refine e_ans (b := decide (way1 = 4)) (t_of (vb_dec (c_eqI (val_var rfl) val_c) n_eq)) ?_
            refine b_if (fun hc5 => ?_) (fun hc5 => ?_)
            · have hW := ifP hW hc5
              refine a_retE ?_
              refine e_tup ?_
              refine a_val (v := (.int ((tables1.1 : Nat) : Int))) (val_var rfl) ?_
              refine a_val (v := u2) (val_var rfl) ?_
              refine a_cons ?_
              refine e_op ?_
              refine e_val (v := u3) (val_var rfl) ?_
              refine e_op ?_
              refine e_lst ?_
              refine a_cons ?_
              refine e_tup ?_
              refine a_val (v := (.int ((0 : Nat) : Int))) val_c ?_
              refine a_val (v := (.int ((0 : Nat) : Int))) val_c ?_
              refine a_nil ?_
              refine n_tup2 (e := pN) (f := pN) (x := 0) (y := 0) rfl rfl w ?_
              intro p17 F13 H16 s16 r27
              replace r1 := Rep.mono _ s16.g r1
              replace r2 := Rep.mono _ s16.g r2
              replace r3 := Rep.mono _ s16.g r3
              replace w := w.tr s16
              refine a_nil ?_
              refine n_lstX (e := (pT2 pN pN)) (xs := [(0, 0)]) (vs := [(.ref p17)]) (show All (pT2 pN pN) _ [(.ref p17)] [(0, 0)] from ⟨r27, trivial⟩) (show 1 < 1000000 from by decide) w ?_
              intro p18 H17 hp9 s17 x12
              replace r1 := Rep.mono _ s17.g r1
              replace r2 := Rep.mono _ s17.g r2
              replace r3 := Rep.mono _ s17.g r3
              replace r27 := Rep.mono _ s17.g r27
              replace w := w.tr s17
              obtain ⟨c2, hW⟩ := hW
              refine e_val (v := (.int ((7 - tables1.2.2.length : Nat) : Int))) (vn_sub val_c (len_L r3 w.f (val_var rfl)) c2) ?_
              obtain ⟨F14, w6, g6, r28, fz6⟩ := x12.frzE w
              replace r1 := Rep.mono _ g6 r1
              replace r2 := Rep.mono _ g6 r2
              replace r3 := Rep.mono _ g6 r3
              replace r27 := Rep.mono _ g6 r27
              replace w := w6
              obtain ⟨c3, hW⟩ := hW
              refine n_rep (n := 7 - tables1.2.2.length) r28 w c3.1 c3.2 ?_
              intro p19 H18 hp10 s18 x13
              replace r1 := Rep.mono _ s18.g r1
              replace r2 := Rep.mono _ s18.g r2
              replace r3 := Rep.mono _ s18.g r3
              replace r27 := Rep.mono _ s18.g r27
              replace r28 := Rep.mono _ s18.g r28
              replace w := w.tr s18
              obtain ⟨F15, w7, g7, r29, fz7⟩ := x13.frzE w
              replace r1 := Rep.mono _ g7 r1
              replace r2 := Rep.mono _ g7 r2
              replace r3 := Rep.mono _ g7 r3
              replace r27 := Rep.mono _ g7 r27
              replace r28 := Rep.mono _ g7 r28
              replace w := w7
              obtain ⟨c4, hW⟩ := hW
              refine n_cat r3 r29 w c4 ?_
              intro p20 H19 hp11 s19 x14
              replace r1 := Rep.mono _ s19.g r1
              replace r2 := Rep.mono _ s19.g r2
              replace r3 := Rep.mono _ s19.g r3
              replace r27 := Rep.mono _ s19.g r27
              replace r28 := Rep.mono _ s19.g r28
              replace r29 := Rep.mono _ s19.g r29
              replace w := w.tr s19
              refine a_nil ?_
              obtain ⟨F16, w8, g8, r30, fz8⟩ := x14.frzE w
              replace r1 := Rep.mono _ g8 r1
              replace r2 := Rep.mono _ g8 r2
              replace r3 := Rep.mono _ g8 r3
              replace r27 := Rep.mono _ g8 r27
              replace r28 := Rep.mono _ g8 r28
              replace r29 := Rep.mono _ g8 r29
              replace w := w8
              have r31 : pA.r _ u2 (An.l (tables1.2.1.map (fun (x : Nat × Nat) => An.t [(fun n : Nat => An.i (n : Int)) x.1, (fun n : Nat => An.i (n : Int)) x.2]))) := (cv_L (cv_T2 cv_nat cv_nat)) r2
              have r32 : pA.r _ (.ref p20) (An.l ((tables1.2.2 ++ ((List.replicate (7 - tables1.2.2.length) [(0, 0)]).flatten)).map (fun (x : Nat × Nat) => An.t [(fun n : Nat => An.i (n : Int)) x.1, (fun n : Nat => An.i (n : Int)) x.2]))) := (cv_L (cv_T2 cv_nat cv_nat)) r30
              refine n_tup3 (e := pA) (f := pA) (g := pA) (x := (An.i ((tables1.1 : Nat) : Int))) (y := (An.l (tables1.2.1.map (fun (x : Nat × Nat) => An.t [(fun n : Nat => An.i (n : Int)) x.1, (fun n : Nat => An.i (n : Int)) x.2])))) (z := (An.l ((tables1.2.2 ++ ((List.replicate (7 - tables1.2.2.length) [(0, 0)]).flatten)).map (fun (x : Nat × Nat) => An.t [(fun n : Nat => An.i (n : Int)) x.1, (fun n : Nat => An.i (n : Int)) x.2])))) (show pA.r _ (.int ((tables1.1 : Nat) : Int)) (An.i ((tables1.1 : Nat) : Int)) from rfl) r31 r32 w ?_
              intro p21 F17 H20 s20 r33
              replace r1 := Rep.mono _ s20.g r1
              replace r2 := Rep.mono _ s20.g r2
              replace r3 := Rep.mono _ s20.g r3
              replace r27 := Rep.mono _ s20.g r27
              replace r28 := Rep.mono _ s20.g r28
              replace r29 := Rep.mono _ s20.g r29
              replace r30 := Rep.mono _ s20.g r30
              replace w := w.tr s20
              exact hQ _ hW _ _ _ w r33
            · have hW := ifN hW hc5
              refine hN8 _ _ ?_
              refine q_sq fun N9 hN9 => ?_
              refine a_ifE ?_
              refine e_jnT hW (fun b F' H' => b = b ∧ Wf F0 H0 F' H' ∧ Ex F0 F') ?_ ?_
              · intro N10 hN10 hW
                have gx1 : Ex F0 F0 := Ex.rfl'
                refine e_tAnd ?_
                refine e_ans (b := decide (way1 = 5)) (t_of (vb_dec (c_eqI (val_var rfl) val_c) n_eq)) ?_
                refine b_if (fun hc6 => ?_) (fun hc6 => ?_)
                · have hW := ifP hW hc6
                  refine e_tT ?_
                  refine e_op ?_
                  refine e_val (v := u2) (val_var rfl) ?_
                  refine e_lst ?_
                  refine a_nil ?_
                  refine n_lstX (e := (pT2 pN pN)) (xs := []) (vs := []) (show All (pT2 pN pN) _ [] [] from trivial) (show 0 < 1000000 from by decide) w ?_
                  intro p22 H21 hp12 s21 x15
                  replace r1 := Rep.mono _ s21.g r1
                  replace r2 := Rep.mono _ s21.g r2
                  replace r3 := Rep.mono _ s21.g r3
                  replace w := w.tr s21
                  replace gx1 := Ex.tr gx1 s21.g
                  obtain ⟨F18, w9, g9, r34, fz9⟩ := x15.frzE w
                  replace r1 := Rep.mono _ g9 r1
                  replace r2 := Rep.mono _ g9 r2
                  replace r3 := Rep.mono _ g9 r3
                  replace w := w9
                  replace gx1 := Ex.tr gx1 g9
                  refine rv2T (b := decide (tables1.2.1 ≠ ([] : List (Nat × Nat)))) (c_neD (K := K) (e := (pL (pT2 pN pN))) val_c val_c w.f r2 w.f r34) ?_
                  exact hN10 (decide (tables1.2.1 ≠ ([] : List (Nat × Nat)))) _ _ ⟨rfl, w, gx1⟩ hW
                · have hW := ifN hW hc6
                  exact hN10 false _ _ ⟨rfl, w, gx1⟩ hW
              intro b1 F19 H22 hI1 hW
              obtain ⟨_, w, gx2⟩ := hI1
              have r1 := Rep.mono _ gx2 r1
              have r2 := Rep.mono _ gx2 r2
              have r3 := Rep.mono _ gx2 r3
              refine bb_if (fun hc7 => ?_) (fun hc7 => ?_)
              · have hW := ifP hW hc7
                refine q_sq fun N11 hN11 => ?_
                obtain ⟨c5, hW⟩ := hW
                obtain ⟨at1, eat1⟩ : ∃ at1 : Nat, at1 = modN rest1 tables1.2.1.length := ⟨_, rfl⟩
                replace hW := hW at1 eat1
                refine a_asg (v := (.int ((at1 : Nat) : Int))) (v_eq (vm_mod (val_var rfl) (len_L r2 w.f (val_var rfl)) c5) (by rw [eat1])) ?_
                refine hN11 _ _ ?_
                refine q_sq fun N12 hN12 => ?_
                refine a_asgE ?_
                refine e_call ?_
                obtain ⟨x16, hx16_1, hW⟩ := hW
                obtain ⟨v5, r35, ix4⟩ := ix_L (K := K) r2 w.f hx16_1
                refine a_val (v := v5) (ix4 (val_var rfl) (val_var rfl)) ?_
                refine a_val (v := (.int (rest1 / ((16 : Nat) : Int)))) (vi_div (val_var rfl) val_c ⟨by decide, by decide +kernel⟩) ?_
                refine a_val (v := (.int ((tables1.2.1.length : Nat) : Int))) (len_L r2 w.f (val_var rfl)) ?_
                refine a_val (v := (.int ((tables1.1 : Nat) : Int))) (val_var rfl) ?_
                refine a_nil ?_
                refine ⟨F19, (v5), (x16), (rest1 / ((16 : Nat) : Int)), (tables1.2.1.length), (tables1.1), _, rfl, w.f, r35, hW, ?_⟩
                intro z1 hW v6 F20 H23 s22 r36
                replace r1 := Rep.mono _ s22.g r1
                replace r2 := Rep.mono _ s22.g r2
                replace r3 := Rep.mono _ s22.g r3
                replace r35 := Rep.mono _ s22.g r35
                replace w := w.tr s22
                refine hN12 _ _ ?_
                refine a_retE ?_
                refine e_tup ?_
                refine a_val (v := (.int ((tables1.1 : Nat) : Int))) (val_var rfl) ?_
                refine a_cons ?_
                refine e_op ?_
                refine e_op ?_
                refine n_cutX (lo := none) (hi := (some at1)) r2 (val_var rfl) po_n (po_s (n := at1) (val_var rfl)) w ?_
                intro p23 H24 hp13 s23 x17
                replace r1 := Rep.mono _ s23.g r1
                replace r2 := Rep.mono _ s23.g r2
                replace r3 := Rep.mono _ s23.g r3
                replace r36 := Rep.mono _ s23.g r36
                replace w := w.tr s23
                refine e_lst ?_
                refine a_val (v := v6) (val_var rfl) ?_
                refine a_nil ?_
                refine n_lstX (e := pA) (xs := [z1]) (vs := [v6]) (show All pA _ [v6] [z1] from ⟨r36, trivial⟩) (show 1 < 1000000 from by decide) w ?_
                intro p24 H25 hp14 s24 x18
                have ne2 := x17.ne hp14
                replace r1 := Rep.mono _ s24.g r1
                replace r2 := Rep.mono _ s24.g r2
                replace r3 := Rep.mono _ s24.g r3
                replace r36 := Rep.mono _ s24.g r36
                replace x17 := x17.step s24
                replace w := w.tr s24
                obtain ⟨F21, w10, g10, r37, fz10⟩ := x17.frzE w
                replace r1 := Rep.mono _ g10 r1
                replace r2 := Rep.mono _ g10 r2
                replace r3 := Rep.mono _ g10 r3
                replace r36 := Rep.mono _ g10 r36
                replace x18 := x18.frzO fz10 (Ne.symm ne2) g10
                replace w := w10
                have r38 : pA.r _ (.ref p23) (An.l ((cutT tables1.2.1 none (some at1)).map (fun (x : Nat × Nat) => An.t [(fun n : Nat => An.i (n : Int)) x.1, (fun n : Nat => An.i (n : Int)) x.2]))) := (cv_L (cv_T2 cv_nat cv_nat)) r37
                have r39 := an_l.mp r38
                obtain ⟨F22, w11, g11, r40, fz11⟩ := x18.frzE w
                replace r1 := Rep.mono _ g11 r1
                replace r2 := Rep.mono _ g11 r2
                replace r3 := Rep.mono _ g11 r3
                replace r36 := Rep.mono _ g11 r36
                replace r37 := Rep.mono _ g11 r37
                replace r39 := Rep.mono _ g11 r39
                replace w := w11
                obtain ⟨c6, hW⟩ := hW
                refine n_cat r39 r40 w c6 ?_
                intro p25 H26 hp15 s25 x19
                replace r1 := Rep.mono _ s25.g r1
                replace r2 := Rep.mono _ s25.g r2
                replace r3 := Rep.mono _ s25.g r3
                replace r36 := Rep.mono _ s25.g r36
                replace r37 := Rep.mono _ s25.g r37
                replace r40 := Rep.mono _ s25.g r40
                replace r39 := Rep.mono _ s25.g r39
                replace w := w.tr s25
                refine n_cutX (lo := (some (at1 + 1))) (hi := none) r2 (val_var rfl) (po_s (n := at1 + 1) (vn_add (val_var rfl) val_c)) po_n w ?_
                intro p26 H27 hp16 s26 x20
                have ne3 := x19.ne hp16
                replace r1 := Rep.mono _ s26.g r1
                replace r2 := Rep.mono _ s26.g r2
                replace r3 := Rep.mono _ s26.g r3
                replace r36 := Rep.mono _ s26.g r36
                replace r37 := Rep.mono _ s26.g r37
                replace r40 := Rep.mono _ s26.g r40
                replace r39 := Rep.mono _ s26.g r39
                replace x19 := x19.step s26
                replace w := w.tr s26
                obtain ⟨F23, w12, g12, r41, fz12⟩ := x20.frzE w
                replace r1 := Rep.mono _ g12 r1
                replace r2 := Rep.mono _ g12 r2
                replace r3 := Rep.mono _ g12 r3
                replace r36 := Rep.mono _ g12 r36
                replace r37 := Rep.mono _ g12 r37
                replace r40 := Rep.mono _ g12 r40
                replace r39 := Rep.mono _ g12 r39
                replace x19 := x19.frzO fz12 ne3 g12
                replace w := w12
                have r42 : pA.r _ (.ref p26) (An.l ((cutT tables1.2.1 (some (at1 + 1)) none).map (fun (x : Nat × Nat) => An.t [(fun n : Nat => An.i (n : Int)) x.1, (fun n : Nat => An.i (n : Int)) x.2]))) := (cv_L (cv_T2 cv_nat cv_nat)) r41
                have r43 := an_l.mp r42
                obtain ⟨F24, w13, g13, r44, fz13⟩ := x19.frzE w
                replace r1 := Rep.mono _ g13 r1
                replace r2 := Rep.mono _ g13 r2
                replace r3 := Rep.mono _ g13 r3
                replace r36 := Rep.mono _ g13 r36
                replace r37 := Rep.mono _ g13 r37
                replace r40 := Rep.mono _ g13 r40
                replace r39 := Rep.mono _ g13 r39
                replace r41 := Rep.mono _ g13 r41
                replace r43 := Rep.mono _ g13 r43
                replace w := w13
                obtain ⟨c7, hW⟩ := hW
                refine n_cat r44 r43 w c7 ?_
                intro p27 H28 hp17 s27 x21
                replace r1 := Rep.mono _ s27.g r1
                replace r2 := Rep.mono _ s27.g r2
                replace r3 := Rep.mono _ s27.g r3
                replace r36 := Rep.mono _ s27.g r36
                replace r37 := Rep.mono _ s27.g r37
                replace r40 := Rep.mono _ s27.g r40
                replace r39 := Rep.mono _ s27.g r39
                replace r44 := Rep.mono _ s27.g r44
                replace r41 := Rep.mono _ s27.g r41
                replace r43 := Rep.mono _ s27.g r43
                replace w := w.tr s27
                refine a_val (v := u3) (val_var rfl) ?_
                refine a_nil ?_
                obtain ⟨F25, w14, g14, r45, fz14⟩ := x21.frzE w
                replace r1 := Rep.mono _ g14 r1
                replace r2 := Rep.mono _ g14 r2
                replace r3 := Rep.mono _ g14 r3
                replace r36 := Rep.mono _ g14 r36
                replace r37 := Rep.mono _ g14 r37
                replace r40 := Rep.mono _ g14 r40
                replace r39 := Rep.mono _ g14 r39
                replace r44 := Rep.mono _ g14 r44
                replace r41 := Rep.mono _ g14 r41
                replace r43 := Rep.mono _ g14 r43
                replace w := w14
                have r46 : pA.r _ (.ref p27) (An.l ((((cutT tables1.2.1 none (some at1)).map (fun (x : Nat × Nat) => An.t [(fun n : Nat => An.i (n : Int)) x.1, (fun n : Nat => An.i (n : Int)) x.2])) ++ [z1]) ++ ((cutT tables1.2.1 (some (at1 + 1)) none).map (fun (x : Nat × Nat) => An.t [(fun n : Nat => An.i (n : Int)) x.1, (fun n : Nat => An.i (n : Int)) x.2])))) := an_l.mpr r45
                have r47 : pA.r _ u3 (An.l (tables1.2.2.map (fun (x : Nat × Nat) => An.t [(fun n : Nat => An.i (n : Int)) x.1, (fun n : Nat => An.i (n : Int)) x.2]))) := (cv_L (cv_T2 cv_nat cv_nat)) r3
                refine n_tup3 (e := pA) (f := pA) (g := pA) (x := (An.i ((tables1.1 : Nat) : Int))) (y := (An.l ((((cutT tables1.2.1 none (some at1)).map (fun (x : Nat × Nat) => An.t [(fun n : Nat => An.i (n : Int)) x.1, (fun n : Nat => An.i (n : Int)) x.2])) ++ [z1]) ++ ((cutT tables1.2.1 (some (at1 + 1)) none).map (fun (x : Nat × Nat) => An.t [(fun n : Nat => An.i (n : Int)) x.1, (fun n : Nat => An.i (n : Int)) x.2]))))) (z := (An.l (tables1.2.2.map (fun (x : Nat × Nat) => An.t [(fun n : Nat => An.i (n : Int)) x.1, (fun n : Nat => An.i (n : Int)) x.2])))) (show pA.r _ (.int ((tables1.1 : Nat) : Int)) (An.i ((tables1.1 : Nat) : Int)) from rfl) r46 r47 w ?_
                intro p28 F26 H29 s28 r48
                replace r1 := Rep.mono _ s28.g r1
                replace r2 := Rep.mono _ s28.g r2
                replace r3 := Rep.mono _ s28.g r3
                replace r36 := Rep.mono _ s28.g r36
                replace r37 := Rep.mono _ s28.g r37
                replace r40 := Rep.mono _ s28.g r40
                replace r39 := Rep.mono _ s28.g r39
                replace r44 := Rep.mono _ s28.g r44
                replace r41 := Rep.mono _ s28.g r41
                replace r43 := Rep.mono _ s28.g r43
                replace r45 := Rep.mono _ s28.g r45
                replace w := w.tr s28
                exact hQ _ hW _ _ _ w r48
              · have hW := ifN hW hc7
                refine hN9 _ _ ?_
                refine q_sq fun N13 hN13 => ?_
                refine a_asgE ?_
                refine e_call ?_
                refine a_cons ?_
                refine e_tup ?_
                refine a_val (v := (.int ((0 : Nat) : Int))) val_c ?_
                refine a_val (v := (.int ((0 : Nat) : Int))) val_c ?_
                refine a_nil ?_
                refine n_tup2 (e := pN) (f := pN) (x := 0) (y := 0) rfl rfl w ?_
                intro p29 F27 H30 s29 r49
                replace r1 := Rep.mono _ s29.g r1
                replace r2 := Rep.mono _ s29.g r2
                replace r3 := Rep.mono _ s29.g r3
                replace w := w.tr s29
                refine a_val (v := (.int (rest1 / ((16 : Nat) : Int)))) (vi_div (val_var rfl) val_c ⟨by decide, by decide +kernel⟩) ?_
                refine a_val (v := (.int ((tables1.2.1.length : Nat) : Int))) (len_L r2 w.f (val_var rfl)) ?_
                refine a_val (v := (.int ((tables1.1 : Nat) : Int))) (val_var rfl) ?_
                refine a_nil ?_
                refine ⟨F27, ((.ref p29)), ((0, 0)), (rest1 / ((16 : Nat) : Int)), (tables1.2.1.length), (tables1.1), _, rfl, w.f, r49, hW, ?_⟩
                intro z2 hW v7 F28 H31 s30 r50
                replace r1 := Rep.mono _ s30.g r1
                replace r2 := Rep.mono _ s30.g r2
                replace r3 := Rep.mono _ s30.g r3
                replace r49 := Rep.mono _ s30.g r49
                replace w := w.tr s30
                refine hN13 _ _ ?_
                refine a_retE ?_
                refine e_tup ?_
                refine a_val (v := (.int ((tables1.1 : Nat) : Int))) (val_var rfl) ?_
                refine a_val (v := u2) (val_var rfl) ?_
                refine a_cons ?_
                refine e_op ?_
                refine n_cutX (lo := none) (hi := (some 5)) r3 (val_var rfl) po_n (po_s (n := 5) val_c) w ?_
                intro p30 H32 hp18 s31 x22
                replace r1 := Rep.mono _ s31.g r1
                replace r2 := Rep.mono _ s31.g r2
                replace r3 := Rep.mono _ s31.g r3
                replace r50 := Rep.mono _ s31.g r50
                replace w := w.tr s31
                refine e_lst ?_
                refine a_val (v := v7) (val_var rfl) ?_
                refine a_nil ?_
                refine n_lstX (e := pA) (xs := [z2]) (vs := [v7]) (show All pA _ [v7] [z2] from ⟨r50, trivial⟩) (show 1 < 1000000 from by decide) w ?_
                intro p31 H33 hp19 s32 x23
                have ne4 := x22.ne hp19
                replace r1 := Rep.mono _ s32.g r1
                replace r2 := Rep.mono _ s32.g r2
                replace r3 := Rep.mono _ s32.g r3
                replace r50 := Rep.mono _ s32.g r50
                replace x22 := x22.step s32
                replace w := w.tr s32
                obtain ⟨F29, w15, g15, r51, fz15⟩ := x22.frzE w
                replace r1 := Rep.mono _ g15 r1
                replace r2 := Rep.mono _ g15 r2
                replace r3 := Rep.mono _ g15 r3
                replace r50 := Rep.mono _ g15 r50
                replace x23 := x23.frzO fz15 (Ne.symm ne4) g15
                replace w := w15
                have r52 : pA.r _ (.ref p30) (An.l ((cutT tables1.2.2 none (some 5)).map (fun (x : Nat × Nat) => An.t [(fun n : Nat => An.i (n : Int)) x.1, (fun n : Nat => An.i (n : Int)) x.2]))) := (cv_L (cv_T2 cv_nat cv_nat)) r51
                have r53 := an_l.mp r52
                obtain ⟨F30, w16, g16, r54, fz16⟩ := x23.frzE w
                replace r1 := Rep.mono _ g16 r1
                replace r2 := Rep.mono _ g16 r2
                replace r3 := Rep.mono _ g16 r3
                replace r50 := Rep.mono _ g16 r50
                replace r51 := Rep.mono _ g16 r51
                replace r53 := Rep.mono _ g16 r53
                replace w := w16
                obtain ⟨c8, hW⟩ := hW
                refine n_cat r53 r54 w c8 ?_
                intro p32 H34 hp20 s33 x24
                replace r1 := Rep.mono _ s33.g r1
                replace r2 := Rep.mono _ s33.g r2
                replace r3 := Rep.mono _ s33.g r3
                replace r50 := Rep.mono _ s33.g r50
                replace r51 := Rep.mono _ s33.g r51
                replace r54 := Rep.mono _ s33.g r54
                replace r53 := Rep.mono _ s33.g r53
                replace w := w.tr s33
                refine a_nil ?_
                obtain ⟨F31, w17, g17, r55, fz17⟩ := x24.frzE w
                replace r1 := Rep.mono _ g17 r1
                replace r2 := Rep.mono _ g17 r2
                replace r3 := Rep.mono _ g17 r3
                replace r50 := Rep.mono _ g17 r50
                replace r51 := Rep.mono _ g17 r51
                replace r54 := Rep.mono _ g17 r54
                replace r53 := Rep.mono _ g17 r53
                replace w := w17
                have r56 : pA.r _ u2 (An.l (tables1.2.1.map (fun (x : Nat × Nat) => An.t [(fun n : Nat => An.i (n : Int)) x.1, (fun n : Nat => An.i (n : Int)) x.2]))) := (cv_L (cv_T2 cv_nat cv_nat)) r2
                have r57 : pA.r _ (.ref p32) (An.l (((cutT tables1.2.2 none (some 5)).map (fun (x : Nat × Nat) => An.t [(fun n : Nat => An.i (n : Int)) x.1, (fun n : Nat => An.i (n : Int)) x.2])) ++ [z2])) := an_l.mpr r55
                refine n_tup3 (e := pA) (f := pA) (g := pA) (x := (An.i ((tables1.1 : Nat) : Int))) (y := (An.l (tables1.2.1.map (fun (x : Nat × Nat) => An.t [(fun n : Nat => An.i (n : Int)) x.1, (fun n : Nat => An.i (n : Int)) x.2])))) (z := (An.l (((cutT tables1.2.2 none (some 5)).map (fun (x : Nat × Nat) => An.t [(fun n : Nat => An.i (n : Int)) x.1, (fun n : Nat => An.i (n : Int)) x.2])) ++ [z2]))) (show pA.r _ (.int ((tables1.1 : Nat) : Int)) (An.i ((tables1.1 : Nat) : Int)) from rfl) r56 r57 w ?_
                intro p33 F32 H35 s34 r58
                replace r1 := Rep.mono _ s34.g r1
                replace r2 := Rep.mono _ s34.g r2
                replace r3 := Rep.mono _ s34.g r3
                replace r50 := Rep.mono _ s34.g r50
                replace r51 := Rep.mono _ s34.g r51
                replace r54 := Rep.mono _ s34.g r54
                replace r53 := Rep.mono _ s34.g r53
                replace r55 := Rep.mono _ s34.g r55
                replace w := w.tr s34
                exact hQ _ hW _ _ _ w r58
abbrev s_refused : Stmt := topS 23
def W_refused (tables1 : An × An × An) (R : (Option (List Bool)) → Prop) : Prop := jn (fun kk => W_Machine___init___bad tables1.1 tables1.2.1 tables1.2.2 (kk (some [true, true, false] : Option (List Bool))) (fun _ => False)) fun told1 => R told1
def sp_refused (K : PySem.W.Frag) (cc : Cz) : Sp := fun vs H Q _ => ∃ (F : Hp) (v1 : V) (tables1 : An × An × An) (R : (Option (List Bool)) → Prop), vs = [v1] ∧ Ex F H ∧ (pT3 pA pA pA).r F v1 tables1 ∧ W_refused tables1 R ∧ ∀ z, R z → ∀ v F' H', Wf F H F' H' → (pO (pL pB)).r F' v z → Q v H'
abbrev N_refused : List Str := ["_law_tables", "_law_told", "e"]
theorem sc_refused : FnScope N_refused ["_law_tables"] (defScope s_refused) := ⟨rfl, rfl, rfl, by decide +kernel, rfl, by decide +kernel, by decide +kernel⟩
theorem ok_refused {P : Program} {w0 : World} {K : PySem.W.Frag} {mg : Str → Option Value} {base : Heap} {f : Addr} {fd : FuncData} {cc : Cz} (T : Tz K mg cc) (FU : Fun K "_law_refused" "_law_refused" s_refused f fd) (hm : mg "_law_refused" = some (.ref f)) (hb : Binds K fd ["_law_tables"] []) (c_Machine___init___bad : Nw P w0 K mg base (L2.CX P w0) 4 cc.Machine "Machine" ["self", "inputs", "nexts", "outs"] (sp_Machine___init___bad K cc)) (n_ValueError : mg "ValueError" = none) (n_isinstance : mg "isinstance" = none) : Fn P w0 K mg base CX0 6 "_law_refused" ["_law_tables"] (sp_refused K cc) := by
  refine ⟨f, fd, FU.ok sc_refused (fun vs H Q E h => ?_) (fun cdv A outer s H0 vs Q E hr h => ?_), hm, FU.kp, hb⟩
  · obtain ⟨_, _, _, _, rfl, _⟩ := h; rfl
  · obtain ⟨F0, v1, tables1, R, rfl, wf, r1, hW, hQ⟩ := h
    have nd := sc_refused.nd
    refine ⟨(tSeq (tAsg (tC .non) (gName 1)) (tSeq (tTryAs K (.ref cc.BadTable) 2 (fun W1 => (tDrop (tMakeS cc.Machine (sp_Machine___init___bad K cc) (WE W1) (tCons (tOp (L2.rIxT K) (tVar 0) (tC (.int 0))) (tCons (tOp (L2.rIxT K) (tVar 0) (tC (.int 1))) (tCons (tOp (L2.rIxT K) (tVar 0) (tC (.int 2))) tNil)))))) (fun ea ec ed => (tAsg (tLst (tCons (tIsE K 2 ec ed ea cc.WireError) (tCons (tIsET K 2 ec ed ea "ValueError") (tCons (tIsE K 2 ec ed ea cc.BadMask) tNil)))) (gName 1))) (fun _ _ _ _ => False)) (tRet (tVar 1)))), (pss_cons (ps_set (i := 1) nd rfl (Or.inl rfl) pe_non) (pss_cons (ps_try_as (i := 2) (tb := fun W1 => (tDrop (tMakeS cc.Machine (sp_Machine___init___bad K cc) (WE W1) (tCons (tOp (L2.rIxT K) (tVar 0) (tC (.int 0))) (tCons (tOp (L2.rIxT K) (tVar 0) (tC (.int 1))) (tCons (tOp (L2.rIxT K) (tVar 0) (tC (.int 2))) tNil)))))) (ts := fun ea ec ed => (tAsg (tLst (tCons (tIsE K 2 ec ed ea cc.WireError) (tCons (tIsET K 2 ec ed ea "ValueError") (tCons (tIsE K 2 ec ed ea cc.BadMask) tNil)))) (gName 1))) (Wout := (fun _ _ _ _ => False)) rfl rfl nd rfl rfl ⟨rfl, by decide, Or.inl T.xc_BadTable.g⟩ takes0 (fun W1 pn1 xe1 tk1 po1 => (pss_one (ps_expr (pe_nwS (W := W1) c_Machine___init___bad tk1 (hr.mono (by decide)) rfl (pa_cons (pe_ix ix_tup (pv 0) pe_int (fun _ _ => rfl)) (pa_cons (pe_ix ix_tup (pv 0) pe_int (fun _ _ => rfl)) (pa_cons (pe_ix ix_tup (pv 0) pe_int (fun _ _ => rfl)) pa_nil))))))) (fun ea oe ec ed pn hz hf => (pss_one (ps_set (i := 1) nd rfl (Or.inl rfl) (pe_lst (pa_cons (pe_isE hz hf (by rfl) n_isinstance (pv 2) (by rfl) T.xc_WireError.g) (pa_cons (pe_isET (T := "ValueError") hz hf (by rfl) n_isinstance (pv 2) (pe_bltn (by rfl) n_ValueError (by kernel_rfl) rfl)) (pa_cons (pe_isE hz hf (by rfl) n_isinstance (pv 2) (by rfl) T.xc_BadMask.g) pa_nil)))))))) (pss_one (ps_ret (pv 1))))), ?_⟩
    have w := Wf.id wf
    refine q_sq fun N1 hN1 => ?_
    refine a_asg (v := .non) val_c ?_
    have r2 : (pO (pL pB)).r F0 .non (none : Option (List Bool)) := rfl
    refine hN1 _ _ ?_
    refine q_jn (S := Option (List Bool)) hW (fun told1 σ' F' H' => ∃ (v2 : V), Wf F0 H0 F' H' ∧ Ex F0 F' ∧ σ' = [some v1, some v2, none] ∧ (pO (pL pB)).r F' v2 told1) ?_ ?_
    · intro N2 hN2 hW
      have gx1 : Ex F0 F0 := Ex.rfl'
      refine a_tryAs ?_
      refine a_dropE ?_
      refine e_nwS ?_
      obtain ⟨v3, r4, ix1⟩ := ix_3a (K := K) r1 w.f
      refine a_val (v := v3) (ix1 (val_var rfl) val_c) ?_
      obtain ⟨v4, r5, ix2⟩ := ix_3b (K := K) r1 w.f
      refine a_val (v := v4) (ix2 (val_var rfl) val_c) ?_
      obtain ⟨v5, r6, ix3⟩ := ix_3c (K := K) r1 w.f
      refine a_val (v := v5) (ix3 (val_var rfl) val_c) ?_
      refine a_nil ?_
      intro ob1 dx1 nx1 nd1 ne1
      refine ⟨F0, ob1, (v3), (tables1.1), (v4), (tables1.2.1), (v5), (tables1.2.2), _, (fun _ => False), rfl, (Ex.made w.f nx1 nd1), r4, r5, r6, hW, ?_, ?_⟩
      · intro hW F1 H1 s1
        replace s1 := Wf.mk2 nx1 nd1 s1
        replace r1 := Rep.mono _ s1.g r1
        replace r2 := Rep.mono _ s1.g r2
        replace r4 := Rep.mono _ s1.g r4
        replace r5 := Rep.mono _ s1.g r5
        replace r6 := Rep.mono _ s1.g r6
        replace w := w.tr s1
        replace gx1 := Ex.tr gx1 s1.g
        refine a_excAs T.xm_BadTable_BadTable (fun a1 ha1 => ?_)
        refine a_asgE ?_
        refine e_lst ?_
        refine a_val (v := (.bl (true))) (fun Q k => ⟨_, _, rfl, rfl, T.xe_BadTable, T.xi_BadTable_WireError, rfl, k⟩) ?_
        refine a_val (v := (.bl (true))) (fun Q k => ⟨_, _, rfl, rfl, T.xe_BadTable, T.xt_BadTable_ValueError, rfl, k⟩) ?_
        refine a_val (v := (.bl (false))) (fun Q k => ⟨_, _, rfl, rfl, T.xe_BadTable, T.xi_BadTable_BadMask, rfl, k⟩) ?_
        refine a_nil ?_
        refine n_lstX (e := pB) (xs := [true, true, false]) (vs := [(.bl (true)), (.bl (true)), (.bl (false))]) (show All pB _ [(.bl (true)), (.bl (true)), (.bl (false))] [true, true, false] from ⟨rfl, ⟨rfl, ⟨rfl, trivial⟩⟩⟩) (show 3 < 1000000 from by decide) w ?_
        intro p1 H2 hp1 s2 x1
        replace r1 := Rep.mono _ s2.g r1
        replace r2 := Rep.mono _ s2.g r2
        replace w := w.tr s2
        replace gx1 := Ex.tr gx1 s2.g
        obtain ⟨F2, w1, g1, r7, fz1⟩ := x1.frzE w
        replace r1 := Rep.mono _ g1 r1
        replace r2 := Rep.mono _ g1 r2
        replace w := w1
        replace gx1 := Ex.tr gx1 g1
        have r8 : (pO (pL pB)).r F2 (.ref p1) (some [true, true, false] : Option (List Bool)) := r7
        exact hN2 (some [true, true, false] : Option (List Bool)) _ _ _ ⟨_, w, gx1, rfl, r8⟩ hW
      · intro _ hW; exact hW.elim
    · intro told1 σ' F3 H3 hI1 hW
      obtain ⟨v2, w, gx2, rfl, r3⟩ := hI1
      have r1 := Rep.mono _ gx2 r1
      refine a_ret (v := v2) (val_var rfl) ?_
      exact hQ told1 hW _ _ _ w r3
abbrev s_law : Stmt := topS 24
def W_law (script1 : List Int) (R : Bool → Prop) : Prop := W_machine script1 1 6 fun z1 => W_Machine___init__ z1.1 z1.2.1 z1.2.2 fun z2 => (okV (pL (pL (pT2 pN pN))) [z1.2.1, z1.2.2] ∧ okV (pL (pL (pT2 pN pN))) [z1.2.1, z1.2.2]) ∧ if [z1.2.1, z1.2.2] ≠ [z1.2.1, z1.2.2] then (R false) else ((z1.2.1.length < 1000000) ∧ forW (cutT script1 (some 6) (some 36)) () (fun cell_here1 _ nx2 bk1 => W_spoilt z1 cell_here1 fun z3 => W_refused z3 fun z4 => if z4 ≠ (some [true, true, false]) then (R false) else (nx2 ())) fun _ => ([(0, 63)].length * 120 < 1000000 ∧ 120 < 1000000) ∧ (1 ≤ 2 ^ 120) ∧ W_Machine___init__ 6 ((List.replicate 120 [(0, 63)]).flatten) [((2 ^ 120) - 1, 0)] fun z5 => jn (fun kk => W_Machine_stores z5 fun z6 => if z6 ≠ 120 then (kk true) else (W_Machine_outputs z5 fun z7 => kk (decide (z7 ≠ 1)))) fun b1 => if b1 = true then (R false) else (W_Machine_told_one z2 fun z8 => W_Machine_told_two z2 fun z9 => (z9.2.2.length < 1000000) ∧ jn (fun kk => W_Machine_told z2 fun z10 => if z10 ≠ z1 then (kk true) else ((aok (An.l [(An.i ((z2.1 : Nat) : Int)), (An.t (z2.2.1.map (fun (x : Nat × Nat) => An.t [(fun n : Nat => An.i (n : Int)) x.1, (fun n : Nat => An.i (n : Int)) x.2])))]) = true ∧ aok (An.l [(An.i ((z1.1 : Nat) : Int)), (An.t (z1.2.1.map (fun (x : Nat × Nat) => An.t [(fun n : Nat => An.i (n : Int)) x.1, (fun n : Nat => An.i (n : Int)) x.2])))]) = true) ∧ kk (decide (¬ aeq (An.l [(An.i ((z2.1 : Nat) : Int)), (An.t (z2.2.1.map (fun (x : Nat × Nat) => An.t [(fun n : Nat => An.i (n : Int)) x.1, (fun n : Nat => An.i (n : Int)) x.2])))]) (An.l [(An.i ((z1.1 : Nat) : Int)), (An.t (z1.2.1.map (fun (x : Nat × Nat) => An.t [(fun n : Nat => An.i (n : Int)) x.1, (fun n : Nat => An.i (n : Int)) x.2])))]) = true)))) fun b2 => if b2 = true then (R false) else (jn (fun kk => if z2.2.2 = z1.2.2 then (W_Machine_stores z2 fun z11 => W_Machine_outputs z2 fun z12 => kk (decide ([z11, z12] = [z1.2.1.length, z1.2.2.length]))) else (kk false)) fun b3 => R b3)))
def sp_law (K : PySem.W.Frag) (cc : Cz) : Sp := fun vs H Q _ => ∃ (F : Hp) (v1 : V) (script1 : List Int) (R : Bool → Prop), vs = [v1] ∧ Ex F H ∧ (pScr K).r F v1 script1 ∧ W_law script1 R ∧ ∀ z, R z → ∀ F' H', Wf F H F' H' → Q (.bl (z)) H'
abbrev N_law : List Str := ["_law_script", "_law_tables", "_law_handed", "_law_machine_here", "_law_cell_here", "_law_great", "_law_sizes"]
theorem sc_law : FnScope N_law ["_law_script"] (defScope s_law) := ⟨rfl, rfl, rfl, by decide +kernel, rfl, by decide +kernel, by decide +kernel⟩
theorem ok_law {P : Program} {w0 : World} {K : PySem.W.Frag} {mg : Str → Option Value} {base : Heap} {f : Addr} {fd : FuncData} {cc : Cz} (T : Tz K mg cc) (FU : Fun K "law" "law" s_law f fd) (c_machine : Fn P w0 K mg base CX0 3 "_law_machine" ["_law_script", "_law_start", "_law_most"] (sp_machine K cc)) (c_Machine___init__ : Nw P w0 K mg base CX0 4 cc.Machine "Machine" ["self", "inputs", "nexts", "outs"] (sp_Machine___init__ K cc)) (c_spoilt : Fn P w0 K mg base CX0 3 "_law_spoilt" ["_law_tables", "_law_cell_here"] (sp_spoilt K cc)) (c_refused : Fn P w0 K mg base CX0 6 "_law_refused" ["_law_tables"] (sp_refused K cc)) (c_Machine_stores : Md P w0 K mg base CX0 1 cc.Machine "stores" ["self"] (sp_Machine_stores K cc)) (c_Machine_outputs : Md P w0 K mg base CX0 1 cc.Machine "outputs" ["self"] (sp_Machine_outputs K cc)) (c_Machine_told_one : Md P w0 K mg base CX0 1 cc.Machine "told" ["self"] (sp_Machine_told_one K cc)) (c_Machine_told_two : Md P w0 K mg base CX0 1 cc.Machine "told" ["self"] (sp_Machine_told_two K cc)) (c_Machine_told : Md P w0 K mg base CX0 1 cc.Machine "told" ["self"] (sp_Machine_told K cc)) (n_len : mg "len" = none) (n_list : mg "list" = none) (n_tuple : mg "tuple" = none) : FnOk P w0 K mg base CX0 7 f fd ["_law_script"] (sp_law K cc) := by
  refine FU.ok sc_law (fun vs H Q E h => ?_) (fun cdv A outer s H0 vs Q E hr h => ?_)
  · obtain ⟨_, _, _, _, rfl, _⟩ := h; rfl
  · obtain ⟨F0, v1, script1, R, rfl, wf, r1, hW, hQ⟩ := h
    have nd := sc_law.nd
    refine ⟨(tSeq (tAsg (tCall (sp_machine K cc) [] E0 (tCons (tVar 0) (tCons (tC (.int 1)) (tCons (tC (.int 6)) tNil)))) (gName 1)) (tSeq (tAsg (tLst (tCons (tCB (rListOf K) (tCons (tOp (L2.rIxT K) (tVar 1) (tC (.int 1))) tNil)) (tCons (tCB (rListOf K) (tCons (tOp (L2.rIxT K) (tVar 1) (tC (.int 2))) tNil)) tNil))) (gName 2)) (tSeq (tAsg (tMake cc.Machine (sp_Machine___init__ K cc) [] E0 (tCons (tOp (L2.rIxT K) (tVar 1) (tC (.int 0))) (tCons (tOp (L2.rIxL K) (tVar 2) (tC (.int 0))) (tCons (tOp (L2.rIxL K) (tVar 2) (tC (.int 1))) tNil)))) (gName 3)) (tSeq (tIfS (tTest (tOp (L2.rNeD K) (tVar 2) (tLst (tCons (tOp (L2.rIxT K) (tVar 1) (tC (.int 1))) (tCons (tOp (L2.rIxT K) (tVar 1) (tC (.int 2))) tNil))))) (tRet (tC (.bl false))) tNext) (tSeq (tDrop (tBM K "list" rAppend (tOp (L2.rIxL K) (tVar 2) (tC (.int 0))) (tCons (tTup (tCons (tC (.int 0)) (tCons (tC (.int 0)) tNil))) tNil))) (tSeq (tDrop (tBM0 K "list" rClear (tOp (L2.rIxL K) (tVar 2) (tC (.int 1))))) (tSeq (tFor (iList K (tSl (rSlL K) (tVar 0) (tPart (tC (.int 6))) (tPart (tC (.int 36))))) (gName 4) (tIfS (tTest (tOp (L2.rNeD K) (tCall (sp_refused K cc) [] E0 (tCons (tCall (sp_spoilt K cc) [] E0 (tCons (tVar 1) (tCons (tVar 4) tNil))) tNil)) (tLst (tCons (tC (.bl true)) (tCons (tC (.bl true)) (tCons (tC (.bl false)) tNil)))))) (tRet (tC (.bl false))) tNext)) (tSeq (tAsg (tMake cc.Machine (sp_Machine___init__ K cc) [] E0 (tCons (tC (.int 6)) (tCons (tOp L2.rRep (tLst (tCons (tTup (tCons (tC (.int 0)) (tCons (tC (.int 63)) tNil))) tNil)) (tC (.int 120))) (tCons (tLst (tCons (tTup (tCons (tOp kSub (tOp kShl (tC (.int 1)) (tC (.int 120))) (tC (.int 1))) (tCons (tC (.int 0)) tNil))) tNil)) tNil)))) (gName 5)) (tSeq (tIfS (tOr (tTest (tOp L2.rNe (tMeth cc.Machine "stores" (sp_Machine_stores K cc) [] E0 (tVar 5) tNil) (tC (.int 120)))) (tTest (tOp L2.rNe (tMeth cc.Machine "outputs" (sp_Machine_outputs K cc) [] E0 (tVar 5) tNil) (tC (.int 1))))) (tRet (tC (.bl false))) tNext) (tSeq (tDrop (tBM0 K "list" rClear (tOp (L2.rIxT K) (tMeth cc.Machine "told" (sp_Machine_told_one K cc) [] E0 (tVar 3) tNil) (tC (.int 1))))) (tSeq (tDrop (tBM K "list" rAppend (tOp (L2.rIxT K) (tMeth cc.Machine "told" (sp_Machine_told_two K cc) [] E0 (tVar 3) tNil) (tC (.int 2))) (tCons (tC (.int 5)) tNil))) (tSeq (tIfS (tOr (tTest (tOp (L2.rNeD K) (tMeth cc.Machine "told" (sp_Machine_told K cc) [] E0 (tVar 3) tNil) (tVar 1))) (tTest (tOp (L2.rNeD K) (tLst (tCons (tFld K (tVar 3) "inputs") (tCons (tFld K (tVar 3) "nexts") tNil))) (tLst (tCons (tOp (L2.rIxT K) (tVar 1) (tC (.int 0))) (tCons (tCB (rTupOf K) (tCons (tOp (L2.rIxT K) (tVar 1) (tC (.int 1))) tNil)) tNil)))))) (tRet (tC (.bl false))) tNext) (tSeq (tAsg (tLst (tCons (tCB (Wk.rLen K) (tCons (tOp (L2.rIxT K) (tVar 1) (tC (.int 1))) tNil)) (tCons (tCB (Wk.rLen K) (tCons (tOp (L2.rIxT K) (tVar 1) (tC (.int 2))) tNil)) tNil))) (gName 6)) (tRet (tAndV (tOp (L2.rEqD K) (tFld K (tVar 3) "outs") (tCB (rTupOf K) (tCons (tOp (L2.rIxT K) (tVar 1) (tC (.int 2))) tNil))) (tOp (L2.rEqD K) (tLst (tCons (tMeth cc.Machine "stores" (sp_Machine_stores K cc) [] E0 (tVar 3) tNil) (tCons (tMeth cc.Machine "outputs" (sp_Machine_outputs K cc) [] E0 (tVar 3) tNil) tNil))) (tVar 6))))))))))))))))), (pss_cons (ps_set (i := 1) nd rfl (Or.inl rfl) (pe_fn c_machine (hr.mono (by decide)) rfl (pa_cons (pv 0) (pa_cons pe_int (pa_cons pe_int pa_nil))))) (pss_cons (ps_set (i := 2) nd rfl (Or.inl rfl) (pe_lst (pa_cons (pe_callTy call_list_of (by rfl) n_list PyProof.Rows.boot_list (pa_cons (pe_ix ix_tup (pv 1) pe_int (fun _ _ => rfl)) pa_nil)) (pa_cons (pe_callTy call_list_of (by rfl) n_list PyProof.Rows.boot_list (pa_cons (pe_ix ix_tup (pv 1) pe_int (fun _ _ => rfl)) pa_nil)) pa_nil)))) (pss_cons (ps_set (i := 3) nd rfl (Or.inl rfl) (pe_nw c_Machine___init__ (hr.mono (by decide)) rfl (pa_cons (pe_ix ix_tup (pv 1) pe_int (fun _ _ => rfl)) (pa_cons (pe_ix ix_list (pv 2) pe_int (fun _ _ => rfl)) (pa_cons (pe_ix ix_list (pv 2) pe_int (fun _ _ => rfl)) pa_nil))))) (pss_cons (ps_if (pt_cmpR (op_neD hr.units) (pv 2) (pe_lst (pa_cons (pe_ix ix_tup (pv 1) pe_int (fun _ _ => rfl)) (pa_cons (pe_ix ix_tup (pv 1) pe_int (fun _ _ => rfl)) pa_nil))) (nomark _)) (pss_one (ps_ret pe_bl)) pss_nil) (pss_cons (ps_expr (pe_bm PySem.F.plainAttrs_list PySem.F.slot_list_append PySem.F.type_list_append mt_append (pe_ix ix_list (pv 2) pe_int (fun _ _ => rfl)) (pa_cons (pe_tup (pa_cons pe_int (pa_cons pe_int pa_nil))) pa_nil))) (pss_cons (ps_expr (pe_bm0 PySem.F.plainAttrs_list PySem.F.slot_list_clear PySem.F.type_list_clear mt_clear (pe_ix ix_list (pv 2) pe_int (fun _ _ => rfl)))) (pss_cons (ps_for PassesOwn.never rfl (pi_list (pe_slice sl_list (pv 0) (po_some pe_int) (po_some pe_int))) (pg_name (i := 4) nd rfl (Or.inl rfl)) (pss_one (ps_if (pt_cmpR (op_neD hr.units) (pe_fn c_refused (hr.mono (by decide)) rfl (pa_cons (pe_fn c_spoilt (hr.mono (by decide)) rfl (pa_cons (pv 1) (pa_cons (pv 4) pa_nil))) pa_nil)) (pe_lst (pa_cons pe_bl (pa_cons pe_bl (pa_cons pe_bl pa_nil)))) (nomark _)) (pss_one (ps_ret pe_bl)) pss_nil))) (pss_cons (ps_set (i := 5) nd rfl (Or.inl rfl) (pe_nw c_Machine___init__ (hr.mono (by decide)) rfl (pa_cons pe_int (pa_cons (pe_op op_rep (pe_lst (pa_cons (pe_tup (pa_cons pe_int (pa_cons pe_int pa_nil))) pa_nil)) pe_int) (pa_cons (pe_lst (pa_cons (pe_tup (pa_cons (pe_op op_sub (pe_op op_shlW pe_int pe_int) pe_int) (pa_cons pe_int pa_nil))) pa_nil)) pa_nil))))) (pss_cons (ps_if (PW.pt (pw_or (pt_cmpR op_ne (pe_md0 c_Machine_stores T.cl_Machine (hr.mono (by decide)) (pv 5)) pe_int (nomark _)) (pw_or1 (pt_cmpR op_ne (pe_md0 c_Machine_outputs T.cl_Machine (hr.mono (by decide)) (pv 5)) pe_int (nomark _))))) (pss_one (ps_ret pe_bl)) pss_nil) (pss_cons (ps_expr (pe_bm0 PySem.F.plainAttrs_list PySem.F.slot_list_clear PySem.F.type_list_clear mt_clear (pe_ix ix_tup (pe_md0 c_Machine_told_one T.cl_Machine (hr.mono (by decide)) (pv 3)) pe_int (fun _ _ => rfl)))) (pss_cons (ps_expr (pe_bm PySem.F.plainAttrs_list PySem.F.slot_list_append PySem.F.type_list_append mt_append (pe_ix ix_tup (pe_md0 c_Machine_told_two T.cl_Machine (hr.mono (by decide)) (pv 3)) pe_int (fun _ _ => rfl)) (pa_cons pe_int pa_nil))) (pss_cons (ps_if (PW.pt (pw_or (pt_cmpR (op_neD hr.units) (pe_md0 c_Machine_told T.cl_Machine (hr.mono (by decide)) (pv 3)) (pv 1) (nomark _)) (pw_or1 (pt_cmpR (op_neD hr.units) (pe_lst (pa_cons (pe_fld (pv 3) rfl) (pa_cons (pe_fld (pv 3) rfl) pa_nil))) (pe_lst (pa_cons (pe_ix ix_tup (pv 1) pe_int (fun _ _ => rfl)) (pa_cons (pe_callTy call_tuple_of (by rfl) n_tuple PyProof.Rows.boot_tuple (pa_cons (pe_ix ix_tup (pv 1) pe_int (fun _ _ => rfl)) pa_nil)) pa_nil))) (nomark _))))) (pss_one (ps_ret pe_bl)) pss_nil) (pss_cons (ps_set (i := 6) nd rfl (Or.inl rfl) (pe_lst (pa_cons (pe_callB call_len_seq (by rfl) n_len PySem.boot_len (pa_cons (pe_ix ix_tup (pv 1) pe_int (fun _ _ => rfl)) pa_nil)) (pa_cons (pe_callB call_len_seq (by rfl) n_len PySem.boot_len (pa_cons (pe_ix ix_tup (pv 1) pe_int (fun _ _ => rfl)) pa_nil)) pa_nil)))) (pss_one (ps_ret (pe_and (pe_cmpR (op_eqD hr.units) (pe_fld (pv 3) rfl) (pe_callTy call_tuple_of (by rfl) n_tuple PyProof.Rows.boot_tuple (pa_cons (pe_ix ix_tup (pv 1) pe_int (fun _ _ => rfl)) pa_nil)) (nomark _)) (pe_one (pe_cmpR (op_eqD hr.units) (pe_lst (pa_cons (pe_md0 c_Machine_stores T.cl_Machine (hr.mono (by decide)) (pv 3)) (pa_cons (pe_md0 c_Machine_outputs T.cl_Machine (hr.mono (by decide)) (pv 3)) pa_nil))) (pv 6) (nomark _))))))))))))))))))), ?_⟩
    have w := Wf.id wf
    refine q_sq fun N1 hN1 => ?_
    refine a_asgE ?_
    refine e_call ?_
    refine a_val (v := v1) (val_var rfl) ?_
    refine a_val (v := (.int ((1 : Nat) : Int))) val_c ?_
    refine a_val (v := (.int ((6 : Nat) : Int))) val_c ?_
    refine a_nil ?_
    refine ⟨F0, (v1), (script1), (1), (6), _, rfl, w.f, r1, hW, ?_⟩
    intro z1 hW v2 F1 H1 s1 r2
    replace r1 := Rep.mono _ s1.g r1
    replace w := w.tr s1
    refine hN1 _ _ ?_
    refine q_sq fun N2 hN2 => ?_
    refine a_asgE ?_
    refine e_lst ?_
    refine a_cons ?_
    refine e_cb ?_
    obtain ⟨v3, r3, ix1⟩ := ix_3b (K := K) r2 w.f
    refine a_val (v := v3) (ix1 (val_var rfl) val_c) ?_
    refine a_nil ?_
    refine n_listX r3 w ?_
    intro p1 H2 hp1 s2 x1
    replace r1 := Rep.mono _ s2.g r1
    replace r2 := Rep.mono _ s2.g r2
    replace r3 := Rep.mono _ s2.g r3
    replace w := w.tr s2
    refine a_cons ?_
    refine e_cb ?_
    obtain ⟨v4, r4, ix2⟩ := ix_3c (K := K) r2 w.f
    refine a_val (v := v4) (ix2 (val_var rfl) val_c) ?_
    refine a_nil ?_
    refine n_listX r4 w ?_
    intro p2 H3 hp2 s3 x2
    have ne1 := x1.ne hp2
    replace r1 := Rep.mono _ s3.g r1
    replace r2 := Rep.mono _ s3.g r2
    replace r3 := Rep.mono _ s3.g r3
    replace x1 := x1.step s3
    replace r4 := Rep.mono _ s3.g r4
    replace w := w.tr s3
    refine a_nil ?_
    refine n_lstX (e := pV) (xs := [V.ref p1, V.ref p2]) (vs := [V.ref p1, V.ref p2]) (show All pV _ [V.ref p1, V.ref p2] [V.ref p1, V.ref p2] from ⟨rfl, rfl, trivial⟩) (show 2 < 1000000 from by decide) w ?_
    intro p3 H4 hp3 s4 x3
    have ne2 := x1.ne hp3
    have ne3 := x2.ne hp3
    replace r1 := Rep.mono _ s4.g r1
    replace r2 := Rep.mono _ s4.g r2
    replace x1 := x1.step s4
    replace x2 := x2.step s4
    replace r3 := Rep.mono _ s4.g r3
    replace r4 := Rep.mono _ s4.g r4
    replace w := w.tr s4
    obtain ⟨F2, w1, g1, r5, fz1⟩ := x3.frzE w
    replace r1 := Rep.mono _ g1 r1
    replace r2 := Rep.mono _ g1 r2
    replace x1 := x1.frzO fz1 ne2 g1
    replace x2 := x2.frzO fz1 ne3 g1
    replace r3 := Rep.mono _ g1 r3
    replace r4 := Rep.mono _ g1 r4
    replace w := w1
    refine hN2 _ _ ?_
    refine q_sq fun N3 hN3 => ?_
    refine a_asgE ?_
    refine e_nw ?_
    obtain ⟨_, rfl, ix3⟩ := ix_3a (K := K) r2 w.f
    refine a_val (v := (.int ((z1.1 : Nat) : Int))) (ix3 (val_var rfl) val_c) ?_
    obtain ⟨_, rfl, ix4⟩ := ix_L (K := K) r5 w.f (show ([V.ref p1, V.ref p2])[0]? = some (V.ref p1) from rfl)
    refine a_val (v := (.ref p1)) (ix4 (val_var rfl) val_c) ?_
    obtain ⟨_, rfl, ix5⟩ := ix_L (K := K) r5 w.f (show ([V.ref p1, V.ref p2])[1]? = some (V.ref p2) from rfl)
    refine a_val (v := (.ref p2)) (ix5 (val_var rfl) val_c) ?_
    refine a_nil ?_
    intro ob1 dx1 nx1 nd1 ne4
    obtain ⟨Fl1, lw1, lg1, lr1, lz1⟩ := XL.frzE x1 w
    obtain ⟨Fl2, lw2, lg2, lr2, lz2⟩ := XL.frzE (XL.frzO x2 lz1 (Ne.symm ne1) lg1) lw1
    have lg3 := Ex.tr lg1 lg2
    refine ⟨Fl2, ob1, dx1, (z1.1), ((.ref p1)), (z1.2.1), ((.ref p2)), (z1.2.2), _, rfl, upd_same, (lw2.f.non nx1), (Ex.made lw2.f nx1 nd1), (Rep.mono _ lg2 lr1), lr2, hW, ?_⟩
    intro z2 hW F3 H5 s5 r7
    refine ⟨rfl, ?_⟩
    replace s5 := Wf.made nx1 nd1 s5
    obtain ⟨F4, s6, r8, _, _⟩ := lend_back2 x1 x2 ne1 lg3 (fz2 lz1 lz2) (Rep.mono _ lg2 lr1) lr2 s5 (NoL.O3 NoL.N (NoL.TL (NoL.T2 NoL.N NoL.N)) (NoL.TL (NoL.T2 NoL.N NoL.N))) r7
    replace r1 := Rep.mono _ s6.g r1
    replace r2 := Rep.mono _ s6.g r2
    replace x1 := x1.step s6
    replace x2 := x2.step s6
    replace r5 := Rep.mono _ s6.g r5
    replace w := w.tr s6
    refine hN3 _ _ ?_
    refine q_sq fun N4 hN4 => ?_
    refine a_ifE ?_
    refine e_tT ?_
    refine e_op ?_
    refine e_val (v := (.ref p3)) (val_var rfl) ?_
    refine e_lst ?_
    obtain ⟨v6, r9, ix6⟩ := ix_3b (K := K) r2 w.f
    refine a_val (v := v6) (ix6 (val_var rfl) val_c) ?_
    obtain ⟨v7, r10, ix7⟩ := ix_3c (K := K) r2 w.f
    refine a_val (v := v7) (ix7 (val_var rfl) val_c) ?_
    refine a_nil ?_
    refine n_lstX (e := (pL (pT2 pN pN))) (xs := [z1.2.1, z1.2.2]) (vs := [v6, v7]) (show All (pL (pT2 pN pN)) _ [v6, v7] [z1.2.1, z1.2.2] from ⟨r9, ⟨r10, trivial⟩⟩) (show 2 < 1000000 from by decide) w ?_
    intro p4 H6 hp4 s7 x4
    have ne5 := x1.ne hp4
    have ne6 := x2.ne hp4
    replace r1 := Rep.mono _ s7.g r1
    replace r2 := Rep.mono _ s7.g r2
    replace x1 := x1.step s7
    replace x2 := x2.step s7
    replace r5 := Rep.mono _ s7.g r5
    replace r8 := Rep.mono _ s7.g r8
    replace r9 := Rep.mono _ s7.g r9
    replace r10 := Rep.mono _ s7.g r10
    replace w := w.tr s7
    obtain ⟨F5, w2, g2, r11, fz2⟩ := x4.frzE w
    replace r1 := Rep.mono _ g2 r1
    replace r2 := Rep.mono _ g2 r2
    replace x1 := x1.frzO fz2 ne5 g2
    replace x2 := x2.frzO fz2 ne6 g2
    replace r5 := Rep.mono _ g2 r5
    replace r8 := Rep.mono _ g2 r8
    replace r9 := Rep.mono _ g2 r9
    replace r10 := Rep.mono _ g2 r10
    replace w := w2
    obtain ⟨Fl3, lw3, lg4, lr3, lz3⟩ := XL.frzE x1 w
    obtain ⟨Fl4, lw4, lg5, lr4, lz4⟩ := XL.frzE (XL.frzO x2 lz3 (Ne.symm ne1) lg4) lw3
    have lg6 := Ex.tr lg4 lg5
    have lr5 := L2_up r5 lg6 (Rep.mono _ lg5 lr3) lr4
    obtain ⟨c1, hW⟩ := hW
    refine rv2T (b := decide ([z1.2.1, z1.2.2] ≠ [z1.2.1, z1.2.2])) (c_neO (K := K) (e := (pL (pL (pT2 pN pN)))) val_c val_c lw4.f lr5 w.f r11 c1) ?_
    refine b_if (fun hc1 => ?_) (fun hc1 => ?_)
    · have hW := ifP hW hc1
      refine a_ret (v := (.bl (false))) val_c ?_
      exact hQ _ hW _ _ w
    · have hW := ifN hW hc1
      refine hN4 _ _ ?_
      refine q_sq fun N5 hN5 => ?_
      obtain ⟨_, rfl, ix8⟩ := ix_L (K := K) r5 w.f (show ([V.ref p1, V.ref p2])[0]? = some (V.ref p1) from rfl)
      refine a_dropE ?_
      refine m_list x1 (ix8 (val_var rfl) val_c) ?_
      refine a_cons ?_
      refine e_tup ?_
      refine a_val (v := (.int ((0 : Nat) : Int))) val_c ?_
      refine a_val (v := (.int ((0 : Nat) : Int))) val_c ?_
      refine a_nil ?_
      refine n_tup2 (e := pN) (f := pN) (x := 0) (y := 0) rfl rfl w ?_
      intro p5 F6 H7 s8 r12
      replace r1 := Rep.mono _ s8.g r1
      replace r2 := Rep.mono _ s8.g r2
      replace x1 := x1.step s8
      replace x2 := x2.step s8
      replace r5 := Rep.mono _ s8.g r5
      replace r8 := Rep.mono _ s8.g r8
      replace w := w.tr s8
      refine a_nil ?_
      obtain ⟨c2, hW⟩ := hW
      refine a_app x1 w c2 r12 (fun H8 w3 x5 kp1 => ?_)
      replace x2 := x2.kept kp1 (Ne.symm ne1)
      replace w := w3
      refine hN5 _ _ ?_
      refine q_sq fun N6 hN6 => ?_
      obtain ⟨_, rfl, ix9⟩ := ix_L (K := K) r5 w.f (show ([V.ref p1, V.ref p2])[1]? = some (V.ref p2) from rfl)
      refine a_dropE ?_
      refine m_list0 x2 (ix9 (val_var rfl) val_c) ?_
      refine a_clr x2 w (fun H9 w4 x6 kp2 => ?_)
      replace x5 := x5.kept kp2 ne1
      replace w := w4
      refine hN6 _ _ ?_
      refine q_sq fun N7 hN7 => ?_
      refine f_LE ?_
      refine n_cutS (lo := (some 6)) (hi := (some 36)) r1 (val_var rfl) (po_s (n := 6) val_c) (po_s (n := 36) val_c) w ?_
      intro p6 H10 hp5 s9 x7
      have ne7 := x5.ne hp5
      have ne8 := x6.ne hp5
      replace r1 := Rep.mono _ s9.g r1
      replace r2 := Rep.mono _ s9.g r2
      replace x5 := x5.step s9
      replace x6 := x6.step s9
      replace r5 := Rep.mono _ s9.g r5
      replace r8 := Rep.mono _ s9.g r8
      replace w := w.tr s9
      obtain ⟨F7, w5, g3, r13, fz3⟩ := x7.frzE w
      replace r1 := Rep.mono _ g3 r1
      replace r2 := Rep.mono _ g3 r2
      replace x5 := x5.frzO fz3 ne7 g3
      replace x6 := x6.frzO fz3 ne8 g3
      replace r5 := Rep.mono _ g3 r5
      replace r8 := Rep.mono _ g3 r8
      replace w := w5
      refine w_forL (S := Unit) (fun _ σ' F' H' => ∃ (o1 : Option V), Wf F0 H0 F' H' ∧ Ex F7 F' ∧ σ' = [some v1, some v2, some (.ref p3), some (.ref ob1), o1, none, none] ∧ XL (pT2 pN pN) H0 F' H' p1 (z1.2.1 ++ [(0, 0)]) ∧ XL (pT2 pN pN) H0 F' H' p2 ([] : List (Nat × Nat))) r13 hW ⟨_, w, Ex.rfl', rfl, x5, x6⟩ (fun s σ' F' H' hI => by obtain ⟨_, w', gx', _⟩ := hI; exact ⟨gx', w'.f⟩) w.f ?_ ?_
      · intro N8 Bk1 cell_here1 u1 s10 σ' F8 H11 nx2 bk1 hI1 hx1 ru1 hW hN8 hB1
        obtain ⟨o1, w, gx1, rfl, x8, x9⟩ := hI1
        have r1 := Rep.mono _ gx1 r1
        have r2 := Rep.mono _ gx1 r2
        have r5 := Rep.mono _ gx1 r5
        have r8 := Rep.mono _ gx1 r8
        have r13 := Rep.mono _ gx1 r13
        obtain rfl : u1 = (.int (cell_here1)) := ru1
        refine g_name ?_
        refine a_ifE ?_
        refine e_tT ?_
        refine e_op ?_
        refine e_call ?_
        refine a_cons ?_
        refine e_call ?_
        refine a_val (v := v2) (val_var rfl) ?_
        refine a_val (v := (.int (cell_here1))) (val_var rfl) ?_
        refine a_nil ?_
        refine ⟨F8, (v2), (z1), (cell_here1), _, rfl, w.f, r2, hW, ?_⟩
        intro z3 hW v8 F9 H12 s11 r14
        replace r1 := Rep.mono _ s11.g r1
        replace r2 := Rep.mono _ s11.g r2
        replace x8 := x8.step s11
        replace x9 := x9.step s11
        replace r5 := Rep.mono _ s11.g r5
        replace r8 := Rep.mono _ s11.g r8
        replace w := w.tr s11
        replace gx1 := Ex.tr gx1 s11.g
        refine a_nil ?_
        refine ⟨F9, (v8), (z3), _, rfl, w.f, r14, hW, ?_⟩
        intro z4 hW v9 F10 H13 s12 r15
        replace r1 := Rep.mono _ s12.g r1
        replace r2 := Rep.mono _ s12.g r2
        replace x8 := x8.step s12
        replace x9 := x9.step s12
        replace r5 := Rep.mono _ s12.g r5
        replace r8 := Rep.mono _ s12.g r8
        replace r14 := Rep.mono _ s12.g r14
        replace w := w.tr s12
        replace gx1 := Ex.tr gx1 s12.g
        refine e_lst ?_
        refine a_val (v := (.bl (true))) val_c ?_
        refine a_val (v := (.bl (true))) val_c ?_
        refine a_val (v := (.bl (false))) val_c ?_
        refine a_nil ?_
        refine n_lstX (e := pB) (xs := [true, true, false]) (vs := [(.bl (true)), (.bl (true)), (.bl (false))]) (show All pB _ [(.bl (true)), (.bl (true)), (.bl (false))] [true, true, false] from ⟨rfl, ⟨rfl, ⟨rfl, trivial⟩⟩⟩) (show 3 < 1000000 from by decide) w ?_
        intro p7 H14 hp6 s13 x10
        have ne9 := x8.ne hp6
        have ne10 := x9.ne hp6
        replace r1 := Rep.mono _ s13.g r1
        replace r2 := Rep.mono _ s13.g r2
        replace x8 := x8.step s13
        replace x9 := x9.step s13
        replace r5 := Rep.mono _ s13.g r5
        replace r8 := Rep.mono _ s13.g r8
        replace r14 := Rep.mono _ s13.g r14
        replace r15 := Rep.mono _ s13.g r15
        replace w := w.tr s13
        replace gx1 := Ex.tr gx1 s13.g
        obtain ⟨F11, w6, g4, r16, fz4⟩ := x10.frzE w
        replace r1 := Rep.mono _ g4 r1
        replace r2 := Rep.mono _ g4 r2
        replace x8 := x8.frzO fz4 ne9 g4
        replace x9 := x9.frzO fz4 ne10 g4
        replace r5 := Rep.mono _ g4 r5
        replace r8 := Rep.mono _ g4 r8
        replace r14 := Rep.mono _ g4 r14
        replace r15 := Rep.mono _ g4 r15
        replace w := w6
        replace gx1 := Ex.tr gx1 g4
        refine rv2T (b := decide (z4 ≠ (some [true, true, false]))) (c_neD (K := K) (e := (pO (pL pB))) val_c val_c w.f r15 w.f (show (pO (pL pB)).r _ _ (some _) from r16)) ?_
        refine b_if (fun hc2 => ?_) (fun hc2 => ?_)
        · have hW := ifP hW hc2
          refine a_ret (v := (.bl (false))) val_c ?_
          exact hQ _ hW _ _ w
        · have hW := ifN hW hc2
          exact hN8 () _ _ _ ⟨_, w, gx1, rfl, x8, x9⟩ hW
      · intro s14 σ' F12 H15 hI2 hW
        obtain ⟨o1, w, gx2, rfl, x8, x9⟩ := hI2
        have r1 := Rep.mono _ gx2 r1
        have r2 := Rep.mono _ gx2 r2
        have r5 := Rep.mono _ gx2 r5
        have r8 := Rep.mono _ gx2 r8
        have r13 := Rep.mono _ gx2 r13
        refine hN7 _ _ ?_
        refine q_sq fun N9 hN9 => ?_
        refine a_asgE ?_
        refine e_nw ?_
        refine a_val (v := (.int ((6 : Nat) : Int))) val_c ?_
        refine a_cons ?_
        refine e_op ?_
        refine e_lst ?_
        refine a_cons ?_
        refine e_tup ?_
        refine a_val (v := (.int ((0 : Nat) : Int))) val_c ?_
        refine a_val (v := (.int ((63 : Nat) : Int))) val_c ?_
        refine a_nil ?_
        refine n_tup2 (e := pN) (f := pN) (x := 0) (y := 63) rfl rfl w ?_
        intro p8 F13 H16 s15 r17
        replace r1 := Rep.mono _ s15.g r1
        replace r2 := Rep.mono _ s15.g r2
        replace x8 := x8.step s15
        replace x9 := x9.step s15
        replace r5 := Rep.mono _ s15.g r5
        replace r8 := Rep.mono _ s15.g r8
        replace w := w.tr s15
        replace gx2 := Ex.tr gx2 s15.g
        refine a_nil ?_
        refine n_lstX (e := (pT2 pN pN)) (xs := [(0, 63)]) (vs := [(.ref p8)]) (show All (pT2 pN pN) _ [(.ref p8)] [(0, 63)] from ⟨r17, trivial⟩) (show 1 < 1000000 from by decide) w ?_
        intro p9 H17 hp7 s16 x11
        have ne11 := x8.ne hp7
        have ne12 := x9.ne hp7
        replace r1 := Rep.mono _ s16.g r1
        replace r2 := Rep.mono _ s16.g r2
        replace x8 := x8.step s16
        replace x9 := x9.step s16
        replace r5 := Rep.mono _ s16.g r5
        replace r8 := Rep.mono _ s16.g r8
        replace r17 := Rep.mono _ s16.g r17
        replace w := w.tr s16
        replace gx2 := Ex.tr gx2 s16.g
        refine e_val (v := (.int ((120 : Nat) : Int))) val_c ?_
        obtain ⟨F14, w7, g5, r18, fz5⟩ := x11.frzE w
        replace r1 := Rep.mono _ g5 r1
        replace r2 := Rep.mono _ g5 r2
        replace x8 := x8.frzO fz5 ne11 g5
        replace x9 := x9.frzO fz5 ne12 g5
        replace r5 := Rep.mono _ g5 r5
        replace r8 := Rep.mono _ g5 r8
        replace r17 := Rep.mono _ g5 r17
        replace w := w7
        replace gx2 := Ex.tr gx2 g5
        obtain ⟨c3, hW⟩ := hW
        refine n_rep (n := 120) r18 w c3.1 c3.2 ?_
        intro p10 H18 hp8 s17 x12
        have ne13 := x8.ne hp8
        have ne14 := x9.ne hp8
        replace r1 := Rep.mono _ s17.g r1
        replace r2 := Rep.mono _ s17.g r2
        replace x8 := x8.step s17
        replace x9 := x9.step s17
        replace r5 := Rep.mono _ s17.g r5
        replace r8 := Rep.mono _ s17.g r8
        replace r17 := Rep.mono _ s17.g r17
        replace r18 := Rep.mono _ s17.g r18
        replace w := w.tr s17
        replace gx2 := Ex.tr gx2 s17.g
        refine a_cons ?_
        refine e_lst ?_
        refine a_cons ?_
        refine e_tup ?_
        obtain ⟨c4, hW⟩ := hW
        refine a_val (v := (.int (((2 ^ 120) - 1 : Nat) : Int))) (vn_sub (vn_one val_c val_c (by decide)) val_c c4) ?_
        refine a_val (v := (.int ((0 : Nat) : Int))) val_c ?_
        refine a_nil ?_
        refine n_tup2 (e := pN) (f := pN) (x := (2 ^ 120) - 1) (y := 0) rfl rfl w ?_
        intro p11 F15 H19 s18 r19
        replace r1 := Rep.mono _ s18.g r1
        replace r2 := Rep.mono _ s18.g r2
        replace x8 := x8.step s18
        replace x9 := x9.step s18
        replace r5 := Rep.mono _ s18.g r5
        replace r8 := Rep.mono _ s18.g r8
        replace r17 := Rep.mono _ s18.g r17
        replace r18 := Rep.mono _ s18.g r18
        replace x12 := x12.step s18
        replace w := w.tr s18
        replace gx2 := Ex.tr gx2 s18.g
        refine a_nil ?_
        refine n_lstX (e := (pT2 pN pN)) (xs := [((2 ^ 120) - 1, 0)]) (vs := [(.ref p11)]) (show All (pT2 pN pN) _ [(.ref p11)] [((2 ^ 120) - 1, 0)] from ⟨r19, trivial⟩) (show 1 < 1000000 from by decide) w ?_
        intro p12 H20 hp9 s19 x13
        have ne15 := x8.ne hp9
        have ne16 := x9.ne hp9
        have ne17 := x12.ne hp9
        replace r1 := Rep.mono _ s19.g r1
        replace r2 := Rep.mono _ s19.g r2
        replace x8 := x8.step s19
        replace x9 := x9.step s19
        replace r5 := Rep.mono _ s19.g r5
        replace r8 := Rep.mono _ s19.g r8
        replace r17 := Rep.mono _ s19.g r17
        replace r18 := Rep.mono _ s19.g r18
        replace x12 := x12.step s19
        replace r19 := Rep.mono _ s19.g r19
        replace w := w.tr s19
        replace gx2 := Ex.tr gx2 s19.g
        refine a_nil ?_
        obtain ⟨F16, w8, g6, r20, fz6⟩ := x12.frzE w
        replace r1 := Rep.mono _ g6 r1
        replace r2 := Rep.mono _ g6 r2
        replace x8 := x8.frzO fz6 ne13 g6
        replace x9 := x9.frzO fz6 ne14 g6
        replace r5 := Rep.mono _ g6 r5
        replace r8 := Rep.mono _ g6 r8
        replace r17 := Rep.mono _ g6 r17
        replace r18 := Rep.mono _ g6 r18
        replace r19 := Rep.mono _ g6 r19
        replace x13 := x13.frzO fz6 (Ne.symm ne17) g6
        replace w := w8
        replace gx2 := Ex.tr gx2 g6
        obtain ⟨F17, w9, g7, r21, fz7⟩ := x13.frzE w
        replace r1 := Rep.mono _ g7 r1
        replace r2 := Rep.mono _ g7 r2
        replace x8 := x8.frzO fz7 ne15 g7
        replace x9 := x9.frzO fz7 ne16 g7
        replace r5 := Rep.mono _ g7 r5
        replace r8 := Rep.mono _ g7 r8
        replace r17 := Rep.mono _ g7 r17
        replace r18 := Rep.mono _ g7 r18
        replace r20 := Rep.mono _ g7 r20
        replace r19 := Rep.mono _ g7 r19
        replace w := w9
        replace gx2 := Ex.tr gx2 g7
        intro ob2 dx2 nx3 nd2 ne18
        refine ⟨F17, ob2, dx2, (6), ((.ref p10)), ((List.replicate 120 [(0, 63)]).flatten), ((.ref p12)), ([((2 ^ 120) - 1, 0)]), _, rfl, upd_same, (w.f.non nx3), (Ex.made w.f nx3 nd2), r20, r21, hW, ?_⟩
        intro z5 hW F18 H21 s20 r22
        refine ⟨rfl, ?_⟩
        replace s20 := Wf.made nx3 nd2 s20
        replace r1 := Rep.mono _ s20.g r1
        replace r2 := Rep.mono _ s20.g r2
        replace x8 := x8.step s20
        replace x9 := x9.step s20
        replace r5 := Rep.mono _ s20.g r5
        replace r8 := Rep.mono _ s20.g r8
        replace r17 := Rep.mono _ s20.g r17
        replace r18 := Rep.mono _ s20.g r18
        replace r20 := Rep.mono _ s20.g r20
        replace r19 := Rep.mono _ s20.g r19
        replace r21 := Rep.mono _ s20.g r21
        replace w := w.tr s20
        replace gx2 := Ex.tr gx2 s20.g
        refine hN9 _ _ ?_
        refine q_sq fun N10 hN10 => ?_
        refine a_ifE ?_
        refine e_jnT hW (fun b F' H' => b = b ∧ Wf F0 H0 F' H' ∧ Ex F18 F' ∧ XL (pT2 pN pN) H0 F' H' p1 (z1.2.1 ++ [(0, 0)]) ∧ XL (pT2 pN pN) H0 F' H' p2 ([] : List (Nat × Nat))) ?_ ?_
        · intro N11 hN11 hW
          have gx3 : Ex F18 F18 := Ex.rfl'
          refine e_tOr ?_
          refine e_tT ?_
          refine e_op ?_
          refine e_md ?_
          refine e_val (v := (.ref ob2)) (val_var rfl) ?_
          obtain ⟨p13, dx3, fs1, ev1, ho1, lm1⟩ := me_3 (m := "stores") r22 w.f
          refine ⟨_, _, _, ev1, ho1, lm1, ?_⟩
          refine a_nil ?_
          refine ⟨F18, ((.ref ob2)), (z5), _, rfl, w.f, r22, hW, ?_⟩
          intro z6 hW F19 H22 s21
          replace r1 := Rep.mono _ s21.g r1
          replace r2 := Rep.mono _ s21.g r2
          replace x8 := x8.step s21
          replace x9 := x9.step s21
          replace r5 := Rep.mono _ s21.g r5
          replace r8 := Rep.mono _ s21.g r8
          replace r22 := Rep.mono _ s21.g r22
          replace w := w.tr s21
          replace gx3 := Ex.tr gx3 s21.g
          replace gx2 := Ex.tr gx2 s21.g
          refine e_val (v := (.int ((120 : Nat) : Int))) val_c ?_
          refine rv2T (b := decide (z6 ≠ 120)) (vb_dec (c_neI val_c val_c) n_ne) ?_
          refine b_if (fun hc3 => ?_) (fun hc3 => ?_)
          · have hW := ifP hW hc3
            exact hN11 true _ _ ⟨rfl, w, gx3, x8, x9⟩ hW
          · have hW := ifN hW hc3
            refine e_tT ?_
            refine e_op ?_
            refine e_md ?_
            refine e_val (v := (.ref ob2)) (val_var rfl) ?_
            obtain ⟨p14, dx4, fs2, ev2, ho2, lm2⟩ := me_3 (m := "outputs") r22 w.f
            refine ⟨_, _, _, ev2, ho2, lm2, ?_⟩
            refine a_nil ?_
            refine ⟨F19, ((.ref ob2)), (z5), _, rfl, w.f, r22, hW, ?_⟩
            intro z7 hW F20 H23 s22
            replace r1 := Rep.mono _ s22.g r1
            replace r2 := Rep.mono _ s22.g r2
            replace x8 := x8.step s22
            replace x9 := x9.step s22
            replace r5 := Rep.mono _ s22.g r5
            replace r8 := Rep.mono _ s22.g r8
            replace r22 := Rep.mono _ s22.g r22
            replace w := w.tr s22
            replace gx3 := Ex.tr gx3 s22.g
            replace gx2 := Ex.tr gx2 s22.g
            refine e_val (v := (.int ((1 : Nat) : Int))) val_c ?_
            refine rv2T (b := decide (z7 ≠ 1)) (vb_dec (c_neI val_c val_c) n_ne) ?_
            exact hN11 (decide (z7 ≠ 1)) _ _ ⟨rfl, w, gx3, x8, x9⟩ hW
        intro b1 F21 H24 hI3 hW
        obtain ⟨_, w, gx4, x14, x15⟩ := hI3
        have r1 := Rep.mono _ gx4 r1
        have r2 := Rep.mono _ gx4 r2
        have r5 := Rep.mono _ gx4 r5
        have r8 := Rep.mono _ gx4 r8
        have r22 := Rep.mono _ gx4 r22
        have gx2 := Ex.tr gx2 gx4
        refine bb_if (fun hc4 => ?_) (fun hc4 => ?_)
        · have hW := ifP hW hc4
          refine a_ret (v := (.bl (false))) val_c ?_
          exact hQ _ hW _ _ w
        · have hW := ifN hW hc4
          refine hN10 _ _ ?_
          refine q_sq fun N12 hN12 => ?_
          refine a_dropE ?_
          refine e_op ?_
          refine e_md ?_
          refine e_val (v := (.ref ob1)) (val_var rfl) ?_
          obtain ⟨p15, dx5, fs3, ev3, ho3, lm3⟩ := me_3 (m := "told") r8 w.f
          refine ⟨_, _, _, ev3, ho3, lm3, ?_⟩
          refine a_nil ?_
          refine ⟨F21, ((.ref ob1)), (z2), _, rfl, w.f, r8, hW, ?_⟩
          intro z8 hW l1 v10 F22 H25 s23 r23 x16
          have ne19 := x14.ne x16.zero
          have ne20 := x15.ne x16.zero
          replace x16 := x16.base w
          replace r1 := Rep.mono _ s23.g r1
          replace r2 := Rep.mono _ s23.g r2
          replace x14 := x14.step s23
          replace x15 := x15.step s23
          replace r5 := Rep.mono _ s23.g r5
          replace r8 := Rep.mono _ s23.g r8
          replace r22 := Rep.mono _ s23.g r22
          replace w := w.tr s23
          replace gx2 := Ex.tr gx2 s23.g
          refine e_val (v := (.int ((1 : Nat) : Int))) val_c ?_
          obtain ⟨_, rfl, ix10⟩ := ix_3b (K := K) r23 w.f
          refine rv2 (z := .ref l1) (ix10 val_c val_c) ?_
          refine ⟨bm_ty x16, ?_⟩
          refine a_clr x16 w (fun H26 w10 x17 kp3 => ?_)
          replace x14 := x14.kept kp3 ne19
          replace x15 := x15.kept kp3 ne20
          replace w := w10
          refine hN12 _ _ ?_
          refine q_sq fun N13 hN13 => ?_
          refine a_dropE ?_
          refine e_op ?_
          refine e_md ?_
          refine e_val (v := (.ref ob1)) (val_var rfl) ?_
          obtain ⟨p16, dx6, fs4, ev4, ho4, lm4⟩ := me_3 (m := "told") r8 w.f
          refine ⟨_, _, _, ev4, ho4, lm4, ?_⟩
          refine a_nil ?_
          refine ⟨F22, ((.ref ob1)), (z2), _, rfl, w.f, r8, hW, ?_⟩
          intro z9 hW l2 v12 F23 H27 s24 r25 x18
          have ne21 := x14.ne x18.zero
          have ne22 := x15.ne x18.zero
          replace x18 := x18.base w
          replace r1 := Rep.mono _ s24.g r1
          replace r2 := Rep.mono _ s24.g r2
          replace x14 := x14.step s24
          replace x15 := x15.step s24
          replace r5 := Rep.mono _ s24.g r5
          replace r8 := Rep.mono _ s24.g r8
          replace r22 := Rep.mono _ s24.g r22
          replace w := w.tr s24
          replace gx2 := Ex.tr gx2 s24.g
          refine e_val (v := (.int ((2 : Nat) : Int))) val_c ?_
          obtain ⟨_, rfl, ix11⟩ := ix_3c (K := K) r25 w.f
          refine rv2 (z := .ref l2) (ix11 val_c val_c) ?_
          refine ⟨bm_ty x18, ?_⟩
          refine a_val (v := (.int ((5 : Nat) : Int))) val_c ?_
          refine a_nil ?_
          obtain ⟨c5, hW⟩ := hW
          refine a_app (XL_any (cv_T2 cv_nat cv_nat) x18) w (by rw [List.length_map]; exact c5) (show pA.r _ (.int ((5 : Nat) : Int)) (An.i ((5 : Nat) : Int)) from rfl) (fun H28 w11 x19 kp4 => ?_)
          replace x14 := x14.kept kp4 ne21
          replace x15 := x15.kept kp4 ne22
          replace w := w11
          refine hN13 _ _ ?_
          refine q_sq fun N14 hN14 => ?_
          refine a_ifE ?_
          refine e_jnT hW (fun b F' H' => b = b ∧ Wf F0 H0 F' H' ∧ Ex F23 F' ∧ XL (pT2 pN pN) H0 F' H' p1 (z1.2.1 ++ [(0, 0)]) ∧ XL (pT2 pN pN) H0 F' H' p2 ([] : List (Nat × Nat))) ?_ ?_
          · intro N15 hN15 hW
            have gx5 : Ex F23 F23 := Ex.rfl'
            refine e_tOr ?_
            refine e_tT ?_
            refine e_op ?_
            refine e_md ?_
            refine e_val (v := (.ref ob1)) (val_var rfl) ?_
            obtain ⟨p17, dx7, fs5, ev5, ho5, lm5⟩ := me_3 (m := "told") r8 w.f
            refine ⟨_, _, _, ev5, ho5, lm5, ?_⟩
            refine a_nil ?_
            refine ⟨F23, ((.ref ob1)), (z2), _, rfl, w.f, r8, hW, ?_⟩
            intro z10 hW v14 F24 H29 s25 r27
            replace r1 := Rep.mono _ s25.g r1
            replace r2 := Rep.mono _ s25.g r2
            replace x14 := x14.step s25
            replace x15 := x15.step s25
            replace r5 := Rep.mono _ s25.g r5
            replace r8 := Rep.mono _ s25.g r8
            replace r22 := Rep.mono _ s25.g r22
            replace w := w.tr s25
            replace gx5 := Ex.tr gx5 s25.g
            replace gx2 := Ex.tr gx2 s25.g
            refine e_val (v := v2) (val_var rfl) ?_
            refine rv2T (b := decide (z10 ≠ z1)) (c_neD (K := K) (e := (pT3 pN (pL (pT2 pN pN)) (pL (pT2 pN pN)))) val_c val_c w.f r27 w.f r2) ?_
            refine b_if (fun hc5 => ?_) (fun hc5 => ?_)
            · have hW := ifP hW hc5
              exact hN15 true _ _ ⟨rfl, w, gx5, x14, x15⟩ hW
            · have hW := ifN hW hc5
              refine e_tT ?_
              refine e_op ?_
              refine e_lst ?_
              obtain ⟨_, rfl, fl1⟩ := fl_31 (K := K) T.cl_Machine T.na_Machine_inputs r8 w.f
              refine a_val (v := (.int ((z2.1 : Nat) : Int))) (fl1 (val_var rfl)) ?_
              obtain ⟨v16, r29, fl2⟩ := fl_32 (K := K) T.cl_Machine T.na_Machine_nexts r8 w.f
              refine a_val (v := v16) (fl2 (val_var rfl)) ?_
              refine a_nil ?_
              have r30 : pA.r _ v16 (An.t (z2.2.1.map (fun (x : Nat × Nat) => An.t [(fun n : Nat => An.i (n : Int)) x.1, (fun n : Nat => An.i (n : Int)) x.2]))) := (cv_TL (cv_T2 cv_nat cv_nat)) r29
              refine n_lstX (e := pA) (xs := [(An.i ((z2.1 : Nat) : Int)), (An.t (z2.2.1.map (fun (x : Nat × Nat) => An.t [(fun n : Nat => An.i (n : Int)) x.1, (fun n : Nat => An.i (n : Int)) x.2])))]) (vs := [(.int ((z2.1 : Nat) : Int)), v16]) (show All pA _ [(.int ((z2.1 : Nat) : Int)), v16] [(An.i ((z2.1 : Nat) : Int)), (An.t (z2.2.1.map (fun (x : Nat × Nat) => An.t [(fun n : Nat => An.i (n : Int)) x.1, (fun n : Nat => An.i (n : Int)) x.2])))] from ⟨(show pA.r _ (.int ((z2.1 : Nat) : Int)) (An.i ((z2.1 : Nat) : Int)) from rfl), ⟨r30, trivial⟩⟩) (show 2 < 1000000 from by decide) w ?_
              intro p18 H30 hp10 s26 x22
              have ne23 := x14.ne hp10
              have ne24 := x15.ne hp10
              replace r1 := Rep.mono _ s26.g r1
              replace r2 := Rep.mono _ s26.g r2
              replace x14 := x14.step s26
              replace x15 := x15.step s26
              replace r5 := Rep.mono _ s26.g r5
              replace r8 := Rep.mono _ s26.g r8
              replace r22 := Rep.mono _ s26.g r22
              replace r27 := Rep.mono _ s26.g r27
              replace r29 := Rep.mono _ s26.g r29
              replace w := w.tr s26
              replace gx5 := Ex.tr gx5 s26.g
              replace gx2 := Ex.tr gx2 s26.g
              refine e_lst ?_
              obtain ⟨_, rfl, ix12⟩ := ix_3a (K := K) r2 w.f
              refine a_val (v := (.int ((z1.1 : Nat) : Int))) (ix12 (val_var rfl) val_c) ?_
              refine a_cons ?_
              refine e_cb ?_
              obtain ⟨v18, r32, ix13⟩ := ix_3b (K := K) r2 w.f
              refine a_val (v := v18) (ix13 (val_var rfl) val_c) ?_
              refine a_nil ?_
              refine n_tupOf r32 w ?_
              intro p19 F25 H31 s27 r33
              replace r1 := Rep.mono _ s27.g r1
              replace r2 := Rep.mono _ s27.g r2
              replace x14 := x14.step s27
              replace x15 := x15.step s27
              replace r5 := Rep.mono _ s27.g r5
              replace r8 := Rep.mono _ s27.g r8
              replace r22 := Rep.mono _ s27.g r22
              replace r27 := Rep.mono _ s27.g r27
              replace r29 := Rep.mono _ s27.g r29
              replace x22 := x22.step s27
              replace r32 := Rep.mono _ s27.g r32
              replace w := w.tr s27
              replace gx5 := Ex.tr gx5 s27.g
              replace gx2 := Ex.tr gx2 s27.g
              refine a_nil ?_
              have r34 : pA.r _ (.ref p19) (An.t (z1.2.1.map (fun (x : Nat × Nat) => An.t [(fun n : Nat => An.i (n : Int)) x.1, (fun n : Nat => An.i (n : Int)) x.2]))) := (cv_TL (cv_T2 cv_nat cv_nat)) r33
              refine n_lstX (e := pA) (xs := [(An.i ((z1.1 : Nat) : Int)), (An.t (z1.2.1.map (fun (x : Nat × Nat) => An.t [(fun n : Nat => An.i (n : Int)) x.1, (fun n : Nat => An.i (n : Int)) x.2])))]) (vs := [(.int ((z1.1 : Nat) : Int)), (.ref p19)]) (show All pA _ [(.int ((z1.1 : Nat) : Int)), (.ref p19)] [(An.i ((z1.1 : Nat) : Int)), (An.t (z1.2.1.map (fun (x : Nat × Nat) => An.t [(fun n : Nat => An.i (n : Int)) x.1, (fun n : Nat => An.i (n : Int)) x.2])))] from ⟨(show pA.r _ (.int ((z1.1 : Nat) : Int)) (An.i ((z1.1 : Nat) : Int)) from rfl), ⟨r34, trivial⟩⟩) (show 2 < 1000000 from by decide) w ?_
              intro p20 H32 hp11 s28 x23
              have ne25 := x14.ne hp11
              have ne26 := x15.ne hp11
              have ne27 := x22.ne hp11
              replace r1 := Rep.mono _ s28.g r1
              replace r2 := Rep.mono _ s28.g r2
              replace x14 := x14.step s28
              replace x15 := x15.step s28
              replace r5 := Rep.mono _ s28.g r5
              replace r8 := Rep.mono _ s28.g r8
              replace r22 := Rep.mono _ s28.g r22
              replace r27 := Rep.mono _ s28.g r27
              replace r29 := Rep.mono _ s28.g r29
              replace x22 := x22.step s28
              replace r32 := Rep.mono _ s28.g r32
              replace r33 := Rep.mono _ s28.g r33
              replace w := w.tr s28
              replace gx5 := Ex.tr gx5 s28.g
              replace gx2 := Ex.tr gx2 s28.g
              obtain ⟨F26, w12, g8, r35, fz8⟩ := x22.frzE w
              replace r1 := Rep.mono _ g8 r1
              replace r2 := Rep.mono _ g8 r2
              replace x14 := x14.frzO fz8 ne23 g8
              replace x15 := x15.frzO fz8 ne24 g8
              replace r5 := Rep.mono _ g8 r5
              replace r8 := Rep.mono _ g8 r8
              replace r22 := Rep.mono _ g8 r22
              replace r27 := Rep.mono _ g8 r27
              replace r29 := Rep.mono _ g8 r29
              replace r32 := Rep.mono _ g8 r32
              replace r33 := Rep.mono _ g8 r33
              replace x23 := x23.frzO fz8 (Ne.symm ne27) g8
              replace w := w12
              replace gx5 := Ex.tr gx5 g8
              replace gx2 := Ex.tr gx2 g8
              obtain ⟨F27, w13, g9, r36, fz9⟩ := x23.frzE w
              replace r1 := Rep.mono _ g9 r1
              replace r2 := Rep.mono _ g9 r2
              replace x14 := x14.frzO fz9 ne25 g9
              replace x15 := x15.frzO fz9 ne26 g9
              replace r5 := Rep.mono _ g9 r5
              replace r8 := Rep.mono _ g9 r8
              replace r22 := Rep.mono _ g9 r22
              replace r27 := Rep.mono _ g9 r27
              replace r29 := Rep.mono _ g9 r29
              replace r35 := Rep.mono _ g9 r35
              replace r32 := Rep.mono _ g9 r32
              replace r33 := Rep.mono _ g9 r33
              replace w := w13
              replace gx5 := Ex.tr gx5 g9
              replace gx2 := Ex.tr gx2 g9
              have r37 : pA.r _ (.ref p18) (An.l [(An.i ((z2.1 : Nat) : Int)), (An.t (z2.2.1.map (fun (x : Nat × Nat) => An.t [(fun n : Nat => An.i (n : Int)) x.1, (fun n : Nat => An.i (n : Int)) x.2])))]) := an_l.mpr r35
              have r38 : pA.r _ (.ref p20) (An.l [(An.i ((z1.1 : Nat) : Int)), (An.t (z1.2.1.map (fun (x : Nat × Nat) => An.t [(fun n : Nat => An.i (n : Int)) x.1, (fun n : Nat => An.i (n : Int)) x.2])))]) := an_l.mpr r36
              obtain ⟨c6, hW⟩ := hW
              refine rv2T (b := decide (¬ aeq (An.l [(An.i ((z2.1 : Nat) : Int)), (An.t (z2.2.1.map (fun (x : Nat × Nat) => An.t [(fun n : Nat => An.i (n : Int)) x.1, (fun n : Nat => An.i (n : Int)) x.2])))]) (An.l [(An.i ((z1.1 : Nat) : Int)), (An.t (z1.2.1.map (fun (x : Nat × Nat) => An.t [(fun n : Nat => An.i (n : Int)) x.1, (fun n : Nat => An.i (n : Int)) x.2])))]) = true)) (c_neA (K := K) val_c val_c w.f r37 w.f r38 c6) ?_
              exact hN15 (decide (¬ aeq (An.l [(An.i ((z2.1 : Nat) : Int)), (An.t (z2.2.1.map (fun (x : Nat × Nat) => An.t [(fun n : Nat => An.i (n : Int)) x.1, (fun n : Nat => An.i (n : Int)) x.2])))]) (An.l [(An.i ((z1.1 : Nat) : Int)), (An.t (z1.2.1.map (fun (x : Nat × Nat) => An.t [(fun n : Nat => An.i (n : Int)) x.1, (fun n : Nat => An.i (n : Int)) x.2])))]) = true)) _ _ ⟨rfl, w, gx5, x14, x15⟩ hW
          intro b2 F28 H33 hI4 hW
          obtain ⟨_, w, gx6, x20, x21⟩ := hI4
          have r1 := Rep.mono _ gx6 r1
          have r2 := Rep.mono _ gx6 r2
          have r5 := Rep.mono _ gx6 r5
          have r8 := Rep.mono _ gx6 r8
          have r22 := Rep.mono _ gx6 r22
          have gx2 := Ex.tr gx2 gx6
          refine bb_if (fun hc6 => ?_) (fun hc6 => ?_)
          · have hW := ifP hW hc6
            refine a_ret (v := (.bl (false))) val_c ?_
            exact hQ _ hW _ _ w
          · have hW := ifN hW hc6
            refine hN14 _ _ ?_
            refine q_sq fun N16 hN16 => ?_
            refine a_asgE ?_
            refine e_lst ?_
            obtain ⟨v19, r39, ix14⟩ := ix_3b (K := K) r2 w.f
            refine a_val (v := (.int ((z1.2.1.length : Nat) : Int))) (len_L r39 w.f (ix14 (val_var rfl) val_c)) ?_
            obtain ⟨v20, r40, ix15⟩ := ix_3c (K := K) r2 w.f
            refine a_val (v := (.int ((z1.2.2.length : Nat) : Int))) (len_L r40 w.f (ix15 (val_var rfl) val_c)) ?_
            refine a_nil ?_
            refine n_lstX (e := pN) (xs := [z1.2.1.length, z1.2.2.length]) (vs := [(.int ((z1.2.1.length : Nat) : Int)), (.int ((z1.2.2.length : Nat) : Int))]) (show All pN _ [(.int ((z1.2.1.length : Nat) : Int)), (.int ((z1.2.2.length : Nat) : Int))] [z1.2.1.length, z1.2.2.length] from ⟨rfl, ⟨rfl, trivial⟩⟩) (show 2 < 1000000 from by decide) w ?_
            intro p21 H34 hp12 s29 x24
            have ne28 := x20.ne hp12
            have ne29 := x21.ne hp12
            replace r1 := Rep.mono _ s29.g r1
            replace r2 := Rep.mono _ s29.g r2
            replace x20 := x20.step s29
            replace x21 := x21.step s29
            replace r5 := Rep.mono _ s29.g r5
            replace r8 := Rep.mono _ s29.g r8
            replace r22 := Rep.mono _ s29.g r22
            replace r39 := Rep.mono _ s29.g r39
            replace r40 := Rep.mono _ s29.g r40
            replace w := w.tr s29
            replace gx2 := Ex.tr gx2 s29.g
            obtain ⟨F29, w14, g10, r41, fz10⟩ := x24.frzE w
            replace r1 := Rep.mono _ g10 r1
            replace r2 := Rep.mono _ g10 r2
            replace x20 := x20.frzO fz10 ne28 g10
            replace x21 := x21.frzO fz10 ne29 g10
            replace r5 := Rep.mono _ g10 r5
            replace r8 := Rep.mono _ g10 r8
            replace r22 := Rep.mono _ g10 r22
            replace r39 := Rep.mono _ g10 r39
            replace r40 := Rep.mono _ g10 r40
            replace w := w14
            replace gx2 := Ex.tr gx2 g10
            refine hN16 _ _ ?_
            refine a_retE ?_
            refine e_jnV hW (fun b F' H' => b = b ∧ Wf F0 H0 F' H' ∧ Ex F29 F' ∧ XL (pT2 pN pN) H0 F' H' p1 (z1.2.1 ++ [(0, 0)]) ∧ XL (pT2 pN pN) H0 F' H' p2 ([] : List (Nat × Nat))) ?_ ?_
            · intro N17 hN17 hW
              have gx7 : Ex F29 F29 := Ex.rfl'
              refine e_AndV ?_
              refine e_op ?_
              obtain ⟨v21, r42, fl3⟩ := fl_33 (K := K) T.cl_Machine T.na_Machine_outs r8 w.f
              refine e_val (v := v21) (fl3 (val_var rfl)) ?_
              refine e_cb ?_
              obtain ⟨v22, r43, ix16⟩ := ix_3c (K := K) r2 w.f
              refine a_val (v := v22) (ix16 (val_var rfl) val_c) ?_
              refine a_nil ?_
              refine n_tupOf r43 w ?_
              intro p22 F30 H35 s30 r44
              replace r1 := Rep.mono _ s30.g r1
              replace r2 := Rep.mono _ s30.g r2
              replace x20 := x20.step s30
              replace x21 := x21.step s30
              replace r5 := Rep.mono _ s30.g r5
              replace r8 := Rep.mono _ s30.g r8
              replace r22 := Rep.mono _ s30.g r22
              replace r41 := Rep.mono _ s30.g r41
              replace r42 := Rep.mono _ s30.g r42
              replace r43 := Rep.mono _ s30.g r43
              replace w := w.tr s30
              replace gx7 := Ex.tr gx7 s30.g
              replace gx2 := Ex.tr gx2 s30.g
              refine rv2 (z := .bl (decide (z2.2.2 = z1.2.2))) (c_eqD (K := K) (e := (pTL (pT2 pN pN))) val_c val_c w.f r42 w.f r44) ?_
              refine bl_if ?_
              refine b_if (fun hc7 => ?_) (fun hc7 => ?_)
              · have hW := ifP hW hc7
                refine e_op ?_
                refine e_lst ?_
                refine a_cons ?_
                refine e_md ?_
                refine e_val (v := (.ref ob1)) (val_var rfl) ?_
                obtain ⟨p23, dx8, fs6, ev6, ho6, lm6⟩ := me_3 (m := "stores") r8 w.f
                refine ⟨_, _, _, ev6, ho6, lm6, ?_⟩
                refine a_nil ?_
                refine ⟨F30, ((.ref ob1)), (z2), _, rfl, w.f, r8, hW, ?_⟩
                intro z11 hW F31 H36 s31
                replace r1 := Rep.mono _ s31.g r1
                replace r2 := Rep.mono _ s31.g r2
                replace x20 := x20.step s31
                replace x21 := x21.step s31
                replace r5 := Rep.mono _ s31.g r5
                replace r8 := Rep.mono _ s31.g r8
                replace r22 := Rep.mono _ s31.g r22
                replace r41 := Rep.mono _ s31.g r41
                replace r42 := Rep.mono _ s31.g r42
                replace r43 := Rep.mono _ s31.g r43
                replace r44 := Rep.mono _ s31.g r44
                replace w := w.tr s31
                replace gx7 := Ex.tr gx7 s31.g
                replace gx2 := Ex.tr gx2 s31.g
                refine a_cons ?_
                refine e_md ?_
                refine e_val (v := (.ref ob1)) (val_var rfl) ?_
                obtain ⟨p24, dx9, fs7, ev7, ho7, lm7⟩ := me_3 (m := "outputs") r8 w.f
                refine ⟨_, _, _, ev7, ho7, lm7, ?_⟩
                refine a_nil ?_
                refine ⟨F31, ((.ref ob1)), (z2), _, rfl, w.f, r8, hW, ?_⟩
                intro z12 hW F32 H37 s32
                replace r1 := Rep.mono _ s32.g r1
                replace r2 := Rep.mono _ s32.g r2
                replace x20 := x20.step s32
                replace x21 := x21.step s32
                replace r5 := Rep.mono _ s32.g r5
                replace r8 := Rep.mono _ s32.g r8
                replace r22 := Rep.mono _ s32.g r22
                replace r41 := Rep.mono _ s32.g r41
                replace r42 := Rep.mono _ s32.g r42
                replace r43 := Rep.mono _ s32.g r43
                replace r44 := Rep.mono _ s32.g r44
                replace w := w.tr s32
                replace gx7 := Ex.tr gx7 s32.g
                replace gx2 := Ex.tr gx2 s32.g
                refine a_nil ?_
                refine n_lstX (e := pN) (xs := [z11, z12]) (vs := [(.int ((z11 : Nat) : Int)), (.int ((z12 : Nat) : Int))]) (show All pN _ [(.int ((z11 : Nat) : Int)), (.int ((z12 : Nat) : Int))] [z11, z12] from ⟨rfl, ⟨rfl, trivial⟩⟩) (show 2 < 1000000 from by decide) w ?_
                intro p25 H38 hp13 s33 x27
                have ne30 := x20.ne hp13
                have ne31 := x21.ne hp13
                replace r1 := Rep.mono _ s33.g r1
                replace r2 := Rep.mono _ s33.g r2
                replace x20 := x20.step s33
                replace x21 := x21.step s33
                replace r5 := Rep.mono _ s33.g r5
                replace r8 := Rep.mono _ s33.g r8
                replace r22 := Rep.mono _ s33.g r22
                replace r41 := Rep.mono _ s33.g r41
                replace r42 := Rep.mono _ s33.g r42
                replace r43 := Rep.mono _ s33.g r43
                replace r44 := Rep.mono _ s33.g r44
                replace w := w.tr s33
                replace gx7 := Ex.tr gx7 s33.g
                replace gx2 := Ex.tr gx2 s33.g
                refine e_val (v := (.ref p21)) (val_var rfl) ?_
                obtain ⟨F33, w15, g11, r45, fz11⟩ := x27.frzE w
                replace r1 := Rep.mono _ g11 r1
                replace r2 := Rep.mono _ g11 r2
                replace x20 := x20.frzO fz11 ne30 g11
                replace x21 := x21.frzO fz11 ne31 g11
                replace r5 := Rep.mono _ g11 r5
                replace r8 := Rep.mono _ g11 r8
                replace r22 := Rep.mono _ g11 r22
                replace r41 := Rep.mono _ g11 r41
                replace r42 := Rep.mono _ g11 r42
                replace r43 := Rep.mono _ g11 r43
                replace r44 := Rep.mono _ g11 r44
                replace w := w15
                replace gx7 := Ex.tr gx7 g11
                replace gx2 := Ex.tr gx2 g11
                refine rv2 (z := .bl (decide ([z11, z12] = [z1.2.1.length, z1.2.2.length]))) (c_eqD (K := K) (e := (pL pN)) val_c val_c w.f r45 w.f r41) ?_
                exact hN17 (decide ([z11, z12] = [z1.2.1.length, z1.2.2.length])) _ _ ⟨rfl, w, gx7, x20, x21⟩ hW
              · have hW := ifN hW hc7
                exact hN17 false _ _ ⟨rfl, w, gx7, x20, x21⟩ hW
            intro b3 F34 H39 hI5 hW
            obtain ⟨_, w, gx8, x25, x26⟩ := hI5
            have r1 := Rep.mono _ gx8 r1
            have r2 := Rep.mono _ gx8 r2
            have r5 := Rep.mono _ gx8 r5
            have r8 := Rep.mono _ gx8 r8
            have r22 := Rep.mono _ gx8 r22
            have r41 := Rep.mono _ gx8 r41
            have gx2 := Ex.tr gx2 gx8
            exact hQ _ hW _ _ w
end My
namespace My
open Wk
def cellV (s : List Int) (k : Nat) : Int := if h : k < s.length then s[k] else ((41 * k + 3 : Nat) : Int)
theorem w_cell {s : List Int} {k : Nat} {R : Int → Prop} (h : R (cellV s k)) : W_cell s k R := by
  unfold W_cell
  unfold cellV at h
  by_cases e : k < s.length
  · rw [dif_pos e] at h; rw [if_pos e]; exact ⟨_, List.getElem?_eq_getElem e, h⟩
  · rw [dif_neg e] at h; rw [if_neg e]; exact h
def mixN (c : Int) (k : Nat) : Nat := (((modN c 2147483647) * 48271) + (7919 * k) + 11) % 2147483647
def mixV (c : Int) (k : Nat) : Nat := ((mixN c k * mixN c k % 2147483629) * ((mixN c k * mixN c k % 2147483629 + 48271 * k) + 7)) % 2147483587
theorem w_mix {c : Int} {k : Nat} {R : Nat → Prop} (h : R (mixV c k)) : W_mix c k R := by
  rintro _ rfl
  have b : mixN c k < 2 ^ 64 := Nat.lt_trans (Nat.mod_lt _ (by decide)) (by decide)
  refine ⟨.inl b, ?_⟩
  rintro _ rfl
  exact ⟨.inl (Nat.lt_trans (Nat.mod_lt _ (by decide)) (by decide)), h⟩
end My
namespace My
open Wk
theorem fine_i {z : Int} : fineA (An.i z) := trivial
theorem w_is_whole {x : An} (hf : fineA x) {R : Bool → Prop} (h1 : ∀ z : Int, x = An.i z → R true) (h0 : (∀ z : Int, x ≠ An.i z) → R false) : W_is_whole x R := by
  show R (decide (_ ∧ _))
  by_cases h : ∃ z : Int, x = An.i z
  · rw [decide_eq_true ((isA_int x hf).mpr h)]
    obtain ⟨z, e⟩ := h
    exact h1 z e
  · rw [decide_eq_false (fun q => h ((isA_int x hf).mp q))]
    exact h0 fun z e => h ⟨z, e⟩
theorem w_is_mask {x : An} {w : Nat} (hf : fineA x) (hw : w < 100000000) {R : Bool → Prop} (h1 : okA x w → R true) (h0 : ¬ okA x w → R false) : W_is_mask x w R := by
  refine jnI (w_is_whole hf (fun z e => ?_) fun hn => ?_)
  · rw [if_pos rfl]
    refine ⟨z, e, hw, ?_⟩
    have hp : ((2 ^ w : Nat) : Int) = ((2 ^ w : Nat) : Int) := rfl
    by_cases h : ((0 : Nat) : Int) ≤ z ∧ z < ((2 ^ w : Nat) : Int)
    · rw [decide_eq_true h]
      refine h1 ⟨z.toNat, ?_, ?_⟩
      · rw [e, Int.toNat_of_nonneg (by have := h.1; omega)]
      · have := h.1; have := h.2; omega
    · rw [decide_eq_false h]
      refine h0 fun ⟨n, e2, hn⟩ => h ?_
      rw [e] at e2
      have e3 : z = (n : Int) := An.i.inj e2
      rw [e3]
      exact ⟨by omega, by omega⟩
  · rw [if_neg (by simp)]
    exact h0 fun ⟨n, e, _⟩ => hn _ e
theorem okA_nat {n w : Nat} : okA (An.i (n : Int)) w ↔ n < 2 ^ w := by
  constructor
  · rintro ⟨m, e, h⟩
    have e2 : (n : Int) = (m : Int) := An.i.inj e
    have : n = m := by omega
    rw [this]; exact h
  · exact fun h => ⟨n, rfl, h⟩
end My
namespace My
open Wk
theorem w_is_pairs {ps : List (Nat × Nat)} {most st inp : Nat} (hl : ps.length ≤ most) (hs : st < 100000000) (hi : inp < 100000000) (h : ∀ p ∈ ps, p.1 < 2 ^ st ∧ p.2 < 2 ^ inp) {R : Bool → Prop} (hR : R true) : W_is_pairs ps most st inp R := by
  unfold W_is_pairs
  rw [if_neg (by omega)]
  refine forW_unit (fun p hp nx bk hn => ?_) hR
  rw [if_neg (by simp)]
  refine jnI (w_is_mask fine_i hs (fun _ => ?_) fun q => absurd (okA_nat.mpr (h p hp).1) q)
  rw [if_pos rfl]
  refine w_is_mask fine_i hi (fun _ => ?_) fun q => absurd (okA_nat.mpr (h p hp).2) q
  show if (!true) = true then _ else _
  rw [if_neg (by simp)]; exact hn
theorem w_machine_init {M : Mach} (h : MOk M) {R : Mach → Prop} (hR : R M) : W_Machine___init__ M.1 M.2.1 M.2.2 R := by
  have h1 := h.i; have h2 := h.n; have h3 := h.o
  refine jnI (w_is_whole fine_i (fun z _ => ?_) fun q => absurd rfl (q _))
  rw [if_pos rfl, decide_eq_false (fun q => q ⟨Nat.zero_le _, h1⟩)]
  show if false = true then _ else _
  rw [if_neg (by simp)]
  refine jnI (w_is_pairs h2 (by omega) (by omega) h.mn ?_)
  rw [if_pos rfl]
  refine w_is_pairs h3 (by omega) (by omega) h.mo ?_
  show if (!true) = true then _ else _
  rw [if_neg (by simp)]; exact hR
end My
namespace My
open Wk
theorem w_masks {c : Int} {st n w : Nat} {d : Bool} (hn : n ≤ 64) (hw : w ≤ 16) {R : List Nat → Prop} (h : ∀ l : List Nat, l.length = n → (∀ x ∈ l, x < 2 ^ w) → R l) : W_masks c st n w d R := by
  have hm : n * w ≤ 1024 := Nat.mul_le_mul hn hw
  refine ⟨.inl (by omega), by omega, ?_⟩
  rintro _ rfl
  refine ⟨by omega, forW_ind (fun pre (s : List Nat × Nat) => s.1.length = pre.length ∧ ∀ x ∈ s.1, x < 2 ^ w) ⟨rfl, fun x hx => by cases hx⟩ (fun pre k post s nx bk e hs hnx _ => ?_) fun s hs => ?_⟩
  · obtain ⟨found, left⟩ := s
    obtain ⟨h1, h2⟩ := hs
    have h1 : found.length = pre.length := h1
    have hl : pre.length < n := by
      have := congrArg List.length e
      rw [List.length_range, List.length_append, List.length_cons] at this; omega
    have snoc : ∀ y, y < 2 ^ w → (found ++ [y]).length = (pre ++ [k]).length ∧ ∀ x ∈ found ++ [y], x < 2 ^ w := fun y hy => by
      refine ⟨by rw [List.length_append, List.length_append, h1]; rfl, fun x hx => ?_⟩
      rcases List.mem_append.mp hx with q | q
      · exact h2 x q
      · rw [List.mem_singleton.mp q]; exact hy
    show if d = true then _ else _
    by_cases hd : d = true
    · rw [if_pos hd]
      refine ⟨by omega, by omega, by omega, NDiv_pow (by omega), ?_⟩
      rintro _ rfl
      exact hnx _ (snoc _ (Nat.mod_lt _ (Nat.two_pow_pos w)))
    · rw [if_neg hd]
      refine w_mix ⟨by omega, by omega, hnx _ (snoc _ (Nat.mod_lt _ (Nat.two_pow_pos w)))⟩
  · refine h _ ?_ hs.2
    rw [hs.1, List.length_range]
theorem and_lt {a b w : Nat} (h : a < 2 ^ w) : a &&& b < 2 ^ w := Nat.lt_of_le_of_lt Nat.and_le_left h
theorem w_thinned {l : List Nat} {c : Int} {st way w : Nat} (hl : l.length ≤ 16) (hw : l.length ≤ w) (hm : ∀ x ∈ l, x < 2 ^ w) {R : List Nat → Prop} (h : ∀ l' : List Nat, l'.length = l.length → (∀ x ∈ l', x < 2 ^ w) → R l') : W_thinned l c st way R := by
  refine forW_enum (fun pre (s : List Nat) => s.length = pre.length ∧ ∀ x ∈ s, x < 2 ^ w) ⟨rfl, fun x hx => by cases hx⟩ (fun pre p post s nx bk e hs hnx => ?_) fun s hs => h s hs.1 hs.2
  obtain ⟨h1, h2⟩ := hs
  have hlen : pre.length < l.length := by rw [e, List.length_append, List.length_cons]; omega
  have hp : p < 2 ^ w := hm p (by rw [e]; simp)
  have fin : ∀ y, y < 2 ^ w → s.length < 1000000 ∧ nx (s ++ [y]) := fun y hy => by
    refine ⟨by omega, hnx _ ⟨by rw [List.length_append, List.length_append, h1]; rfl, fun x hx => ?_⟩⟩
    rcases List.mem_append.mp hx with q | q
    · exact h2 x q
    · rw [List.mem_singleton.mp q]; exact hy
  have s3 : ∀ y, y < 2 ^ w → jn (fun kk => if way = 3 then (∃ x7, [43690, 21845][pre.length % 2]? = some x7 ∧ ∀ mask7 : Nat, mask7 = y &&& x7 → kk mask7) else (kk y)) fun mask6 => (s.length < 1000000) ∧ nx (s ++ [mask6]) := fun y hy => by
    refine jnI ?_
    by_cases q : way = 3
    · rw [if_pos q]
      rcases Nat.mod_two_eq_zero_or_one pre.length with f | f
      · rw [f]; refine ⟨_, rfl, ?_⟩; rintro _ rfl; exact fin _ (and_lt hy)
      · rw [f]; refine ⟨_, rfl, ?_⟩; rintro _ rfl; exact fin _ (and_lt hy)
    · rw [if_neg q]; exact fin _ hy
  have s2 : ∀ y, y < 2 ^ w → jn (fun kk => if (way = 2) ∧ (0 < pre.length) then ((1 ≤ pre.length) ∧ (pre.length - 1 < 100000000) ∧ ∀ mask5 : Nat, mask5 = 2 ^ (pre.length - 1) → kk mask5) else (kk y)) fun mask4 => jn (fun kk => if way = 3 then (∃ x7, [43690, 21845][pre.length % 2]? = some x7 ∧ ∀ mask7 : Nat, mask7 = mask4 &&& x7 → kk mask7) else (kk mask4)) fun mask6 => (s.length < 1000000) ∧ nx (s ++ [mask6]) := fun y hy => by
    refine jnI ?_
    by_cases q : (way = 2) ∧ (0 < pre.length)
    · rw [if_pos q]
      have q2 := q.2
      refine ⟨by omega, by omega, ?_⟩
      rintro _ rfl
      exact s3 _ (Nat.pow_lt_pow_right (by decide) (by omega))
    · rw [if_neg q]; exact s3 _ hy
  refine jnI ?_
  show if way = 1 then _ else _
  by_cases q : way = 1
  · rw [if_pos q]
    refine w_mix ?_
    rintro _ rfl
    exact s2 _ (and_lt hp)
  · rw [if_neg q]; exact s2 _ hp
theorem comp_and {l : List Nat} {w : Nat} (hl : l.length ≤ 16) (hm : ∀ x ∈ l, x < 2 ^ w) {bd : Nat × Nat → (Option Nat → Prop) → Prop} {K : List Nat → Prop} (hb : ∀ it kk, (∀ y, kk (some (it.2 &&& y))) → bd it kk) (h : ∀ l' : List Nat, l'.length = l.length → (∀ x ∈ l', x < 2 ^ w) → K l') : (enumT l).length < 1000000 ∧ compW (enumT l) bd K := by
  refine ⟨by rw [enumT_len]; omega, compW_rel (fun it o => ∃ y, o = some (it.2 &&& y)) (fun it hit kk hk => hb it kk fun y => hk _ ⟨y, rfl⟩) fun ys hys => ?_⟩
  have key : ∀ (xs : List (Nat × Nat)) (ys : List Nat), CR (fun (it : Nat × Nat) (o : Option Nat) => ∃ y, o = some (it.2 &&& y)) xs ys → (∀ x ∈ xs, x.2 < 2 ^ w) → ys.length = xs.length ∧ ∀ x ∈ ys, x < 2 ^ w := by
    intro xs
    induction xs with
    | nil => rintro ys rfl _; exact ⟨rfl, fun x hx => by cases hx⟩
    | cons x xs ih =>
      rintro ys ⟨o, ys', ⟨y, eo⟩, ey, hc⟩ hx
      obtain ⟨a, b⟩ := ih ys' hc fun z hz => hx z (List.mem_cons_of_mem _ hz)
      subst eo ey
      refine ⟨by show (_ :: ys').length = _; rw [List.length_cons, a]; rfl, fun z hz => ?_⟩
      have hz' : z = x.2 &&& y ∨ z ∈ ys' := List.mem_cons.mp hz
      rcases hz' with q | q
      · rw [q]; exact and_lt (hx x (List.mem_cons_self ..))
      · exact b z q
  obtain ⟨a, b⟩ := key _ _ hys fun x hx => hm _ (by rw [← enumT_snd l]; exact List.mem_map_of_mem hx)
  exact h ys (by rw [a, enumT_len]) b
theorem zip_ok {n w v : Nat} {a b : List Nat} (ha : a.length = n) (hb : b.length = n) (h1 : ∀ x ∈ a, x < 2 ^ w) (h2 : ∀ x ∈ b, x < 2 ^ v) : (a.zip b).length = n ∧ ∀ p ∈ a.zip b, p.1 < 2 ^ w ∧ p.2 < 2 ^ v := by
  refine ⟨by rw [List.length_zip, ha, hb, Nat.min_self], fun p hp => ?_⟩
  obtain ⟨x, y⟩ := p
  have := List.of_mem_zip hp
  exact ⟨h1 _ this.1, h2 _ this.2⟩
/-- a drawn machine -/
structure Drawn (most : Nat) (M : Mach) : Prop extends MOk M where
  n16 : M.2.1.length ≤ 16
theorem w_lmachine {s : List Int} {st most : Nat} (hmost : most ≤ 16) {R : Mach → Prop} (h : ∀ M, Drawn most M → R M) : W_machine s st most R := by
  refine w_cell ⟨by omega, ?_⟩
  rintro _ rfl
  rintro stores he
  have hst : stores ≤ 16 := by
    rw [he]
    have a : ∀ z : Int, modN z (most + 1) < most + 1 := fun z => modN_lt (by omega)
    have b : ∀ z : Int, modN z 17 < 17 := fun z => modN_lt (by decide)
    have a1 := a (cellV s st / ((2 : Nat) : Int))
    have b1 := b (cellV s st / ((512 : Nat) : Int))
    by_cases q : modN (cellV s st / ((64 : Nat) : Int)) 8 = 5
    · rw [if_pos q]; omega
    · rw [if_neg q]; omega
  clear he
  refine w_mix ?_
  rintro inp0 hi0
  refine w_mix ?_
  rintro out0 ho0
  have rest : ∀ inp out, inp ≤ 6 → out ≤ 6 → ∀ digits1 : Bool, digits1 = decide ((modN (cellV s st) 2) = 0) → W_mix (cellV s st) 3 fun z6 => ∀ way1 : Nat, way1 = z6 % 5 → W_cell s (st + 1) fun z7 => W_masks z7 100 stores stores digits1 fun z8 => W_cell s (st + 2) fun z9 => W_masks z9 140 stores inp digits1 fun z10 => jn (fun kk => if ¬ (digits1 = true) then (W_cell s (st + 1) fun z11 => W_thinned z8 z11 180 way1 fun z12 => if 0 < way1 then (((enumT z10).length < 1000000) ∧ compW (enumT z10) (fun it1 kk => W_cell s (st + 2) fun z13 => W_mix z13 (220 + it1.1) fun z14 => kk (some (it1.2 &&& z14))) fun ys1 => kk (z12, ys1)) else (kk (z12, z10))) else (kk (z8, z10))) fun (one1, other1) => W_cell s (st + 3) fun z15 => W_masks z15 260 out stores digits1 fun z16 => W_cell s (st + 4) fun z17 => W_masks z17 280 out inp digits1 fun z18 => jn (fun kk => if (¬ (digits1 = true)) ∧ (1 < way1) then (((enumT z16).length < 1000000) ∧ compW (enumT z16) (fun it2 kk => W_cell s (st + 3) fun z19 => W_mix z19 (300 + it2.1) fun z20 => kk (some (it2.2 &&& z20))) fun ys2 => kk ys2) else (kk z16)) fun shown1 => jn (fun kk => if (¬ (digits1 = true)) ∧ (2 < way1) then ((z18.length < 1000000) ∧ compW z18 (fun mask3 kk => kk (some 0)) fun ys3 => kk ys3) else (kk z18)) fun straight1 => R (inp, one1.zip other1, shown1.zip straight1) := by
    intro inp out hi ho d _
    refine w_mix ?_
    intro way _
    refine w_cell (w_masks (by omega) hst fun z8 l8 m8 => w_cell (w_masks (by omega) (by omega) fun z10 l10 m10 => jnI ?_))
    have fin : ∀ one other : List Nat, one.length = stores → (∀ x ∈ one, x < 2 ^ stores) → other.length = stores → (∀ x ∈ other, x < 2 ^ inp) → W_cell s (st + 3) fun z15 => W_masks z15 260 out stores d fun z16 => W_cell s (st + 4) fun z17 => W_masks z17 280 out inp d fun z18 => jn (fun kk => if (¬ (d = true)) ∧ (1 < way) then (((enumT z16).length < 1000000) ∧ compW (enumT z16) (fun it2 kk => W_cell s (st + 3) fun z19 => W_mix z19 (300 + it2.1) fun z20 => kk (some (it2.2 &&& z20))) fun ys2 => kk ys2) else (kk z16)) fun shown1 => jn (fun kk => if (¬ (d = true)) ∧ (2 < way) then ((z18.length < 1000000) ∧ compW z18 (fun mask3 kk => kk (some 0)) fun ys3 => kk ys3) else (kk z18)) fun straight1 => R (inp, one.zip other, shown1.zip straight1) := by
      intro one other l1 m1 l2 m2
      refine w_cell (w_masks (by omega) hst fun z16 l16 m16 => w_cell (w_masks (by omega) (by omega) fun z18 l18 m18 => jnI ?_))
      have end2 : ∀ shown : List Nat, shown.length = out → (∀ x ∈ shown, x < 2 ^ stores) → jn (fun kk => if (¬ (d = true)) ∧ (2 < way) then ((z18.length < 1000000) ∧ compW z18 (fun mask3 kk => kk (some 0)) fun ys3 => kk ys3) else (kk z18)) fun straight1 => R (inp, one.zip other, shown.zip straight1) := by
        intro shown l3 m3
        refine jnI ?_
        have end3 : ∀ str : List Nat, str.length = out → (∀ x ∈ str, x < 2 ^ inp) → R (inp, one.zip other, shown.zip str) := by
          intro str l4 m4
          obtain ⟨a1, a2⟩ := zip_ok l1 l2 m1 m2
          obtain ⟨b1, b2⟩ := zip_ok l3 l4 m3 m4
          exact h _ { i := hi, n := by show (one.zip other).length ≤ 120; omega, o := by show (shown.zip str).length ≤ 6; omega, mn := by show ∀ p ∈ one.zip other, p.1 < 2 ^ (one.zip other).length ∧ p.2 < 2 ^ inp; rw [a1]; exact a2, mo := by show ∀ p ∈ shown.zip str, p.1 < 2 ^ (one.zip other).length ∧ p.2 < 2 ^ inp; rw [a1]; exact b2, n16 := by show (one.zip other).length ≤ 16; omega }
        by_cases q : (¬ (d = true)) ∧ (2 < way)
        · rw [if_pos q]
          refine ⟨by omega, compW_map (fun _ => 0) (fun x _ kk hk => hk) (end3 _ (by rw [List.length_map, l18]) fun x hx => ?_)⟩
          obtain ⟨_, _, e⟩ := List.mem_map.mp hx
          rw [← e]; exact Nat.two_pow_pos _
        · rw [if_neg q]; exact end3 _ l18 m18
      by_cases q : (¬ (d = true)) ∧ (1 < way)
      · rw [if_pos q]
        exact comp_and (by omega) m16 (fun it kk hk => w_cell (w_mix (hk _))) fun l' a b => end2 l' (by omega) b
      · rw [if_neg q]; exact end2 _ l16 m16
    by_cases q : ¬ (d = true)
    · rw [if_pos q]
      refine w_cell (w_thinned (by omega) (by omega) m8 fun z12 l12 m12 => ?_)
      by_cases q2 : 0 < way
      · rw [if_pos q2]
        exact comp_and (by omega) m10 (fun it kk hk => w_cell (w_mix (hk _))) fun l' a b => fin _ _ (by omega) m12 (by omega) b
      · rw [if_neg q2]; exact fin _ _ (by omega) m12 l10 m10
    · rw [if_neg q]; exact fin _ _ l8 m8 l10 m10
  refine jnI ?_
  by_cases q : modN (cellV s st / ((64 : Nat) : Int)) 8 = 6
  · rw [if_pos q]
    refine w_mix ?_
    intro i3 hi3
    refine w_mix ?_
    intro o3 ho3
    exact rest i3 o3 (by omega) (by omega)
  · rw [if_neg q]; exact rest inp0 out0 (by omega) (by omega)
end My
namespace My
open Wk PySem
abbrev pq (x : Nat × Nat) : An := An.t [(fun n : Nat => An.i (n : Int)) x.1, (fun n : Nat => An.i (n : Int)) x.2]
def okP (x : An) (st inp : Nat) : Prop := ∃ a b : Nat, x = An.t [An.i (a : Int), An.i (b : Int)] ∧ a < 2 ^ st ∧ b < 2 ^ inp
def okL (x : An) (most st inp : Nat) : Prop := ∃ ys, x = An.l ys ∧ ys.length ≤ most ∧ ∀ y ∈ ys, okP y st inp
def fineP : An → Prop
  | .o T => T ≠ "tuple"
  | .t zs => ∀ z ∈ zs, fineA z
  | _ => True
def fineL : An → Prop
  | .o T => T ≠ "list"
  | .l ys => ∀ y ∈ ys, fineP y
  | _ => True
theorem isA_t {x : An} (f : fineP x) (h : isA "tuple" x = true) : ∃ zs, x = An.t zs := by
  cases x with
  | t zs => exact ⟨zs, rfl⟩
  | o T => exact absurd (by simpa [isA, An.ty] using h) (show T ≠ "tuple" from f)
  | _ => simp [isA, An.ty] at h
theorem isA_l {x : An} (f : fineL x) (h : isA "list" x = true) : ∃ zs, x = An.l zs := by
  cases x with
  | l zs => exact ⟨zs, rfl⟩
  | o T => exact absurd (by simpa [isA, An.ty] using h) (show T ≠ "list" from f)
  | _ => simp [isA, An.ty] at h
theorem isA_lt (zs : List An) : isA "list" (An.l zs) = true := by simp [isA, An.ty]
theorem isA_tt (zs : List An) : isA "tuple" (An.t zs) = true := by simp [isA, An.ty]
theorem okP_of {a b : An} {st inp : Nat} (h : okA a st) (k : okA b inp) : okP (An.t [a, b]) st inp := by
  obtain ⟨n, rfl, h⟩ := h
  obtain ⟨m, rfl, k⟩ := k
  exact ⟨n, m, rfl, h, k⟩
theorem okP_to {a b : An} {st inp : Nat} (h : okP (An.t [a, b]) st inp) : okA a st ∧ okA b inp := by
  obtain ⟨n, m, e, h, k⟩ := h
  have e2 := An.t.inj e
  have e3 : a = An.i (n : Int) := (List.cons.inj e2).1
  have e4 : b = An.i (m : Int) := (List.cons.inj (List.cons.inj e2).2).1
  exact ⟨⟨n, e3, h⟩, ⟨m, e4, k⟩⟩
theorem w_is_pairs_any {x : An} {most st inp : Nat} (fx : fineL x) (hs : st < 100000000) (hi : inp < 100000000) {R : Bool → Prop} (h1 : okL x most st inp → R true) (h0 : ¬ okL x most st inp → R false) : W_is_pairs_any x most st inp R := by
  refine jnI ?_
  by_cases q : isA "list" x = true
  · obtain ⟨ys, rfl⟩ := isA_l fx q
    rw [if_neg (fun z => z q)]
    refine ⟨ys, rfl, ?_⟩
    by_cases hl : most < ys.length
    · rw [decide_eq_true hl]; show if true = true then _ else _; rw [if_pos rfl]
      exact h0 fun ⟨zs, e, l, _⟩ => by rw [← An.l.inj e] at l; omega
    · rw [decide_eq_false hl]; show if false = true then _ else _; rw [if_neg (by simp)]
      refine ⟨ys, rfl, forW_ind (fun pre _ => ∀ y ∈ pre, okP y st inp) (fun _ h => absurd h (by simp)) (fun pre y post t nx bk e et hn _ => ?_) fun t et => h1 ⟨ys, rfl, by omega, et⟩⟩
      have ym : y ∈ ys := by rw [e]; simp
      have fy : fineP y := fx y ym
      have bad : ¬ okP y st inp → R false := fun n => h0 fun ⟨zs, e, _, l⟩ => n (l y (by rw [← An.l.inj e]; exact ym))
      refine jnI ?_
      by_cases qt : isA "tuple" y = true
      · obtain ⟨zs, rfl⟩ := isA_t fy qt
        rw [if_neg (fun z => z qt)]
        refine ⟨zs, rfl, ?_⟩
        by_cases h2 : zs.length = 2
        · obtain ⟨a, b, rfl⟩ : ∃ a b, zs = [a, b] := by
            match zs, h2 with
            | [a, b], _ => exact ⟨a, b, rfl⟩
          rw [decide_eq_false (fun z => z rfl)]; show if false = true then _ else _; rw [if_neg (by simp)]
          refine jnI ⟨[a, b], rfl, a, rfl, w_is_mask (fy a (by simp)) hs (fun oa => ?_) fun na => ?_⟩
          · rw [if_pos rfl]
            refine ⟨b, rfl, w_is_mask (fy b (by simp)) hi (fun ob => ?_) fun nb => ?_⟩
            · show if (!true) = true then _ else _
              rw [if_neg (by simp)]
              exact hn _ fun z hz => by
                rcases List.mem_append.mp hz with m | m
                · exact et z m
                · rw [List.mem_singleton.mp m]; exact okP_of oa ob
            · show if true = true then _ else _
              rw [if_pos rfl]
              exact bad fun q => nb (okP_to q).2
          · rw [if_neg (by simp)]; show if true = true then _ else _; rw [if_pos rfl]
            exact bad fun q => na (okP_to q).1
        · rw [decide_eq_true h2]; show if true = true then _ else _; rw [if_pos rfl]
          exact bad fun ⟨a, b, e, _⟩ => h2 (by rw [An.t.inj e]; rfl)
      · rw [if_pos qt]; show if true = true then _ else _; rw [if_pos rfl]
        exact bad fun ⟨a, b, e, _⟩ => qt (by rw [e]; exact isA_tt _)
  · rw [if_pos q]; show if true = true then _ else _; rw [if_pos rfl]
    exact h0 fun ⟨ys, e, _⟩ => q (by rw [e]; exact isA_lt _)
def goodT (a n o : An) : Prop := ∃ k : Nat, a = An.i (k : Int) ∧ k ≤ 6 ∧ ∃ ys, n = An.l ys ∧ okL n 120 ys.length k ∧ okL o 6 ys.length k
theorem w_init_bad {a n o : An} (fa : fineA a) (fn : fineL n) (fo : fineL o) (hl : ∀ ys, n = An.l ys → ys.length < 1000000) (hb : ¬ goodT a n o) {E : Prop} {R : Unit → Prop} (h : E) : W_Machine___init___bad a n o E R := by
  refine jnI (w_is_whole fa (fun z e => ?_) fun hn => ?_)
  · rw [if_pos rfl]
    refine ⟨z, e, ?_⟩
    by_cases q : (¬ (((0 : Nat) : Int) ≤ z ∧ z ≤ ((6 : Nat) : Int))) ∨ (¬ ((isA "list" n) = true))
    · rw [decide_eq_true q]; show if true = true then _ else _; rw [if_pos rfl]; exact h
    · rw [decide_eq_false q]; show if false = true then _ else _; rw [if_neg (by simp)]
      have q1 : ((0 : Nat) : Int) ≤ z ∧ z ≤ ((6 : Nat) : Int) := Classical.byContradiction fun w => q (.inl w)
      have q2 : isA "list" n = true := Classical.byContradiction fun w => q (.inr w)
      obtain ⟨ys, rfl⟩ := isA_l fn q2
      have e1 : z = ((z.toNat : Nat) : Int) := by have := q1.1; omega
      have e2 : z.toNat ≤ 6 := by have := q1.2; omega
      have l := hl ys rfl
      refine ⟨z.toNat, by rw [e, ← e1], jnI ⟨ys, rfl, w_is_pairs_any fn (by omega) (by omega) (fun o1 => ?_) fun _ => ?_⟩⟩
      · rw [if_pos rfl]
        refine w_is_pairs_any fo (by omega) (by omega) (fun o2 => ?_) fun _ => ?_
        · exact absurd ⟨z.toNat, by rw [e, ← e1], e2, ys, rfl, o1, o2⟩ hb
        · show if true = true then _ else _
          rw [if_pos rfl]; exact h
      · rw [if_neg (by simp)]; show if true = true then _ else _; rw [if_pos rfl]; exact h
  · rw [if_neg (by simp)]; show if true = true then _ else _; rw [if_pos rfl]; exact h
theorem w_refused {t : An × An × An} (fa : fineA t.1) (fn : fineL t.2.1) (fo : fineL t.2.2) (hl : ∀ ys, t.2.1 = An.l ys → ys.length < 1000000) (hb : ¬ goodT t.1 t.2.1 t.2.2) {R : Option (List Bool) → Prop} (h : R (some [true, true, false])) : W_refused t R :=
  jnI (w_init_bad fa fn fo hl hb h)
theorem w_bad {c : Int} {w : Nat} (hw : w < 1000000) {R : An → Prop} (h : ∀ x, fineA x → ¬ okA x w → R x) : W_bad_mask c w R := by
  rintro far _
  have neg : ∀ z : Int, z < 0 → ¬ okA (An.i z) w := fun z hz ⟨n, e, _⟩ => by
    have : z = (n : Int) := An.i.inj e
    omega
  refine ⟨by omega, by omega, ?_⟩
  have hj : modN c 8 < 8 := modN_lt (by decide)
  generalize modN c 8 = j at *
  have : j = 0 ∨ j = 1 ∨ j = 2 ∨ j = 3 ∨ j = 4 ∨ j = 5 ∨ j = 6 ∨ j = 7 := by omega
  rcases this with q | q | q | q | q | q | q | q <;> subst q
  · exact ⟨_, rfl, h _ fine_i fun q => by have := okA_nat.mp q; omega⟩
  · exact ⟨_, rfl, h _ fine_i fun q => by have := okA_nat.mp q; omega⟩
  · exact ⟨_, rfl, h _ fine_i (neg _ (by omega))⟩
  · exact ⟨_, rfl, h _ fine_i (neg _ (by omega))⟩
  · exact ⟨_, rfl, h _ trivial fun ⟨n, e, _⟩ => by cases e⟩
  · exact ⟨_, rfl, h _ trivial fun ⟨n, e, _⟩ => by cases e⟩
  · exact ⟨_, rfl, h _ trivial fun ⟨n, e, _⟩ => by cases e⟩
  · exact ⟨_, rfl, h _ trivial fun ⟨n, e, _⟩ => by cases e⟩
theorem w_pair_spoilt {p : Nat × Nat} {c : Int} {st inp : Nat} (hs : st < 1000000) (hi : inp < 1000000) {R : An → Prop} (h : ∀ x, fineP x → ¬ okP x st inp → R x) : W_pair_spoilt p c st inp R := by
  rintro way _
  by_cases q : way < 2
  · rw [if_pos q]
    refine w_bad hs fun x fx nx => h _ (fun z hz => ?_) fun q => nx (okP_to q).1
    rcases List.mem_cons.mp hz with e | e
    · rw [e]; exact fx
    · rw [List.mem_singleton.mp e]; exact fine_i
  · rw [if_neg q]
    by_cases q2 : way < 4
    · rw [if_pos q2]
      refine w_bad hi fun x fx nx => h _ (fun z hz => ?_) fun q => nx (okP_to q).2
      rcases List.mem_cons.mp hz with e | e
      · rw [e]; exact fine_i
      · rw [List.mem_singleton.mp e]; exact fx
    · rw [if_neg q2]
      have hj : modN (c / ((6 : Nat) : Int)) 5 < 5 := modN_lt (by decide)
      generalize modN (c / ((6 : Nat) : Int)) 5 = j at *
      have : j = 0 ∨ j = 1 ∨ j = 2 ∨ j = 3 ∨ j = 4 := by omega
      rcases this with q | q | q | q | q <;> subst q
      · exact ⟨_, rfl, h _ trivial fun ⟨a, b, e, _⟩ => by cases e⟩
      · refine ⟨_, rfl, h _ (fun z hz => ?_) fun ⟨a, b, e, _⟩ => ?_⟩
        · simp only [List.mem_cons, List.not_mem_nil, or_false] at hz
          rcases hz with e | e | e <;> rw [e] <;> exact fine_i
        · have := congrArg List.length (An.t.inj e)
          simp at this
      · refine ⟨_, rfl, h _ (fun z hz => ?_) fun ⟨a, b, e, _⟩ => ?_⟩
        · simp only [List.map_cons, List.map_nil, List.mem_cons, List.not_mem_nil, or_false] at hz
          rw [hz]; exact fine_i
        · have := congrArg List.length (An.t.inj e)
          simp at this
      · exact ⟨_, rfl, h _ trivial fun ⟨a, b, e, _⟩ => by cases e⟩
      · exact ⟨_, rfl, h _ trivial fun ⟨a, b, e, _⟩ => by cases e⟩
theorem fine_pq (x : Nat × Nat) : fineP (pq x) := fun z hz => by
  rcases List.mem_cons.mp hz with e | e
  · rw [e]; exact fine_i
  · rw [List.mem_singleton.mp e]; exact fine_i
theorem fine_map (xs : List (Nat × Nat)) : fineL (An.l (xs.map pq)) := fun y hy => by
  obtain ⟨x, _, e⟩ := List.mem_map.mp hy
  rw [← e]; exact fine_pq x
theorem mem_pq {y : An} {xs : List (Nat × Nat)} (h : y ∈ xs.map pq) : fineP y := fine_map xs y h
theorem nl_map (xs : List (Nat × Nat)) (h : xs.length < 1000000) : ∀ ys, An.l (xs.map pq) = An.l ys → ys.length < 1000000 := fun ys e => by
  rw [← An.l.inj e, List.length_map]; exact h
theorem nl_no {x : An} (h : ∀ ys, x ≠ An.l ys) : ∀ ys, x = An.l ys → ys.length < 1000000 := fun ys e => absurd e (h ys)
theorem w_spoilt {M : Mach} (hM : Drawn 6 M) {c : Int} {R : An × An × An → Prop} (h : ∀ a n o : An, fineA a → fineL n → fineL o → (∀ ys, n = An.l ys → ys.length < 1000000) → ¬ goodT a n o → R (a, n, o)) : W_spoilt M c R := by
  have l16 := hM.n16
  have lo := hM.o
  have li := hM.i
  have hn := nl_map M.2.1 (by omega)
  have ln : (M.2.1.map pq).length = M.2.1.length := List.length_map _
  rintro way _ rest _
  by_cases q0 : way = 0
  · rw [if_pos q0]
    have hj : modN rest 6 < 6 := modN_lt (by decide)
    generalize modN rest 6 = j at *
    have fin : ∀ x, fineA x → (∀ k : Nat, x = An.i (k : Int) → ¬ k ≤ 6) → R (x, An.l (M.2.1.map pq), An.l (M.2.2.map pq)) := fun x fx nx =>
      h _ _ _ fx (fine_map _) (fine_map _) hn fun ⟨k, e, hk, _⟩ => nx k e hk
    have : j = 0 ∨ j = 1 ∨ j = 2 ∨ j = 3 ∨ j = 4 ∨ j = 5 := by omega
    rcases this with q | q | q | q | q | q <;> subst q
    · exact ⟨_, rfl, fin _ fine_i fun k e => by have := An.i.inj e; omega⟩
    · exact ⟨_, rfl, fin _ fine_i fun k e => by have := An.i.inj e; omega⟩
    · exact ⟨_, rfl, fin _ trivial fun k e => by cases e⟩
    · exact ⟨_, rfl, fin _ trivial fun k e => by cases e⟩
    · exact ⟨_, rfl, fin _ trivial fun k e => by cases e⟩
    · exact ⟨_, rfl, fin _ fine_i fun k e => by have := An.i.inj e; omega⟩
  rw [if_neg q0]
  by_cases q1 : way = 1
  · rw [if_pos q1]
    have hj : modN rest 5 < 5 := modN_lt (by decide)
    generalize modN rest 5 = j at *
    have fin : ∀ x, fineL x → (∀ ys, x ≠ An.l ys) → R (An.i ((M.1 : Nat) : Int), x, An.l (M.2.2.map pq)) := fun x fx nx =>
      h _ _ _ fine_i fx (fine_map _) (nl_no nx) fun ⟨k, e, hk, ys, e2, _⟩ => nx ys e2
    have : j = 0 ∨ j = 1 ∨ j = 2 ∨ j = 3 ∨ j = 4 := by omega
    rcases this with q | q | q | q | q <;> subst q
    · exact ⟨_, rfl, fin _ trivial fun k e => by cases e⟩
    · exact ⟨_, rfl, fin _ trivial fun k e => by cases e⟩
    · exact ⟨_, rfl, fin _ trivial fun k e => by cases e⟩
    · exact ⟨_, rfl, fin _ trivial fun k e => by cases e⟩
    · exact ⟨_, rfl, fin _ (show "dict" ≠ "list" by decide) fun k e => by cases e⟩
  rw [if_neg q1]
  by_cases q2 : way = 2
  · rw [if_pos q2]
    have hj : modN rest 5 < 5 := modN_lt (by decide)
    generalize modN rest 5 = j at *
    have fin : ∀ x, fineL x → (∀ ys, x ≠ An.l ys) → R (An.i ((M.1 : Nat) : Int), An.l (M.2.1.map pq), x) := fun x fx nx =>
      h _ _ _ fine_i (fine_map _) fx hn fun ⟨k, e, hk, ys, e2, _, zs, e3, _⟩ => nx zs e3
    have : j = 0 ∨ j = 1 ∨ j = 2 ∨ j = 3 ∨ j = 4 := by omega
    rcases this with q | q | q | q | q <;> subst q
    · exact ⟨_, rfl, fin _ trivial fun k e => by cases e⟩
    · exact ⟨_, rfl, fin _ trivial fun k e => by cases e⟩
    · exact ⟨_, rfl, fin _ trivial fun k e => by cases e⟩
    · exact ⟨_, rfl, fin _ trivial fun k e => by cases e⟩
    · exact ⟨_, rfl, fin _ (show "dict" ≠ "list" by decide) fun k e => by cases e⟩
  rw [if_neg q2]
  have fl : ∀ (n : Nat) (x : Nat × Nat), ((List.replicate n [x]).flatten).length = n := fun n x => by simp
  by_cases q3 : way = 3
  · rw [if_pos q3]
    have hj : modN rest 3 < 3 := modN_lt (by decide)
    refine ⟨⟨by simp; omega, by omega⟩, h _ _ _ fine_i (fine_map _) (fine_map _) (nl_map _ (by rw [fl]; omega)) fun ⟨k, e, hk, ys, e2, ⟨zs, e3, l3, _⟩, _⟩ => ?_⟩
    rw [← An.l.inj e3, List.length_map, fl] at l3
    omega
  rw [if_neg q3]
  by_cases q4 : way = 4
  · rw [if_pos q4]
    refine ⟨by omega, ⟨by simp; omega, by omega⟩, by rw [fl]; omega, h _ _ _ fine_i (fine_map _) (fine_map _) hn fun ⟨k, e, hk, ys, e2, _, zs, e3, l3, _⟩ => ?_⟩
    rw [← An.l.inj e3, List.length_map, List.length_append, fl] at l3
    omega
  rw [if_neg q4]
  have last : W_pair_spoilt (0, 0) (rest / ((16 : Nat) : Int)) M.2.1.length M.1 fun z2 => (((cutT M.2.2 none (some 5)).map pq).length + [z2].length < 1000000) ∧ R (An.i ((M.1 : Nat) : Int), An.l (M.2.1.map pq), An.l ((cutT M.2.2 none (some 5)).map pq ++ [z2])) := by
    refine w_pair_spoilt (by omega) (by omega) fun x fx nx => ⟨?_, h _ _ _ fine_i (fine_map _) (fun y hy => ?_) hn fun ⟨k, e, hk, ys, e2, _, zs, e3, _, ok⟩ => nx ?_⟩
    · rw [List.length_map]
      show (M.2.2.take 5).length + 1 < 1000000
      rw [List.length_take]; omega
    · rcases List.mem_append.mp hy with m | m
      · exact mem_pq m
      · rw [List.mem_singleton.mp m]; exact fx
    · have z := ok x (by rw [← An.l.inj e3]; simp)
      have ek : M.1 = k := by have := An.i.inj e; omega
      rw [← An.l.inj e2, ln, ← ek] at z
      exact z
  refine jnI ?_
  by_cases q5 : way = 5
  · rw [if_pos q5]
    by_cases qn : M.2.1 ≠ ([] : List (Nat × Nat))
    · rw [decide_eq_true qn]
      show if true = true then _ else _
      rw [if_pos rfl]
      have pos : 0 < M.2.1.length := List.length_pos_iff.mpr qn
      refine ⟨pos, fun at1 ha => ?_⟩
      have lt : at1 < M.2.1.length := by rw [ha]; exact modN_lt pos
      have c1 : ((cutT M.2.1 none (some at1)).map pq).length = at1 := by
        rw [List.length_map]
        show (M.2.1.take at1).length = at1
        rw [List.length_take]; omega
      have c2 : ((cutT M.2.1 (some (at1 + 1)) none).map pq).length = M.2.1.length - (at1 + 1) := by
        rw [List.length_map]
        show (M.2.1.drop (at1 + 1)).length = _
        rw [List.length_drop]
      refine ⟨_, List.getElem?_eq_getElem lt, w_pair_spoilt (by omega) (by omega) fun x fx nx => ⟨?_, ?_, h _ _ _ fine_i (fun y hy => ?_) (fine_map _) (fun ys e => ?_) fun ⟨k, e, hk, ys, e2, ⟨zs, e3, _, ok⟩, _⟩ => nx ?_⟩⟩
      · show ((cutT M.2.1 none (some at1)).map pq).length + 1 < 1000000
        omega
      · show ((cutT M.2.1 none (some at1)).map pq ++ [x]).length + ((cutT M.2.1 (some (at1 + 1)) none).map pq).length < 1000000
        rw [List.length_append, c1, c2]
        show at1 + 1 + _ < _
        omega
      · rcases List.mem_append.mp hy with m | m
        · rcases List.mem_append.mp m with m | m
          · exact mem_pq m
          · rw [List.mem_singleton.mp m]; exact fx
        · exact mem_pq m
      · rw [← An.l.inj e]
        show ((cutT M.2.1 none (some at1)).map pq ++ [x] ++ (cutT M.2.1 (some (at1 + 1)) none).map pq).length < 1000000
        rw [List.length_append, List.length_append, c1, c2]
        show at1 + 1 + _ < _
        omega
      · have z := ok x (by rw [← An.l.inj e3]; simp)
        have ek : M.1 = k := by have := An.i.inj e; omega
        have el : ys.length = M.2.1.length := by
          rw [← An.l.inj e2]
          show ((cutT M.2.1 none (some at1)).map pq ++ [x] ++ (cutT M.2.1 (some (at1 + 1)) none).map pq).length = _
          rw [List.length_append, List.length_append, c1, c2]
          show at1 + 1 + _ = _
          omega
        rw [el, ← ek] at z
        exact z
    · rw [decide_eq_false qn]
      show if false = true then _ else _
      rw [if_neg (by simp)]
      exact last
  · rw [if_neg q5]
    show if false = true then _ else _
    rw [if_neg (by simp)]
    exact last
theorem great_ok : MOk (6, (List.replicate 120 [(0, 63)]).flatten, [((2 ^ 120) - 1, 0)]) where
  i := Nat.le_refl _
  n := by show ((List.replicate 120 [((0 : Nat), (63 : Nat))]).flatten).length ≤ 120; simp
  o := by show 1 ≤ 6; decide
  mn := fun p hp => by
    have : p = (0, 63) := by simpa using hp
    rw [this]
    exact ⟨Nat.two_pow_pos _, by show 63 < 2 ^ 6; decide⟩
  mo := fun p hp => by
    have e : p = ((2 ^ 120) - 1, 0) := List.mem_singleton.mp hp
    rw [e]
    have l : ((List.replicate 120 [((0 : Nat), (63 : Nat))]).flatten).length = 120 := by simp
    refine ⟨?_, Nat.two_pow_pos _⟩
    show 2 ^ 120 - 1 < 2 ^ ((List.replicate 120 [((0 : Nat), (63 : Nat))]).flatten).length
    rw [l]; decide
theorem aok_pqs (xs : List (Nat × Nat)) (k : Nat) : aok (An.l [An.i (k : Int), An.t (xs.map pq)]) = true := by
  have e1 : ∀ ys : List (Nat × Nat), anPs (ys.map pq) = true := fun ys => by
    induction ys with
    | nil => rfl
    | cons y ys ih => show ((true && (true && true)) && anPs (ys.map pq)) = true; rw [ih]; rfl
  have e2 : ∀ ys : List (Nat × Nat), PyData.canLayAll0 (dAs (ys.map pq)) = true := fun ys => by
    induction ys with
    | nil => rfl
    | cons y ys ih => show ((true && (true && true)) && PyData.canLayAll0 (dAs (ys.map pq))) = true; rw [ih]; rfl
  have e3 : ∀ ys : List (Nat × Nat), PyData.depthAll (dAs (ys.map pq)) ≤ 1 := fun ys => by
    induction ys with
    | nil => exact Nat.zero_le _
    | cons y ys ih => show max 1 (PyData.depthAll (dAs (ys.map pq))) ≤ 1; omega
  unfold aok SeqAt.shaped
  show ((true && (anPs (xs.map pq) && true)) && (((true && (PyData.canLayAll0 (dAs (xs.map pq)) && true))) && decide (PyData.depth (dA (An.l [An.i (k : Int), An.t (xs.map pq)])) ≤ 64))) = true
  rw [e1, e2]
  have := e3 xs
  have d : PyData.depth (dA (An.l [An.i (k : Int), An.t (xs.map pq)])) ≤ 64 := by
    show max 0 (max (PyData.depthAll (dAs (xs.map pq)) + 1) 0) + 1 ≤ 64
    omega
  rw [decide_eq_true d]; rfl
theorem aeq_same (x : An) (h : aok x = true) : aeq x x = true := by
  unfold aok at h
  obtain ⟨_, h2⟩ := Bool.and_eq_true_iff.mp h
  unfold SeqAt.shaped at h2
  exact PySem.SeqAt.eqv_refl _ (Bool.and_eq_true_iff.mp h2).1
theorem w_law {s : List Int} (hl : s.length ≤ 63) {R : Bool → Prop} (hR : R true) : W_law s R := by
  refine w_lmachine (by decide) fun M hM => ?_
  refine w_machine_init hM.toMOk ?_
  have l16 := hM.n16
  refine ⟨⟨fun _ _ _ _ => ⟨trivial, trivial⟩, fun _ _ _ _ => ⟨trivial, trivial⟩⟩, ?_⟩
  rw [if_neg (fun q => q rfl)]
  refine ⟨by omega, forW_unit (fun c _ nx bk hn => ?_) ?_⟩
  · refine w_spoilt hM fun a n o fa fn fo hln hb => w_refused fa fn fo hln hb ?_
    rw [if_neg (fun q => q rfl)]; exact hn
  · refine ⟨⟨by decide, by decide⟩, Nat.two_pow_pos _, w_machine_init great_ok (jnI ?_)⟩
    have l : ((List.replicate 120 [((0 : Nat), (63 : Nat))]).flatten).length = 120 := by simp
    unfold W_Machine_stores W_Machine_outputs
    dsimp only
    rw [if_neg (fun q => q l), if_neg (by decide)]
    refine ⟨?_, jnI ?_⟩
    · show M.2.2.length < 1000000
      have := hM.o; omega
    · show if M ≠ M then _ else _
      rw [if_neg (fun q => q rfl)]
      refine ⟨⟨aok_pqs _ _, aok_pqs _ _⟩, ?_⟩
      rw [decide_eq_false (fun q => q (aeq_same _ (aok_pqs _ _)))]
      show if false = true then _ else _
      rw [if_neg (by simp)]
      refine jnI ?_
      rw [if_pos rfl]
      have e : decide ([M.2.1.length, M.2.2.length] = [M.2.1.length, M.2.2.length]) = true := decide_eq_true rfl
      show R (decide ([M.2.1.length, M.2.2.length] = [M.2.1.length, M.2.2.length]))
      rw [e]; exact hR
end My
namespace My
open PySem L2 Wk
theorem all_mk {l : PySem.W.OpenLaw} {w : World} {K : PySem.W.Frag} {h : Heap} {mg : Str → Option Value} {fa f_is_whole f_is_mask f_is_pairs f_Machine___init__ f_Machine_stores f_Machine_outputs f_Machine_told f_is_pairs_any f_Machine___init___bad f_Machine_told_one f_Machine_told_two f_cell f_mix f_masks f_thinned f_machine f_bad_mask f_pair_spoilt f_spoilt f_refused f_law C_Machine C_BadTable C_BadMask C_WireError : Addr} (X : K.In h) (G : h.Ns mainGlobals mg) (hfa : mg "law" = some (.ref fa))
    {oc_is_whole kV_is_whole dc_is_whole pm_is_whole cd_is_whole ct_is_whole : Value} {od_is_whole an_is_whole : Option Addr} {sl_is_whole : Array (Option Value)} {oc_is_mask kV_is_mask dc_is_mask pm_is_mask cd_is_mask ct_is_mask : Value} {od_is_mask an_is_mask : Option Addr} {sl_is_mask : Array (Option Value)} {oc_is_pairs kV_is_pairs dc_is_pairs pm_is_pairs cd_is_pairs ct_is_pairs : Value} {od_is_pairs an_is_pairs : Option Addr} {sl_is_pairs : Array (Option Value)} {oc_Machine___init__ kV_Machine___init__ dc_Machine___init__ pm_Machine___init__ cd_Machine___init__ ct_Machine___init__ : Value} {od_Machine___init__ an_Machine___init__ : Option Addr} {sl_Machine___init__ : Array (Option Value)} {oc_Machine_stores kV_Machine_stores dc_Machine_stores pm_Machine_stores cd_Machine_stores ct_Machine_stores : Value} {od_Machine_stores an_Machine_stores : Option Addr} {sl_Machine_stores : Array (Option Value)} {oc_Machine_outputs kV_Machine_outputs dc_Machine_outputs pm_Machine_outputs cd_Machine_outputs ct_Machine_outputs : Value} {od_Machine_outputs an_Machine_outputs : Option Addr} {sl_Machine_outputs : Array (Option Value)} {oc_Machine_told kV_Machine_told dc_Machine_told pm_Machine_told cd_Machine_told ct_Machine_told : Value} {od_Machine_told an_Machine_told : Option Addr} {sl_Machine_told : Array (Option Value)} {oc_is_pairs_any kV_is_pairs_any dc_is_pairs_any pm_is_pairs_any cd_is_pairs_any ct_is_pairs_any : Value} {od_is_pairs_any an_is_pairs_any : Option Addr} {sl_is_pairs_any : Array (Option Value)} {oc_Machine___init___bad kV_Machine___init___bad dc_Machine___init___bad pm_Machine___init___bad cd_Machine___init___bad ct_Machine___init___bad : Value} {od_Machine___init___bad an_Machine___init___bad : Option Addr} {sl_Machine___init___bad : Array (Option Value)} {oc_Machine_told_one kV_Machine_told_one dc_Machine_told_one pm_Machine_told_one cd_Machine_told_one ct_Machine_told_one : Value} {od_Machine_told_one an_Machine_told_one : Option Addr} {sl_Machine_told_one : Array (Option Value)} {oc_Machine_told_two kV_Machine_told_two dc_Machine_told_two pm_Machine_told_two cd_Machine_told_two ct_Machine_told_two : Value} {od_Machine_told_two an_Machine_told_two : Option Addr} {sl_Machine_told_two : Array (Option Value)} {oc_cell kV_cell dc_cell pm_cell cd_cell ct_cell : Value} {od_cell an_cell : Option Addr} {sl_cell : Array (Option Value)} {oc_mix kV_mix dc_mix pm_mix cd_mix ct_mix : Value} {od_mix an_mix : Option Addr} {sl_mix : Array (Option Value)} {oc_masks kV_masks dc_masks pm_masks cd_masks ct_masks : Value} {od_masks an_masks : Option Addr} {sl_masks : Array (Option Value)} {oc_thinned kV_thinned dc_thinned pm_thinned cd_thinned ct_thinned : Value} {od_thinned an_thinned : Option Addr} {sl_thinned : Array (Option Value)} {oc_machine kV_machine dc_machine pm_machine cd_machine ct_machine : Value} {od_machine an_machine : Option Addr} {sl_machine : Array (Option Value)} {oc_bad_mask kV_bad_mask dc_bad_mask pm_bad_mask cd_bad_mask ct_bad_mask : Value} {od_bad_mask an_bad_mask : Option Addr} {sl_bad_mask : Array (Option Value)} {oc_pair_spoilt kV_pair_spoilt dc_pair_spoilt pm_pair_spoilt cd_pair_spoilt ct_pair_spoilt : Value} {od_pair_spoilt an_pair_spoilt : Option Addr} {sl_pair_spoilt : Array (Option Value)} {oc_spoilt kV_spoilt dc_spoilt pm_spoilt cd_spoilt ct_spoilt : Value} {od_spoilt an_spoilt : Option Addr} {sl_spoilt : Array (Option Value)} {oc_refused kV_refused dc_refused pm_refused cd_refused ct_refused : Value} {od_refused an_refused : Option Addr} {sl_refused : Array (Option Value)} {oc_law kV_law dc_law pm_law cd_law ct_law : Value} {od_law an_law : Option Addr} {sl_law : Array (Option Value)}
    (aC_Machine : PySem.W.nsIn K mainGlobals "Machine" = some (some (.ref C_Machine))) (pg_Machine : PySem.W.plainGet K C_Machine Str.empty = true) (hd_Machine : PySem.W.hasDictIn K C_Machine = true) (po_Machine : PySem.W.plainOver K C_Machine = true) (sa_Machine : PySem.W.findIn K (.ref C_Machine) "__setattr__" = some (some (.builtin "object.__setattr__"))) (mk_Machine : PySem.W.makesIn K C_Machine = true) (kc_Machine : PySem.W.keepIn K (.ref C_Machine) = true)
    (na_Machine_inputs : PySem.W.findIn K (.ref C_Machine) "inputs" = some none)
    (na_Machine_nexts : PySem.W.findIn K (.ref C_Machine) "nexts" = some none)
    (na_Machine_outs : PySem.W.findIn K (.ref C_Machine) "outs" = some none)
    (aC_BadTable : PySem.W.nsIn K mainGlobals "BadTable" = some (some (.ref C_BadTable))) (xX_BadTable : PySem.W.excIn K C_BadTable [.type "ValueError", .type "Exception", .type "BaseException", .type "object"] "ValueError.__new__" = true) (kX_BadTable : PySem.W.keepIn K (.ref C_BadTable) = true) (bX_BadTable : PySem.W.subIn K (.ref C_BadTable) (.type "BaseException") = some true) (tX_BadTable : PySem.W.typeIn K (.ref C_BadTable) = some (.type "type")) (iX_BadTable : PySem.W.isClsIn K C_BadTable = true)
    (aC_BadMask : PySem.W.nsIn K mainGlobals "BadMask" = some (some (.ref C_BadMask))) (xX_BadMask : PySem.W.excIn K C_BadMask [.type "ValueError", .type "Exception", .type "BaseException", .type "object"] "ValueError.__new__" = true) (kX_BadMask : PySem.W.keepIn K (.ref C_BadMask) = true) (bX_BadMask : PySem.W.subIn K (.ref C_BadMask) (.type "BaseException") = some true) (tX_BadMask : PySem.W.typeIn K (.ref C_BadMask) = some (.type "type")) (iX_BadMask : PySem.W.isClsIn K C_BadMask = true)
    (aC_WireError : PySem.W.nsIn K mainGlobals "WireError" = some (some (.ref C_WireError))) (xX_WireError : PySem.W.excIn K C_WireError [.type "ValueError", .type "Exception", .type "BaseException", .type "object"] "ValueError.__new__" = true) (kX_WireError : PySem.W.keepIn K (.ref C_WireError) = true) (bX_WireError : PySem.W.subIn K (.ref C_WireError) (.type "BaseException") = some true) (tX_WireError : PySem.W.typeIn K (.ref C_WireError) = some (.type "type")) (iX_WireError : PySem.W.isClsIn K C_WireError = true)
    {t_MOST_INPUTS : Tok} (u_MOST_INPUTS : PySem.W.nsIn K mainGlobals "MOST_INPUTS" = some (some (.int 6 t_MOST_INPUTS)))
    {t_MOST_OUTS : Tok} (u_MOST_OUTS : PySem.W.nsIn K mainGlobals "MOST_OUTS" = some (some (.int 6 t_MOST_OUTS)))
    {t_MOST_STORES : Tok} (u_MOST_STORES : PySem.W.nsIn K mainGlobals "MOST_STORES" = some (some (.int 120 t_MOST_STORES)))
    (eg_BadTable : PySem.W.findIn K (.ref C_BadTable) "__getattribute__" = some (some (.builtin "BaseException.__getattribute__"))) (ek_BadTable : PySem.W.findIn K (.ref C_BadTable) "__getattr__" = some none) (ed_BadTable : PySem.W.hasDictIn K C_BadTable = true) (ea_BadTable : PySem.W.findIn K (.ref C_BadTable) "__class__" = some (some (.builtin "object.__class__"))) (em_BadTable : PySem.W.mroIn K C_BadTable (.type "object") = some true)
    (eN : PySem.W.specialIn K (.builtin "object.__class__") "__get__" = some (some (.builtin "getset_descriptor.__get__"))) (eT : PySem.W.takesIn K (.builtin "object.__class__") = some true)
    (sT_BadTable_ValueError : PySem.W.subIn K (.ref C_BadTable) (.type "ValueError") = some true)
    (sX_BadTable_BadMask : PySem.W.subIn K (.ref C_BadTable) (.ref C_BadMask) = some false)
    (sX_BadTable_BadTable : PySem.W.subIn K (.ref C_BadTable) (.ref C_BadTable) = some true)
    (sX_BadTable_WireError : PySem.W.subIn K (.ref C_BadTable) (.ref C_WireError) = some true)
    (a_is_whole : PySem.W.nsIn K mainGlobals "is_whole" = some (some (.ref f_is_whole)))
    (l_is_whole : K.lookup f_is_whole = some ⟨oc_is_whole, od_is_whole, .func (PySem.W.fnOf "is_whole" "is_whole" (defArgs s_is_whole) (defBody s_is_whole) (defScope s_is_whole) .none kV_is_whole dc_is_whole pm_is_whole an_is_whole cd_is_whole ct_is_whole), sl_is_whole⟩) (c_is_whole : PySem.W.codeIn K cd_is_whole "is_whole" = true) (k_is_whole : PySem.W.keepIn K (.ref f_is_whole) = true)
    (a_is_mask : PySem.W.nsIn K mainGlobals "is_mask" = some (some (.ref f_is_mask)))
    (l_is_mask : K.lookup f_is_mask = some ⟨oc_is_mask, od_is_mask, .func (PySem.W.fnOf "is_mask" "is_mask" (defArgs s_is_mask) (defBody s_is_mask) (defScope s_is_mask) .none kV_is_mask dc_is_mask pm_is_mask an_is_mask cd_is_mask ct_is_mask), sl_is_mask⟩) (c_is_mask : PySem.W.codeIn K cd_is_mask "is_mask" = true) (k_is_mask : PySem.W.keepIn K (.ref f_is_mask) = true)
    (a_is_pairs : PySem.W.nsIn K mainGlobals "is_pairs" = some (some (.ref f_is_pairs)))
    (l_is_pairs : K.lookup f_is_pairs = some ⟨oc_is_pairs, od_is_pairs, .func (PySem.W.fnOf "is_pairs" "is_pairs" (defArgs s_is_pairs) (defBody s_is_pairs) (defScope s_is_pairs) .none kV_is_pairs dc_is_pairs pm_is_pairs an_is_pairs cd_is_pairs ct_is_pairs), sl_is_pairs⟩) (c_is_pairs : PySem.W.codeIn K cd_is_pairs "is_pairs" = true) (k_is_pairs : PySem.W.keepIn K (.ref f_is_pairs) = true)
    (a_Machine___init__ : PySem.W.findIn K (.ref C_Machine) "__init__" = some (some (.ref f_Machine___init__))) (i_Machine___init__ : PySem.W.isFn K (.ref f_Machine___init__) = true)
    (l_Machine___init__ : K.lookup f_Machine___init__ = some ⟨oc_Machine___init__, od_Machine___init__, .func (PySem.W.fnOf "__init__" "Machine.__init__" (defArgs s_Machine___init__) (defBody s_Machine___init__) (defScope s_Machine___init__) .none kV_Machine___init__ dc_Machine___init__ pm_Machine___init__ an_Machine___init__ cd_Machine___init__ ct_Machine___init__), sl_Machine___init__⟩) (c_Machine___init__ : PySem.W.codeIn K cd_Machine___init__ "Machine.__init__" = true) (k_Machine___init__ : PySem.W.keepIn K (.ref f_Machine___init__) = true)
    (a_Machine_stores : PySem.W.findIn K (.ref C_Machine) "stores" = some (some (.ref f_Machine_stores))) (i_Machine_stores : PySem.W.isFn K (.ref f_Machine_stores) = true)
    (l_Machine_stores : K.lookup f_Machine_stores = some ⟨oc_Machine_stores, od_Machine_stores, .func (PySem.W.fnOf "stores" "Machine.stores" (defArgs s_Machine_stores) (defBody s_Machine_stores) (defScope s_Machine_stores) .none kV_Machine_stores dc_Machine_stores pm_Machine_stores an_Machine_stores cd_Machine_stores ct_Machine_stores), sl_Machine_stores⟩) (c_Machine_stores : PySem.W.codeIn K cd_Machine_stores "Machine.stores" = true) (k_Machine_stores : PySem.W.keepIn K (.ref f_Machine_stores) = true)
    (a_Machine_outputs : PySem.W.findIn K (.ref C_Machine) "outputs" = some (some (.ref f_Machine_outputs))) (i_Machine_outputs : PySem.W.isFn K (.ref f_Machine_outputs) = true)
    (l_Machine_outputs : K.lookup f_Machine_outputs = some ⟨oc_Machine_outputs, od_Machine_outputs, .func (PySem.W.fnOf "outputs" "Machine.outputs" (defArgs s_Machine_outputs) (defBody s_Machine_outputs) (defScope s_Machine_outputs) .none kV_Machine_outputs dc_Machine_outputs pm_Machine_outputs an_Machine_outputs cd_Machine_outputs ct_Machine_outputs), sl_Machine_outputs⟩) (c_Machine_outputs : PySem.W.codeIn K cd_Machine_outputs "Machine.outputs" = true) (k_Machine_outputs : PySem.W.keepIn K (.ref f_Machine_outputs) = true)
    (a_Machine_told : PySem.W.findIn K (.ref C_Machine) "told" = some (some (.ref f_Machine_told))) (i_Machine_told : PySem.W.isFn K (.ref f_Machine_told) = true)
    (l_Machine_told : K.lookup f_Machine_told = some ⟨oc_Machine_told, od_Machine_told, .func (PySem.W.fnOf "told" "Machine.told" (defArgs s_Machine_told) (defBody s_Machine_told) (defScope s_Machine_told) .none kV_Machine_told dc_Machine_told pm_Machine_told an_Machine_told cd_Machine_told ct_Machine_told), sl_Machine_told⟩) (c_Machine_told : PySem.W.codeIn K cd_Machine_told "Machine.told" = true) (k_Machine_told : PySem.W.keepIn K (.ref f_Machine_told) = true)
    (a_is_pairs_any : PySem.W.nsIn K mainGlobals "is_pairs" = some (some (.ref f_is_pairs_any)))
    (l_is_pairs_any : K.lookup f_is_pairs_any = some ⟨oc_is_pairs_any, od_is_pairs_any, .func (PySem.W.fnOf "is_pairs" "is_pairs" (defArgs s_is_pairs_any) (defBody s_is_pairs_any) (defScope s_is_pairs_any) .none kV_is_pairs_any dc_is_pairs_any pm_is_pairs_any an_is_pairs_any cd_is_pairs_any ct_is_pairs_any), sl_is_pairs_any⟩) (c_is_pairs_any : PySem.W.codeIn K cd_is_pairs_any "is_pairs" = true) (k_is_pairs_any : PySem.W.keepIn K (.ref f_is_pairs_any) = true)
    (a_Machine___init___bad : PySem.W.findIn K (.ref C_Machine) "__init__" = some (some (.ref f_Machine___init___bad))) (i_Machine___init___bad : PySem.W.isFn K (.ref f_Machine___init___bad) = true)
    (l_Machine___init___bad : K.lookup f_Machine___init___bad = some ⟨oc_Machine___init___bad, od_Machine___init___bad, .func (PySem.W.fnOf "__init__" "Machine.__init__" (defArgs s_Machine___init___bad) (defBody s_Machine___init___bad) (defScope s_Machine___init___bad) .none kV_Machine___init___bad dc_Machine___init___bad pm_Machine___init___bad an_Machine___init___bad cd_Machine___init___bad ct_Machine___init___bad), sl_Machine___init___bad⟩) (c_Machine___init___bad : PySem.W.codeIn K cd_Machine___init___bad "Machine.__init__" = true) (k_Machine___init___bad : PySem.W.keepIn K (.ref f_Machine___init___bad) = true)
    (a_Machine_told_one : PySem.W.findIn K (.ref C_Machine) "told" = some (some (.ref f_Machine_told_one))) (i_Machine_told_one : PySem.W.isFn K (.ref f_Machine_told_one) = true)
    (l_Machine_told_one : K.lookup f_Machine_told_one = some ⟨oc_Machine_told_one, od_Machine_told_one, .func (PySem.W.fnOf "told" "Machine.told" (defArgs s_Machine_told_one) (defBody s_Machine_told_one) (defScope s_Machine_told_one) .none kV_Machine_told_one dc_Machine_told_one pm_Machine_told_one an_Machine_told_one cd_Machine_told_one ct_Machine_told_one), sl_Machine_told_one⟩) (c_Machine_told_one : PySem.W.codeIn K cd_Machine_told_one "Machine.told" = true) (k_Machine_told_one : PySem.W.keepIn K (.ref f_Machine_told_one) = true)
    (a_Machine_told_two : PySem.W.findIn K (.ref C_Machine) "told" = some (some (.ref f_Machine_told_two))) (i_Machine_told_two : PySem.W.isFn K (.ref f_Machine_told_two) = true)
    (l_Machine_told_two : K.lookup f_Machine_told_two = some ⟨oc_Machine_told_two, od_Machine_told_two, .func (PySem.W.fnOf "told" "Machine.told" (defArgs s_Machine_told_two) (defBody s_Machine_told_two) (defScope s_Machine_told_two) .none kV_Machine_told_two dc_Machine_told_two pm_Machine_told_two an_Machine_told_two cd_Machine_told_two ct_Machine_told_two), sl_Machine_told_two⟩) (c_Machine_told_two : PySem.W.codeIn K cd_Machine_told_two "Machine.told" = true) (k_Machine_told_two : PySem.W.keepIn K (.ref f_Machine_told_two) = true)
    (a_cell : PySem.W.nsIn K mainGlobals "_law_cell" = some (some (.ref f_cell)))
    (l_cell : K.lookup f_cell = some ⟨oc_cell, od_cell, .func (PySem.W.fnOf "_law_cell" "_law_cell" (defArgs s_cell) (defBody s_cell) (defScope s_cell) .none kV_cell dc_cell pm_cell an_cell cd_cell ct_cell), sl_cell⟩) (c_cell : PySem.W.codeIn K cd_cell "_law_cell" = true) (k_cell : PySem.W.keepIn K (.ref f_cell) = true)
    (a_mix : PySem.W.nsIn K mainGlobals "_law_mix" = some (some (.ref f_mix)))
    (l_mix : K.lookup f_mix = some ⟨oc_mix, od_mix, .func (PySem.W.fnOf "_law_mix" "_law_mix" (defArgs s_mix) (defBody s_mix) (defScope s_mix) .none kV_mix dc_mix pm_mix an_mix cd_mix ct_mix), sl_mix⟩) (c_mix : PySem.W.codeIn K cd_mix "_law_mix" = true) (k_mix : PySem.W.keepIn K (.ref f_mix) = true)
    (a_masks : PySem.W.nsIn K mainGlobals "_law_masks" = some (some (.ref f_masks)))
    (l_masks : K.lookup f_masks = some ⟨oc_masks, od_masks, .func (PySem.W.fnOf "_law_masks" "_law_masks" (defArgs s_masks) (defBody s_masks) (defScope s_masks) .none kV_masks dc_masks pm_masks an_masks cd_masks ct_masks), sl_masks⟩) (c_masks : PySem.W.codeIn K cd_masks "_law_masks" = true) (k_masks : PySem.W.keepIn K (.ref f_masks) = true)
    (a_thinned : PySem.W.nsIn K mainGlobals "_law_thinned" = some (some (.ref f_thinned)))
    (l_thinned : K.lookup f_thinned = some ⟨oc_thinned, od_thinned, .func (PySem.W.fnOf "_law_thinned" "_law_thinned" (defArgs s_thinned) (defBody s_thinned) (defScope s_thinned) .none kV_thinned dc_thinned pm_thinned an_thinned cd_thinned ct_thinned), sl_thinned⟩) (c_thinned : PySem.W.codeIn K cd_thinned "_law_thinned" = true) (k_thinned : PySem.W.keepIn K (.ref f_thinned) = true)
    (a_machine : PySem.W.nsIn K mainGlobals "_law_machine" = some (some (.ref f_machine)))
    (l_machine : K.lookup f_machine = some ⟨oc_machine, od_machine, .func (PySem.W.fnOf "_law_machine" "_law_machine" (defArgs s_machine) (defBody s_machine) (defScope s_machine) .none kV_machine dc_machine pm_machine an_machine cd_machine ct_machine), sl_machine⟩) (c_machine : PySem.W.codeIn K cd_machine "_law_machine" = true) (k_machine : PySem.W.keepIn K (.ref f_machine) = true)
    (a_bad_mask : PySem.W.nsIn K mainGlobals "_law_bad_mask" = some (some (.ref f_bad_mask)))
    (l_bad_mask : K.lookup f_bad_mask = some ⟨oc_bad_mask, od_bad_mask, .func (PySem.W.fnOf "_law_bad_mask" "_law_bad_mask" (defArgs s_bad_mask) (defBody s_bad_mask) (defScope s_bad_mask) .none kV_bad_mask dc_bad_mask pm_bad_mask an_bad_mask cd_bad_mask ct_bad_mask), sl_bad_mask⟩) (c_bad_mask : PySem.W.codeIn K cd_bad_mask "_law_bad_mask" = true) (k_bad_mask : PySem.W.keepIn K (.ref f_bad_mask) = true)
    (a_pair_spoilt : PySem.W.nsIn K mainGlobals "_law_pair_spoilt" = some (some (.ref f_pair_spoilt)))
    (l_pair_spoilt : K.lookup f_pair_spoilt = some ⟨oc_pair_spoilt, od_pair_spoilt, .func (PySem.W.fnOf "_law_pair_spoilt" "_law_pair_spoilt" (defArgs s_pair_spoilt) (defBody s_pair_spoilt) (defScope s_pair_spoilt) .none kV_pair_spoilt dc_pair_spoilt pm_pair_spoilt an_pair_spoilt cd_pair_spoilt ct_pair_spoilt), sl_pair_spoilt⟩) (c_pair_spoilt : PySem.W.codeIn K cd_pair_spoilt "_law_pair_spoilt" = true) (k_pair_spoilt : PySem.W.keepIn K (.ref f_pair_spoilt) = true)
    (a_spoilt : PySem.W.nsIn K mainGlobals "_law_spoilt" = some (some (.ref f_spoilt)))
    (l_spoilt : K.lookup f_spoilt = some ⟨oc_spoilt, od_spoilt, .func (PySem.W.fnOf "_law_spoilt" "_law_spoilt" (defArgs s_spoilt) (defBody s_spoilt) (defScope s_spoilt) .none kV_spoilt dc_spoilt pm_spoilt an_spoilt cd_spoilt ct_spoilt), sl_spoilt⟩) (c_spoilt : PySem.W.codeIn K cd_spoilt "_law_spoilt" = true) (k_spoilt : PySem.W.keepIn K (.ref f_spoilt) = true)
    (a_refused : PySem.W.nsIn K mainGlobals "_law_refused" = some (some (.ref f_refused)))
    (l_refused : K.lookup f_refused = some ⟨oc_refused, od_refused, .func (PySem.W.fnOf "_law_refused" "_law_refused" (defArgs s_refused) (defBody s_refused) (defScope s_refused) .none kV_refused dc_refused pm_refused an_refused cd_refused ct_refused), sl_refused⟩) (c_refused : PySem.W.codeIn K cd_refused "_law_refused" = true) (k_refused : PySem.W.keepIn K (.ref f_refused) = true)
    (a_law : PySem.W.nsIn K mainGlobals "law" = some (some (.ref f_law)))
    (l_law : K.lookup f_law = some ⟨oc_law, od_law, .func (PySem.W.fnOf "law" "law" (defArgs s_law) (defBody s_law) (defScope s_law) .none kV_law dc_law pm_law an_law cd_law ct_law), sl_law⟩) (c_law : PySem.W.codeIn K cd_law "law" = true) (k_law : PySem.W.keepIn K (.ref f_law) = true)
    (z_ValueError : PySem.W.nsIn K mainGlobals "ValueError" = some none)
    (z_bool : PySem.W.nsIn K mainGlobals "bool" = some none)
    (z_enumerate : PySem.W.nsIn K mainGlobals "enumerate" = some none)
    (z_int : PySem.W.nsIn K mainGlobals "int" = some none)
    (z_isinstance : PySem.W.nsIn K mainGlobals "isinstance" = some none)
    (z_len : PySem.W.nsIn K mainGlobals "len" = some none)
    (z_list : PySem.W.nsIn K mainGlobals "list" = some none)
    (z_range : PySem.W.nsIn K mainGlobals "range" = some none)
    (z_tuple : PySem.W.nsIn K mainGlobals "tuple" = some none)
    (z_zip : PySem.W.nsIn K mainGlobals "zip" = some none)
    : ∃ (fd : FuncData) (sp : Sp), (∀ (s : Shared) (v : Value), BindsTo s fd ⟨[v], []⟩ [("_law_script", v)]) ∧ (∀ (H : Hp) (a : Addr) (ns : List Int), ns.length ≤ 63 → SqL K H a (ns.map V.int) → sp [.ref a] H (fun v _ => v = .bl true) fun _ _ _ => False) ∧ ∀ base : Heap, K.In base → base.Ns mainGlobals mg → FnOk l.prog w K mg base CX0 7 fa fd ["_law_script"] sp := by
  have e := hfa.symm.trans (PySem.W.mg_of X G a_law)
  cases e
  have F_is_whole := fun_mk (st := s_is_whole) l_is_whole c_is_whole k_is_whole
  have b_is_whole := F_is_whole.binds (ps := ["thing"]) fun _ _ _ _ _ _ us hl => match us, hl with | [_], _ => rfl
  have F_is_mask := fun_mk (st := s_is_mask) l_is_mask c_is_mask k_is_mask
  have b_is_mask := F_is_mask.binds (ps := ["thing", "width"]) fun _ _ _ _ _ _ us hl => match us, hl with | [_, _], _ => rfl
  have F_is_pairs := fun_mk (st := s_is_pairs) l_is_pairs c_is_pairs k_is_pairs
  have b_is_pairs := F_is_pairs.binds (ps := ["thing", "most", "stores", "inputs"]) fun _ _ _ _ _ _ us hl => match us, hl with | [_, _, _, _], _ => rfl
  have F_Machine___init__ := fun_mk (st := s_Machine___init__) l_Machine___init__ c_Machine___init__ k_Machine___init__
  have b_Machine___init__ := F_Machine___init__.binds (ps := ["self", "inputs", "nexts", "outs"]) fun _ _ _ _ _ _ us hl => match us, hl with | [_, _, _, _], _ => rfl
  have F_Machine_stores := fun_mk (st := s_Machine_stores) l_Machine_stores c_Machine_stores k_Machine_stores
  have b_Machine_stores := F_Machine_stores.binds (ps := ["self"]) fun _ _ _ _ _ _ us hl => match us, hl with | [_], _ => rfl
  have F_Machine_outputs := fun_mk (st := s_Machine_outputs) l_Machine_outputs c_Machine_outputs k_Machine_outputs
  have b_Machine_outputs := F_Machine_outputs.binds (ps := ["self"]) fun _ _ _ _ _ _ us hl => match us, hl with | [_], _ => rfl
  have F_Machine_told := fun_mk (st := s_Machine_told) l_Machine_told c_Machine_told k_Machine_told
  have b_Machine_told := F_Machine_told.binds (ps := ["self"]) fun _ _ _ _ _ _ us hl => match us, hl with | [_], _ => rfl
  have F_is_pairs_any := fun_mk (st := s_is_pairs_any) l_is_pairs_any c_is_pairs_any k_is_pairs_any
  have b_is_pairs_any := F_is_pairs_any.binds (ps := ["thing", "most", "stores", "inputs"]) fun _ _ _ _ _ _ us hl => match us, hl with | [_, _, _, _], _ => rfl
  have F_Machine___init___bad := fun_mk (st := s_Machine___init___bad) l_Machine___init___bad c_Machine___init___bad k_Machine___init___bad
  have b_Machine___init___bad := F_Machine___init___bad.binds (ps := ["self", "inputs", "nexts", "outs"]) fun _ _ _ _ _ _ us hl => match us, hl with | [_, _, _, _], _ => rfl
  have F_Machine_told_one := fun_mk (st := s_Machine_told_one) l_Machine_told_one c_Machine_told_one k_Machine_told_one
  have b_Machine_told_one := F_Machine_told_one.binds (ps := ["self"]) fun _ _ _ _ _ _ us hl => match us, hl with | [_], _ => rfl
  have F_Machine_told_two := fun_mk (st := s_Machine_told_two) l_Machine_told_two c_Machine_told_two k_Machine_told_two
  have b_Machine_told_two := F_Machine_told_two.binds (ps := ["self"]) fun _ _ _ _ _ _ us hl => match us, hl with | [_], _ => rfl
  have F_cell := fun_mk (st := s_cell) l_cell c_cell k_cell
  have b_cell := F_cell.binds (ps := ["_law_script", "_law_k"]) fun _ _ _ _ _ _ us hl => match us, hl with | [_, _], _ => rfl
  have F_mix := fun_mk (st := s_mix) l_mix c_mix k_mix
  have b_mix := F_mix.binds (ps := ["_law_cell_here", "_law_k"]) fun _ _ _ _ _ _ us hl => match us, hl with | [_, _], _ => rfl
  have F_masks := fun_mk (st := s_masks) l_masks c_masks k_masks
  have b_masks := F_masks.binds (ps := ["_law_cell_here", "_law_start", "_law_many", "_law_width", "_law_digits"]) fun _ _ _ _ _ _ us hl => match us, hl with | [_, _, _, _, _], _ => rfl
  have F_thinned := fun_mk (st := s_thinned) l_thinned c_thinned k_thinned
  have b_thinned := F_thinned.binds (ps := ["_law_masks_here", "_law_cell_here", "_law_start", "_law_way"]) fun _ _ _ _ _ _ us hl => match us, hl with | [_, _, _, _], _ => rfl
  have F_machine := fun_mk (st := s_machine) l_machine c_machine k_machine
  have b_machine := F_machine.binds (ps := ["_law_script", "_law_start", "_law_most"]) fun _ _ _ _ _ _ us hl => match us, hl with | [_, _, _], _ => rfl
  have F_bad_mask := fun_mk (st := s_bad_mask) l_bad_mask c_bad_mask k_bad_mask
  have b_bad_mask := F_bad_mask.binds (ps := ["_law_cell_here", "_law_width"]) fun _ _ _ _ _ _ us hl => match us, hl with | [_, _], _ => rfl
  have F_pair_spoilt := fun_mk (st := s_pair_spoilt) l_pair_spoilt c_pair_spoilt k_pair_spoilt
  have b_pair_spoilt := F_pair_spoilt.binds (ps := ["_law_pair", "_law_cell_here", "_law_stores", "_law_inputs"]) fun _ _ _ _ _ _ us hl => match us, hl with | [_, _, _, _], _ => rfl
  have F_spoilt := fun_mk (st := s_spoilt) l_spoilt c_spoilt k_spoilt
  have b_spoilt := F_spoilt.binds (ps := ["_law_tables", "_law_cell_here"]) fun _ _ _ _ _ _ us hl => match us, hl with | [_, _], _ => rfl
  have F_refused := fun_mk (st := s_refused) l_refused c_refused k_refused
  have b_refused := F_refused.binds (ps := ["_law_tables"]) fun _ _ _ _ _ _ us hl => match us, hl with | [_], _ => rfl
  have F_law := fun_mk (st := s_law) l_law c_law k_law
  refine ⟨PySem.W.fnOf "law" "law" (defArgs s_law) (defBody s_law) (defScope s_law) .none kV_law dc_law pm_law an_law cd_law ct_law, sp_law K ⟨C_Machine, C_BadTable, C_BadMask, C_WireError⟩, fun s v => .of_eq rfl, fun H a ns hl  hS => ⟨H, .ref a, ns, fun b => b = true, rfl, Ex.rfl', ⟨a, rfl, hS⟩, w_law hl  rfl, fun z hz _ _ _ => by subst hz; rfl⟩, fun base _ _ => ?_⟩
  have T : Tz K mg ⟨C_Machine, C_BadTable, C_BadMask, C_WireError⟩ := ⟨⟨pg_Machine, hd_Machine, po_Machine, sa_Machine⟩, na_Machine_inputs, na_Machine_nexts, na_Machine_outs, ⟨xX_BadTable, PySem.W.mg_of X G aC_BadTable, kX_BadTable, bX_BadTable, tX_BadTable⟩, ⟨xX_BadMask, PySem.W.mg_of X G aC_BadMask, kX_BadMask, bX_BadMask, tX_BadMask⟩, ⟨xX_WireError, PySem.W.mg_of X G aC_WireError, kX_WireError, bX_WireError, tX_WireError⟩, ⟨_, PySem.W.mg_of X G u_MOST_INPUTS, _, rfl⟩, ⟨_, PySem.W.mg_of X G u_MOST_OUTS, _, rfl⟩, ⟨_, PySem.W.mg_of X G u_MOST_STORES, _, rfl⟩, ⟨eg_BadTable, ek_BadTable, bX_BadTable, ed_BadTable, ea_BadTable, eN, eT, em_BadTable⟩, kit_ty (by kernel_rfl) sT_BadTable_ValueError, kit_own iX_BadMask tX_BadMask sX_BadTable_BadTable sX_BadTable_BadMask, kit_own iX_WireError tX_WireError sX_BadTable_BadTable sX_BadTable_WireError, exm_of bX_BadTable iX_BadTable tX_BadTable sX_BadTable_BadTable⟩
  have C_is_whole := ok_is_whole (P := l.prog) (w0 := w) (base := base) T F_is_whole (PySem.W.mg_of X G a_is_whole) b_is_whole (PySem.W.mg_none_of X G z_bool) (PySem.W.mg_none_of X G z_int) (PySem.W.mg_none_of X G z_isinstance)
  have C_is_mask := ok_is_mask (P := l.prog) (w0 := w) (base := base) T F_is_mask (PySem.W.mg_of X G a_is_mask) b_is_mask C_is_whole
  have C_is_pairs := ok_is_pairs (P := l.prog) (w0 := w) (base := base) T F_is_pairs (PySem.W.mg_of X G a_is_pairs) b_is_pairs C_is_mask (PySem.W.mg_none_of X G z_isinstance) (PySem.W.mg_none_of X G z_len) (PySem.W.mg_none_of X G z_list) (PySem.W.mg_none_of X G z_tuple)
  have C_Machine___init__ := ok_Machine___init__ (P := l.prog) (w0 := w) (base := base) T F_Machine___init__ ⟨mk_Machine, a_Machine___init__, i_Machine___init__, kc_Machine⟩ (PySem.W.mg_of X G aC_Machine) b_Machine___init__ C_is_whole C_is_pairs (PySem.W.mg_none_of X G z_isinstance) (PySem.W.mg_none_of X G z_len) (PySem.W.mg_none_of X G z_list) (PySem.W.mg_none_of X G z_tuple)
  have C_Machine_stores := ok_Machine_stores (P := l.prog) (w0 := w) (base := base) T F_Machine_stores ⟨a_Machine_stores, i_Machine_stores, k_Machine_stores⟩ b_Machine_stores (PySem.W.mg_none_of X G z_len)
  have C_Machine_outputs := ok_Machine_outputs (P := l.prog) (w0 := w) (base := base) T F_Machine_outputs ⟨a_Machine_outputs, i_Machine_outputs, k_Machine_outputs⟩ b_Machine_outputs (PySem.W.mg_none_of X G z_len)
  have C_Machine_told := ok_Machine_told (P := l.prog) (w0 := w) (base := base) T F_Machine_told ⟨a_Machine_told, i_Machine_told, k_Machine_told⟩ b_Machine_told (PySem.W.mg_none_of X G z_list)
  have C_is_pairs_any := ok_is_pairs_any (P := l.prog) (w0 := w) (base := base) T F_is_pairs_any (PySem.W.mg_of X G a_is_pairs_any) b_is_pairs_any C_is_mask (PySem.W.mg_none_of X G z_isinstance) (PySem.W.mg_none_of X G z_len) (PySem.W.mg_none_of X G z_list) (PySem.W.mg_none_of X G z_tuple)
  have C_Machine___init___bad := ok_Machine___init___bad (P := l.prog) (w0 := w) (base := base) T F_Machine___init___bad ⟨mk_Machine, a_Machine___init___bad, i_Machine___init___bad, kc_Machine⟩ (PySem.W.mg_of X G aC_Machine) b_Machine___init___bad C_is_whole C_is_pairs_any (PySem.W.mg_none_of X G z_isinstance) (PySem.W.mg_none_of X G z_len) (PySem.W.mg_none_of X G z_list)
  have C_Machine_told_one := ok_Machine_told_one (P := l.prog) (w0 := w) (base := base) T F_Machine_told_one ⟨a_Machine_told_one, i_Machine_told_one, k_Machine_told_one⟩ b_Machine_told_one (PySem.W.mg_none_of X G z_list)
  have C_Machine_told_two := ok_Machine_told_two (P := l.prog) (w0 := w) (base := base) T F_Machine_told_two ⟨a_Machine_told_two, i_Machine_told_two, k_Machine_told_two⟩ b_Machine_told_two (PySem.W.mg_none_of X G z_list)
  have C_cell := ok_cell (P := l.prog) (w0 := w) (base := base) T F_cell (PySem.W.mg_of X G a_cell) b_cell (PySem.W.mg_none_of X G z_len)
  have C_mix := ok_mix (P := l.prog) (w0 := w) (base := base) T F_mix (PySem.W.mg_of X G a_mix) b_mix
  have C_masks := ok_masks (P := l.prog) (w0 := w) (base := base) T F_masks (PySem.W.mg_of X G a_masks) b_masks C_mix (PySem.W.mg_none_of X G z_range)
  have C_thinned := ok_thinned (P := l.prog) (w0 := w) (base := base) T F_thinned (PySem.W.mg_of X G a_thinned) b_thinned C_mix (PySem.W.mg_none_of X G z_enumerate)
  have C_machine := ok_machine (P := l.prog) (w0 := w) (base := base) T F_machine (PySem.W.mg_of X G a_machine) b_machine C_cell C_mix C_masks C_thinned (PySem.W.mg_none_of X G z_enumerate) (PySem.W.mg_none_of X G z_list) (PySem.W.mg_none_of X G z_zip)
  have C_bad_mask := ok_bad_mask (P := l.prog) (w0 := w) (base := base) T F_bad_mask (PySem.W.mg_of X G a_bad_mask) b_bad_mask
  have C_pair_spoilt := ok_pair_spoilt (P := l.prog) (w0 := w) (base := base) T F_pair_spoilt (PySem.W.mg_of X G a_pair_spoilt) b_pair_spoilt C_bad_mask (PySem.W.mg_none_of X G z_list)
  have C_spoilt := ok_spoilt (P := l.prog) (w0 := w) (base := base) T F_spoilt (PySem.W.mg_of X G a_spoilt) b_spoilt C_pair_spoilt (PySem.W.mg_none_of X G z_len) (PySem.W.mg_none_of X G z_tuple)
  have C_refused := ok_refused (P := l.prog) (w0 := w) (base := base) T F_refused (PySem.W.mg_of X G a_refused) b_refused C_Machine___init___bad (PySem.W.mg_none_of X G z_ValueError) (PySem.W.mg_none_of X G z_isinstance)
  exact ok_law T F_law C_machine C_Machine___init__ C_spoilt C_refused C_Machine_stores C_Machine_outputs C_Machine_told_one C_Machine_told_two C_Machine_told (PySem.W.mg_none_of X G z_len) (PySem.W.mg_none_of X G z_list) (PySem.W.mg_none_of X G z_tuple)
theorem walk {l : PySem.W.OpenLaw} {q : Program} {loose : List Str} {XP : (Str → Option Value) → Heap → Prop} {YP : World → Heap → Prop} {d : DefRec} {K : Params → PySem.W.Frag} (hn : l.most = some 63) (hdf : d.params.defaults = [])
    (hY : ∀ (w : World) (h : Heap), YP w h → (K w.params).In h)
    (F : ∀ (w : World) (mg : Str → Option Value) (fa : Addr) (h : Heap), (K w.params).In h → h.Ns mainGlobals mg → mg d.name = some (.ref fa) → ∃ (fd : FuncData) (sp : Sp), (∀ (s : Shared) (u : Value), BindsTo s fd ⟨[u], []⟩ [("_law_script", u)]) ∧ (∀ (H : Hp) (a : Addr) (ns : List Int), ns.length ≤ 63 → SqL (K w.params) H a (ns.map V.int) → sp [.ref a] H (fun v _ => v = .bl true) fun _ _ _ => False) ∧ ∀ base : Heap, (K w.params).In base → base.Ns mainGlobals mg → FnOk l.prog w (K w.params) mg base CX0 7 fa fd ["_law_script"] sp) :
    PySem.W.WalkO q loose XP YP l.row.toRowW d [] (fun f vs => PySem.call f vs) := by
  refine Att.attach_call hn hdf fun w s₀ s₁ mg mb fa o pm cd doc a vs ns G Y ho hd hcd hmg hobj hints hlen hg => ?_
  have KX := hY w _ Y
  obtain ⟨fd, sp, hb, hsp, hF⟩ := F w mg fa _ KX G.T.g hmg
  exact law_call (k := 7) (x := "_law_script") (CX := CX0) KX G.T.g G.T.b G.T.builtins G.T.nolimit hg hobj hints (Nat.le_trans hlen (by decide)) ⟨rfl, by decide, by decide⟩ hF hb (fun H hO hS => hsp H a ns hlen hS) fun H e s' z => z
end My
open PySem PySem.W PyProof.Rows
set_option maxRecDepth 100000 in
set_option maxHeartbeats 0 in
theorem PySem.Challenge.cw_sumwires_k31_machines_made_or_refused_holds : PySem.Challenge.rw_sumwires_k31_machines_made_or_refused.Holds := by
  w_on; o_law; k_head; (case hw => w_witness2)
  k_fill
  refine My.walk (l := PySem.Challenge.rw_sumwires_k31_machines_made_or_refused) rfl rfl (fun w h Y => PySem.W.kIn_of Y) ?F
  case F =>
    intro w mg fa h KX G hmg
    refine' My.all_mk KX G hmg ?aC_Machine ?pg_Machine ?hd_Machine ?po_Machine ?sa_Machine ?mk_Machine ?kc_Machine ?na_Machine_inputs ?na_Machine_nexts ?na_Machine_outs ?aC_BadTable ?xX_BadTable ?kX_BadTable ?bX_BadTable ?tX_BadTable ?iX_BadTable ?aC_BadMask ?xX_BadMask ?kX_BadMask ?bX_BadMask ?tX_BadMask ?iX_BadMask ?aC_WireError ?xX_WireError ?kX_WireError ?bX_WireError ?tX_WireError ?iX_WireError ?u_MOST_INPUTS ?u_MOST_OUTS ?u_MOST_STORES ?eg_BadTable ?ek_BadTable ?ed_BadTable ?ea_BadTable ?em_BadTable ?eN ?eT ?sT_BadTable_ValueError ?sX_BadTable_BadMask ?sX_BadTable_BadTable ?sX_BadTable_WireError ?a_is_whole ?l_is_whole ?c_is_whole ?k_is_whole ?a_is_mask ?l_is_mask ?c_is_mask ?k_is_mask ?a_is_pairs ?l_is_pairs ?c_is_pairs ?k_is_pairs ?a_Machine___init__ ?i_Machine___init__ ?l_Machine___init__ ?c_Machine___init__ ?k_Machine___init__ ?a_Machine_stores ?i_Machine_stores ?l_Machine_stores ?c_Machine_stores ?k_Machine_stores ?a_Machine_outputs ?i_Machine_outputs ?l_Machine_outputs ?c_Machine_outputs ?k_Machine_outputs ?a_Machine_told ?i_Machine_told ?l_Machine_told ?c_Machine_told ?k_Machine_told ?a_is_pairs_any ?l_is_pairs_any ?c_is_pairs_any ?k_is_pairs_any ?a_Machine___init___bad ?i_Machine___init___bad ?l_Machine___init___bad ?c_Machine___init___bad ?k_Machine___init___bad ?a_Machine_told_one ?i_Machine_told_one ?l_Machine_told_one ?c_Machine_told_one ?k_Machine_told_one ?a_Machine_told_two ?i_Machine_told_two ?l_Machine_told_two ?c_Machine_told_two ?k_Machine_told_two ?a_cell ?l_cell ?c_cell ?k_cell ?a_mix ?l_mix ?c_mix ?k_mix ?a_masks ?l_masks ?c_masks ?k_masks ?a_thinned ?l_thinned ?c_thinned ?k_thinned ?a_machine ?l_machine ?c_machine ?k_machine ?a_bad_mask ?l_bad_mask ?c_bad_mask ?k_bad_mask ?a_pair_spoilt ?l_pair_spoilt ?c_pair_spoilt ?k_pair_spoilt ?a_spoilt ?l_spoilt ?c_spoilt ?k_spoilt ?a_refused ?l_refused ?c_refused ?k_refused ?a_law ?l_law ?c_law ?k_law ?z_ValueError ?z_bool ?z_enumerate ?z_int ?z_isinstance ?z_len ?z_list ?z_range ?z_tuple ?z_zip
    (case aC_Machine => k_is); (case pg_Machine => k_is); (case hd_Machine => k_is); (case po_Machine => k_is)
    (case sa_Machine => k_is); (case mk_Machine => k_is); (case kc_Machine => k_is); (case na_Machine_inputs => k_is)
    (case na_Machine_nexts => k_is); (case na_Machine_outs => k_is); (case aC_BadTable => k_is); (case xX_BadTable => k_exc)
    (case kX_BadTable => k_is); (case bX_BadTable => k_is); (case tX_BadTable => k_is); (case iX_BadTable => k_is)
    (case aC_BadMask => k_is); (case xX_BadMask => k_exc); (case kX_BadMask => k_is); (case bX_BadMask => k_is)
    (case tX_BadMask => k_is); (case iX_BadMask => k_is); (case aC_WireError => k_is); (case xX_WireError => k_exc)
    (case kX_WireError => k_is); (case bX_WireError => k_is); (case tX_WireError => k_is); (case iX_WireError => k_is)
    (case u_MOST_INPUTS => k_is); (case u_MOST_OUTS => k_is); (case u_MOST_STORES => k_is); (case eg_BadTable => k_is)
    (case ek_BadTable => k_is); (case ed_BadTable => k_is); (case ea_BadTable => k_is); (case em_BadTable => k_is)
    (case eN => k_is); (case eT => k_is); (case sT_BadTable_ValueError => k_is); (case sX_BadTable_BadMask => first | rfl | k_is)
    (case sX_BadTable_BadTable => first | rfl | k_is); (case sX_BadTable_WireError => first | rfl | k_is); (case a_is_whole => k_is); (case l_is_whole => k_is)
    (case c_is_whole => k_is); (case k_is_whole => k_is); (case a_is_mask => k_is); (case l_is_mask => k_is)
    (case c_is_mask => k_is); (case k_is_mask => k_is); (case a_is_pairs => k_is); (case l_is_pairs => k_is)
    (case c_is_pairs => k_is); (case k_is_pairs => k_is); (case a_Machine___init__ => k_is); (case i_Machine___init__ => k_is)
    (case l_Machine___init__ => k_is); (case c_Machine___init__ => k_is); (case k_Machine___init__ => k_is); (case a_Machine_stores => k_is)
    (case i_Machine_stores => k_is); (case l_Machine_stores => k_is); (case c_Machine_stores => k_is); (case k_Machine_stores => k_is)
    (case a_Machine_outputs => k_is); (case i_Machine_outputs => k_is); (case l_Machine_outputs => k_is); (case c_Machine_outputs => k_is)
    (case k_Machine_outputs => k_is); (case a_Machine_told => k_is); (case i_Machine_told => k_is); (case l_Machine_told => k_is)
    (case c_Machine_told => k_is); (case k_Machine_told => k_is); (case a_is_pairs_any => k_is); (case l_is_pairs_any => k_is)
    (case c_is_pairs_any => k_is); (case k_is_pairs_any => k_is); (case a_Machine___init___bad => k_is); (case i_Machine___init___bad => k_is)
    (case l_Machine___init___bad => k_is); (case c_Machine___init___bad => k_is); (case k_Machine___init___bad => k_is); (case a_Machine_told_one => k_is)
    (case i_Machine_told_one => k_is); (case l_Machine_told_one => k_is); (case c_Machine_told_one => k_is); (case k_Machine_told_one => k_is)
    (case a_Machine_told_two => k_is); (case i_Machine_told_two => k_is); (case l_Machine_told_two => k_is); (case c_Machine_told_two => k_is)
    (case k_Machine_told_two => k_is); (case a_cell => k_is); (case l_cell => k_is); (case c_cell => k_is)
    (case k_cell => k_is); (case a_mix => k_is); (case l_mix => k_is); (case c_mix => k_is)
    (case k_mix => k_is); (case a_masks => k_is); (case l_masks => k_is); (case c_masks => k_is)
    (case k_masks => k_is); (case a_thinned => k_is); (case l_thinned => k_is); (case c_thinned => k_is)
    (case k_thinned => k_is); (case a_machine => k_is); (case l_machine => k_is); (case c_machine => k_is)
    (case k_machine => k_is); (case a_bad_mask => k_is); (case l_bad_mask => k_is); (case c_bad_mask => k_is)
    (case k_bad_mask => k_is); (case a_pair_spoilt => k_is); (case l_pair_spoilt => k_is); (case c_pair_spoilt => k_is)
    (case k_pair_spoilt => k_is); (case a_spoilt => k_is); (case l_spoilt => k_is); (case c_spoilt => k_is)
    (case k_spoilt => k_is); (case a_refused => k_is); (case l_refused => k_is); (case c_refused => k_is)
    (case k_refused => k_is); (case a_law => k_is); (case l_law => k_is); (case c_law => k_is)
    (case k_law => k_is); (case z_ValueError => k_is); (case z_bool => k_is); (case z_enumerate => k_is)
    (case z_int => k_is); (case z_isinstance => k_is); (case z_len => k_is); (case z_list => k_is)
    (case z_range => k_is); (case z_tuple => k_is); (case z_zip => k_is)
