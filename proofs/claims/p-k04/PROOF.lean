import PyProof.Rows.All
import Wide.All
import OpenK.AllK
import Wide.FinOn
import HandS.ForMost
import HandS.Wide
import HandS.WideBits
import HandS.IsInst
import HandS.Steps
import HandS.Exc
import HandS.ExcOwn
import HandS.TryOnly
import HandS.WordsExc
import HandS.EndBits
import HandS.Rev
import HandS.RevTup
import HandS.Walk
import HandS.Zip
import HandS.SortInts
import HandS.More
import HandS.SetFor
import KE.GoesMore
import KE.KDictZip
import HandS.Iter
import HandS.Keys
import HandS.Defaults
import HandS.ExcIs
import HandS.Text
import PyProof.EqKinds
import PyProof.NeKinds
import KE.KEqDict
import HandS.Style
import HandS.ClsMeth
import HandS.List
import HandS.ExcInit
import HandS.ExcField
import PyProof.StrOps2
import HandS.Deep
import HandS.TryMany
import HandS.NoneIn
import HandS.Lambda
import HandS.EndTab
import KE.KNestM
import HandS.TupSets
import HandS.ExcValue
import PySem.Challenge.RW_sumwires_k04_refusals_apart
set_option Elab.async false
set_option linter.all false
set_option maxRecDepth 100000
set_option maxHeartbeats 4000000
set_option exponentiation.threshold 4000
namespace Wk
open PySem L2
abbrev Ex (H H' : Hp) : Prop := ∀ a o, H a = some o → H' a = some o
theorem Ex.rfl' {H : Hp} : Ex H H := fun _ _ h => h
theorem Ex.tr {H H1 H2 : Hp} (a : Ex H H1) (b : Ex H1 H2) : Ex H H2 := fun x o h => b x o (a x o h)
theorem Ex.new {H : Hp} {p : Addr} {o : HO} (h : H p = none) : Ex H (upd H p o) := fun a u e => by
  rw [upd_ne (ne_of_none e h)]; exact e
theorem Ex.non {H H' : Hp} (e : Ex H H') {p : Addr} (h : H' p = none) : H p = none := by
  cases q : H p with
  | none => rfl
  | some o => rw [e p o q] at h; cases h
/-- from (F0, H0) to (F, H): all is kept, and F has grown by nothing but what is new to H0 -/
structure Wf (F0 H0 F H : Hp) : Prop where
  h : Ex H0 H
  f : Ex F H
  g : Ex F0 F
  n : ∀ a o, F a = some o → F0 a = none → H0 a = none
theorem Wf.id {F H : Hp} (e : Ex F H) : Wf F H F H := ⟨Ex.rfl', e, Ex.rfl', fun a o h h' => by rw [h] at h'; cases h'⟩
theorem Wf.tr {F0 H0 F H F' H' : Hp} (a : Wf F0 H0 F H) (b : Wf F H F' H') : Wf F0 H0 F' H' := ⟨a.h.tr b.h, b.f, a.g.tr b.g, fun x o h h0 => by
  cases q : F x with
  | none => exact a.h.non (b.n x o h q)
  | some u => exact a.n x u q h0⟩
/-- a new object that stays as it is -/
theorem Wf.new {F H : Hp} {p : Addr} {o : HO} (e : Ex F H) (hp : H p = none) : Wf F H (upd F p o) (upd H p o) := ⟨Ex.new hp, fun a u h => by
    by_cases q : a = p
    · subst q; rw [upd_same] at h ⊢; exact h
    · rw [upd_ne q] at h ⊢; exact e a u h, Ex.new (e.non hp), fun a u h h0 => by
    by_cases q : a = p
    · subst q; exact hp
    · rw [upd_ne q, h0] at h; cases h⟩
/-- a new object that is still changed -/
theorem Wf.newX {F H : Hp} {p : Addr} {o : HO} (e : Ex F H) (hp : H p = none) : Wf F H F (upd H p o) := ⟨Ex.new hp, e.tr (Ex.new hp), Ex.rfl', fun a u h h0 => by rw [h] at h0; cases h0⟩
/-- F' has grown by nothing but p -/
abbrev Fz (F F' : Hp) (p : Addr) : Prop := ∀ q, q ≠ p → F q = none → F' q = none
/-- one's own object, not yet in F -/
structure Xc (H0 F H : Hp) (p : Addr) (o : HO) : Prop where
  z : H0 p = none
  n : F p = none
  h : H p = some o
section
variable {F0 H0 F H F' H' : Hp} {p q : Addr} {o u : HO}
theorem Xc.mk' (w : Wf F0 H0 F H) (hp : H p = none) : Xc H0 F (upd H p o) p o := ⟨w.h.non hp, w.f.non hp, upd_same⟩
theorem Xc.step (x : Xc H0 F H p o) (w : Wf F H F' H') : Xc H0 F' H' p o := ⟨x.z, (by
  cases q : F' p with
  | none => rfl
  | some u => have := w.n p u q x.n; rw [x.h] at this; cases this), w.h _ _ x.h⟩
theorem Xc.set (x : Xc H0 F H p o) : Xc H0 F (upd H p u) p u := ⟨x.z, x.n, upd_same⟩
theorem Wf.set (w : Wf F0 H0 F H) (x : Xc H0 F H p o) : Wf F0 H0 F (upd H p u) := ⟨fun a v e => by
    rw [upd_ne (ne_of_none e x.z)]; exact w.h a v e, fun a v e => by rw [upd_ne (ne_of_none e x.n)]; exact w.f a v e, w.g, w.n⟩
/-- it is changed no more -/
theorem Wf.freeze (w : Wf F0 H0 F H) (x : Xc H0 F H p o) : Wf F0 H0 (upd F p o) H := ⟨w.h, fun a v e => by
    by_cases q : a = p
    · subst q; rw [upd_same] at e; rw [← e]; exact x.h
    · rw [upd_ne q] at e; exact w.f a v e, w.g.tr (Ex.new x.n), fun a v e e0 => by
    by_cases q : a = p
    · subst q; exact x.z
    · rw [upd_ne q] at e; exact w.n a v e e0⟩
theorem Xc.frz (x : Xc H0 F H p o) (y : Xc H0 F H q u) (h : p ≠ q) : Xc H0 (upd F q u) H p o := ⟨x.z, by rw [upd_ne h]; exact x.n, x.h⟩
theorem Xc.ne (x : Xc H0 F H p o) (h : H q = none) : p ≠ q := ne_of_none x.h h
end
structure Rep (α : Type) where
  r : Hp → V → α → Prop
  mono : ∀ {F F' : Hp} {v : V} {x : α}, Ex F F' → r F v x → r F' v x
def pI : Rep Int := ⟨fun _ v x => v = .int x, fun _ h => h⟩
def pN : Rep Nat := ⟨fun _ v x => v = .int (x : Int), fun _ h => h⟩
def pB : Rep Bool := ⟨fun _ v x => v = .bl x, fun _ h => h⟩
def pS : Rep Str := ⟨fun _ v x => v = .str x, fun _ h => h⟩
def All {α : Type} (e : Rep α) (F : Hp) : List V → List α → Prop
  | [], [] => True
  | v :: vs, x :: xs => e.r F v x ∧ All e F vs xs
  | _, _ => False
section
variable {α β γ : Type} {e : Rep α} {F F' : Hp} {vs ws : List V} {xs ys : List α} {v : V} {x : α}
theorem All.mono (h : Ex F F') : ∀ {vs : List V} {xs : List α}, All e F vs xs → All e F' vs xs
  | [], [], _ => trivial
  | _ :: _, _ :: _, ⟨a, b⟩ => ⟨e.mono h a, All.mono h b⟩
  | [], _ :: _, q => q.elim
  | _ :: _, [], q => q.elim
theorem All.len : ∀ {vs : List V} {xs : List α}, All e F vs xs → vs.length = xs.length
  | [], [], _ => rfl
  | _ :: _, _ :: _, ⟨_, b⟩ => by rw [List.length_cons, List.length_cons, All.len b]
  | [], _ :: _, q => q.elim
  | _ :: _, [], q => q.elim
theorem All.get : ∀ {vs : List V} {xs : List α} {i : Nat} {x : α}, All e F vs xs → xs[i]? = some x → ∃ v, vs[i]? = some v ∧ e.r F v x
  | _ :: _, _ :: _, 0, _, ⟨a, _⟩, h => by simp at h; subst h; exact ⟨_, rfl, a⟩
  | _ :: _, _ :: _, i + 1, _, ⟨_, b⟩, h => by
    obtain ⟨v, h1, h2⟩ := All.get (i := i) b (by simpa using h)
    exact ⟨v, by simpa using h1, h2⟩
  | [], [], _, _, _, h => by simp at h
  | [], _ :: _, _, _, q, _ => q.elim
  | _ :: _, [], _, _, q, _ => q.elim
theorem All.got : ∀ {vs : List V} {xs : List α} {i : Nat} {v : V}, All e F vs xs → vs[i]? = some v → ∃ x, xs[i]? = some x ∧ e.r F v x
  | _ :: _, _ :: _, 0, _, ⟨a, _⟩, h => by simp at h; subst h; exact ⟨_, rfl, a⟩
  | _ :: _, _ :: _, i + 1, _, ⟨_, b⟩, h => by
    obtain ⟨v, h1, h2⟩ := All.got (i := i) b (by simpa using h)
    exact ⟨v, by simpa using h1, h2⟩
  | [], [], _, _, _, h => by simp at h
  | [], _ :: _, _, _, q, _ => q.elim
  | _ :: _, [], _, _, q, _ => q.elim
theorem All.app : ∀ {vs : List V} {xs : List α}, All e F vs xs → All e F ws ys → All e F (vs ++ ws) (xs ++ ys)
  | [], [], _, b => b
  | _ :: _, _ :: _, ⟨a, a'⟩, b => ⟨a, All.app a' b⟩
  | [], _ :: _, q, _ => q.elim
  | _ :: _, [], q, _ => q.elim
theorem All.snoc (a : All e F vs xs) (b : e.r F v x) : All e F (vs ++ [v]) (xs ++ [x]) := a.app ⟨b, trivial⟩
theorem All.set : ∀ {vs : List V} {xs : List α} (i : Nat), All e F vs xs → e.r F v x → All e F (vs.set i v) (xs.set i x)
  | [], [], _, _, _ => trivial
  | _ :: _, _ :: _, 0, ⟨_, b⟩, r => ⟨r, b⟩
  | _ :: _, _ :: _, i + 1, ⟨a, b⟩, r => ⟨a, All.set i b r⟩
  | [], _ :: _, _, q, _ => q.elim
  | _ :: _, [], _, q, _ => q.elim
theorem All.take : ∀ {vs : List V} {xs : List α} (i : Nat), All e F vs xs → All e F (vs.take i) (xs.take i)
  | [], [], i, _ => by simp [All]
  | _ :: _, _ :: _, 0, _ => trivial
  | _ :: _, _ :: _, i + 1, ⟨a, b⟩ => ⟨a, All.take i b⟩
  | [], _ :: _, _, q => q.elim
  | _ :: _, [], _, q => q.elim
theorem All.drop : ∀ {vs : List V} {xs : List α} (i : Nat), All e F vs xs → All e F (vs.drop i) (xs.drop i)
  | [], [], i, _ => by simp [All]
  | _ :: _, _ :: _, 0, h => h
  | _ :: _, _ :: _, i + 1, ⟨_, b⟩ => All.drop i b
  | [], _ :: _, _, q => q.elim
  | _ :: _, [], _, q => q.elim
theorem All.ofInts : ∀ {xs : List Int}, All pI F (xs.map V.int) xs
  | [] => trivial
  | _ :: _ => ⟨rfl, All.ofInts⟩
end
/-- a list, a tuple of things of one kind, pairs, triples -/
def pL {α : Type} (e : Rep α) : Rep (List α) := ⟨fun F v xs => ∃ p vs, v = .ref p ∧ F p = some (.lst vs) ∧ All e F vs xs, fun h ⟨p, vs, a, b, c⟩ => ⟨p, vs, a, h _ _ b, c.mono h⟩⟩
def pTL {α : Type} (e : Rep α) : Rep (List α) := ⟨fun F v xs => ∃ p vs, v = .ref p ∧ F p = some (.tup vs) ∧ All e F vs xs, fun h ⟨p, vs, a, b, c⟩ => ⟨p, vs, a, h _ _ b, c.mono h⟩⟩
def pT2 {α β : Type} (e : Rep α) (f : Rep β) : Rep (α × β) := ⟨fun F v x => ∃ p u w, v = .ref p ∧ F p = some (.tup [u, w]) ∧ e.r F u x.1 ∧ f.r F w x.2, fun h ⟨p, u, w, a, b, c, d⟩ => ⟨p, u, w, a, h _ _ b, e.mono h c, f.mono h d⟩⟩
def pT3 {α β γ : Type} (e : Rep α) (f : Rep β) (g : Rep γ) : Rep (α × β × γ) := ⟨fun F v x => ∃ p u w y, v = .ref p ∧ F p = some (.tup [u, w, y]) ∧ e.r F u x.1 ∧ f.r F w x.2.1 ∧ g.r F y x.2.2, fun h ⟨p, u, w, y, a, b, c, d, k⟩ => ⟨p, u, w, y, a, h _ _ b, e.mono h c, f.mono h d, g.mono h k⟩⟩
/-- the script: read only -/
def pScr (K : PySem.W.Frag) : Rep (List Int) := ⟨fun F v xs => ∃ a, v = .ref a ∧ SqL K F a (xs.map V.int), fun h ⟨a, e, q⟩ => ⟨a, e, by
  rcases q with (q | ⟨o, q⟩) | q
  · exact .inl (.inl (h _ _ q))
  · exact .inl (.inr ⟨o, h _ _ q⟩)
  · exact .inr q⟩⟩
/-- one's own list -/
structure XL {α : Type} (e : Rep α) (H0 F H : Hp) (p : Addr) (xs : List α) : Prop where
  x : ∃ vs, Xc H0 F H p (.lst vs) ∧ All e F vs xs
section
variable {α : Type} {e : Rep α} {F0 H0 F H F' H' : Hp} {p q : Addr} {o : HO} {xs : List α} {y : α} {v : V}
theorem XL.step (x : XL e H0 F H p xs) (w : Wf F H F' H') : XL e H0 F' H' p xs := let ⟨vs, a, b⟩ := x.x; ⟨vs, a.step w, b.mono w.g⟩
theorem XL.ne (x : XL e H0 F H p xs) (h : H q = none) : p ≠ q := let ⟨_, a, _⟩ := x.x; a.ne h
theorem XL.nil (w : Wf F0 H0 F H) (hp : H p = none) : XL e H0 F (upd H p (.lst [])) p [] := ⟨[], Xc.mk' w hp, trivial⟩
theorem XL.frz {u : HO} {β : Type} {e' : Rep β} {ys : List β} (x : XL e H0 F H p xs) (z : Xc H0 F H q u) (h : p ≠ q) : XL e H0 (upd F q u) H p xs := let ⟨vs, a, b⟩ := x.x; ⟨vs, a.frz z h, b.mono (Ex.new z.n)⟩
theorem XL.zero (x : XL e H0 F H p xs) : H0 p = none := let ⟨_, a, _⟩ := x.x; a.z
end
def forW {α S : Type} : List α → S → (α → S → (S → Prop) → (S → Prop) → Prop) → (S → Prop) → Prop
  | [], s, _, k => k s
  | x :: xs, s, b, k => b x s (fun s' => forW xs s' b k) k
def compG {α β : Type} : List α → List β → (α → (Option β → Prop) → Prop) → (List β → Prop) → Prop
  | [], acc, _, k => k acc
  | x :: xs, acc, b, k => b x fun o => compG xs (acc ++ o.toList) b k
def compW {α β : Type} (xs : List α) (b : α → (Option β → Prop) → Prop) (k : List β → Prop) : Prop := compG xs [] b k
section
variable {K : PySem.W.Frag} {σ σ1 : L2.St} {H H1 : Hp} {te ta tb tc : TE} {tt tu : TT} {tA tR : TA} {Q : VK} {v w x y z : V} {D : Ends} {t u : TS} {i j : Int} {a b m n : Nat} {p q : Prop}
theorem e_val (h : Val te σ H v) (q : Q v H) : te σ H Q := h Q q
theorem v_eq (h : Val te σ H v) (e : v = w) : Val te σ H w := e ▸ h
theorem vi_of (h : Val te σ H (.int i)) (e : i = j) : Val te σ H (.int j) := e ▸ h
theorem vb_of {b c : Bool} (h : Val te σ H (.bl b)) (e : b = c) : Val te σ H (.bl c) := e ▸ h
theorem v2 {r : R2} (ha : Val ta σ H x) (hb : Val tb σ H y) (hr : ∀ Q : VK, Q z H → r x y H Q) : Val (tOp r ta tb) σ H z := fun Q k => ha _ (hb _ (hr Q k))
theorem v1 {r : V → Hp → VK → Prop} (ha : Val ta σ H x) (hr : ∀ Q : VK, Q z H → r x H Q) : Val (tUn r ta) σ H z := fun Q k => ha _ (hr Q k)
theorem vi0 {g : Int → Int → V} (ha : Val ta σ H (.int i)) (hb : Val tb σ H (.int j)) : Val (tOp (rI0 g) ta tb) σ H (g i j) := fun _ k => ha _ (hb _ ⟨i, j, rfl, rfl, k⟩)
theorem viC {C : Int → Int → Prop} {g : Int → Int → V} (ha : Val ta σ H (.int i)) (hb : Val tb σ H (.int j)) (hc : C i j) : Val (tOp (rI C g) ta tb) σ H (g i j) := fun _ k => ha _ (hb _ ⟨i, j, rfl, rfl, hc, k⟩)
theorem vn_add (ha : Val ta σ H (.int (a : Int))) (hb : Val tb σ H (.int (b : Int))) : Val (tOp (rI0 fun i j => .int (i + j)) ta tb) σ H (.int ((a + b : Nat) : Int)) := vi_of (vi0 ha hb) (by omega)
def NMul (a b : Nat) : Prop := a < 2 ^ 64 ∨ b < 2 ^ 64
theorem vn_mul (ha : Val ta σ H (.int (a : Int))) (hb : Val tb σ H (.int (b : Int))) (h : NMul a b) : Val (tOp (rI CMul fun i j => .int (i * j)) ta tb) σ H (.int ((a * b : Nat) : Int)) := vi_of (viC ha hb (by
  rcases h with h | h
  · exact .inl ⟨by omega, by omega⟩
  · exact .inr ⟨by omega, by omega⟩)) (by rw [Int.natCast_mul])
theorem vn_mod (ha : Val ta σ H (.int (a : Int))) (hb : Val tb σ H (.int (b : Int))) (h : 0 < b) : Val (tOp (rI (fun _ j => 0 < j) fun i j => .int (i % j)) ta tb) σ H (.int ((a % b : Nat) : Int)) := vi_of (viC (C := fun _ j => 0 < j) ha hb (by omega)) (by rw [Int.natCast_emod])
/-- i % m, as a whole number from 0 on -/
def modN (i : Int) (m : Nat) : Nat := (i % (m : Int)).toNat
theorem modN_cast {i : Int} {m : Nat} (h : 0 < m) : ((modN i m : Nat) : Int) = i % (m : Int) := Int.toNat_of_nonneg (Int.emod_nonneg _ (by omega))
theorem modN_lt {i : Int} {m : Nat} (h : 0 < m) : modN i m < m := by
  have := modN_cast (i := i) h
  have := Int.emod_lt_of_pos i (show (0 : Int) < m by omega)
  omega
theorem vm_mod (ha : Val ta σ H (.int i)) (hb : Val tb σ H (.int (b : Int))) (h : 0 < b) : Val (tOp (rI (fun _ j => 0 < j) fun i j => .int (i % j)) ta tb) σ H (.int ((modN i b : Nat) : Int)) := vi_of (viC (C := fun _ j => 0 < j) ha hb (by omega)) (modN_cast h).symm
def NShl (a k : Nat) : Prop := a.log2 + k < 100000000
theorem NShl.ok {a k : Nat} (h : NShl a k) : CShl (a : Int) (k : Int) := by
  have e : (2 : Int) ^ 27 = 134217728 := by decide
  refine ⟨Int.natCast_nonneg _, ?_⟩
  rw [e]
  have b : Builtin.Int.intBits (a : Int) ≤ a.log2 + 1 := by
    unfold Builtin.Int.intBits
    split
    · omega
    · exact Nat.le_refl _
  unfold NShl at h
  omega
theorem vn_pow {c : Nat} (ha : Val ta σ H (.int (a : Int))) (hb : Val tb σ H (.int (b : Int))) (h : b ≤ 1000000 ∧ a < 2 ^ 64) (e : a ^ b = c) : Val (tOp (rI CPow fun i j => .int (i ^ j.toNat)) ta tb) σ H (.int (c : Int)) := vi_of (viC ha hb ⟨Int.natCast_nonneg _, by omega, by omega⟩) (by
  rw [Int.toNat_natCast, ← e, Int.natCast_pow])
theorem c_lt (ha : Val ta σ H (.int i)) (hb : Val tb σ H (.int j)) : Val (tOp (rI0 fun i j => .bl (decide (i < j))) ta tb) σ H (.bl (decide (i < j))) := vi0 ha hb
theorem dec_iff {p q : Prop} [Decidable p] [Decidable q] (h : p ↔ q) : decide p = decide q := by
  by_cases k : p
  · rw [decide_eq_true k, decide_eq_true (h.mp k)]
  · rw [decide_eq_false k, decide_eq_false (fun z => k (h.mpr z))]
theorem vb_dec [Decidable p] [Decidable q] (h : Val te σ H (.bl (decide p))) (e : p ↔ q) : Val te σ H (.bl (decide q)) := vb_of h (dec_iff e)
theorem c_eqI (ha : Val ta σ H (.int i)) (hb : Val tb σ H (.int j)) : Val (tOp rEq ta tb) σ H (.bl (decide (i = j))) := v2 ha hb fun Q k => ⟨rfl, by
  rw [dec_iff (show V.int i = V.int j ↔ i = j from ⟨fun h => V.int.inj h, fun h => by rw [h]⟩)]; exact k⟩
theorem c_neS {s r : Str} (ha : Val ta σ H (.str s)) (hb : Val tb σ H (.str r)) : Val (tOp rNe ta tb) σ H (.bl (decide (s ≠ r))) := v2 ha hb fun Q k => ⟨rfl, by
  rw [← decide_not, dec_iff (show ¬ V.str s = V.str r ↔ s ≠ r from ⟨fun h e => h (by rw [e]), fun h e => h (V.str.inj e)⟩)]; exact k⟩
/-- numbers from 0 on: the comparison without casts -/
theorem n_lt : ((a : Int) < (b : Int)) ↔ a < b := by omega
theorem n_eq : ((a : Int) = (b : Int)) ↔ a = b := by omega
theorem t_of (h : Val te σ H (.bl b')) : Ans (tTest te) σ H b' := fun _ k => h _ ⟨_, rfl, k⟩
theorem t_ofB (h : Val te σ H (.bl b')) : Ans (tB te) σ H b' := fun _ k => h _ ⟨_, rfl, k⟩
theorem t_dec {b c : Bool} (h : Ans tt σ H b) (e : b = c) : Ans tt σ H c := e ▸ h
theorem t_iff [Decidable p] [Decidable q] (h : Ans tt σ H (decide p)) (e : p ↔ q) : Ans tt σ H (decide q) := t_dec h (dec_iff e)
theorem t_not [Decidable p] (h : Ans tt σ H (decide p)) : Ans (tNot tt) σ H (decide (¬ p)) := fun Q k => h _ (by rw [← decide_not]; exact k)
theorem t_or [Decidable p] [Decidable q] (h : Ans tt σ H (decide p)) (h2 : ¬ p → Ans tu σ H (decide q)) : Ans (tOr tt tu) σ H (decide (p ∨ q)) := fun Q k => h _ (by
  by_cases hp : p
  · rw [decide_eq_true hp, if_pos rfl]
    rw [decide_eq_true (Or.inl hp)] at k
    exact k
  · rw [decide_eq_false hp, if_neg (by simp)]
    exact h2 hp Q (by rw [dec_iff (show q ↔ p ∨ q from ⟨fun z => .inr z, fun z => z.resolve_left hp⟩)]; exact k))
theorem e_call {sp : Sp} {E : XK} (h : tA σ H fun vs H1 => sp vs H1 Q E) : tCall sp [] E tA σ H Q := by
  show tA σ H fun vs H1 => sp (vs ++ []) H1 Q E
  simpa only [List.append_nil] using h
theorem a_nil {R : List V → Hp → Prop} (h : R [] H) : tNil σ H R := h
theorem a_cons {R : List V → Hp → Prop} (h : te σ H fun x H1 => tR σ H1 fun xs H2 => R (x :: xs) H2) : tCons te tR σ H R := h
theorem a_val {R : List V → Hp → Prop} (h : Val te σ H v) (k : tR σ H fun xs H2 => R (v :: xs) H2) : tCons te tR σ H R := h _ k
theorem v_cb1 {r : List V → Hp → VK → Prop} (ha : Val ta σ H x) (hr : ∀ Q : VK, Q z H → r [x] H Q) : Val (tCB r (tCons ta tNil)) σ H z := fun Q k => ha _ (hr Q k)
theorem q_sq (h : ∀ N : L2.St → Hp → Prop, (∀ σ' H', u D σ' H' → N σ' H') → t { D with nx := N } σ H) : tSeq t u D σ H := h _ fun _ _ z => z
theorem a_asg {i : Nat} (h : Val te σ H v) (q : D.nx (σ.set i (some v)) H) : tAsg te (gName i) D σ H := h _ q
theorem a_asgE {i : Nat} (h : te σ H fun v H1 => D.nx (σ.set i (some v)) H1) : tAsg te (gName i) D σ H := h
theorem a_ret (h : Val te σ H v) (q : D.rt v H) : tRet te D σ H := h _ q
theorem a_retE (h : te σ H D.rt) : tRet te D σ H := h
theorem a_dropE (h : te σ H fun _ H1 => D.nx σ H1) : tDrop te D σ H := h
theorem a_ifE (h : tt σ H fun b H1 => if b = true then t D σ H1 else u D σ H1) : tIfS tt t u D σ H := h
theorem ifP [Decidable p] {A B : Prop} (h : if p then A else B) (hp : p) : A := by rw [if_pos hp] at h; exact h
theorem ifN [Decidable p] {A B : Prop} (h : if p then A else B) (hp : ¬ p) : B := by rw [if_neg hp] at h; exact h
end
end Wk
namespace Wk
open PySem L2
class Dat {α : Type} (e : Rep α) (lv : outParam Nat) where
  d : α → PyData
  dp : ∀ {K : PySem.W.Frag} {F : Hp} {v : V} {x : α}, e.r F v x → Dp K F v (d x)
  lay : ∀ x, (d x).canLay0 = true
  dep : ∀ x, (d x).depth ≤ lv
  inj : ∀ x y, PyData.eqv (d x) (d y) = true ↔ x = y
instance : Dat pI 0 := ⟨.int, fun h => by cases (show _ = V.int _ from h); exact .int _, fun _ => rfl, fun _ => Nat.le_refl _, fun x y => by
  show ((x == y) = true) ↔ _
  exact beq_iff_eq⟩
instance : Dat pN 0 := ⟨fun n => .int (n : Int), fun h => by cases (show _ = V.int _ from h); exact .int _, fun _ => rfl, fun _ => Nat.le_refl _, fun x y => by
  show (((x : Int) == (y : Int)) = true) ↔ _
  rw [beq_iff_eq]; omega⟩
instance : Dat pB 0 := ⟨.bool, fun h => by cases (show _ = V.bl _ from h); exact .bl _, fun _ => rfl, fun _ => Nat.le_refl _, fun x y => by
  show ((x == y) = true) ↔ _
  exact beq_iff_eq⟩
theorem lay_all {α : Type} {d : α → PyData} (h : ∀ x, (d x).canLay0 = true) : ∀ xs : List α, PyData.canLayAll0 (xs.map d) = true
  | [] => rfl
  | x :: xs => by show (PyData.canLay0 (d x) && PyData.canLayAll0 (xs.map d)) = true; rw [h x, lay_all h xs]; rfl
theorem dep_all {α : Type} {d : α → PyData} {n : Nat} (h : ∀ x, (d x).depth ≤ n) : ∀ xs : List α, PyData.depthAll (xs.map d) ≤ n
  | [] => Nat.zero_le _
  | x :: xs => by
    show PyData.depthAll (d x :: xs.map d) ≤ n
    have a := h x
    have b := dep_all h xs
    simp only [PyData.depthAll]
    omega
theorem eqv_all {α : Type} {d : α → PyData} (h : ∀ x y, PyData.eqv (d x) (d y) = true ↔ x = y) : ∀ xs ys : List α, PyData.eqvAll (xs.map d) (ys.map d) = true ↔ xs = ys
  | [], [] => ⟨fun _ => rfl, fun _ => rfl⟩
  | x :: xs, [] => ⟨fun q => (by cases q), fun q => (by cases q)⟩
  | [], y :: ys => ⟨fun q => (by cases q), fun q => (by cases q)⟩
  | x :: xs, y :: ys => by
    show (PyData.eqv (d x) (d y) && PyData.eqvAll (xs.map d) (ys.map d)) = true ↔ _
    rw [Bool.and_eq_true, h x y, eqv_all h xs ys, List.cons.injEq]
theorem dp_all {α : Type} {e : Rep α} {lv : Nat} [Dat e lv] {K : PySem.W.Frag} {F : Hp} : ∀ {vs : List V} {xs : List α}, All e F vs xs → DpAll K F vs (xs.map (Dat.d e))
  | [], [], _ => .nil
  | _ :: _, _ :: _, ⟨a, b⟩ => .cons (Dat.dp a) (dp_all b)
  | [], _ :: _, q => q.elim
  | _ :: _, [], q => q.elim
instance {α : Type} {e : Rep α} {n : Nat} [Dat e n] : Dat (pL e) (n + 1) := ⟨fun xs => .list (xs.map (Dat.d e)), fun {K F v xs} h => by
    obtain ⟨p, vs, rfl, hp, a⟩ := h
    exact .lst (SqL.of hp) (dp_all a), fun xs => lay_all (Dat.lay (e := e)) xs, fun xs => by
    have := dep_all (Dat.dep (e := e)) xs
    simp only [PyData.depth]
    omega, fun xs ys => by
    show PyData.eqvAll (xs.map (Dat.d e)) (ys.map (Dat.d e)) = true ↔ _
    exact eqv_all (Dat.inj (e := e)) xs ys⟩
instance {α : Type} {e : Rep α} {n : Nat} [Dat e n] : Dat (pTL e) (n + 1) := ⟨fun xs => .tuple (xs.map (Dat.d e)), fun {K F v xs} h => by
    obtain ⟨p, vs, rfl, hp, a⟩ := h
    exact .tup (SqT.of hp) (dp_all a), fun xs => lay_all (Dat.lay (e := e)) xs, fun xs => by
    have := dep_all (Dat.dep (e := e)) xs
    simp only [PyData.depth]
    omega, fun xs ys => by
    show PyData.eqvAll (xs.map (Dat.d e)) (ys.map (Dat.d e)) = true ↔ _
    exact eqv_all (Dat.inj (e := e)) xs ys⟩
instance {α β : Type} {e : Rep α} {f : Rep β} {n m : Nat} [Dat e n] [Dat f m] : Dat (pT2 e f) (max n m + 1) := ⟨fun x => .tuple [Dat.d e x.1, Dat.d f x.2], fun {K F v x} h => by
    obtain ⟨p, u, w, rfl, hp, a, b⟩ := h
    exact .tup (SqT.of hp) (.cons (Dat.dp a) (.cons (Dat.dp b) .nil)), fun x => by
    show (PyData.canLay0 (Dat.d e x.1) && (PyData.canLay0 (Dat.d f x.2) && PyData.canLayAll0 [])) = true
    rw [Dat.lay, Dat.lay]; rfl, fun x => by
    have a := Dat.dep (e := e) x.1
    have b := Dat.dep (e := f) x.2
    simp only [PyData.depth, PyData.depthAll]
    omega, fun x y => by
    show (PyData.eqv (Dat.d e x.1) (Dat.d e y.1) && (PyData.eqv (Dat.d f x.2) (Dat.d f y.2) && PyData.eqvAll [] [])) = true ↔ _
    have z : PyData.eqvAll [] [] = true := rfl
    rw [z, Bool.and_true, Bool.and_eq_true, Dat.inj, Dat.inj, Prod.ext_iff]⟩
theorem Dat.shp {α : Type} {e : Rep α} {n : Nat} [Dat e n] (h : n ≤ 64) (x : α) : SeqAt.shaped (Dat.d e x) = true := by
  unfold SeqAt.shaped
  rw [Dat.lay, decide_eq_true (Nat.le_trans (Dat.dep x) h)]; rfl
section
variable {α β : Type} {e : Rep α} {f : Rep β} {K : PySem.W.Frag} {σ : L2.St} {F0 H0 F F' H H' : Hp} {te tl ta tb : TE} {tt : TT} {tA : TA} {Q : VK} {v w u : V} {xs ys : List α} {x y : α} {D : Ends} {tu : TS} {p q : Addr} {n : Nat} {i : Int}
theorem c_neD [DecidableEq α] [Dat e n] (ha : Val ta σ H v) (hb : Val tb σ H w) (f : Ex F H) (r : e.r F v x) (g : Ex F' H) (s : e.r F' w y) (h : n ≤ 64 := by decide) : Val (tOp (rNeD K) ta tb) σ H (.bl (decide (x ≠ y))) :=
  v2 ha hb fun Q k => ⟨_, _, Dat.dp (e.mono f r), Dat.dp (e.mono g s), Dat.shp h x, Dat.shp h y, by
    have z : PyData.eqv (Dat.d e x) (Dat.d e y) = decide (x = y) := Bool.eq_iff_iff.mpr (by rw [Dat.inj, decide_eq_true_iff])
    rw [z, ← decide_not]; exact k⟩
theorem XL.rd (z : XL e H0 F H p xs) : ∃ vs, H p = some (.lst vs) ∧ All e F vs xs := let ⟨vs, a, b⟩ := z.x; ⟨vs, a.h, b⟩
theorem L_rd (r : (pL e).r F v xs) (f : Ex F H) : ∃ p vs, v = .ref p ∧ H p = some (.lst vs) ∧ All e F vs xs := let ⟨p, vs, a, b, c⟩ := r; ⟨p, vs, a, f _ _ b, c⟩
theorem ix_L (r : (pL e).r F v xs) (f : Ex F H) {i : Nat} (hx : xs[i]? = some x) : ∃ w, e.r F w x ∧ ∀ ⦃σ ta tb⦄, Val ta σ H v → Val tb σ H (.int (i : Int)) → Val (tOp (rIxL K) ta tb) σ H w := by
  obtain ⟨p, vs, rfl, hp, a⟩ := L_rd r f
  obtain ⟨w, h1, h2⟩ := a.get hx
  exact ⟨w, h2, fun _ _ _ ha hb => v2 ha hb fun Q k => ⟨p, vs, _, w, rfl, rfl, SqL.of hp, atI_nat h1, k⟩⟩
theorem ix_S (f : Ex F H) {ys : List Int} {i : Nat} {x : Int} (r : (pScr K).r F v ys) (hx : ys[i]? = some x) : ∀ ⦃σ ta tb⦄, Val ta σ H v → Val tb σ H (.int (i : Int)) → Val (tOp (rIxL K) ta tb) σ H (.int x) := by
  obtain ⟨p, rfl, s⟩ := (pScr K).mono f r
  exact fun _ _ _ ha hb => v2 ha hb fun Q k => ⟨p, _, _, .int x, rfl, rfl, s, atI_nat (by rw [List.getElem?_map, hx]; rfl), k⟩
def rLen (K : PySem.W.Frag) : List V → Hp → VK → Prop := fun xs H Q => ∃ p ys, xs = [.ref p] ∧ (SqL K H p ys ∨ SqT K H p ys) ∧ Q (.int ys.length) H
theorem len_S {ys : List Int} (r : (pScr K).r F v ys) (f : Ex F H) (ha : Val ta σ H v) : Val (tCB (rLen K) (tCons ta tNil)) σ H (.int ((ys.length : Nat) : Int)) := by
  obtain ⟨p, rfl, s⟩ := (pScr K).mono f r
  exact v_cb1 ha fun Q k => ⟨p, _, rfl, .inl s, by rw [List.length_map]; exact k⟩
def kLst (Q : VK) (xs : List V) (H : Hp) : Prop := xs.length ≤ sizeLine ∧ ∀ p, H p = none → Q (.ref p) (upd H p (.lst xs))
theorem small_len {n : Nat} (h : n < 1000000) : n < sizeLine := by rw [sizeLine_eq]; omega
theorem n_lstX {vs : List V} (a : All e F vs xs) (hl : xs.length < 1000000) (w : Wf F0 H0 F H) (k : ∀ p H', H p = none → Wf F H F H' → XL e H0 F H' p xs → Q (.ref p) H') :
    kLst Q vs H := ⟨by rw [a.len]; exact Nat.le_of_lt (small_len hl), fun p hp => k p _ hp (Wf.newX w.f hp) ⟨vs, Xc.mk' w hp, a⟩⟩
/-- one's own list is changed no more -/
theorem XL.frzE (x : XL e H0 F H p xs) (w : Wf F0 H0 F H) : ∃ F', Wf F0 H0 F' H ∧ Ex F F' ∧ (pL e).r F' (.ref p) xs ∧ Fz F F' p := by
  obtain ⟨vs, a, b⟩ := x.x
  exact ⟨_, w.freeze a, Ex.new a.n, ⟨p, vs, rfl, upd_same, b.mono (Ex.new a.n)⟩, fun q h z => by rw [upd_ne h]; exact z⟩
theorem a_app (x : XL e H0 F H p xs) (w : Wf F0 H0 F H) (hl : xs.length < 1000000) (r : e.r F v y) (k : ∀ H', Wf F0 H0 F H' → XL e H0 F H' p (xs ++ [y]) → (∀ q o, H q = some o → q ≠ p → H' q = some o) → Q .non H') : rAppend (.ref p) [v] H Q := by
  obtain ⟨vs, a, b⟩ := x.x
  exact ⟨p, vs, v, rfl, rfl, a.h, by rw [b.len]; exact small_len hl, k _ (w.set a) ⟨_, a.set, b.snoc r⟩ fun q o h hq => by rw [upd_ne hq]; exact h⟩
/-- another's place is as it was -/
theorem Xc.kept {o : HO} (x : Xc H0 F H q o) (h : ∀ q o, H q = some o → q ≠ p → H' q = some o) (hq : q ≠ p) : Xc H0 F H' q o := ⟨x.z, x.n, h _ _ x.h hq⟩
theorem XL.kept (x : XL e H0 F H q xs) (h : ∀ q o, H q = some o → q ≠ p → H' q = some o) (hq : q ≠ p) : XL e H0 F H' q xs := let ⟨vs, a, b⟩ := x.x; ⟨vs, a.kept h hq, b⟩
variable {S : Type} {R : Type} {g : TG} {tb : TS} {body : β → S → (S → Prop) → (S → Prop) → Prop} {s0 : S} {k : S → Prop} {vs : List V} {zs : List β} {b : Rep β}
/-- over a list that stays -/
theorem w_forL (Inv : S → L2.St → Hp → Hp → Prop) (r : (pL b).r F v zs) (hW : forW zs s0 body k) (h0 : Inv s0 σ F H)
    (ex : ∀ s σ' F' H', Inv s σ' F' H' → Ex F F' ∧ Ex F' H') (f : Ex F H)
    (turn : ∀ (N Bk : L2.St → Hp → Prop) x u s σ' F' H' (nx bk : S → Prop), Inv s σ' F' H' → x ∈ zs → b.r F' u x → body x s nx bk → (∀ s' σ2 F2 H2, Inv s' σ2 F2 H2 → nx s' → N σ2 H2) → (∀ s' σ2 F2 H2, Inv s' σ2 F2 H2 → bk s' → Bk σ2 H2) →
      g u σ' H' fun σ2 H2 => tb { D with nx := N, ct := N, bk := Bk } σ2 H2)
    (done : ∀ s σ' F' H', Inv s σ' F' H' → k s → D.nx σ' H') :
    ∃ a, v = .ref a ∧ (∃ xs, SqL K H a xs) ∧ (fun J H1 => ∃ W : Nat → Nat → L2.St → Hp → Prop, (∃ m, W 0 m σ H1) ∧ ∀ i m σ H, W i m σ H →
      (J.stop i H ∧ D.nx σ H) ∨ (J.go i H ∧ ∃ N : L2.St → Hp → Prop, (∀ σ' H', N σ' H' → ∃ m', m' < m ∧ W (i + 1) m' σ' H') ∧ ∀ x H', J.yld i H x H' → g x σ H' fun σ2 H2 => tb { D with nx := N, ct := N, bk := D.nx } σ2 H2)) (Itl K a) H := by
  obtain ⟨p, vs, rfl, hp, a⟩ := r
  refine ⟨p, rfl, ⟨_, SqL.of (f _ _ hp)⟩, for_list (xs := vs) (fun i σ' H' => ∃ s F', Inv s σ' F' H' ∧ forW (zs.drop i) s body k) ⟨s0, F, h0, hW⟩ (fun i σ' H' _ ⟨s, F', hI, _⟩ => SqL.of ((ex _ _ _ _ hI).2 _ _ ((ex _ _ _ _ hI).1 _ _ hp))) ?_ ?_⟩
  · rintro i u σ' H' hu ⟨s, F', hI, hw⟩
    obtain ⟨x, hx, rx⟩ := a.got hu
    have e : zs.drop i = x :: zs.drop (i + 1) := by
      obtain ⟨h1, h2⟩ := List.getElem?_eq_some_iff.mp hx
      rw [← h2]; exact List.drop_eq_getElem_cons h1
    rw [e] at hw
    exact turn _ _ x u s σ' F' H' _ _ hI (List.mem_of_getElem? hx) (b.mono (ex _ _ _ _ hI).1 rx) hw (fun s' σ2 F2 H2 q n => ⟨s', F2, q, n⟩) (fun s' σ2 F2 H2 q n => done s' σ2 F2 H2 q n)
  · rintro σ' H' ⟨s, F', hI, hw⟩
    rw [List.drop_of_length_le (by rw [a.len]; exact Nat.le_refl _)] at hw
    exact done _ _ _ _ hI hw
/-- ways that meet again -/
def jn {S : Type} (f : (S → Prop) → Prop) (k : S → Prop) : Prop := f k
/-- what a comprehension asks of its source's value -/
def kCpL (K : PySem.W.Frag) (g : TG) (tc : TT) (te : TE) (vs : List Nat) (σ : L2.St) (Q : VK) (v : V) (H : Hp) : Prop := ∃ a, v = .ref a ∧ (∃ xs, SqL K H a xs) ∧ (fun J H1 => ∀ D, H1 D = none → ∃ W : Nat → Nat → Hp → Prop, (∃ m, W 0 m (upd H1 D (.lst []))) ∧ ∀ i m H, W i m H →
      (J.stop i H ∧ Q (.ref D) H) ∨ (J.go i H ∧ ∃ Nx : Hp → Prop, (∀ H', Nx H' → ∃ m', m' < m ∧ W (i + 1) m' H') ∧ ∀ x H', J.yld i H x H' → g x (wipe σ vs) H' fun σ2 H2 => wipe σ2 vs = wipe σ vs ∧ tc σ2 H2 fun b H3 =>
        if b = true then te σ2 H3 fun y H4 => ∃ acc, H4 D = some (.lst acc) ∧ acc.length < sizeLine ∧ Nx (upd H4 D (.lst (acc ++ [y]))) else Nx H3)) (Itl K a) H
def kCpR (g : TG) (tc : TT) (te : TE) (vs : List Nat) (σ : L2.St) (Q : VK) (v : V) (H : Hp) : Prop := ∃ j : Int, [v] = [.int j] ∧ -(2 ^ 62) ≤ j ∧ j < 2 ^ 62 ∧ (fun J H1 => ∀ D, H1 D = none → ∃ W : Nat → Nat → Hp → Prop, (∃ m, W 0 m (upd H1 D (.lst []))) ∧ ∀ i m H, W i m H →
      (J.stop i H ∧ Q (.ref D) H) ∨ (J.go i H ∧ ∃ Nx : Hp → Prop, (∀ H', Nx H' → ∃ m', m' < m ∧ W (i + 1) m' H') ∧ ∀ x H', J.yld i H x H' → g x (wipe σ vs) H' fun σ2 H2 => wipe σ2 vs = wipe σ vs ∧ tc σ2 H2 fun b H3 =>
        if b = true then te σ2 H3 fun y H4 => ∃ acc, H4 D = some (.lst acc) ∧ acc.length < sizeLine ∧ Nx (upd H4 D (.lst (acc ++ [y]))) else Nx H3)) (Itr 0 j.toNat) H
theorem w_compC {ws : List V} {tc : TT} {vs : List Nat} {bd : β → (Option α → Prop) → Prop} {kk : List α → Prop} (hp : H p = some (.lst ws)) (a : All b F ws zs) (w : Wf F0 H0 F H) (hn : zs.length < 1000000) (hW : compW zs bd kk)
    (turn : ∀ (Qy : V → Hp → Prop) (Qn : Hp → Prop) x u F1 H1 (R : Option α → Prop), Wf F H F1 H1 → x ∈ zs → b.r F1 u x → bd x R → (∀ y z F2 H2, Wf F1 H1 F2 H2 → e.r F2 y z → R (some z) → Qy y H2) → (∀ F2 H2, Wf F1 H1 F2 H2 → R none → Qn H2) →
      g u (wipe σ vs) H1 fun σ2 H2 => wipe σ2 vs = wipe σ vs ∧ tc σ2 H2 fun b H3 => if b = true then te σ2 H3 Qy else Qn H3)
    (done : ∀ p ys F' H', H p = none → Wf F H F' H' → XL e H0 F' H' p ys → kk ys → Q (.ref p) H') :
    kCpL K g tc te vs σ Q (V.ref p) H := by
  unfold kCpL
  refine ⟨p, rfl, ⟨_, SqL.of hp⟩, fun D hD => lc_list (xs := ws) (fun i H' => ∃ F' ac ys, Wf F H F' H' ∧ Xc H F' H' D (.lst ac) ∧ All e F' ac ys ∧ ys.length ≤ i ∧ compG (zs.drop i) ys bd kk)
    ⟨F, [], [], Wf.newX w.f hD, Xc.mk' (Wf.id w.f) hD, trivial, Nat.le_refl _, hW⟩ (fun i H' _ ⟨F', ac, ys, q, _⟩ => SqL.of (q.h _ _ hp)) ?_ ?_⟩
  · rintro i u H' hu ⟨F', ac, ys, q, xc, al, hl, hw⟩
    obtain ⟨x, hx, rx⟩ := a.got hu
    obtain ⟨h1, h2⟩ := List.getElem?_eq_some_iff.mp hx
    have e' : zs.drop i = x :: zs.drop (i + 1) := by rw [← h2]; exact List.drop_eq_getElem_cons h1
    rw [e'] at hw
    refine turn _ _ x u F' H' _ q (List.mem_of_getElem? hx) (b.mono q.g rx) hw (fun y z F2 H2 s ry hR => ?_) (fun F2 H2 s hR => ?_)
    · have xc2 := xc.step s
      exact ⟨ac, xc2.h, by rw [al.len]; exact small_len (by omega), F2, ac ++ [y], ys ++ [z], (q.tr s).set xc2, xc2.set, (al.mono s.g).snoc ry, by rw [List.length_append]; exact Nat.succ_le_succ hl, hR⟩
    · exact ⟨F2, ac, ys, q.tr s, xc.step s, al.mono s.g, Nat.le_succ_of_le hl, by simpa using hR⟩
  · rintro H' ⟨F', ac, ys, q, xc, al, hl, hw⟩
    rw [List.drop_of_length_le (by rw [a.len]; exact Nat.le_refl _)] at hw
    exact done D ys F' H' hD q ⟨ac, ⟨w.h.non hD, xc.n, xc.h⟩, al⟩ hw
theorem w_compL {tc : TT} {vs : List Nat} {bd : β → (Option α → Prop) → Prop} {kk : List α → Prop} (r : (pL b).r F v zs) (w : Wf F0 H0 F H) (hn : zs.length < 1000000) (hW : compW zs bd kk)
    (turn : ∀ (Qy : V → Hp → Prop) (Qn : Hp → Prop) x u F1 H1 (R : Option α → Prop), Wf F H F1 H1 → x ∈ zs → b.r F1 u x → bd x R → (∀ y z F2 H2, Wf F1 H1 F2 H2 → e.r F2 y z → R (some z) → Qy y H2) → (∀ F2 H2, Wf F1 H1 F2 H2 → R none → Qn H2) →
      g u (wipe σ vs) H1 fun σ2 H2 => wipe σ2 vs = wipe σ vs ∧ tc σ2 H2 fun b H3 => if b = true then te σ2 H3 Qy else Qn H3)
    (done : ∀ p ys F' H', H p = none → Wf F H F' H' → XL e H0 F' H' p ys → kk ys → Q (.ref p) H') :
    kCpL K g tc te vs σ Q v H := by
  obtain ⟨p, ws, rfl, hp, a⟩ := r
  exact w_compC (w.f _ _ hp) a w hn hW turn done
theorem w_compR {tc : TT} {vs : List Nat} {n : Nat} {bd : Nat → (Option α → Prop) → Prop} {kk : List α → Prop} (w : Wf F0 H0 F H) (hn : n < 1000000) (hW : compW (List.range n) bd kk)
    (turn : ∀ (Qy : V → Hp → Prop) (Qn : Hp → Prop) (x : Nat) F1 H1 (R : Option α → Prop), Wf F H F1 H1 → x < n → bd x R → (∀ y z F2 H2, Wf F1 H1 F2 H2 → e.r F2 y z → R (some z) → Qy y H2) → (∀ F2 H2, Wf F1 H1 F2 H2 → R none → Qn H2) →
      g (.int (x : Int)) (wipe σ vs) H1 fun σ2 H2 => wipe σ2 vs = wipe σ vs ∧ tc σ2 H2 fun b H3 => if b = true then te σ2 H3 Qy else Qn H3)
    (done : ∀ p ys F' H', H p = none → Wf F H F' H' → XL e H0 F' H' p ys → kk ys → Q (.ref p) H') :
    kCpR g tc te vs σ Q (.int (n : Int)) H := by
  unfold kCpR
  refine ⟨(n : Int), rfl, by omega, by omega, fun D hD => lc_range (lo := 0) (n := n) (fun i H' => ∃ F' ac ys, Wf F H F' H' ∧ Xc H F' H' D (.lst ac) ∧ All e F' ac ys ∧ ys.length ≤ i ∧ compG ((List.range n).drop i) ys bd kk)
    ⟨F, [], [], Wf.newX w.f hD, Xc.mk' (Wf.id w.f) hD, trivial, Nat.le_refl _, hW⟩ ?_ ?_⟩
  · rintro i H' hi ⟨F', ac, ys, q, xc, al, hl, hw⟩
    have e' : (List.range n).drop i = i :: (List.range n).drop (i + 1) := by
      have h1 : i < (List.range n).length := by rw [List.length_range]; exact hi
      rw [List.drop_eq_getElem_cons h1, List.getElem_range]
    rw [e'] at hw
    have z : (0 : Int) + (i : Int) = (i : Int) := Int.zero_add _
    rw [z]
    refine turn _ _ i F' H' _ q hi hw (fun y z F2 H2 s ry hR => ?_) (fun F2 H2 s hR => ?_)
    · have xc2 := xc.step s
      exact ⟨ac, xc2.h, by rw [al.len]; exact small_len (by omega), F2, ac ++ [y], ys ++ [z], (q.tr s).set xc2, xc2.set, (al.mono s.g).snoc ry, by rw [List.length_append]; exact Nat.succ_le_succ hl, hR⟩
    · exact ⟨F2, ac, ys, q.tr s, xc.step s, al.mono s.g, Nat.le_succ_of_le hl, by simpa using hR⟩
  · rintro H' ⟨F', ac, ys, q, xc, al, hl, hw⟩
    rw [List.drop_of_length_le (by rw [List.length_range]; exact Nat.le_refl _)] at hw
    exact done D ys F' H' hD q ⟨ac, ⟨w.h.non hD, xc.n, xc.h⟩, al⟩ hw
end
end Wk
namespace Wk
open PySem L2
section
variable {X : Cx} {σ : L2.St} {H : Hp} {te tl ta tb : TE} {tt tc : TT} {tA : TA} {Q : VK} {v w x y z : V} {D : Ends} {tu : TS} {g : TG} {K : PySem.W.Frag} {p q : Prop}
theorem f_LE (h : tl σ H fun v H => ∃ a, v = .ref a ∧ (∃ xs, SqL K H a xs) ∧ (fun J H1 => ∃ W : Nat → Nat → L2.St → Hp → Prop, (∃ m, W 0 m σ H1) ∧ ∀ i m σ H, W i m σ H →
      (J.stop i H ∧ D.nx σ H) ∨ (J.go i H ∧ ∃ N : L2.St → Hp → Prop, (∀ σ' H', N σ' H' → ∃ m', m' < m ∧ W (i + 1) m' σ' H') ∧ ∀ x H', J.yld i H x H' → g x σ H' fun σ2 H2 => tu { D with nx := N, ct := N, bk := D.nx } σ2 H2)) (Itl K a) H) : tFor (iList K tl) g tu D σ H := h
theorem c_LE {vs : List Nat} (h : tl σ H (kCpL K g tc te vs σ Q)) : tLc (iList K tl) g tc te vs σ H Q := h
theorem c_RE {vs : List Nat} (h : ta σ H (kCpR g tc te vs σ Q)) : tLc (iRng1 (tCons ta tNil)) g tc te vs σ H Q := h
theorem c_yes {A B : Hp → Prop} (h : A H) : tYes σ H fun b H3 => if b = true then A H3 else B H3 := by show if true = true then A H else B H; rw [if_pos rfl]; exact h
theorem b_if {p : Prop} [Decidable p] {A B : Prop} (h1 : p → A) (h2 : ¬ p → B) : if decide p = true then A else B := by
  by_cases hp : p
  · rw [decide_eq_true hp, if_pos rfl]; exact h1 hp
  · rw [decide_eq_false hp, if_neg (by simp)]; exact h2 hp
theorem bb_if {b : Bool} {A B : Prop} (h1 : b = true → A) (h2 : ¬ b = true → B) : if b = true then A else B := by
  by_cases hp : b = true
  · rw [if_pos hp]; exact h1 hp
  · rw [if_neg hp]; exact h2 hp
theorem e_op {r : R2} (h : ta σ H fun x H1 => tb σ H1 fun y H2 => r x y H2 Q) : tOp r ta tb σ H Q := h
theorem rv2 {r : R2} (h : Val (tOp r (tC x) (tC y)) [] H z) (q : Q z H) : r x y H Q := h Q q
theorem rv2T {r : R2} {b : Bool} {Qt : Bool → Hp → Prop} (h : Val (tOp r (tC x) (tC y)) [] H (.bl b)) (q : Qt b H) : r x y H (fun x H' => ∃ k, x = .bl k ∧ Qt k H') := h _ ⟨b, rfl, q⟩
theorem e_cb {r : List V → Hp → VK → Prop} (h : tA σ H fun vs H1 => r vs H1 Q) : tCB r tA σ H Q := h
theorem e_tT {Qt : Bool → Hp → Prop} (h : te σ H fun x H1 => ∃ c, x = .bl c ∧ Qt c H1) : tTest te σ H Qt := h
theorem e_ans {Qt : Bool → Hp → Prop} {b : Bool} (h : Ans tt σ H b) (q : Qt b H) : tt σ H Qt := h Qt q
theorem e_lst (h : tA σ H (kLst Q)) : tLst tA σ H Q := h
theorem XL.base {α : Type} {e : Rep α} {F0 H0 F F' H' : Hp} {p : Addr} {xs : List α} (x : XL e H F' H' p xs) (w : Wf F0 H0 F H) : XL e H0 F' H' p xs := let ⟨vs, a, b⟩ := x.x; ⟨vs, ⟨w.h.non a.z, a.n, a.h⟩, b⟩
end
/-- a def that may be called -/
structure Fn (P : Program) (w : World) (K : PySem.W.Frag) (mg : Str → Option Value) (base : Heap) (CX : CXT) (k : Nat) (x : Str) (ps : List Str) (sp : Sp) : Prop where
  ex : ∃ f fd, FnOk P w K mg base CX k f fd ps sp ∧ mg x = some (.ref f) ∧ PySem.W.keepIn K (.ref f) = true ∧ Binds K fd ps []
theorem pe_fn {X : Cx} {k : Nat} {x : Str} {ps : List Str} {sp : Sp} {e : Expr} {es : List Expr} {p pos : Pos} {t : TA} (C : Fn X.prog X.w X.K X.mg X.base CX0 k x ps sp) (hr : Room k X.A) (hg : Gl X x) (ha : PA X (e :: es) t) (hdb : (x == ("__debug__" : Str)) = false := by decide)
    (he : starEach (e :: es) X.env = (false, eval e X.env) :: starEach es X.env := by rfl) (hpl : (backTo pos (starEach es X.env)).any (·.1) = false := by rfl) : PE X (.Call (.Name x p) (e :: es) [] pos) (tCall sp [] E0 t) := by
  obtain ⟨f, fd, F, hm, hk, hb⟩ := C.ex
  exact pe_call F hr hg hm hk hb .nil pass0 ha hdb he hpl
end Wk
namespace Wk
open PySem L2
theorem dec_tt {b : Bool} : b = decide (b = true) := by cases b <;> rfl
theorem dec_T : true = decide True := rfl
theorem dec_F : false = decide False := rfl
section
variable {α β : Type} {e : Rep α} {f : Rep β} {K : PySem.W.Frag} {σ : L2.St} {F0 H0 F F' H H' : Hp} {te ta tb : TE} {Q : VK} {v w u : V} {xs : List α} {p : Addr} {i : Int} {n : Nat} {x : V}
/-- bit_length -/
def bits (n : Nat) : Nat := if n = 0 then 0 else n.log2 + 1
end
end Wk
namespace Wk
open PySem L2
abbrev kAdd : R2 := L2.rI0 fun i j => .int (i + j)
abbrev kMul : R2 := L2.rI CMul fun i j => .int (i * j)
abbrev kMod : R2 := L2.rI (fun _ j => 0 < j) fun i j => .int (i % j)
abbrev kPow : R2 := L2.rI CPow fun i j => .int (i ^ j.toNat)
abbrev kLt : R2 := L2.rI0 fun i j => .bl (decide (i < j))
def rListOf (K : PySem.W.Frag) : List V → Hp → VK → Prop := fun xs H Q => ∃ p ys, xs = [.ref p] ∧ (SqL K H p ys ∨ SqT K H p ys) ∧ ∀ l, H l = none → Q (.ref l) (upd H l (.lst ys))
section
variable {α β : Type} {e : Rep α} {f : Rep β} {K : PySem.W.Frag} {σ : L2.St} {F0 H0 F F' H H' : Hp} {te ta tb : TE} {Q : VK} {v w u : V} {xs ys : List α} {p q : Addr} {i : Int} {n a b : Nat} {x : V} {tl th : TO}
theorem XL.frzO (x : XL e H0 F H q xs) (h : Fz F F' p) (hq : q ≠ p) (g : Ex F F') : XL e H0 F' H q xs := let ⟨vs, a, b⟩ := x.x; ⟨vs, ⟨a.z, h _ hq a.n, a.h⟩, b.mono g⟩
/-- list(xs): a new one -/
theorem n_listX (r : (pL e).r F v xs) (w : Wf F0 H0 F H) (k : ∀ p H', H p = none → Wf F H F H' → XL e H0 F H' p xs → Q (.ref p) H') : rListOf K [v] H Q := by
  obtain ⟨p, vs, rfl, hp, a⟩ := r
  exact ⟨p, vs, rfl, .inl (SqL.of (w.f _ _ hp)), fun l hl => k l _ hl (Wf.newX w.f hl) ⟨vs, Xc.mk' w hl, a⟩⟩
/-- xs + ys -/
theorem n_cat (r : (pL e).r F v xs) (s : (pL e).r F u ys) (w : Wf F0 H0 F H) (hl : xs.length + ys.length < 1000000) (k : ∀ p H', H p = none → Wf F H F H' → XL e H0 F H' p (xs ++ ys) → Q (.ref p) H') : rCat v u H Q := by
  obtain ⟨p, vs, rfl, hp, a⟩ := r
  obtain ⟨q, us, rfl, hq, b⟩ := s
  exact ⟨p, q, vs, us, rfl, rfl, w.f _ _ hp, w.f _ _ hq, by rw [a.len, b.len]; exact Nat.le_of_lt (small_len hl), fun l hl => k l _ hl (Wf.newX w.f hl) ⟨_, Xc.mk' w hl, a.app b⟩⟩
def cutT (xs : List α) (lo hi : Option Nat) : List α := match lo, hi with
  | none, none => xs
  | none, some b => xs.take b
  | some a, none => xs.drop a
  | some a, some b => (xs.drop a).take (b - a)
theorem cutV_T {ws : List V} (lo hi : Option Nat) : cutV ws (lo.map Int.ofNat) (hi.map Int.ofNat) = cutT ws lo hi := by
  have tk : ∀ (n : Nat) (l : List V), l.take (min n l.length) = l.take n := fun n l => by
    by_cases h : n ≤ l.length
    · rw [Nat.min_eq_left h]
    · rw [Nat.min_eq_right (by omega), List.take_of_length_le (Nat.le_refl _), List.take_of_length_le (by omega)]
  unfold cutV cutT
  cases lo with
  | none =>
    cases hi with
    | none => simp only [Option.map_none, HT.sIx_none, List.drop_zero, Nat.sub_zero, List.take_length]
    | some b =>
      simp only [Option.map_none, Option.map_some, HT.sIx_none, List.drop_zero, Nat.sub_zero]
      rw [show HT.sIx ws.length ws.length (some (Int.ofNat b)) = min b ws.length from HT.sIx_nat _ _ _]
      exact tk b ws
  | some a =>
    have dr : ws.drop (min a ws.length) = ws.drop a := by
      by_cases h : a ≤ ws.length
      · rw [Nat.min_eq_left h]
      · rw [Nat.min_eq_right (by omega), List.drop_of_length_le (Nat.le_refl _), List.drop_of_length_le (by omega)]
    cases hi with
    | none =>
      simp only [Option.map_none, Option.map_some, HT.sIx_none]
      rw [show HT.sIx ws.length 0 (some (Int.ofNat a)) = min a ws.length from HT.sIx_nat _ _ _, dr]
      exact List.take_of_length_le (by rw [List.length_drop]; omega)
    | some b =>
      simp only [Option.map_some]
      rw [show HT.sIx ws.length 0 (some (Int.ofNat a)) = min a ws.length from HT.sIx_nat _ _ _, show HT.sIx ws.length ws.length (some (Int.ofNat b)) = min b ws.length from HT.sIx_nat _ _ _, dr]
      by_cases h : b ≤ ws.length
      · rw [Nat.min_eq_left h]
        by_cases h' : a ≤ ws.length
        · rw [Nat.min_eq_left h']
        · rw [List.drop_of_length_le (by omega), List.take_nil, List.take_nil]
      · rw [Nat.min_eq_right (by omega)]
        rw [List.take_of_length_le (by rw [List.length_drop]; omega), List.take_of_length_le (by rw [List.length_drop]; omega)]
theorem All.cut {ws : List V} (a : All e F ws xs) (lo hi : Option Nat) : All e F (cutT ws lo hi) (cutT xs lo hi) := by
  cases lo <;> cases hi
  · exact a
  · exact a.take _
  · exact a.drop _
  · exact (a.drop _).take _
/-- the two ends of a slice -/
def Part (tl : TO) (σ : L2.St) (H : Hp) (o : Option Nat) : Prop := ∀ Q : Option Int → Hp → Prop, Q (o.map Int.ofNat) H → tl σ H Q
theorem po_s (h : Val te σ H (.int (n : Int))) : Part (tPart te) σ H (some n) := fun _ k => h _ ⟨_, rfl, k⟩
theorem n_cutX {lo hi : Option Nat} (r : (pL e).r F v xs) (hv : Val te σ H v) (h1 : Part tl σ H lo) (h2 : Part th σ H hi) (w : Wf F0 H0 F H) (k : ∀ p H', H p = none → Wf F H F H' → XL e H0 F H' p (cutT xs lo hi) → Q (.ref p) H') : tSl (rSlL K) te tl th σ H Q := by
  obtain ⟨p, vs, rfl, hp, a⟩ := r
  exact hv _ (h1 _ (h2 _ ⟨p, vs, rfl, SqL.of (w.f _ _ hp), fun l hl => by
    rw [cutV_T]
    exact k l _ hl (Wf.newX w.f hl) ⟨_, Xc.mk' w hl, a.cut lo hi⟩⟩))
theorem n_cutS {lo hi : Option Nat} {zs : List Int} (r : (pScr K).r F v zs) (hv : Val te σ H v) (h1 : Part tl σ H lo) (h2 : Part th σ H hi) (w : Wf F0 H0 F H) (k : ∀ p H', H p = none → Wf F H F H' → XL pI H0 F H' p (cutT zs lo hi) → Q (.ref p) H') : tSl (rSlL K) te tl th σ H Q := by
  obtain ⟨p, rfl, s⟩ := (pScr K).mono w.f r
  exact hv _ (h1 _ (h2 _ ⟨p, _, rfl, s, fun l hl => by
    rw [cutV_T]
    exact k l _ hl (Wf.newX w.f hl) ⟨_, Xc.mk' w hl, (All.ofInts (xs := zs)).cut lo hi⟩⟩))
end
end Wk
namespace Wk
open PySem L2
section
variable {α β γ : Type} {e : Rep α} {f : Rep β} {g : Rep γ} {K : PySem.W.Frag} {σ : L2.St} {F0 H0 F F' H H' : Hp} {te ta tb to : TE} {tt : TT} {tA : TA} {Q : VK} {v w u : V} {xs ys : List α} {p q : Addr} {i : Nat} {D : Ends} {pr : Prop} {ti : TIp} {x y : V}
theorem nx_set {P : L2.St → Hp → Prop} {σ : L2.St} {i : Nat} {H : Hp} (h : v = w) (q : P (σ.set i (some v)) H) : P (σ.set i (some w)) H := h ▸ q
theorem g_name {R : L2.St → Hp → Prop} (h : R (σ.set i (some v)) H) : gName i v σ H R := h
theorem m_list {r : V → List V → Hp → VK → Prop} (z : XL e H0 F H p xs) (ho : Val to σ H (.ref p)) (k : tA σ H fun vs H2 => r (.ref p) vs H2 Q) : tBM K "list" r to tA σ H Q := ho _ ⟨let ⟨_, a, _⟩ := z.x; Or.inl ⟨rfl, _, Or.inl (Or.inl a.h)⟩, k⟩
end
end Wk
namespace Wk
open PySem L2
class KeyT (κ : Type) where
  k : κ → Key
  inj : ∀ {a b : κ}, k a = k b → a = b
instance : KeyT Nat := ⟨fun n => .inl (n : Int), fun h => by have := Sum.inl.inj h; omega⟩
instance : KeyT Int := ⟨fun n => .inl n, fun h => Sum.inl.inj h⟩
instance : KeyT Str := ⟨fun n => .inr n, fun h => Sum.inr.inj h⟩
section
variable {κ α : Type} [DecidableEq κ] [KeyT κ]
def valT (m : List (κ × α)) (j : κ) : Option α := (m.find? fun q => decide (q.1 = j)).map (·.2)
def DA (e : Rep α) (F : Hp) : List (Key × V) → List (κ × α) → Prop
  | [], [] => True
  | p :: r, q :: s => p.1 = KeyT.k q.1 ∧ e.r F p.2 q.2 ∧ DA e F r s
  | _, _ => False
variable {e : Rep α} {F F' : Hp}
omit [DecidableEq κ] in
theorem DA.mono (h : Ex F F') : ∀ {kvs : List (Key × V)} {m : List (κ × α)}, DA e F kvs m → DA e F' kvs m
  | [], [], _ => trivial
  | _ :: _, _ :: _, ⟨a, b, c⟩ => ⟨a, e.mono h b, DA.mono h c⟩
  | [], _ :: _, q => q.elim
  | _ :: _, [], q => q.elim
theorem DA.len : ∀ {kvs : List (Key × V)} {m : List (κ × α)}, DA e F kvs m → kvs.length = m.length
  | [], [], _ => rfl
  | _ :: _, _ :: _, ⟨_, _, c⟩ => by rw [List.length_cons, List.length_cons, DA.len c]
  | [], _ :: _, q => q.elim
  | _ :: _, [], q => q.elim
theorem valT_cons {q : κ × α} {m : List (κ × α)} {j : κ} : valT (q :: m) j = if q.1 = j then some q.2 else valT m j := by
  unfold valT
  rw [List.find?_cons]
  by_cases h : q.1 = j
  · rw [if_pos h, decide_eq_true h]; rfl
  · rw [if_neg h, decide_eq_false h]
theorem DA.get : ∀ {kvs : List (Key × V)} {m : List (κ × α)} (j : κ), DA e F kvs m → (∀ x, valT m j = some x → ∃ v, valV kvs (KeyT.k j) = some v ∧ e.r F v x) ∧ (valT m j = none → valV kvs (KeyT.k j) = none)
  | [], [], _, _ => ⟨fun x h => (by cases h), fun _ => rfl⟩
  | p :: r, q :: s, j, ⟨a, b, c⟩ => by
    obtain ⟨ih1, ih2⟩ := DA.get j c
    rw [valT_cons]
    by_cases h : q.1 = j
    · rw [if_pos h]
      have e1 : p.1 = KeyT.k j := by rw [a, h]
      exact ⟨fun x hx => ⟨p.2, valV_pos e1, by cases hx; exact b⟩, fun z => by cases z⟩
    · rw [if_neg h]
      have e1 : ¬ p.1 = KeyT.k j := fun z => h (KeyT.inj (a.symm.trans z))
      rw [valV_neg e1]
      exact ⟨ih1, ih2⟩
  | [], _ :: _, _, q => q.elim
  | _ :: _, [], _, q => q.elim
theorem DA.app : ∀ {kvs : List (Key × V)} {m : List (κ × α)} {kvs' : List (Key × V)} {m' : List (κ × α)}, DA e F kvs m → DA e F kvs' m' → DA e F (kvs ++ kvs') (m ++ m')
  | [], [], _, _, _, h => h
  | _ :: _, _ :: _, _, _, ⟨a, b, c⟩, h => ⟨a, b, DA.app c h⟩
  | [], _ :: _, _, _, q, _ => q.elim
  | _ :: _, [], _, _, q, _ => q.elim
end
def pD {κ α : Type} [KeyT κ] (e : Rep α) : Rep (List (κ × α)) := ⟨fun F v m => ∃ p kvs, v = .ref p ∧ F p = some (.dK kvs) ∧ DA e F kvs m, fun h ⟨p, kvs, a, b, c⟩ => ⟨p, kvs, a, h _ _ b, c.mono h⟩⟩
structure XD {κ α : Type} [KeyT κ] (e : Rep α) (H0 F H : Hp) (p : Addr) (m : List (κ × α)) : Prop where
  x : ∃ kvs, Xc H0 F H p (.dK kvs) ∧ DA e F kvs m
section
variable {κ α : Type} [DecidableEq κ] [KeyT κ] {e : Rep α} {K : PySem.W.Frag} {σ : L2.St} {F0 H0 F F' H H' : Hp} {te td ty tx tv : TE} {Q : VK} {v w y z : V} {m : List (κ × α)} {p q : Addr} {j : κ} {x : α} {D : Ends}
theorem XD.step (x : XD e H0 F H p m) (w : Wf F H F' H') : XD e H0 F' H' p m := let ⟨vs, a, b⟩ := x.x; ⟨vs, a.step w, b.mono w.g⟩
theorem XD.ne (x : XD e H0 F H p m) (h : H q = none) : p ≠ q := let ⟨_, a, _⟩ := x.x; a.ne h
theorem XD.zero (x : XD e H0 F H p m) : H0 p = none := let ⟨_, a, _⟩ := x.x; a.z
theorem XD.base (x : XD e H F' H' p m) (w : Wf F0 H0 F H) : XD e H0 F' H' p m := let ⟨vs, a, b⟩ := x.x; ⟨vs, ⟨w.h.non a.z, a.n, a.h⟩, b⟩
theorem XD.kept (x : XD e H0 F H q m) (h : ∀ q o, H q = some o → q ≠ p → H' q = some o) (hq : q ≠ p) : XD e H0 F H' q m := let ⟨vs, a, b⟩ := x.x; ⟨vs, a.kept h hq, b⟩
theorem XD.frzO (x : XD e H0 F H q m) (h : Fz F F' p) (hq : q ≠ p) (g : Ex F F') : XD e H0 F' H q m := let ⟨vs, a, b⟩ := x.x; ⟨vs, ⟨a.z, h _ hq a.n, a.h⟩, b.mono g⟩
theorem XD.frzE (x : XD e H0 F H p m) (w : Wf F0 H0 F H) : ∃ F', Wf F0 H0 F' H ∧ Ex F F' ∧ (pD e).r F' (.ref p) m ∧ Fz F F' p := by
  obtain ⟨vs, a, b⟩ := x.x
  exact ⟨_, w.freeze a, Ex.new a.n, ⟨p, vs, rfl, upd_same, b.mono (Ex.new a.n)⟩, fun q h z => by rw [upd_ne h]; exact z⟩
theorem XD.rd (x : XD e H0 F H p m) : ∃ kvs, H p = some (.dK kvs) ∧ DA e F kvs m := let ⟨vs, a, b⟩ := x.x; ⟨vs, a.h, b⟩
end
section
variable {S : Type} {σ : L2.St} {H : Hp} {te ta tb : TE} {tt tu : TT} {Q : VK} {k : Bool → Prop}
theorem e_jnT {f : (Bool → Prop) → Prop} {Qt : Bool → Hp → Prop} (hW : jn f k) (Inv : Bool → Hp → Hp → Prop)
    (h1 : ∀ N : Bool → Hp → Prop, (∀ b F' H', Inv b F' H' → k b → N b H') → f k → tt σ H N) (h2 : ∀ b F' H', Inv b F' H' → k b → Qt b H') : tt σ H Qt :=
  h1 Qt (fun b F' H' q n => h2 b F' H' q n) hW
theorem e_jnV {f : (Bool → Prop) → Prop} (hW : jn f k) (Inv : Bool → Hp → Hp → Prop)
    (h1 : ∀ N : VK, (∀ b F' H', Inv b F' H' → k b → N (.bl b) H') → f k → te σ H N) (h2 : ∀ b F' H', Inv b F' H' → k b → Q (.bl b) H') : te σ H Q :=
  h1 Q (fun b F' H' q n => h2 b F' H' q n) hW
theorem e_tOr {Qt : Bool → Hp → Prop} (h : tt σ H fun c H1 => if c = true then Qt true H1 else tu σ H1 Qt) : tOr tt tu σ H Qt := h
theorem e_AndV (h : ta σ H fun x H1 => ∃ c, x = .bl c ∧ if c = true then tb σ H1 Q else Q (.bl false) H1) : tAndV ta tb σ H Q := h
theorem bl_if {b : Bool} {A B : Prop} (h : if b = true then A else B) : ∃ c, V.bl b = .bl c ∧ if c = true then A else B := ⟨b, rfl, h⟩
end
end Wk
namespace Wk
end Wk
namespace Wk.LR
open PySem PyProof.Rows L2
end Wk.LR
namespace Wk
open PySem L2 PyProof.Rows
end Wk
namespace Wk
section
variable {α β S : Type}
theorem forW_foldI {xs : List α} {s : S} {body : α → S → (S → Prop) → (S → Prop) → Prop} {k : S → Prop} (f : S → α → S) (I : S → Prop) (h0 : I s)
    (hb : ∀ x ∈ xs, ∀ s nx bk, I s → (I (f s x) → nx (f s x)) → body x s nx bk) (hi : ∀ x ∈ xs, ∀ s, I s → I (f s x))
    (hk : I (xs.foldl f s) → k (xs.foldl f s)) : forW xs s body k := by
  induction xs generalizing s with
  | nil => exact hk h0
  | cons x xs ih =>
    refine hb x (List.mem_cons_self ..) s _ _ h0 fun h1 => ih (s := f s x) h1 (fun y hy => hb y (List.mem_cons_of_mem _ hy)) (fun y hy => hi y (List.mem_cons_of_mem _ hy)) hk
theorem forW_fold {xs : List α} {s : S} {body : α → S → (S → Prop) → (S → Prop) → Prop} {k : S → Prop} (f : S → α → S)
    (hb : ∀ x ∈ xs, ∀ s nx bk, nx (f s x) → body x s nx bk) (hk : k (xs.foldl f s)) : forW xs s body k :=
  forW_foldI f (fun _ => True) trivial (fun x hx s nx bk _ h => hb x hx s nx bk (h trivial)) (fun _ _ _ _ => trivial) fun _ => hk
theorem forW_unit {xs : List α} {body : α → Unit → (Unit → Prop) → (Unit → Prop) → Prop} {k : Unit → Prop}
    (hb : ∀ x ∈ xs, ∀ nx bk, nx () → body x () nx bk) (hk : k ()) : forW xs () body k :=
  forW_fold (fun s _ => s) (fun x hx _ nx bk h => hb x hx nx bk h) hk
theorem compG_fm {xs : List α} {acc : List β} {b : α → (Option β → Prop) → Prop} {k : List β → Prop} (f : α → Option β) (hb : ∀ x ∈ xs, ∀ kk, kk (f x) → b x kk) (hk : k (acc ++ xs.filterMap f)) : compG xs acc b k := by
  induction xs generalizing acc with
  | nil => simpa [compG] using hk
  | cons x xs ih =>
    refine hb x (List.mem_cons_self ..) _ (ih (fun y hy => hb y (List.mem_cons_of_mem _ hy)) ?_)
    rw [List.filterMap_cons] at hk
    cases h : f x with
    | none => rw [h] at hk; simpa using hk
    | some y => rw [h] at hk; simpa using hk
theorem compW_fm {xs : List α} {b : α → (Option β → Prop) → Prop} {k : List β → Prop} (f : α → Option β) (hb : ∀ x ∈ xs, ∀ kk, kk (f x) → b x kk) (hk : k (xs.filterMap f)) : compW xs b k :=
  compG_fm f hb (by simpa using hk)
theorem compW_map {xs : List α} {b : α → (Option β → Prop) → Prop} {k : List β → Prop} (f : α → β) (hb : ∀ x ∈ xs, ∀ kk, kk (some (f x)) → b x kk) (hk : k (xs.map f)) : compW xs b k :=
  compW_fm (fun x => some (f x)) hb (by rw [show (fun x => some (f x)) = some ∘ f from rfl, List.filterMap_eq_map]; exact hk)
/-- a comprehension whose turns are told by what they may give -/
def CR (P : α → Option β → Prop) : List α → List β → Prop
  | [], ys => ys = []
  | x :: xs, ys => ∃ o ys', P x o ∧ ys = o.toList ++ ys' ∧ CR P xs ys'
theorem compG_rel {xs : List α} {acc : List β} {b : α → (Option β → Prop) → Prop} {k : List β → Prop} (P : α → Option β → Prop) (hb : ∀ x ∈ xs, ∀ kk, (∀ o, P x o → kk o) → b x kk) (hk : ∀ ys, CR P xs ys → k (acc ++ ys)) : compG xs acc b k := by
  induction xs generalizing acc with
  | nil => have := hk [] rfl; rwa [List.append_nil] at this
  | cons x xs ih =>
    refine hb x (List.mem_cons_self ..) _ fun o ho => ih (fun y hy => hb y (List.mem_cons_of_mem _ hy)) fun ys hy => ?_
    rw [List.append_assoc]
    exact hk _ ⟨o, ys, ho, rfl, hy⟩
theorem compW_rel {xs : List α} {b : α → (Option β → Prop) → Prop} {k : List β → Prop} (P : α → Option β → Prop) (hb : ∀ x ∈ xs, ∀ kk, (∀ o, P x o → kk o) → b x kk) (hk : ∀ ys, CR P xs ys → k ys) : compW xs b k := compG_rel P hb fun ys h => by rw [List.nil_append]; exact hk ys h
theorem jnI {f : (S → Prop) → Prop} {k : S → Prop} (h : f k) : jn f k := h
end
end Wk
namespace Wk
theorem halfBit (n i : Nat) : (n / 2).testBit i = n.testBit (i + 1) := by rw [Nat.testBit_add_one]
theorem half_xor (a b : Nat) : (a ^^^ b) / 2 = a / 2 ^^^ b / 2 := Nat.eq_of_testBit_eq fun i => by rw [Nat.testBit_xor, halfBit, halfBit, halfBit, Nat.testBit_xor]
/-- the places of the bits below k -/
def bl (k n : Nat) : List Nat := (List.range k).filter n.testBit
theorem testBit_big {n k j : Nat} (h : n < 2 ^ k) (hj : k ≤ j) : n.testBit j = false := Nat.testBit_lt_two_pow (Nat.lt_of_lt_of_le h (Nat.pow_le_pow_right (by decide) hj))
end Wk
namespace Wk
theorem bits_le {n k : Nat} : bits n ≤ k ↔ n < 2 ^ k := by
  unfold bits
  by_cases h : n = 0
  · subst h; simp [Nat.two_pow_pos]
  · rw [if_neg h]
    exact ⟨fun z => (Nat.log2_lt h).mp (Nat.lt_of_succ_le z), fun z => Nat.succ_le_of_lt ((Nat.log2_lt h).mpr z)⟩
theorem bits_pos {n : Nat} (h : n ≠ 0) : 0 < bits n := by unfold bits; rw [if_neg h]; exact Nat.succ_pos _
theorem xor0 {a b : Nat} (h : a ^^^ b = 0) : a = b := by
  have e : (a ^^^ b) ^^^ b = b := by rw [h, Nat.zero_xor]
  rw [Nat.xor_assoc, Nat.xor_self, Nat.xor_zero] at e; exact e
def comb : List Nat → Nat → Nat
  | [], _ => 0
  | r :: rs, S => (if S.testBit 0 = true then r else 0) ^^^ comb rs (S / 2)
theorem comb_xor : ∀ (rs : List Nat) (S T : Nat), comb rs (S ^^^ T) = comb rs S ^^^ comb rs T
  | [], _, _ => by simp [comb]
  | r :: rs, S, T => by
    show (if (S ^^^ T).testBit 0 = true then r else 0) ^^^ comb rs ((S ^^^ T) / 2) = _
    rw [half_xor, comb_xor rs, Nat.testBit_xor]
    show _ = ((if S.testBit 0 = true then r else 0) ^^^ comb rs (S / 2)) ^^^ ((if T.testBit 0 = true then r else 0) ^^^ comb rs (T / 2))
    generalize comb rs (S / 2) = a
    generalize comb rs (T / 2) = b
    cases S.testBit 0 <;> cases T.testBit 0
    · simp
    · simp only [Bool.false_xor, if_true, Bool.false_eq_true, if_false, Nat.zero_xor]
      rw [← Nat.xor_assoc, ← Nat.xor_assoc, Nat.xor_comm a r]
    · simp only [Bool.xor_false, if_true, Bool.false_eq_true, if_false, Nat.zero_xor]
      rw [Nat.xor_assoc]
    · simp only [Bool.xor_self, if_true, Bool.false_eq_true, if_false, Nat.zero_xor]
      rw [Nat.xor_comm r b, ← Nat.xor_assoc, Nat.xor_assoc (r ^^^ a), ]
      rw [Nat.xor_comm r a, Nat.xor_assoc a r, ← Nat.xor_assoc r b r, Nat.xor_comm r b, Nat.xor_assoc b r r, Nat.xor_self, Nat.xor_zero]
theorem comb_zero : ∀ rs : List Nat, comb rs 0 = 0
  | [] => rfl
  | r :: rs => by show (if Nat.testBit 0 0 = true then r else 0) ^^^ comb rs (0 / 2) = 0; rw [Nat.zero_div, comb_zero rs]; simp
theorem comb_ext : ∀ {rs : List Nat} {S T : Nat}, (∀ j, j < rs.length → S.testBit j = T.testBit j) → comb rs S = comb rs T
  | [], _, _, _ => rfl
  | r :: rs, S, T, h => by
    show (if S.testBit 0 = true then r else 0) ^^^ comb rs (S / 2) = (if T.testBit 0 = true then r else 0) ^^^ comb rs (T / 2)
    rw [h 0 (by simp), comb_ext (rs := rs) (S := S / 2) (T := T / 2) fun j hj => by
      rw [halfBit, halfBit]; exact h (j + 1) (by simpa using hj)]
theorem comb_snoc : ∀ (rs : List Nat) (r S : Nat), comb (rs ++ [r]) S = comb rs S ^^^ if S.testBit rs.length = true then r else 0
  | [], r, S => by simp [comb]
  | q :: rs, r, S => by
    show (if S.testBit 0 = true then q else 0) ^^^ comb (rs ++ [r]) (S / 2) = _
    rw [comb_snoc rs, halfBit]
    show _ = ((if S.testBit 0 = true then q else 0) ^^^ comb rs (S / 2)) ^^^ _
    rw [← Nat.xor_assoc]; rfl
theorem comb_lt : ∀ {rs : List Nat} {S k : Nat}, (∀ r ∈ rs, r < 2 ^ k) → comb rs S < 2 ^ k
  | [], _, _, _ => Nat.two_pow_pos _
  | r :: rs, S, k, h => by
    refine Nat.xor_lt_two_pow ?_ (comb_lt fun x hx => h x (List.mem_cons_of_mem _ hx))
    by_cases q : S.testBit 0 = true
    · rw [if_pos q]; exact h r (List.mem_cons_self ..)
    · rw [if_neg q]; exact Nat.two_pow_pos _
theorem comb_pow_len (rs : List Nat) : comb rs (2 ^ rs.length) = 0 := by
  rw [← comb_zero rs]
  refine comb_ext fun j hj => ?_
  rw [Nat.testBit_two_pow, Nat.zero_testBit, decide_eq_false (by omega)]
theorem comb_map (f : Nat → Nat) (h0 : f 0 = 0) (hf : ∀ a b, f (a ^^^ b) = f a ^^^ f b) : ∀ (vs : List Nat) (S : Nat), comb (vs.map f) S = f (comb vs S)
  | [], _ => h0.symm
  | v :: vs, S => by
    show (if S.testBit 0 = true then f v else 0) ^^^ comb (vs.map f) (S / 2) = f ((if S.testBit 0 = true then v else 0) ^^^ comb vs (S / 2))
    rw [comb_map f h0 hf vs, hf]
    by_cases q : S.testBit 0 = true
    · rw [if_pos q, if_pos q]
    · rw [if_neg q, if_neg q, h0]
/-- the sums of the rows -/
def Span (vs : List Nat) (v : Nat) : Prop := ∃ S, comb vs S = v
theorem Span.zero (vs : List Nat) : Span vs 0 := ⟨0, comb_zero vs⟩
theorem Span.low {vs : List Nat} {v : Nat} : Span vs v → ∃ S, S < 2 ^ vs.length ∧ comb vs S = v := fun ⟨S, a⟩ => ⟨S % 2 ^ vs.length, Nat.mod_lt _ (Nat.two_pow_pos _), by
  rw [← a]
  refine comb_ext fun j hj => ?_
  rw [Nat.testBit_mod_two_pow, decide_eq_true hj, Bool.true_and]⟩
theorem Span.snoc {vs : List Nat} {r v : Nat} : Span (vs ++ [r]) v ↔ Span vs v ∨ Span vs (v ^^^ r) := by
  constructor
  · rintro ⟨S, h⟩
    rw [comb_snoc] at h
    by_cases q : S.testBit vs.length = true
    · rw [if_pos q] at h
      exact .inr ⟨S, by rw [← h, Nat.xor_assoc, Nat.xor_self, Nat.xor_zero]⟩
    · rw [if_neg q, Nat.xor_zero] at h
      exact .inl ⟨S, h⟩
  · rintro (h | h)
    · obtain ⟨S, hl, e⟩ := h.low
      exact ⟨S, by rw [comb_snoc, testBit_big hl (Nat.le_refl _), e]; simp⟩
    · obtain ⟨S, hl, e⟩ := h.low
      refine ⟨S ^^^ 2 ^ vs.length, ?_⟩
      rw [comb_snoc, comb_xor, comb_pow_len, e, Nat.testBit_xor, testBit_big hl (Nat.le_refl _), Nat.testBit_two_pow, decide_eq_true rfl]
      simp [Nat.xor_assoc]
theorem Span.nil {v : Nat} : Span [] v ↔ v = 0 := ⟨fun ⟨_, h⟩ => h.symm, fun h => by subst h; exact Span.zero _⟩
theorem Span.inj {vs : List Nat} {k : Nat} (f : Nat → Nat) (h0 : f 0 = 0) (hf : ∀ a b, f (a ^^^ b) = f a ^^^ f b) (hi : ∀ a, a < 2 ^ k → f a = 0 → a = 0) (hv : ∀ v ∈ vs, v < 2 ^ k) {v : Nat} (hk : v < 2 ^ k) : Span (vs.map f) (f v) ↔ Span vs v := by
  constructor
  · rintro ⟨S, h⟩
    rw [comb_map f h0 hf] at h
    refine ⟨S, ?_⟩
    have : comb vs S ^^^ v = 0 := hi _ (Nat.xor_lt_two_pow (comb_lt hv) hk) (by rw [hf, h, Nat.xor_self])
    exact xor0 this
  · rintro ⟨S, h⟩
    exact ⟨S, by rw [comb_map f h0 hf, h]⟩
/-- masks with unlike highest bits, rising -/
def Incr (ws : List Nat) : Prop := ws.Pairwise (fun a b => bits a < bits b) ∧ ∀ w ∈ ws, w ≠ 0
theorem Incr.snoc {ws : List Nat} {w : Nat} (h : Incr ws) (hb : ∀ x ∈ ws, bits x < bits w) (h0 : w ≠ 0) : Incr (ws ++ [w]) := ⟨List.pairwise_append.mpr ⟨h.1, List.pairwise_singleton _ _, fun a ha b hb' => by rw [List.mem_singleton.mp hb']; exact hb a ha⟩, fun x hx => by
  rcases List.mem_append.mp hx with q | q
  · exact h.2 x q
  · rw [List.mem_singleton.mp q]; exact h0⟩
theorem comb_snoc_bits {ws : List Nat} {w S : Nat} (hb : ∀ x ∈ ws, bits x < bits w) : bits (comb ws S) < bits w ∨ w = 0 := by
  by_cases h : w = 0
  · exact .inr h
  · left
    have hp := bits_pos h
    refine Nat.lt_of_le_of_lt (bits_le.mpr (comb_lt (k := bits w - 1) fun x hx => ?_)) (by omega)
    have := hb x hx
    exact bits_le.mp (by omega)
theorem Incr.inj : ∀ {ws : List Nat} {S : Nat}, Incr ws → S < 2 ^ ws.length → comb ws S = 0 → S = 0 := by
  intro ws
  induction hn : ws.length generalizing ws with
  | zero => intro S _ hS _; simpa using hS
  | succ n ih =>
    intro S hI hS h
    obtain ⟨us, w, rfl⟩ : ∃ us w, ws = us ++ [w] := ⟨ws.dropLast, ws.getLast (by intro z; subst z; cases hn), (List.dropLast_concat_getLast _).symm⟩
    have hl : us.length = n := by rw [List.length_append] at hn; simpa using hn
    obtain ⟨hp, h0⟩ := hI
    rw [List.pairwise_append] at hp
    have hw : w ≠ 0 := h0 w (List.mem_append_right _ (List.mem_singleton_self _))
    have hb : ∀ x ∈ us, bits x < bits w := fun x hx => hp.2.2 x hx w (List.mem_singleton_self _)
    rw [comb_snoc, hl] at h
    by_cases q : S.testBit n = true
    · rw [if_pos q] at h
      have e := xor0 h
      rcases comb_snoc_bits (S := S) hb with z | z
      · rw [e] at z; exact absurd z (Nat.lt_irrefl _)
      · exact absurd z hw
    · rw [if_neg q, Nat.xor_zero] at h
      have hS' : S < 2 ^ n := by
        refine Nat.lt_pow_two_of_testBit _ fun j hj => ?_
        by_cases e : j = n
        · subst e; simpa using q
        · exact testBit_big hS (by omega)
      exact ih (ws := us) hl ⟨hp.1, fun x hx => h0 x (List.mem_append_left _ hx)⟩ hS' h
end Wk
namespace Wk
def pm (a b : Nat) : Nat := if h : b = 0 then 0 else (if b.testBit 0 = true then a else 0) ^^^ pm (2 * a) (b / 2)
termination_by b
decreasing_by omega
theorem pm_zero (a : Nat) : pm a 0 = 0 := by rw [pm]; simp
theorem pm_step (a b : Nat) : pm a b = (if b.testBit 0 = true then a else 0) ^^^ pm (2 * a) (b / 2) := by
  by_cases h : b = 0
  · subst h; simp [pm_zero]
  · rw [pm, dif_neg h]
theorem two_xor (a b : Nat) : 2 * (a ^^^ b) = 2 * a ^^^ 2 * b := Nat.eq_of_testBit_eq fun i => by
  rw [Nat.testBit_xor]
  cases i with
  | zero => simp [Nat.testBit_zero]
  | succ i => rw [Nat.testBit_add_one, Nat.testBit_add_one, Nat.testBit_add_one]; simp [Nat.testBit_xor]
theorem ifx {c : Bool} {a b : Nat} : (if c = true then a ^^^ b else 0) = (if c = true then a else 0) ^^^ (if c = true then b else 0) := by cases c <;> simp
theorem xor_swap (a b c d : Nat) : (a ^^^ b) ^^^ (c ^^^ d) = (a ^^^ c) ^^^ (b ^^^ d) := by
  rw [Nat.xor_assoc, ← Nat.xor_assoc b c d, Nat.xor_comm b c, Nat.xor_assoc c b d, ← Nat.xor_assoc]
theorem pm_xor_r (b : Nat) : ∀ a c : Nat, pm a (b ^^^ c) = pm a b ^^^ pm a c := by
  induction b using Nat.strongRecOn with
  | ind b ih =>
    intro a c
    by_cases h : b = 0
    · subst h; rw [Nat.zero_xor, pm_zero, Nat.zero_xor]
    · rw [pm_step a (b ^^^ c), pm_step a b, pm_step a c, half_xor, ih (b / 2) (by omega), Nat.testBit_xor, xor_swap]
      congr 1
      cases b.testBit 0 <;> cases c.testBit 0 <;> simp
theorem pm_xor_l (c : Nat) : ∀ a b : Nat, pm (a ^^^ b) c = pm a c ^^^ pm b c := by
  induction c using Nat.strongRecOn with
  | ind c ih =>
    intro a b
    by_cases h : c = 0
    · subst h; simp [pm_zero]
    · rw [pm_step (a ^^^ b), pm_step a c, pm_step b c, two_xor, ih (c / 2) (by omega), ifx, xor_swap]
theorem pm_dbl (b : Nat) : ∀ a, pm (2 * a) b = 2 * pm a b := by
  induction b using Nat.strongRecOn with
  | ind b ih =>
    intro a
    by_cases h : b = 0
    · subst h; simp [pm_zero]
    · rw [pm_step (2 * a), pm_step a, ih (b / 2) (by omega), two_xor]
      congr 1
      cases b.testBit 0 <;> simp
theorem pm_half (a b : Nat) : pm a b = (if b.testBit 0 = true then a else 0) ^^^ 2 * pm a (b / 2) := by rw [pm_step, pm_dbl]
theorem pm_zero_l (b : Nat) : pm 0 b = 0 := by
  induction b using Nat.strongRecOn with
  | ind b ih =>
    by_cases h : b = 0
    · subst h; exact pm_zero 0
    · rw [pm_half, ih (b / 2) (by omega)]; simp
theorem pm_one_l (b : Nat) : pm 1 b = b := by
  induction b using Nat.strongRecOn with
  | ind b ih =>
    by_cases h : b = 0
    · subst h; exact pm_zero 1
    · rw [pm_half, ih (b / 2) (by omega), Nat.testBit_zero]
      rcases Nat.mod_two_eq_zero_or_one b with e | e
      · rw [if_neg (by simp [e]), Nat.zero_xor]; omega
      · rw [if_pos (by simp [e])]
        have : 1 ^^^ 2 * (b / 2) = 2 * (b / 2) + 1 := Nat.eq_of_testBit_eq fun i => by
          rw [Nat.testBit_xor]
          cases i with
          | zero => simp [Nat.testBit_zero]
          | succ i =>
            rw [Nat.testBit_add_one, Nat.testBit_add_one, Nat.testBit_add_one]
            have a : (2 * (b / 2) + 1) / 2 = 2 * (b / 2) / 2 := by omega
            rw [a]; simp
        rw [this]; omega
theorem dbl_half (b : Nat) : b = (if b.testBit 0 = true then 1 else 0) ^^^ 2 * (b / 2) := by
  have := pm_half 1 b
  rw [pm_one_l, pm_one_l] at this; exact this
theorem pm_comm (b : Nat) : ∀ a, pm a b = pm b a := by
  induction b using Nat.strongRecOn with
  | ind b ih =>
    intro a
    by_cases h : b = 0
    · subst h; rw [pm_zero, pm_zero_l]
    · rw [pm_half a b, ih (b / 2) (by omega)]
      conv => rhs; rw [dbl_half b]
      rw [pm_xor_l, pm_dbl]
      congr 1
      cases b.testBit 0 <;> simp [pm_one_l, pm_zero_l]
theorem pm_assoc (c : Nat) : ∀ a b, pm (pm a b) c = pm a (pm b c) := by
  induction c using Nat.strongRecOn with
  | ind c ih =>
    intro a b
    by_cases h : c = 0
    · subst h; simp [pm_zero]
    · rw [pm_half (pm a b) c, pm_half b c, pm_xor_r, ih (c / 2) (by omega)]
      congr 1
      · cases c.testBit 0 <;> simp [pm_zero]
      · rw [pm_comm (2 * pm b (c / 2)), pm_dbl, pm_comm a]
/-- d goes into a -/
def Dv (d a : Nat) : Prop := ∃ q, pm q d = a
theorem Dv.zero (d : Nat) : Dv d 0 := ⟨0, pm_zero_l d⟩
theorem Dv.tr {a b c : Nat} : Dv a b → Dv b c → Dv a c := fun ⟨q, h⟩ ⟨r, k⟩ => ⟨pm r q, by rw [pm_assoc, h, k]⟩
end Wk
namespace Wk
open PySem L2
section
variable {α β S : Type} {K : PySem.W.Frag} {σ : L2.St} {F0 H0 F F' H H' : Hp} {te tl ta tb to : TE} {tt tc : TT} {tA : TA} {Q : VK} {v w u : V} {xs ys : List α} {x y : α} {D : Ends} {tu : TS} {p q : Addr} {n : Nat} {i : Int} {g : TG} {J : It} {e : Rep α} {b : Rep β} {zs : List β} {o : HO}
def kFor (g : TG) (tu : TS) (D : Ends) (σ : L2.St) (J : It) (H : Hp) : Prop := ∃ W : Nat → Nat → L2.St → Hp → Prop, (∃ m, W 0 m σ H) ∧ ∀ i m σ H, W i m σ H →
  (J.stop i H ∧ D.nx σ H) ∨ (J.go i H ∧ ∃ N : L2.St → Hp → Prop, (∀ σ' H', N σ' H' → ∃ m', m' < m ∧ W (i + 1) m' σ' H') ∧ ∀ x H', J.yld i H x H' → g x σ H' fun σ2 H2 => tu { D with nx := N, ct := N, bk := D.nx } σ2 H2)
/-- a walk over frozen things: its turns give the items of zs -/
def TWk (J : It) (F : Hp) (b : Rep β) (zs : List β) : Prop := ∃ G Y, Walk J zs.length G Y ∧ (∀ F' H', Ex F F' → Ex F' H' → G H') ∧
  ∀ i H x H' F', i < zs.length → Ex F F' → Ex F' H → Y i H x H' → ∃ z F1, zs[i]? = some z ∧ Wf F' H F1 H' ∧ b.r F1 x z
theorem f_J {wi : TI} (h : wi σ H (kFor g tu D σ)) : tFor wi g tu D σ H := h
theorem w_forG {s0 : S} {k : S → Prop} {body : β → S → (S → Prop) → (S → Prop) → Prop} (T : TWk J F b zs) (Inv : S → L2.St → Hp → Hp → Prop) (hW : forW zs s0 body k) (h0 : Inv s0 σ F H)
    (ex : ∀ s σ' F' H', Inv s σ' F' H' → Ex F F' ∧ Ex F' H') (f : Ex F H)
    (turn : ∀ (N Bk : L2.St → Hp → Prop) x u s σ' F' H' F1 H1 (nx bk : S → Prop), Inv s σ' F' H' → x ∈ zs → Wf F' H' F1 H1 → b.r F1 u x → body x s nx bk → (∀ s' σ2 F2 H2, Inv s' σ2 F2 H2 → nx s' → N σ2 H2) → (∀ s' σ2 F2 H2, Inv s' σ2 F2 H2 → bk s' → Bk σ2 H2) →
      g u σ' H1 fun σ2 H2 => tu { D with nx := N, ct := N, bk := Bk } σ2 H2)
    (done : ∀ s σ' F' H', Inv s σ' F' H' → k s → D.nx σ' H') : kFor g tu D σ J H := by
  obtain ⟨G, Y, wk, hG, hY⟩ := T
  refine for_it wk (fun i σ' H' => ∃ s F', Inv s σ' F' H' ∧ forW (zs.drop i) s body k) ⟨s0, F, h0, hW⟩ (fun i σ' H' _ ⟨s, F', hI, _⟩ => hG F' H' (ex _ _ _ _ hI).1 (ex _ _ _ _ hI).2) ?_ ?_
  · rintro i u σ' H' H1 hi ⟨s, F', hI, hw⟩ hy
    obtain ⟨x, F1, hx, q, rx⟩ := hY i H' u H1 F' hi (ex _ _ _ _ hI).1 (ex _ _ _ _ hI).2 hy
    have e : zs.drop i = x :: zs.drop (i + 1) := by
      obtain ⟨h1, h2⟩ := List.getElem?_eq_some_iff.mp hx
      rw [← h2]; exact List.drop_eq_getElem_cons h1
    rw [e] at hw
    exact turn _ _ x u s σ' F' H' F1 H1 _ _ hI (List.mem_of_getElem? hx) q rx hw (fun s' σ2 F2 H2 q n => ⟨s', F2, q, n⟩) (fun s' σ2 F2 H2 q n => done s' σ2 F2 H2 q n)
  · rintro σ' H' ⟨s, F', hI, hw⟩
    rw [List.drop_of_length_le (Nat.le_refl _)] at hw
    exact done _ _ _ _ hI hw
theorem TWk.pairs {γ δ : Type} {c : Rep γ} {d : Rep δ} {G : Hp → Prop} {X Y : Nat → Option V} {us : List (γ × δ)} (wk : Walk J us.length G (YPair X Y)) (hG : ∀ F' H', Ex F F' → Ex F' H' → G H')
    (hx : ∀ i F' x, Ex F F' → i < us.length → X i = some x → ∃ z, (us[i]?.map Prod.fst) = some z ∧ c.r F' x z) (hy : ∀ i F' x, Ex F F' → i < us.length → Y i = some x → ∃ z, (us[i]?.map Prod.snd) = some z ∧ d.r F' x z) : TWk J F (pT2 c d) us := by
  refine ⟨G, _, wk, hG, fun i H v H' F' hi f g hy' => ?_⟩
  obtain ⟨T, x, y, rfl, hT, rfl, h1, h2⟩ := hy'
  obtain ⟨z1, e1, r1⟩ := hx i F' x f hi h1
  obtain ⟨z2, e2, r2⟩ := hy i F' y f hi h2
  have e : us[i]? = some (z1, z2) := by
    cases q : us[i]? with
    | none => rw [q] at e1; cases e1
    | some t =>
      rw [q] at e1 e2
      have a : t.1 = z1 := Option.some.inj e1
      have b : t.2 = z2 := Option.some.inj e2
      rw [← a, ← b]
  exact ⟨(z1, z2), _, e, Wf.new g hT, ⟨T, x, y, rfl, upd_same, c.mono (Ex.new (g.non hT)) r1, d.mono (Ex.new (g.non hT)) r2⟩⟩
def enumT (xs : List α) : List (Nat × α) := (List.range xs.length).zip xs
theorem enumT_len (xs : List α) : (enumT xs).length = xs.length := by unfold enumT; rw [List.length_zip, List.length_range]; exact Nat.min_self _
theorem enumT_get (xs : List α) (i : Nat) : (enumT xs)[i]? = xs[i]?.map fun x => (i, x) := by
  show ((List.range xs.length).zip xs)[i]? = _
  by_cases h : i < xs.length
  · have h2 : i < ((List.range xs.length).zip xs).length := by rw [List.length_zip, List.length_range]; omega
    rw [List.getElem?_eq_getElem h2, List.getElem?_eq_getElem h, List.getElem_zip, List.getElem_range]; rfl
  · rw [List.getElem?_eq_none (by rw [List.length_zip, List.length_range]; omega), List.getElem?_eq_none (by omega)]; rfl
/-- enumerate(xs) -/
theorem src_enum {R : It → Hp → Prop} (r : (pL e).r F v xs) (f : Ex F H) (k : ∀ a, TWk (Ite K a) F (pT2 pN e) (enumT xs) → R (Ite K a) H) : ∃ a ws, [v] = [V.ref a] ∧ SqL K H a ws ∧ R (Ite K a) H := by
  obtain ⟨p, vs, rfl, hp, a⟩ := r
  refine ⟨p, vs, rfl, SqL.of (f _ _ hp), k p ?_⟩
  refine TWk.pairs (G := fun H => SqL K H p vs) (X := fun i => some (.int (i : Nat))) (Y := fun i => vs[i]?) (by rw [enumT_len, ← a.len]; exact walk_enum) (fun F' H' h1 h2 => SqL.of (h2 _ _ (h1 _ _ hp))) ?_ ?_
  · intro i F' x _ hi hx
    rw [enumT_len] at hi
    rw [enumT_get, List.getElem?_eq_getElem hi]
    exact ⟨i, rfl, (Option.some.inj hx).symm⟩
  · intro i F' x h1 hi hx
    obtain ⟨z, hz, rz⟩ := a.got hx
    rw [enumT_get, hz]
    exact ⟨z, rfl, e.mono h1 rz⟩
/-- an instance of C that stays as it is: its fields, all told by Fs -/
def pOb (C : Addr) (Fs : Hp → List (Str × V) → α → Prop) (mono : ∀ {F F' : Hp} {fs : List (Str × V)} {x : α}, Ex F F' → Fs F fs x → Fs F' fs x) : Rep α :=
  ⟨fun F v x => ∃ p dx fs, v = .ref p ∧ F p = some (.ins C dx fs) ∧ Fs F fs x, fun h ⟨p, dx, fs, a, b, c⟩ => ⟨p, dx, fs, a, h _ _ b, mono h c⟩⟩
def F1s {α : Type} (n : Str) (e : Rep α) (F : Hp) (fs : List (Str × V)) (x : α) : Prop := ∃ u, fs = [(n, u)] ∧ e.r F u x
def F2s {α β : Type} (n m : Str) (e : Rep α) (f : Rep β) (F : Hp) (fs : List (Str × V)) (x : α × β) : Prop := ∃ u w, fs = [(n, u), (m, w)] ∧ e.r F u x.1 ∧ f.r F w x.2
def F3s {α β γ : Type} (n m l : Str) (e : Rep α) (f : Rep β) (g : Rep γ) (F : Hp) (fs : List (Str × V)) (x : α × β × γ) : Prop := ∃ u w y, fs = [(n, u), (m, w), (l, y)] ∧ e.r F u x.1 ∧ f.r F w x.2.1 ∧ g.r F y x.2.2
theorem F1s.mono {α : Type} {n : Str} {e : Rep α} {F F' : Hp} {fs : List (Str × V)} {x : α} (h : Ex F F') : F1s n e F fs x → F1s n e F' fs x := fun ⟨u, a, b⟩ => ⟨u, a, e.mono h b⟩
theorem F2s.mono {α β : Type} {n m : Str} {e : Rep α} {f : Rep β} {F F' : Hp} {fs : List (Str × V)} {x : α × β} (h : Ex F F') : F2s n m e f F fs x → F2s n m e f F' fs x := fun ⟨u, w, a, b, c⟩ => ⟨u, w, a, e.mono h b, f.mono h c⟩
theorem F3s.mono {α β γ : Type} {n m l : Str} {e : Rep α} {f : Rep β} {g : Rep γ} {F F' : Hp} {fs : List (Str × V)} {x : α × β × γ} (h : Ex F F') : F3s n m l e f g F fs x → F3s n m l e f g F' fs x := fun ⟨u, w, y, a, b, c, d⟩ => ⟨u, w, y, a, e.mono h b, f.mono h c, g.mono h d⟩
def pO2 {α β : Type} (C : Addr) (n m : Str) (e : Rep α) (f : Rep β) : Rep (α × β) := pOb C (F2s n m e f) F2s.mono
def pO3 {α β γ : Type} (C : Addr) (n m l : Str) (e : Rep α) (f : Rep β) (g : Rep γ) : Rep (α × β × γ) := pOb C (F3s n m l e f g) F3s.mono
theorem Xc.frzO {u : HO} (x : Xc H0 F H q u) (h : Fz F F' p) (hq : q ≠ p) (g : Ex F F') : Xc H0 F' H q u := ⟨x.z, h _ hq x.n, x.h⟩
/-- it is made: it changes no more -/
theorem Xc.frzE {o : HO} (x : Xc H0 F H p o) (w : Wf F0 H0 F H) : ∃ F', Wf F0 H0 F' H ∧ Ex F F' ∧ F' p = some o := ⟨_, w.freeze x, Ex.new x.n, upd_same⟩
structure BL {α : Type} (e : Rep α) (F H : Hp) (p : Addr) (xs : List α) : Prop where
  x : ∃ vs, H p = some (.lst vs) ∧ All e F vs xs
structure BD {κ α : Type} [KeyT κ] (e : Rep α) (F H : Hp) (p : Addr) (m : List (κ × α)) : Prop where
  x : ∃ kvs, H p = some (.dK kvs) ∧ DA e F kvs m
theorem BL.step (x : BL e F H p xs) (w : Wf F H F' H') : BL e F' H' p xs := let ⟨vs, a, b⟩ := x.x; ⟨vs, w.h _ _ a, b.mono w.g⟩
theorem BL.ne (x : BL e F H p xs) (h : H q = none) : p ≠ q := let ⟨_, a, _⟩ := x.x; ne_of_none a h
theorem BL.frzO {X : Prop} (x : BL e F H q xs) (h : X) (hq : q ≠ p) (g : Ex F F') : BL e F' H q xs := let ⟨vs, a, b⟩ := x.x; ⟨vs, a, b.mono g⟩
theorem BL.kept (x : BL e F H q xs) (h : ∀ q o, H q = some o → q ≠ p → H' q = some o) (hq : q ≠ p) : BL e F H' q xs := let ⟨vs, a, b⟩ := x.x; ⟨vs, h _ _ a hq, b⟩
end
section
variable {κ α : Type} [DecidableEq κ] [KeyT κ] {e : Rep α} {K : PySem.W.Frag} {σ : L2.St} {F0 H0 F F' H H' : Hp} {te td ty tx tv : TE} {Q : VK} {v w y z : V} {m : List (κ × α)} {p q : Addr} {j : κ} {x : α} {D : Ends}
omit [DecidableEq κ] in
theorem BD.step (x : BD e F H p m) (w : Wf F H F' H') : BD e F' H' p m := let ⟨vs, a, b⟩ := x.x; ⟨vs, w.h _ _ a, b.mono w.g⟩
omit [DecidableEq κ] in
theorem BD.ne (x : BD e F H p m) (h : H q = none) : p ≠ q := let ⟨_, a, _⟩ := x.x; ne_of_none a h
omit [DecidableEq κ] in
theorem BD.frzO {X : Prop} (x : BD e F H q m) (h : X) (hq : q ≠ p) (g : Ex F F') : BD e F' H q m := let ⟨vs, a, b⟩ := x.x; ⟨vs, a, b.mono g⟩
omit [DecidableEq κ] in
theorem BD.kept (x : BD e F H q m) (h : ∀ q o, H q = some o → q ≠ p → H' q = some o) (hq : q ≠ p) : BD e F H' q m := let ⟨vs, a, b⟩ := x.x; ⟨vs, h _ _ a hq, b⟩
end
/-- a method that may be called -/
structure Md (P : Program) (w : World) (K : PySem.W.Frag) (mg : Str → Option Value) (base : Heap) (CX : CXT) (k : Nat) (C : Addr) (m : Str) (ps : List Str) (sp : Sp) : Prop where
  ex : ∃ f fd, FnOk P w K mg base CX k f fd ps sp ∧ Meth K C m f ∧ Binds K fd ps []
/-- an object of which only the fields are read -/
structure BO (C : Addr) (F H : Hp) (p dx : Addr) (fs : List (Str × V)) : Prop where
  h : H p = some (.ins C dx fs)
section
variable {α β γ : Type} {K : PySem.W.Frag} {σ : L2.St} {C p q dx : Addr} {fs : List (Str × V)} {H0 F F' H H' : Hp} {to ta : TE} {Q : VK} {a b c m : Str} {u v : V} {o : HO}
theorem BO.step (x : BO C F H p dx fs) (w : Wf F H F' H') : BO C F' H' p dx fs := ⟨w.h _ _ x.h⟩
theorem BO.ne (x : BO C F H p dx fs) (h : H q = none) : p ≠ q := ne_of_none x.h h
theorem BO.frzO {X : Prop} (x : BO C F H q dx fs) (h : X) (hq : q ≠ p) (g : Ex F F') : BO C F' H q dx fs := ⟨x.h⟩
theorem BO.kept (x : BO C F H q dx fs) (h : ∀ q o, H q = some o → q ≠ p → H' q = some o) (hq : q ≠ p) : BO C F H' q dx fs := ⟨h _ _ x.h hq⟩
end
end Wk
namespace Wk
open PySem L2
end Wk
namespace Wk
open PySem L2
/-- one of two kinds -/
def pAlt {α β : Type} (e : Rep α) (f : Rep β) : Rep (Sum α β) := ⟨fun F v x => match x with | .inl a => e.r F v a | .inr b => f.r F v b, fun {_ _ _ x} h q => by cases x with | inl a => exact e.mono h q | inr b => exact f.mono h q⟩
end Wk
namespace Wk
open PySem PySem.Spec PyProof.Rows L2
end Wk
namespace Wk
open PySem L2
/-- what the walk asks of an exception's class -/
structure XC (K : PySem.W.Frag) (mg : Str → Option Value) (n : Str) (C : Addr) : Prop where
  x : PySem.W.excIn K C [.type "ValueError", .type "Exception", .type "BaseException", .type "object"] "ValueError.__new__" = true
  g : mg n = some (.ref C)
  k : PySem.W.keepIn K (.ref C) = true
  b : PySem.W.subIn K (.ref C) (.type "BaseException") = some true
  t : PySem.W.typeIn K (.ref C) = some (.type "type")
end Wk
namespace Wk
open PySem L2
/-- a thing: a whole number, a truth, None, a text, or another one of a kind that is told -/
inductive An where
  | i (n : Int)
  | b (b : Bool)
  | n
  | s (x : Str)
  | o (T : String)
  | l (xs : List An)
  | t (xs : List An)
def An.ty : An → String
  | .i _ => "int"
  | .b _ => "bool"
  | .n => "NoneType"
  | .s _ => "str"
  | .o T => T
  | .l _ => "list"
  | .t _ => "tuple"
end Wk
namespace PySem
open Sem (wp)
open AutoSeq1 (wpAny_loadPart')
end PySem
namespace Wk
open PySem PySem.Spec PyProof.Rows L2
end Wk
namespace Wk
open PySem PySem.Spec PyProof.Rows L2
end Wk
namespace Wk
open PySem L2
end Wk
namespace Wk
open PySem L2
end Wk
namespace Wk
end Wk
namespace Wk.LZ
open PySem PyProof.Rows L2
/-- the zip's own things at turn i; S: a list that is none of them -/
structure ZS (h : Heap) (z TI TO i1 i2 l1 l2 S : Addr) (i : Nat) (xs ys : Array Value) : Prop where
  ti : IsPair h TI (.ref i1) (.ref i2)
  to : ∃ x y, IsPair h TO x y
  h1 : h.IsListIter i1 l1 i
  h2 : h.IsListIter i2 l2 i
  a1 : h.IsList l1 xs
  a2 : h.IsList l2 ys
  zz : IsZip h z TI TO .none ∨ ∃ T f oT, IsZipHeld h z TI TO T f ∧ h.get? T = some oT ∧ T ≠ S ∧ T ≠ z ∧ T ≠ i1 ∧ T ≠ i2
section
variable {prog : Program} {w : World} {A : Around} {E : Value → Shared → Prop} {s : Shared} {z TI TO i1 i2 l1 l2 S : Addr} {i : Nat} {xs ys : Array Value}
theorem ZS.ty (h : ZS s.heap z TI TO i1 i2 l1 l2 S i xs ys) : s.TypeIs (.ref z) "zip" := by
  rcases h.zz with q | ⟨T, f, oT, q, _⟩
  · exact ⟨_, q, rfl⟩
  · exact ⟨_, q, rfl⟩
end
/-- one tuple after the other is made -/
def NewT : Hp → List (V × V) → List V → Hp → Prop
  | H, [], ts, H' => ts = [] ∧ H' = H
  | H, (x, y) :: r, ts, H' => ∃ T ts', ts = .ref T :: ts' ∧ H T = none ∧ NewT (upd H T (.tup [x, y])) r ts' H'
end Wk.LZ
namespace Wk
open PySem L2 PyProof.Rows
theorem LZ.len : ∀ {r : List (V × V)} {H : Hp} {ts : List V} {H2 : Hp}, LZ.NewT H r ts H2 → ts.length = r.length
  | [], _, _, _, ⟨a, _⟩ => by rw [a]; rfl
  | (x, y) :: r, _, _, _, ⟨T, ts', a, _, c⟩ => by rw [a, List.length_cons, List.length_cons, LZ.len c]
end Wk
namespace Wk
open PySem L2
section
variable {α β γ : Type} {e : Rep α} {f : Rep β} {g : Rep γ} {K : PySem.W.Frag} {F H : Hp} {v : V} {x : α × β × γ}
instance {n m k : Nat} [Dat e n] [Dat f m] [Dat g k] : Dat (pT3 e f g) (max n (max m k) + 1) := ⟨fun x => .tuple [Dat.d e x.1, Dat.d f x.2.1, Dat.d g x.2.2], fun {K F v x} h => by
    obtain ⟨p, u, w, y, rfl, hp, a, b, c⟩ := h
    exact .tup (SqT.of hp) (.cons (Dat.dp a) (.cons (Dat.dp b) (.cons (Dat.dp c) .nil))), fun x => by
    show (PyData.canLay0 (Dat.d e x.1) && (PyData.canLay0 (Dat.d f x.2.1) && (PyData.canLay0 (Dat.d g x.2.2) && PyData.canLayAll0 []))) = true
    rw [Dat.lay, Dat.lay, Dat.lay]; rfl, fun x => by
    have a := Dat.dep (e := e) x.1
    have b := Dat.dep (e := f) x.2.1
    have c := Dat.dep (e := g) x.2.2
    simp only [PyData.depth, PyData.depthAll]
    omega, fun x y => by
    show (PyData.eqv (Dat.d e x.1) (Dat.d e y.1) && (PyData.eqv (Dat.d f x.2.1) (Dat.d f y.2.1) && (PyData.eqv (Dat.d g x.2.2) (Dat.d g y.2.2) && PyData.eqvAll [] []))) = true ↔ _
    have z : PyData.eqvAll [] [] = true := rfl
    rw [z, Bool.and_true, Bool.and_eq_true, Bool.and_eq_true, Dat.inj, Dat.inj, Dat.inj, Prod.ext_iff, Prod.ext_iff]⟩
end
def nw (H F : Hp) : Hp := fun a => if H a = none then F a else none
theorem nw_ex {H F F' : Hp} (h : Ex F F') : Ex (nw H F) (nw H F') := fun a o e => by
  unfold nw at e ⊢
  by_cases q : H a = none
  · rw [if_pos q] at e ⊢; exact h a o e
  · rw [if_neg q] at e; cases e
theorem nw_sub {H F : Hp} : Ex (nw H F) F := fun a o e => by
  unfold nw at e
  by_cases q : H a = none
  · rw [if_pos q] at e; exact e
  · rw [if_neg q] at e; cases e
def Fre {α : Type} (H : Hp) (e : Rep α) (F : Hp) (v : V) (x : α) : Prop := e.r (nw H F) v x
section
variable {α β : Type} {e : Rep α} {f : Rep β} {F0 H0 F F' Fl H H2 F2 : Hp} {v u : V} {x : α} {y : β} {p : Addr} {Q : VK}
theorem Fre.r (h : Fre H e F v x) : e.r F v x := e.mono nw_sub h
theorem Fre.mono (g : Ex F F') (h : Fre H e F v x) : Fre H e F' v x := e.mono (nw_ex g) h
end
end Wk
namespace Wk
end Wk
namespace Wk
end Wk
namespace Wk
open PySem L2
theorem kit_own {K : PySem.W.Frag} {S T : Addr} {b : Bool} (h2 : PySem.W.isClsIn K T = true) (h3 : PySem.W.typeIn K (.ref T) = some (.type "type")) (h0 : PySem.W.subIn K (.ref S) (.ref S) = some true) (h4 : PySem.W.subIn K (.ref S) (.ref T) = some b) :
    PySem.W.kitOne K (.ref S) (.ref T) = some b := by
  have e2 : ((PySem.W.clsIn K T).isSome && PySem.W.typeIn K (.ref T) == some (.type "type")) = true := by
    have h2' : (PySem.W.clsIn K T).isSome = true := h2
    rw [h2', h3]; rfl
  show (if ((Value.ref S == Value.ref T) = true) then some true else (if ((PySem.W.clsIn K T).isSome && PySem.W.typeIn K (.ref T) == some (.type "type")) = true then PySem.W.subIn K (.ref S) (.ref T) else none)) = some b
  by_cases q : (Value.ref S == Value.ref T) = true
  · rw [if_pos q]
    have e : S = T := Value.ref.inj (beq_iff_eq.mp q)
    subst e
    rw [h0] at h4; exact h4
  · rw [if_neg q, if_pos e2]; exact h4
end Wk
namespace Wk
open PySem L2
/-- a text of one sign -/
def sg (c : Nat) : Str := ⟨#[c]⟩
def kAddS : R2 := fun x y H Q => ∃ i j, x = .str i ∧ y = .str j ∧ i.length + j.length ≤ sizeLine ∧ Q (.str (i ++ j)) H
section
variable {X : Cx}
theorem op_addS : OpR X (binaryOp .Add) kAddS := op_add_str
end
theorem Str_len (x : Str) : x.cps.toList.length = x.length := rfl
section
variable {K : PySem.W.Frag} {σ : L2.St} {F0 H0 F H : Hp} {ta tb te : TE} {tl th : TO} {x y : Str} {v w : V} {i c : Nat} {Q : VK}
theorem v_addS (ha : Val ta σ H (.str x)) (hb : Val tb σ H (.str y)) (h : x.length + y.length < 1000000) : Val (tOp kAddS ta tb) σ H (.str (x ++ y)) :=
  v2 ha hb fun Q k => ⟨x, y, rfl, rfl, Nat.le_of_lt (small_len h), k⟩
theorem ix_Str (ha : Val ta σ H (.str x)) (hb : Val tb σ H (.int (i : Int))) (hl : x.length < 1000000) (hc : x.cps.toList[i]? = some c) : Val (tOp rIxS ta tb) σ H (.str (sg c)) :=
  v2 ha hb fun Q k => ⟨x, _, c, rfl, rfl, Nat.le_of_lt (small_len hl), atI_nat hc, k⟩
/-- sep.join(texts) -/
def rJoin (K : PySem.W.Frag) : V → List V → Hp → VK → Prop := fun x xs H Q => ∃ a p, ∃ ys : List Str, x = .str a ∧ xs = [.ref p] ∧ (SqL K H p (ys.map V.str) ∨ SqT K H p (ys.map V.str)) ∧ (ys.map (·.length)).sum + ys.length * a.length ≤ 16777216 ∧ Q (.str (Txt.join a ys)) H
theorem e_m1 {r : V → List V → Hp → VK → Prop} {to : TE} (h : to σ H fun v H1 => (∃ a, v = .str a) ∧ te σ H1 fun y H2 => r v [y] H2 Q) : tM1 r to te σ H Q := h
theorem all_str {ys : List Str} : ∀ {vs : List V} {ys : List Str}, All pS F vs ys → vs = ys.map V.str
  | [], [], _ => rfl
  | v :: vs, z :: ys, ⟨a, b⟩ => by rw [List.map_cons, ← all_str (ys := ys) b, show v = V.str z from a]
  | [], _ :: _, q => q.elim
  | _ :: _, [], q => q.elim
theorem n_joinX {ys : List Str} {p : Addr} (r : XL pS H0 F H p ys) (hl : (ys.map (·.length)).sum + ys.length * x.length ≤ 16777216) (k : Q (.str (Txt.join x ys)) H) : rJoin K (.str x) [.ref p] H Q := by
  obtain ⟨vs, hp, a⟩ := r.rd
  have e := all_str (ys := ys) a
  subst e
  exact ⟨x, p, ys, rfl, rfl, .inl (SqL.of hp), hl, k⟩
end
end Wk
namespace Wk
open PySem L2
/-- what a call has made -/
def NLst (o : HO) : Prop := ∀ vs, o ≠ .lst vs
/-- what stands in a region is new and not in F, or is in F and no list -/
abbrev NewOr (H0 F G : Hp) : Prop := ∀ a o, G a = some o → (H0 a = none ∧ F a = none) ∨ (F a = some o ∧ NLst o)
structure RG (H0 F H G : Hp) : Prop where
  z : NewOr H0 F G
  h : Ex G H
/-- the same, its lists changed: each has grown by at most k -/
structure RD (H0 F H G : Hp) (k : Nat) : Prop where
  z : NewOr H0 F G
  c : ∀ a o, G a = some o → ∃ o', H a = some o'
  l : ∀ a vs, G a = some (.lst vs) → ∃ ws, H a = some (.lst ws) ∧ ws.length ≤ vs.length + k
/-- but for its lists -/
def nl (G : Hp) : Hp := fun a => match G a with | some (.lst _) => none | o => o
section
variable {α β γ : Type} {e : Rep α} {f : Rep β} {k3 : Rep γ} {K : PySem.W.Frag} {σ : L2.St} {F0 H0 F F' F2 H H' H2 G : Hp} {p q : Addr} {v u : V} {x : α} {xs : List α} {Q : VK} {to : TE} {tA : TA} {vs : List V} {o : HO} {k : Nat}
theorem NewOr.lst (z : NewOr H0 F G) {vs : List V} (e : G p = some (.lst vs)) : H0 p = none ∧ F p = none := (z p _ e).resolve_right fun q => q.2 vs rfl
theorem NewOr.step (z : NewOr H0 F G) (c : ∀ a o, G a = some o → ∃ o', H a = some o') (w : Wf F H F' H') : NewOr H0 F' G := fun a o e => by
  rcases z a o e with ⟨h0, hn⟩ | ⟨h1, h2⟩
  · refine .inl ⟨h0, ?_⟩
    cases q : F' a with
    | none => rfl
    | some u =>
      obtain ⟨o', h⟩ := c a o e
      have := w.n a u q hn
      rw [h] at this
      cases this
  · exact .inr ⟨w.g _ _ h1, h2⟩
theorem NewOr.frzO (z : NewOr H0 F G) (fz : Fz F F' p) (hq : G p = none) (g : Ex F F') : NewOr H0 F' G := fun a o e => by
  rcases z a o e with ⟨h0, hn⟩ | ⟨h1, h2⟩
  · exact .inl ⟨h0, fz a (ne_of_none e hq) hn⟩
  · exact .inr ⟨g _ _ h1, h2⟩
theorem RG.step (g : RG H0 F H G) (w : Wf F H F' H') : RG H0 F' H' G := ⟨g.z.step (fun a o e => ⟨o, g.h a o e⟩) w, g.h.tr w.h⟩
theorem RG.ne (g : RG H0 F H G) (h : H q = none) : G q = none := g.h.non h
theorem RG.frzO (g : RG H0 F H G) (fz : Fz F F' p) (hq : G p = none) (x : Ex F F') : RG H0 F' H G := ⟨g.z.frzO fz hq x, g.h⟩
theorem RG.kept (g : RG H0 F H G) (h : ∀ q o, H q = some o → q ≠ p → H' q = some o) (hq : G p = none) : RG H0 F H' G := ⟨g.z, fun a o e => h a o (g.h a o e) (ne_of_none e hq)⟩
theorem RD.step (g : RD H0 F H G k) (w : Wf F H F' H') : RD H0 F' H' G k := by
  refine ⟨g.z.step g.c w, fun a o e => ?_, fun a vs e => ?_⟩
  · obtain ⟨o', h⟩ := g.c a o e
    exact ⟨o', w.h _ _ h⟩
  · obtain ⟨ws, h1, h2⟩ := g.l a vs e
    exact ⟨ws, w.h _ _ h1, h2⟩
theorem RD.ne (g : RD H0 F H G k) (h : H q = none) : G q = none := by
  cases e : G q with
  | none => rfl
  | some o => obtain ⟨o', z⟩ := g.c q o e; rw [h] at z; cases z
theorem RD.frzO (g : RD H0 F H G k) (fz : Fz F F' p) (hq : G p = none) (x : Ex F F') : RD H0 F' H G k := ⟨g.z.frzO fz hq x, g.c, g.l⟩
theorem RD.kept (g : RD H0 F H G k) (h : ∀ q o, H q = some o → q ≠ p → H' q = some o) (hq : G p = none) : RD H0 F H' G k := by
  refine ⟨g.z, fun a o e => ?_, fun a vs e => ?_⟩
  · obtain ⟨o', z⟩ := g.c a o e
    exact ⟨o', h a o' z (ne_of_none e hq)⟩
  · obtain ⟨ws, h1, h2⟩ := g.l a vs e
    exact ⟨ws, h _ _ h1 (ne_of_none e hq), h2⟩
theorem RG.rd (g : RG H0 F H G) : RD H0 F H G 0 := ⟨g.z, fun a o e => ⟨o, g.h a o e⟩, fun a vs e => ⟨vs, g.h a _ e, Nat.le_refl _⟩⟩
/-- both heaps together -/
def un (F G : Hp) : Hp := fun a => match F a with | some o => some o | none => G a
theorem un_l {F G : Hp} : Ex F (un F G) := fun a o e => by unfold un; rw [e]
theorem RG.un_r (g : RG H0 F H G) : Ex G (un F G) := fun a o e => by
  unfold un
  rcases g.z a o e with ⟨_, hn⟩ | ⟨h1, _⟩
  · rw [hn]; exact e
  · rw [h1]
theorem RG.frz (g : RG H0 F H G) (w : Wf F0 H0 F H) : Wf F0 H0 (un F G) H := ⟨w.h, fun a o e => by
    unfold un at e
    cases q : F a with
    | some u => rw [q] at e; cases e; exact w.f a _ q
    | none => rw [q] at e; exact g.h a o e, w.g.tr un_l, fun a o e e0 => by
    unfold un at e
    cases q : F a with
    | some u => exact w.n a u q e0
    | none => rw [q] at e; exact (g.z a o e).elim (fun y => y.1) fun y => by rw [y.1] at q; cases q⟩
theorem RG.frzE (g : RG H0 F H G) (w : Wf F0 H0 F H) : ∃ F', Wf F0 H0 F' H ∧ Ex F F' ∧ Ex G F' ∧ (∀ q, G q = none → F q = none → F' q = none) :=
  ⟨_, g.frz w, un_l, g.un_r, fun q h x => by unfold un; rw [x]; exact h⟩
/-- behind a call -/
theorem RG.of (w : Wf F0 H0 F H) (sf : Ex F2 H2) : RG H0 F H2 (nw H F2) := by
  have key : ∀ a o, nw H F2 a = some o → H a = none := fun a o e => by
    unfold nw at e
    by_cases c : H a = none
    · exact c
    · rw [if_neg c] at e; cases e
  exact ⟨fun a o e => .inl ⟨w.h.non (key a o e), w.f.non (key a o e)⟩, fun a o e => sf a o (nw_sub a o e)⟩
def NoL {α : Type} (e : Rep α) : Prop := ∀ {F : Hp} {v : V} {x : α}, e.r F v x → e.r (Wk.nl F) v x
theorem NoL.all (h : NoL e) : ∀ {vs : List V} {xs : List α}, All e F vs xs → All e (Wk.nl F) vs xs
  | [], [], _ => trivial
  | _ :: _, _ :: _, ⟨a, b⟩ => ⟨h a, NoL.all h b⟩
  | [], _ :: _, q => q.elim
  | _ :: _, [], q => q.elim
end
class Dao {α : Type} (e : Rep α) (lv : outParam Nat) where
  ok : α → Prop
  d : α → PyData
  dp : ∀ {K : PySem.W.Frag} {F : Hp} {v : V} {x : α}, e.r F v x → Dp K F v (d x)
  lay : ∀ x, ok x → (d x).canLay0 = true
  dep : ∀ x, (d x).depth ≤ lv
  inj : ∀ x y, PyData.eqv (d x) (d y) = true ↔ x = y
def okV {α : Type} (e : Rep α) {n : Nat} [Dao e n] (x : α) : Prop := Dao.ok e x
def okS (x : Str) : Prop := PyData.canLay0 (.str x) = true
instance : Dao pI 0 := ⟨fun _ => True, Dat.d pI, Dat.dp, fun x _ => Dat.lay (e := pI) x, Dat.dep, Dat.inj⟩
instance : Dao pN 0 := ⟨fun _ => True, Dat.d pN, Dat.dp, fun x _ => Dat.lay (e := pN) x, Dat.dep, Dat.inj⟩
instance : Dao pB 0 := ⟨fun _ => True, Dat.d pB, Dat.dp, fun x _ => Dat.lay (e := pB) x, Dat.dep, Dat.inj⟩
instance : Dao pS 0 := ⟨okS, .str, fun h => by cases (show _ = V.str _ from h); exact .str _, fun _ h => h, fun _ => Nat.le_refl _, fun x y => by
  show ((x == y) = true) ↔ _
  exact beq_iff_eq⟩
theorem lay_allO {α : Type} {d : α → PyData} {ok : α → Prop} (h : ∀ x, ok x → (d x).canLay0 = true) : ∀ xs : List α, (∀ x ∈ xs, ok x) → PyData.canLayAll0 (xs.map d) = true
  | [], _ => rfl
  | x :: xs, q => by
    show (PyData.canLay0 (d x) && PyData.canLayAll0 (xs.map d)) = true
    rw [h x (q x (List.mem_cons_self ..)), lay_allO h xs fun y hy => q y (List.mem_cons_of_mem _ hy)]; rfl
theorem dp_allO {α : Type} {e : Rep α} {lv : Nat} [Dao e lv] {K : PySem.W.Frag} {F : Hp} : ∀ {vs : List V} {xs : List α}, All e F vs xs → DpAll K F vs (xs.map (Dao.d e))
  | [], [], _ => .nil
  | _ :: _, _ :: _, ⟨a, b⟩ => .cons (Dao.dp a) (dp_allO b)
  | [], _ :: _, q => q.elim
  | _ :: _, [], q => q.elim
instance {α : Type} {e : Rep α} {n : Nat} [Dao e n] : Dao (pL e) (n + 1) := ⟨fun xs => ∀ x ∈ xs, Dao.ok e x, fun xs => .list (xs.map (Dao.d e)), fun {K F v xs} h => by
    obtain ⟨p, vs, rfl, hp, a⟩ := h
    exact .lst (SqL.of hp) (dp_allO a), fun xs => lay_allO (Dao.lay (e := e)) xs, fun xs => by
    have := dep_all (Dao.dep (e := e)) xs
    simp only [PyData.depth]
    omega, fun xs ys => by
    show PyData.eqvAll (xs.map (Dao.d e)) (ys.map (Dao.d e)) = true ↔ _
    exact eqv_all (Dao.inj (e := e)) xs ys⟩
instance {α : Type} {e : Rep α} {n : Nat} [Dao e n] : Dao (pTL e) (n + 1) := ⟨fun xs => ∀ x ∈ xs, Dao.ok e x, fun xs => .tuple (xs.map (Dao.d e)), fun {K F v xs} h => by
    obtain ⟨p, vs, rfl, hp, a⟩ := h
    exact .tup (SqT.of hp) (dp_allO a), fun xs => lay_allO (Dao.lay (e := e)) xs, fun xs => by
    have := dep_all (Dao.dep (e := e)) xs
    simp only [PyData.depth]
    omega, fun xs ys => by
    show PyData.eqvAll (xs.map (Dao.d e)) (ys.map (Dao.d e)) = true ↔ _
    exact eqv_all (Dao.inj (e := e)) xs ys⟩
instance {α β : Type} {e : Rep α} {f : Rep β} {n m : Nat} [Dao e n] [Dao f m] : Dao (pT2 e f) (max n m + 1) := ⟨fun x => Dao.ok e x.1 ∧ Dao.ok f x.2, fun x => .tuple [Dao.d e x.1, Dao.d f x.2], fun {K F v x} h => by
    obtain ⟨p, u, w, rfl, hp, a, b⟩ := h
    exact .tup (SqT.of hp) (.cons (Dao.dp a) (.cons (Dao.dp b) .nil)), fun x h => by
    show (PyData.canLay0 (Dao.d e x.1) && (PyData.canLay0 (Dao.d f x.2) && PyData.canLayAll0 [])) = true
    rw [Dao.lay _ h.1, Dao.lay _ h.2]; rfl, fun x => by
    have a := Dao.dep (e := e) x.1
    have b := Dao.dep (e := f) x.2
    simp only [PyData.depth, PyData.depthAll]
    omega, fun x y => by
    show (PyData.eqv (Dao.d e x.1) (Dao.d e y.1) && (PyData.eqv (Dao.d f x.2) (Dao.d f y.2) && PyData.eqvAll [] [])) = true ↔ _
    have z : PyData.eqvAll [] [] = true := rfl
    rw [z, Bool.and_true, Bool.and_eq_true, Dao.inj, Dao.inj, Prod.ext_iff]⟩
instance {α β γ : Type} {e : Rep α} {f : Rep β} {g : Rep γ} {n m k : Nat} [Dao e n] [Dao f m] [Dao g k] : Dao (pT3 e f g) (max n (max m k) + 1) := ⟨fun x => Dao.ok e x.1 ∧ Dao.ok f x.2.1 ∧ Dao.ok g x.2.2, fun x => .tuple [Dao.d e x.1, Dao.d f x.2.1, Dao.d g x.2.2], fun {K F v x} h => by
    obtain ⟨p, u, w, y, rfl, hp, a, b, c⟩ := h
    exact .tup (SqT.of hp) (.cons (Dao.dp a) (.cons (Dao.dp b) (.cons (Dao.dp c) .nil))), fun x h => by
    show (PyData.canLay0 (Dao.d e x.1) && (PyData.canLay0 (Dao.d f x.2.1) && (PyData.canLay0 (Dao.d g x.2.2) && PyData.canLayAll0 []))) = true
    rw [Dao.lay _ h.1, Dao.lay _ h.2.1, Dao.lay _ h.2.2]; rfl, fun x => by
    have a := Dao.dep (e := e) x.1
    have b := Dao.dep (e := f) x.2.1
    have c := Dao.dep (e := g) x.2.2
    simp only [PyData.depth, PyData.depthAll]
    omega, fun x y => by
    show (PyData.eqv (Dao.d e x.1) (Dao.d e y.1) && (PyData.eqv (Dao.d f x.2.1) (Dao.d f y.2.1) && (PyData.eqv (Dao.d g x.2.2) (Dao.d g y.2.2) && PyData.eqvAll [] []))) = true ↔ _
    have z : PyData.eqvAll [] [] = true := rfl
    rw [z, Bool.and_true, Bool.and_eq_true, Bool.and_eq_true, Dao.inj, Dao.inj, Dao.inj, Prod.ext_iff, Prod.ext_iff]⟩
instance {α : Type} {e : Rep α} {n : Nat} [Dao e n] : Dao (pAlt (pL e) pN) (n + 1) := ⟨fun x => match x with | .inl xs => ∀ y ∈ xs, Dao.ok e y | .inr _ => True, fun x => match x with | .inl xs => .list (xs.map (Dao.d e)) | .inr m => .int (m : Int), fun {K F v x} h => by
    cases x with
    | inl xs =>
      obtain ⟨p, vs, rfl, hp, a⟩ := (show (pL e).r F v xs from h)
      exact .lst (SqL.of hp) (dp_allO a)
    | inr m => cases (show v = V.int _ from h); exact .int _, fun x h => by
    cases x with
    | inl xs => exact lay_allO (Dao.lay (e := e)) xs h
    | inr m => rfl, fun x => by
    cases x with
    | inl xs =>
      have := dep_all (Dao.dep (e := e)) xs
      simp only [PyData.depth]
      omega
    | inr m => simp only [PyData.depth]; omega, fun x y => by
    cases x with
    | inl xs =>
      cases y with
      | inl ys =>
        show PyData.eqvAll (xs.map (Dao.d e)) (ys.map (Dao.d e)) = true ↔ _
        rw [eqv_all (Dao.inj (e := e)) xs ys]
        exact ⟨fun h => by rw [h], fun h => Sum.inl.inj h⟩
      | inr m => exact ⟨fun h => absurd (show false = true from h) (by decide), fun h => nomatch h⟩
    | inr m =>
      cases y with
      | inl ys => exact ⟨fun h => absurd (show false = true from h) (by decide), fun h => nomatch h⟩
      | inr k =>
        show (((m : Int) == (k : Int)) = true) ↔ _
        rw [beq_iff_eq]
        exact ⟨fun h => by rw [show m = k by omega], fun h => by rw [Sum.inr.inj h]⟩⟩
theorem Dao.shp {α : Type} {e : Rep α} {n : Nat} [Dao e n] (h : n ≤ 64) {x : α} (o : okV e x) : SeqAt.shaped (Dao.d e x) = true := by
  unfold SeqAt.shaped
  rw [Dao.lay x o, decide_eq_true (Nat.le_trans (Dao.dep x) h)]; rfl
section
variable {α : Type} {e : Rep α} {K : PySem.W.Frag} {σ : L2.St} {F F' H : Hp} {ta tb : TE} {v w : V} {x y : α} {n : Nat}
theorem c_eqO [DecidableEq α] [Dao e n] (ha : Val ta σ H v) (hb : Val tb σ H w) (f : Ex F H) (r : e.r F v x) (g : Ex F' H) (s : e.r F' w y) (o : okV e x ∧ okV e y) (h : n ≤ 64 := by decide) : Val (tOp (rEqD K) ta tb) σ H (.bl (decide (x = y))) :=
  v2 ha hb fun Q k => ⟨_, _, Dao.dp (e.mono f r), Dao.dp (e.mono g s), Dao.shp h o.1, Dao.shp h o.2, by
    have z : PyData.eqv (Dao.d e x) (Dao.d e y) = decide (x = y) := Bool.eq_iff_iff.mpr (by rw [Dao.inj, decide_eq_true_iff])
    rw [z]; exact k⟩
end
end Wk
namespace Wk
class Ctx (C : Type) where
  Out : Type
  at_ : Out → C → Prop
instance {α : Type} : Ctx (α → Prop) := ⟨α, fun z c => c z⟩
instance {C E : Type} [Ctx C] [Ctx E] : Ctx (C × E) := ⟨Sum (Ctx.Out C) (Ctx.Out E), fun o d => match o with | .inl o => Ctx.at_ o d.1 | .inr o => Ctx.at_ o d.2⟩
def Det {C : Type} [Ctx C] (W : C → Prop) : Prop := ∀ c, W c → (∀ c', W c') ∨ ∃ o : Ctx.Out C, Ctx.at_ o c ∧ ∀ c', Ctx.at_ o c' → W c'
section
variable {C α S β : Type} [Ctx C]
theorem Det.ex {W : α → C → Prop} (h : ∀ x, Det (W x)) : Det (fun c => ∃ x, W x c) := fun c ⟨a, b⟩ => (h a c b).imp (fun q c' => ⟨a, q c'⟩) fun ⟨o, x, y⟩ => ⟨o, x, fun c' q => ⟨a, y c' q⟩⟩
/-- a call -/
theorem Det.call {W : (S → Prop) → Prop} {K : S → C → Prop} (hW : Det W) (hK : ∀ x, Det (K x)) : Det (fun c => W (fun x => K x c)) := fun c h => by
  rcases hW (fun x => K x c) h with h1 | ⟨x, h2, h3⟩
  · exact .inl fun c' => h1 _
  · rcases hK x c h2 with a | ⟨o, a, b⟩
    · exact .inl fun c' => h3 (fun x => K x c') (a c')
    · exact .inr ⟨o, a, fun c' q => h3 (fun x => K x c') (b c' q)⟩
theorem Det.mono {W : C → Prop} (h : Det W) {c c' : C} (hc : ∀ o : Ctx.Out C, Ctx.at_ o c → Ctx.at_ o c') (hw : W c) : W c' := by
  rcases h c hw with a | ⟨o, a, b⟩
  · exact a c'
  · exact b c' (hc o a)
theorem Det.fst {E : Type} [Ctx E] {W : C → Prop} (h : Det W) : Det (fun d : C × E => W d.1) := fun d k => by
  rcases h d.1 k with a | ⟨o, a, b⟩
  · exact .inl fun d' => a d'.1
  · exact .inr ⟨.inl o, a, fun d' q => b d'.1 q⟩
end
end Wk
namespace Wk
open PySem L2
end Wk
namespace Wk
open PySem L2 ClX
abbrev WireV := Sum (Str × Nat) (Sum (Str × List Str) (Str × Str × Nat))
def pW (I S T : Addr) : Rep WireV := pAlt (pO2 I "name" "number" pS pN) (pAlt (pO2 S "name" "wires" pS (pTL pS)) (pO3 T "name" "wire" "number" pS pS pN))
theorem Md.mono {P : Program} {w : World} {K : PySem.W.Frag} {mg : Str → Option Value} {base : Heap} {CX : CXT} {j k : Nat} {C : Addr} {m : Str} {ps : List Str} {sp : Sp} (M : Md P w K mg base CX j C m ps sp) (h : j ≤ k) : Md P w K mg base CX k C m ps sp := let ⟨f, fd, F, a, b⟩ := M.ex; ⟨f, fd, F.mono h, a, b⟩
def pT4 {α β γ δ : Type} (e : Rep α) (f : Rep β) (g : Rep γ) (h : Rep δ) : Rep (α × β × γ × δ) := ⟨fun F v x => ∃ p u w y z, v = .ref p ∧ F p = some (.tup [u, w, y, z]) ∧ e.r F u x.1 ∧ f.r F w x.2.1 ∧ g.r F y x.2.2.1 ∧ h.r F z x.2.2.2, fun ex ⟨p, u, w, y, z, a, b, c, d, k, l⟩ => ⟨p, u, w, y, z, a, ex _ _ b, e.mono ex c, f.mono ex d, g.mono ex k, h.mono ex l⟩⟩
end Wk
namespace Wk
open PySem L2
section
variable {α : Type} {e : Rep α} {K : PySem.W.Frag} {σ : L2.St} {F0 H0 F H F' H' : Hp} {v : V} {xs : List α} {p q : Addr} {Q : VK} {ta : TE}
def rStrI : List V → Hp → VK → Prop := fun xs H Q => ∃ i, xs = [.int i] ∧ i.natAbs.log2 < 1920 ∧ Q (.str (toString i)) H
def strN (n : Nat) : Str := toString ((n : Nat) : Int)
theorem vn_str {n : Nat} (hn : n.log2 < 1920) (ha : Val ta σ H (.int (n : Int))) : Val (tCB rStrI (tCons ta tNil)) σ H (.str (strN n)) := v_cb1 ha fun Q k => ⟨n, rfl, by rw [Int.natAbs_natCast]; exact hn, k⟩
end
end Wk
namespace Wk
open PySem L2
section
variable {α β κ : Type} [KeyT κ] {e : Rep α} {F0 H0 F F' H H' : Hp} {L : List Addr} {p d : Addr} {o : HO} {xs : List α} {m : List (κ × α)} {C dx : Addr} {fs : List (Str × V)}
theorem XL.nF (x : XL e H0 F H p xs) : F p = none := let ⟨_, a, _⟩ := x.x; a.n
theorem XD.nF (x : XD e H0 F H p m) : F p = none := let ⟨_, a, _⟩ := x.x; a.n
end
section
variable {α β κ : Type} [DecidableEq κ] [KeyT κ] {e : Rep α} {b : Rep β} {K : PySem.W.Frag} {σ : L2.St} {F0 H0 F H : Hp} {d ob C dx : Addr} {fs : List (Str × V)} {m : List (κ × β)} {Q : VK} {g : TG} {te to : TE} {tc : TT} {vs : List Nat}
theorem DA.got : ∀ {kvs : List (Key × V)} {m : List (κ × β)} {i : Nat} {k : Key} {v : V}, DA b F kvs m → kvs[i]? = some (k, v) → ∃ q, m[i]? = some q ∧ b.r F v q.2
  | [], [], _, _, _, _, h => by simp at h
  | p :: r, q :: s, 0, k, v, ⟨_, c, _⟩, h => by
    simp at h
    subst h
    exact ⟨q, rfl, c⟩
  | p :: r, q :: s, i + 1, k, v, ⟨_, _, c⟩, h => by
    obtain ⟨z, h1, h2⟩ := DA.got (i := i) c (by simpa using h)
    exact ⟨z, by simpa using h1, h2⟩
  | [], _ :: _, _, _, _, q, _ => q.elim
  | _ :: _, [], _, _, _, q, _ => q.elim
/-- things that hold nothing but objects and tuples -/
def NoD {α : Type} (e : Rep α) : Prop := ∀ (F G : Hp) (d : Addr) (v : V) (x : α), (∀ a o, a ≠ d → F a = some o → G a = some o) → (∀ C dx fs, F d ≠ some (.ins C dx fs)) → (∀ us, F d ≠ some (.tup us)) → e.r F v x → e.r G v x
theorem NoD.S : NoD pS := fun _ _ _ _ _ _ _ _ h => h
theorem NoD.N : NoD pN := fun _ _ _ _ _ _ _ _ h => h
theorem NoD.all (n : NoD e) {F G : Hp} {d : Addr} (h : ∀ a o, a ≠ d → F a = some o → G a = some o) (h1 : ∀ C dx fs, F d ≠ some (.ins C dx fs)) (h2 : ∀ us, F d ≠ some (.tup us)) : ∀ {us : List V} {xs : List α}, All e F us xs → All e G us xs
  | [], [], _ => trivial
  | _ :: _, _ :: _, ⟨a, c⟩ => ⟨n F G d _ _ h h1 h2 a, NoD.all n h h1 h2 c⟩
  | [], _ :: _, q => q.elim
  | _ :: _, [], q => q.elim
theorem NoD.TL (n : NoD e) : NoD (pTL e) := fun F G d v x h h1 h2 ⟨p, us, a, b, c⟩ => ⟨p, us, a, h p _ (fun z => h2 us (by rw [← z]; exact b)) b, n.all h h1 h2 c⟩
theorem NoD.O2 {γ : Type} {f : Rep γ} {C : Addr} {a c : Str} (n : NoD e) (k : NoD f) : NoD (pO2 C a c e f) := fun F G d v x h h1 h2 ⟨p, dx, fs, a, b, u, w, q, r1, r2⟩ => ⟨p, dx, fs, a, h p _ (fun z => h1 C dx fs (by rw [← z]; exact b)) b, u, w, q, n F G d _ _ h h1 h2 r1, k F G d _ _ h h1 h2 r2⟩
theorem NoD.O3 {γ δ : Type} {f : Rep γ} {i : Rep δ} {C : Addr} {a c l : Str} (n : NoD e) (k : NoD f) (j : NoD i) : NoD (pO3 C a c l e f i) := fun F G d v x h h1 h2 ⟨p, dx, fs, a, b, u, w, y, q, r1, r2, r3⟩ => ⟨p, dx, fs, a, h p _ (fun z => h1 C dx fs (by rw [← z]; exact b)) b, u, w, y, q, n F G d _ _ h h1 h2 r1, k F G d _ _ h h1 h2 r2, j F G d _ _ h h1 h2 r3⟩
theorem NoD.W {I S T : Addr} : NoD (pW I S T) := fun F G d v x h h1 h2 r => match x, r with
  | .inl _, r => NoD.O2 NoD.S NoD.N F G d v _ h h1 h2 r
  | .inr (.inl _), r => NoD.O2 NoD.S (NoD.TL NoD.S) F G d v _ h h1 h2 r
  | .inr (.inr _), r => NoD.O3 NoD.S NoD.S NoD.N F G d v _ h h1 h2 r
end
def F4s {α β γ δ : Type} (n m l k : Str) (e : Rep α) (f : Rep β) (g : Rep γ) (i : Rep δ) (F : Hp) (fs : List (Str × V)) (x : α × β × γ × δ) : Prop := ∃ u w y t, fs = [(n, u), (m, w), (l, y), (k, t)] ∧ e.r F u x.1 ∧ f.r F w x.2.1 ∧ g.r F y x.2.2.1 ∧ i.r F t x.2.2.2
theorem F4s.mono {α β γ δ : Type} {n m l k : Str} {e : Rep α} {f : Rep β} {g : Rep γ} {i : Rep δ} {F F' : Hp} {fs : List (Str × V)} {x : α × β × γ × δ} (h : Ex F F') : F4s n m l k e f g i F fs x → F4s n m l k e f g i F' fs x := fun ⟨u, w, y, t, a, b, c, d, j⟩ => ⟨u, w, y, t, a, e.mono h b, f.mono h c, g.mono h d, i.mono h j⟩
end Wk
namespace Wk
open PySem L2
end Wk
namespace Wk
open PySem L2
end Wk
namespace Wk
open PySem L2
end Wk
namespace Wk
open PySem L2
instance {α β γ δ : Type} {e : Rep α} {f : Rep β} {g : Rep γ} {i : Rep δ} {n m k l : Nat} [Dao e n] [Dao f m] [Dao g k] [Dao i l] : Dao (pT4 e f g i) (max n (max m (max k l)) + 1) := ⟨fun x => Dao.ok e x.1 ∧ Dao.ok f x.2.1 ∧ Dao.ok g x.2.2.1 ∧ Dao.ok i x.2.2.2, fun x => .tuple [Dao.d e x.1, Dao.d f x.2.1, Dao.d g x.2.2.1, Dao.d i x.2.2.2], fun {K F v x} h => by
    obtain ⟨p, u, w, y, z, rfl, hp, a, b, c, d⟩ := h
    exact .tup (SqT.of hp) (.cons (Dao.dp a) (.cons (Dao.dp b) (.cons (Dao.dp c) (.cons (Dao.dp d) .nil)))), fun x h => by
    show (PyData.canLay0 (Dao.d e x.1) && (PyData.canLay0 (Dao.d f x.2.1) && (PyData.canLay0 (Dao.d g x.2.2.1) && (PyData.canLay0 (Dao.d i x.2.2.2) && PyData.canLayAll0 [])))) = true
    rw [Dao.lay _ h.1, Dao.lay _ h.2.1, Dao.lay _ h.2.2.1, Dao.lay _ h.2.2.2]; rfl, fun x => by
    have a := Dao.dep (e := e) x.1
    have b := Dao.dep (e := f) x.2.1
    have c := Dao.dep (e := g) x.2.2.1
    have d := Dao.dep (e := i) x.2.2.2
    simp only [PyData.depth, PyData.depthAll]
    omega, fun x y => by
    show (PyData.eqv (Dao.d e x.1) (Dao.d e y.1) && (PyData.eqv (Dao.d f x.2.1) (Dao.d f y.2.1) && (PyData.eqv (Dao.d g x.2.2.1) (Dao.d g y.2.2.1) && (PyData.eqv (Dao.d i x.2.2.2) (Dao.d i y.2.2.2) && PyData.eqvAll [] [])))) = true ↔ _
    have z : PyData.eqvAll [] [] = true := rfl
    rw [z, Bool.and_true, Bool.and_eq_true, Bool.and_eq_true, Bool.and_eq_true, Dao.inj, Dao.inj, Dao.inj, Dao.inj, Prod.ext_iff, Prod.ext_iff, Prod.ext_iff]⟩
end Wk
namespace Wk
open PySem L2
end Wk
namespace Wk
open PySem L2
end Wk
namespace Wk
open PySem L2
end Wk
namespace Wk
open PySem L2
end Wk
namespace Wk
open PySem L2 ClX
/-- B.__init__(self, ..), B an own class over ValueError without an __init__ of its own -/
def tWeI (K : PySem.W.Frag) (B : Addr) (to : TE) (ta : TA) : TE := fun σ H Q => to σ H fun x H1 => x = .ref B ∧ ta σ H1 fun vs H2 => ∃ (a C : Addr) (ws : List V), vs = .ref a :: ws ∧ ws.length ≤ 1000 ∧ OexC K C ∧ H2 a = some (exo a C none) ∧ Q .non H2
section
variable {X : Cx} {o e : Expr} {es : List Expr} {to te : TE} {ta : TA} {B : Addr} {p p' apos pos : Pos} {pl : Sem Bool}
theorem pe_weinit (r : CRead X.K B (.type "type")) (vB : PySem.W.findCls X.K (.ref B) (.type "type") "__init__" = some (.val (.builtin "ValueError.__init__"))) (ho : PE X o to) (ha : PA X (e :: es) ta)
    (hst : starEach (e :: es) X.env = (false, eval e X.env) :: starEach es X.env := by rfl) (hpl : (backTo pos (starEach es X.env)).any (·.1) = false := by rfl)
    (ht : eval (.Call (.Attribute o "__init__" apos) (e :: es) [] pos) X.env = (do
      let ov ← eval o X.env
      standAt apos.atName
      let (f, first) ← holding [ov] (getMethod ov "__init__" pl)
      callWith pos f first (backTo pos (starEach (e :: es) X.env)) (backToKw pos (keywordEach [] X.env))) := by rfl) :
    PE X (.Call (.Attribute o "__init__" apos) (e :: es) [] pos) (tWeI X.K B to ta) := by
  refine ⟨fun pins s σ H Q I h => ?_⟩
  refine PySem.W.methodCall_KW (pl := pl) (thn (ho.run pins s σ H _ I h) fun u s1 ⟨x, H1, I1, rx, ex, q⟩ => ?_) ht
  subst ex
  obtain rfl : u = Value.ref B := rx
  refine PySem.W.method_cls I1.kIn r.ga (PySem.W.cls_value I1.kIn r.rd vB rfl ?_)
  show wpAny _ _ (callWith pos (Value.builtin "ValueError.__init__") [] (backTo pos (starEach (e :: es) X.env)) []) _ _ _
  refine PyProof.Rows.callWith_method1 (thn (ha.run pos pins _ σ H1 _ (I1.tok _) q) fun us s2 ⟨vs, H2, I2, r2, a, C, ws, ev, hl, T, ea, q2⟩ => ?_) hst hpl
  subst ev
  cases r2 with
  | @cons _ u0 _ ur ra rw' =>
    obtain rfl : u0 = Value.ref a := ra
    have hlen : ur.length ≤ sizeLine := by
      rw [← Paired.length rw', sizeLine_eq]
      omega
    exact oinit_ok T I2 ea hlen fun s' J => ⟨.non, H2, J, rfl, q2⟩
end
/-- C.__init__(self, x): B.__init__(self, text); self.f = x -/
def sp_xi (f : Str) (C : Addr) : Sp := fun vs H Q _ => ∃ (a : Addr) (v : V), vs = [.ref a, v] ∧ H a = some (exo a C none) ∧ ∀ d, H d = none → d ≠ a → Q .non (upd (upd H d (exd d [(f, v)])) a (exo a C (some d)))
end Wk
namespace Wk
open PySem L2 ClX
/-- the __init__ of an exception class of the program -/
structure Xi (P : Program) (w : World) (K : PySem.W.Frag) (mg : Str → Option Value) (base : Heap) (CX : CXT) (k : Nat) (C : Addr) (ps : List Str) (sp : Sp) : Prop where
  ex : ∃ f fd, FnOk P w K mg base CX k f fd ps sp ∧ (PySem.W.findIn K (.ref C) "__init__" = some (some (.ref f)) ∧ PySem.W.typeIn K (.ref f) = some (.type "function")) ∧ Binds K fd ps []
end Wk
namespace Wk
open PySem L2 ClX
/-- the dict of an exception with one field -/
def pXd {α : Type} (f : Str) (e : Rep α) : Rep α := ⟨fun F v z => ∃ d w, v = .ref d ∧ F d = some (.xd [(f, w)]) ∧ e.r F w z, fun h q => by
  obtain ⟨d, w, rfl, hd, r⟩ := q
  exact ⟨d, w, rfl, h _ _ hd, e.mono h r⟩⟩
section
variable {α : Type} {f : Str} {e : Rep α} {F H : Hp} {d a C : Addr} {v w : V} {z : α} {K : PySem.W.Frag} {i : Nat} {σ : L2.St}
theorem pXd.get (r : (pXd f e).r F (.ref d) z) : ∃ w, F d = some (.xd [(f, w)]) ∧ e.r F w z := by
  obtain ⟨d', w, q, hd, r⟩ := r
  cases q
  exact ⟨w, hd, r⟩
theorem pXd.mk (hf : Ex F H) (n : H d = none) (r : e.r F v z) : (pXd f e).r (upd F d (.xd [(f, v)])) (.ref d) z :=
  ⟨d, v, rfl, upd_same, e.mono (Wf.new hf n).g r⟩
end
/-- what the walk asks of an exception's class with a field -/
structure XF (K : PySem.W.Frag) (mg : Str → Option Value) (n : Str) (C : Addr) (f : Str) : Prop where
  g : mg n = some (.ref C)
  ox : OexC K C
  xf : XfC K C
  no : PySem.W.findIn K (.ref C) f = some none
end Wk
namespace Wk
open PySem PySem.Spec PySem.Calls PyProof.Rows L2 PySem.W
section
variable {prog : Program} {w : World} {A : Around} {E : Value → Shared → Prop} {s : Shared} {K : Frag} {x D C : Addr} {ox : Obj} {od : Option Obj} {a g : Value} {name : Str}
/-- a data descriptor of the class goes ahead of the fields -/
theorem find_data (hc : (clsIn K C).isSome = true) (ha : findIn K (.ref C) name = some (some a)) (hg : specialIn K a "__get__" = some (some g)) (ht : takesIn K a = some true) : findObj K C od name = some (.bind g a) := by
  cases e : clsIn K C with
  | none => rw [e] at hc; cases hc
  | some cd =>
    simp [findObj, e, ha, hg, ht]
/-- e.__class__, e an exception with fields -/
theorem exd_class {Q : Option Value → Shared → Prop} (T : ExcC K D) (X : K.In s.heap) (I : InstAt s.heap x ox D od) (h : Q (some (.ref D)) { s with toks := s.toks + 1 }) : wpAny (model prog w) A (getAttr? (.ref x) "__class__") Q E s := by
  have hc : (clsIn K D).isSome = true := by obtain ⟨cd, hc, _⟩ := any_some T.hd; rw [hc] <;> rfl
  have fnd : findObj K D od "__class__" = some (.bind (.builtin "getset_descriptor.__get__") (.builtin "object.__class__")) := find_data hc T.ha T.hn T.ht
  obtain ⟨hp, gg, dd, tt, oo⟩ := s
  have A0 := I.type (M := model prog w); have A1 := looks_findIn (M := model prog w) X T.hg
  have A2 := looks_findIn (M := model prog w) X T.hk; have A3 := looks_find (M := model prog w) X I fnd
  have sb : Looks (model prog w) hp (isInstance (.ref x) (.type "BaseException")) true := A0.andThen (looks_subIn X T.hs)
  have q0 : (false && onTheHeap (Value.builtin "BaseException.__getattribute__")) = false := rfl
  have q1 : (onTheHeap (Value.ref D) && Value.builtin "BaseException.__getattribute__" == Value.builtin "object.__getattribute__") = false := by
    rw [show (Value.builtin "BaseException.__getattribute__" == Value.builtin "object.__getattribute__") = false by decide +kernel]; rfl
  unfold getAttr? getAttrBy? getAttrBy; refine wpAny_bind (wpAny_mkText ?_)
  refine wpAny_bind (wpAny_attempt (wpAny_holding (wpAny_bind (A0.at (wpAny_bind (A1.at ?_))))))
  show wpAny _ _ (if (onTheHeap (Value.ref D) && Value.builtin "BaseException.__getattribute__" == Value.builtin "object.__getattribute__") = true then _ else _) _ _ _
  rw [q1, if_neg Bool.false_ne_true]; unfold getAttrByItsOwn hookBefore; refine wpAny_bind ?_
  rw [if_pos (show onTheHeap (Value.ref D) = true by rfl)]; refine A2.at ?_
  refine wpAny_bind (wpAny_attempt (wpAny_holding ?_)); unfold callGetattribute
  rw [q0, if_neg Bool.false_ne_true]; unfold boundAndCalled; rw [PySem.F.excAttr_ValueError.ga.bind (.ref x)]
  refine wpAny_bind (wpAny_pure ?_); show wpAny _ _ (call (.builtin "BaseException.__getattribute__") [.ref x, .str "__class__" tt]) _ _ _
  refine wpAny_call (codeAny_call_builtin PySem.F.excAttr_ValueError.ga.plain PySem.F.entry_bexc_ga (@check_slot (model prog w) _ _ ⟨hp, gg, dd, tt + 1, oo⟩ "BaseException.__getattribute__" "BaseException" "__getattribute__" (.ref x) [.str "__class__" tt] [] _ (by decide +kernel) (by decide +kernel) sb (PySem.F.args_bexc_ga (.ref x) (.str "__class__" tt)) ?_))
  unfold Builtin.«object.__getattribute__»; refine wpAny_bind (wpAny_of_eq (a := ((Value.ref x : Value), [Value.str "__class__" tt])) (by first | rfl | (simp only [slotArgs]; rfl)) ?_)
  refine wpAny_bind (wpAny_pure (wpAny_bind (A0.at (wpAny_bind (A3.at ?_)))))
  show wpAny _ _ (holding [Value.builtin "object.__class__"] (call (.builtin "getset_descriptor.__get__") [.builtin "object.__class__", .ref x, .ref D]) >>= ret) _ _ _
  refine wpAny_bind (wpAny_holding (wpAny_call (class_get (ox := ox) (od := od) X I T.hm ?_)))
  refine wpAny_pure ?_
  show wpAny _ _ (handedOut (.ref D)) _ _ _; rw [handedOut_of (v := .ref D) rfl]
  first | exact wpAny_pure (wpAny_pure h) | exact wpAny_pure h | exact wpAny_pure (wpAny_bind (wpAny_pure (wpAny_pure h)))
theorem kitx_exd (T : ExcC K D) : KitX K (.ref x) (.ref D) (fun h => InstAt h x ox D od) := by
  obtain ⟨cd, hc, _⟩ := any_some T.hd
  have at_ : ∃ (c' : Value) (d' : Option Addr) (sl' : Array (Option Value)), K.lookup D = some ⟨c', d', .cls cd, sl'⟩ := by
    unfold clsIn at hc
    split at hc
    · rename_i c' d' cd' sl' ho
      cases hc
      exact ⟨c', d', sl', ho⟩
    · cases hc
  obtain ⟨c', d', sl', ho⟩ := at_
  refine ⟨fun _ _ _ I => I.type, fun _ h X _ => fun A' Q' E' s' k q => ?_, fun h tp dd its n sl X htp => ?_, fun X I k => exd_class T X I k⟩
  · unfold isType loadHead; exact wpAny_bind (wpAny_loadPart (k _ _ (X _ _ ho)) (wpAny_pure q))
  · cases z : ((Value.ref D) == Value.ref tp) with
    | false => rfl
    | true =>
      obtain rfl : D = tp := Value.ref.inj (beq_iff_eq.mp z)
      cases (X _ _ ho).symm.trans htp
end
end Wk
namespace Wk
open PySem PySem.Spec PyProof.Rows L2
end Wk
namespace Wk
open PySem L2 ClX
section
variable {α : Type} {e : Rep α} {W : WX} {C B : Addr} {f : Str} {ta : TA} {D : Ends} {σ : L2.St} {F H : Hp} {v : V} {z : α} {K : PySem.W.Frag}
/-- C.__init__(self, x), walked -/
theorem x_init {tm : TE} {m : Str} (T : OexC K C) (no : PySem.W.findIn K (.ref C) f = some none) {a : Addr} (h0 : σ[0]? = some (some (.ref a))) (h1 : σ[1]? = some (some v)) (ho : H a = some (exo a C none)) (hm : Val tm σ H (.str m))
    (hQ : ∀ d, H d = none → d ≠ a → D.nx σ (upd (upd H d (exd d [(f, v)])) a (exo a C (some d)))) :
    tSeq (tDrop (tWeI K B (tC (.ref B)) (tCons (tVar 0) (tCons tm tNil)))) (tOst K f (tVar 0) (tVar 1)) D σ H := by
  show tWeI K B (tC (.ref B)) (tCons (tVar 0) (tCons tm tNil)) σ H fun _ H1 => tOst K f (tVar 0) (tVar 1) D σ H1
  unfold tWeI
  show (V.ref B = .ref B) ∧ _
  refine ⟨rfl, ?_⟩
  refine a_val (val_var h0) (a_val hm (a_nil ?_))
  refine ⟨a, C, [.str m], rfl, (show (1 : Nat) ≤ 1000 by decide), T, ho, ?_⟩
  exact val_var h1 _ (val_var h0 _ ⟨a, C, rfl, T, no, .inl ⟨ho, hQ⟩⟩)
end
end Wk
namespace Wk
open PySem L2
end Wk
namespace Wk
open PySem L2
/-- a list of two, of three things of unlike kinds -/
def pH2 {α β : Type} (e : Rep α) (f : Rep β) : Rep (α × β) := ⟨fun F v x => ∃ p u w, v = .ref p ∧ F p = some (.lst [u, w]) ∧ e.r F u x.1 ∧ f.r F w x.2, fun h ⟨p, u, w, a, b, c, d⟩ => ⟨p, u, w, a, h _ _ b, e.mono h c, f.mono h d⟩⟩
def pH3 {α β γ : Type} (e : Rep α) (f : Rep β) (g : Rep γ) : Rep (α × β × γ) := ⟨fun F v x => ∃ p u w y, v = .ref p ∧ F p = some (.lst [u, w, y]) ∧ e.r F u x.1 ∧ f.r F w x.2.1 ∧ g.r F y x.2.2, fun h ⟨p, u, w, y, a, b, c, d, k⟩ => ⟨p, u, w, y, a, h _ _ b, e.mono h c, f.mono h d, g.mono h k⟩⟩
section
variable {α β γ : Type} {e : Rep α} {f : Rep β} {g : Rep γ} {K : PySem.W.Frag} {F0 H0 F H : Hp} {v w u : V} {x : α} {y : β} {z : γ} {Q : VK} {n m k : Nat}
instance [Dat e n] [Dat f m] : Dat (pH2 e f) (max n m + 1) := ⟨fun x => .list [Dat.d e x.1, Dat.d f x.2], fun {K F v x} h => by
    obtain ⟨p, u, w, rfl, hp, a, b⟩ := h
    exact .lst (SqL.of hp) (.cons (Dat.dp a) (.cons (Dat.dp b) .nil)), fun x => by
    show (PyData.canLay0 (Dat.d e x.1) && (PyData.canLay0 (Dat.d f x.2) && PyData.canLayAll0 [])) = true
    rw [Dat.lay, Dat.lay]; rfl, fun x => by
    have a := Dat.dep (e := e) x.1
    have b := Dat.dep (e := f) x.2
    simp only [PyData.depth, PyData.depthAll]
    omega, fun x y => by
    show (PyData.eqv (Dat.d e x.1) (Dat.d e y.1) && (PyData.eqv (Dat.d f x.2) (Dat.d f y.2) && PyData.eqvAll [] [])) = true ↔ _
    have z : PyData.eqvAll [] [] = true := rfl
    rw [z, Bool.and_true, Bool.and_eq_true, Dat.inj, Dat.inj, Prod.ext_iff]⟩
instance [Dat e n] [Dat f m] [Dat g k] : Dat (pH3 e f g) (max n (max m k) + 1) := ⟨fun x => .list [Dat.d e x.1, Dat.d f x.2.1, Dat.d g x.2.2], fun {K F v x} h => by
    obtain ⟨p, u, w, y, rfl, hp, a, b, c⟩ := h
    exact .lst (SqL.of hp) (.cons (Dat.dp a) (.cons (Dat.dp b) (.cons (Dat.dp c) .nil))), fun x => by
    show (PyData.canLay0 (Dat.d e x.1) && (PyData.canLay0 (Dat.d f x.2.1) && (PyData.canLay0 (Dat.d g x.2.2) && PyData.canLayAll0 []))) = true
    rw [Dat.lay, Dat.lay, Dat.lay]; rfl, fun x => by
    have a := Dat.dep (e := e) x.1
    have b := Dat.dep (e := f) x.2.1
    have c := Dat.dep (e := g) x.2.2
    simp only [PyData.depth, PyData.depthAll]
    omega, fun x y => by
    show (PyData.eqv (Dat.d e x.1) (Dat.d e y.1) && (PyData.eqv (Dat.d f x.2.1) (Dat.d f y.2.1) && (PyData.eqv (Dat.d g x.2.2) (Dat.d g y.2.2) && PyData.eqvAll [] []))) = true ↔ _
    have z : PyData.eqvAll [] [] = true := rfl
    rw [z, Bool.and_true, Bool.and_eq_true, Bool.and_eq_true, Dat.inj, Dat.inj, Dat.inj, Prod.ext_iff, Prod.ext_iff]⟩
end
end Wk
namespace Wk
open PySem L2
end Wk
namespace Wk
open PySem L2
end Wk
namespace Wk
open PySem L2
end Wk
namespace Wk
open PySem PySem.Spec PyProof.Rows L2
end Wk
namespace Wk
open PySem PySem.Spec PyProof.Rows L2
/-- reversed(x), the next place i -/
def IsRv (h : Heap) (a : Addr) (x : Str) (t : Tok) (i : Int) : Prop := ∃ ob, h.get? a = some ob ∧ ob.cls = .type "reversed" ∧ ob.data = .fields #[.str x t, rawInt i]
section
variable {prog : Program} {w : World} {A : Around} {E : Value → Shared → Prop} {s : Shared}
theorem IsRv.ty {a : Addr} {x : Str} {t : Tok} {i : Int} (q : IsRv s.heap a x t i) : s.TypeIs (.ref a) "reversed" := let ⟨ob, ho, hc, _⟩ := q; ⟨ob, ho, hc⟩
end
end Wk
namespace Wk
open PySem PySem.Spec PyProof.Rows L2
theorem kit_ty {K : PySem.W.Frag} {S : Addr} {T : String} {b : Bool} (hT : PySem.W.kitMeta T = true) (h : PySem.W.subIn K (.ref S) (.type T) = some b) : PySem.W.kitOne K (.ref S) (.type T) = some b := by
  show (if ((Value.ref S == Value.type T) = true) then some true else (if PySem.W.kitMeta T = true then PySem.W.subIn K (.ref S) (.type T) else none)) = some b
  rw [if_neg (by intro z; cases beq_iff_eq.mp z), if_pos hT]; exact h
end Wk
namespace Wk
open PySem PySem.Spec PyProof.Rows L2
end Wk
namespace Wk
open PySem L2
end Wk
namespace Wk
open PySem PySem.Spec PyProof.Rows L2
end Wk
namespace Wk
open PySem L2
instance {α β γ δ : Type} {e : Rep α} {f : Rep β} {g : Rep γ} {i : Rep δ} {n m k l : Nat} [Dao e n] [Dao f m] [Dao g k] [Dao i l] : Dao (pT4 e f g i) (max n (max m (max k l)) + 1) := ⟨fun x => Dao.ok e x.1 ∧ Dao.ok f x.2.1 ∧ Dao.ok g x.2.2.1 ∧ Dao.ok i x.2.2.2, fun x => .tuple [Dao.d e x.1, Dao.d f x.2.1, Dao.d g x.2.2.1, Dao.d i x.2.2.2], fun {K F v x} h => by
    obtain ⟨p, u, w, y, z, rfl, hp, a, b, c, d⟩ := h
    exact .tup (SqT.of hp) (.cons (Dao.dp a) (.cons (Dao.dp b) (.cons (Dao.dp c) (.cons (Dao.dp d) .nil)))), fun x h => by
    show (PyData.canLay0 (Dao.d e x.1) && (PyData.canLay0 (Dao.d f x.2.1) && (PyData.canLay0 (Dao.d g x.2.2.1) && (PyData.canLay0 (Dao.d i x.2.2.2) && PyData.canLayAll0 [])))) = true
    rw [Dao.lay _ h.1, Dao.lay _ h.2.1, Dao.lay _ h.2.2.1, Dao.lay _ h.2.2.2]; rfl, fun x => by
    have a := Dao.dep (e := e) x.1
    have b := Dao.dep (e := f) x.2.1
    have c := Dao.dep (e := g) x.2.2.1
    have d := Dao.dep (e := i) x.2.2.2
    simp only [PyData.depth, PyData.depthAll]
    omega, fun x y => by
    show (PyData.eqv (Dao.d e x.1) (Dao.d e y.1) && (PyData.eqv (Dao.d f x.2.1) (Dao.d f y.2.1) && (PyData.eqv (Dao.d g x.2.2.1) (Dao.d g y.2.2.1) && (PyData.eqv (Dao.d i x.2.2.2) (Dao.d i y.2.2.2) && PyData.eqvAll [] [])))) = true ↔ _
    have z : PyData.eqvAll [] [] = true := rfl
    rw [z, Bool.and_true, Bool.and_eq_true, Bool.and_eq_true, Bool.and_eq_true, Dao.inj, Dao.inj, Dao.inj, Dao.inj, Prod.ext_iff, Prod.ext_iff, Prod.ext_iff]⟩
instance decSum {α β : Type} [DecidableEq α] [DecidableEq β] : DecidableEq (Sum α β) := instDecidableEqSum
/-- never alike -/
class Dsj {α β : Type} (e : Rep α) (f : Rep β) (n m : outParam Nat) [Dao e n] [Dao f m] : Prop where
  l : ∀ x y, PyData.eqv (Dao.d e x) (Dao.d f y) = false
  r : ∀ x y, PyData.eqv (Dao.d f y) (Dao.d e x) = false
instance {α β γ α' β' γ' δ' : Type} {e : Rep α} {f : Rep β} {g : Rep γ} {e' : Rep α'} {f' : Rep β'} {g' : Rep γ'} {i' : Rep δ'} {n m k n' m' k' l' : Nat} [Dao e n] [Dao f m] [Dao g k] [Dao e' n'] [Dao f' m'] [Dao g' k'] [Dao i' l'] :
    Dsj (pT3 e f g) (pT4 e' f' g' i') (max n (max m k) + 1) (max n' (max m' (max k' l')) + 1) := ⟨fun x y => by
    show (PyData.eqv _ _ && (PyData.eqv _ _ && (PyData.eqv _ _ && false))) = false
    rw [Bool.and_false, Bool.and_false, Bool.and_false], fun x y => by
    show (PyData.eqv _ _ && (PyData.eqv _ _ && (PyData.eqv _ _ && false))) = false
    rw [Bool.and_false, Bool.and_false, Bool.and_false]⟩
instance {α β : Type} {e : Rep α} {f : Rep β} {n m : Nat} [Dao e n] [Dao f m] [D : Dsj e f n m] : Dao (pAlt e f) (max n m) := ⟨fun x => match x with | .inl y => Dao.ok e y | .inr y => Dao.ok f y, fun x => match x with | .inl y => Dao.d e y | .inr y => Dao.d f y, fun {K F v x} h => match x, h with
    | .inl y, h => Dao.dp (e := e) h
    | .inr y, h => Dao.dp (e := f) h, fun x h => match x, h with
    | .inl y, h => Dao.lay (e := e) y h
    | .inr y, h => Dao.lay (e := f) y h, fun x => match x with
    | .inl y => Nat.le_trans (Dao.dep (e := e) y) (Nat.le_max_left ..)
    | .inr y => Nat.le_trans (Dao.dep (e := f) y) (Nat.le_max_right ..), fun x y => match x, y with
    | .inl a, .inl b => (Dao.inj (e := e) a b).trans ⟨fun h => by rw [h], fun h => Sum.inl.inj h⟩
    | .inr a, .inr b => (Dao.inj (e := f) a b).trans ⟨fun h => by rw [h], fun h => Sum.inr.inj h⟩
    | .inl a, .inr b => ⟨fun h => absurd ((D.l a b).symm.trans h) (by decide), fun h => nomatch h⟩
    | .inr a, .inl b => ⟨fun h => absurd ((D.r b a).symm.trans h) (by decide), fun h => nomatch h⟩⟩
end Wk
namespace Wk
open PySem L2
def pT6 {α β γ δ ε ζ : Type} (e : Rep α) (f : Rep β) (g : Rep γ) (h : Rep δ) (i : Rep ε) (j : Rep ζ) : Rep (α × β × γ × δ × ε × ζ) := ⟨fun F v x => ∃ p u1 u2 u3 u4 u5 u6, v = .ref p ∧ F p = some (.tup [u1, u2, u3, u4, u5, u6]) ∧ e.r F u1 x.1 ∧ f.r F u2 x.2.1 ∧ g.r F u3 x.2.2.1 ∧ h.r F u4 x.2.2.2.1 ∧ i.r F u5 x.2.2.2.2.1 ∧ j.r F u6 x.2.2.2.2.2, fun ex ⟨p, u1, u2, u3, u4, u5, u6, a, b, c1, c2, c3, c4, c5, c6⟩ => ⟨p, u1, u2, u3, u4, u5, u6, a, ex _ _ b, e.mono ex c1, f.mono ex c2, g.mono ex c3, h.mono ex c4, i.mono ex c5, j.mono ex c6⟩⟩
end Wk
namespace Wk
open PySem PySem.Spec PyProof.Rows L2 LamX
structure XT (H0 F H : Hp) (P : Addr) (q : Str) : Prop where
  z : H0 P = none
  nF : F P = none
  t : ∃ ps : Array Value, H P = some (.tbl ps) ∧ TriplesOk ps.toList ∧ ∀ x u, codeAmong x ps.toList = some u → ∃ c, u = .ref c ∧ F c = some (CodeO c q)
section
variable {F0 H0 F H F' H' H1 : Hp} {P p : Addr} {q : Str} {L : List Addr} {o : HO}
theorem XT.zero (x : XT H0 F H P q) : H0 P = none := x.z
theorem XT.ne (x : XT H0 F H P q) (h : H p = none) : P ≠ p := let ⟨_, a, _⟩ := x.t; ne_of_none a h
theorem XT.step (x : XT H0 F H P q) (w : Wf F H F' H') : XT H0 F' H' P q := by
  obtain ⟨ps, a, b, c⟩ := x.t
  refine ⟨x.z, ?_, ps, w.h _ _ a, b, fun y u e => let ⟨d, e1, e2⟩ := c y u e; ⟨d, e1, w.g _ _ e2⟩⟩
  cases h : F' P with
  | none => rfl
  | some y => have := w.n P y h x.nF; rw [a] at this; cases this
theorem XT.kept (x : XT H0 F H P q) (h : ∀ r o, H r = some o → r ≠ p → H' r = some o) (hq : P ≠ p) : XT H0 F H' P q := let ⟨ps, a, b⟩ := x.t; ⟨x.z, x.nF, ps, h _ _ a hq, b⟩
theorem XT.frzO (x : XT H0 F H P q) (h : Fz F F' p) (hq : P ≠ p) (g : Ex F F') : XT H0 F' H P q := let ⟨ps, a, b, c⟩ := x.t; ⟨x.z, h _ hq x.nF, ps, a, b, fun y u e => let ⟨d, e1, e2⟩ := c y u e; ⟨d, e1, g _ _ e2⟩⟩
end
end Wk
namespace Wk
open PySem PySem.Spec PyProof.Rows L2 LamX
end Wk
namespace Wk
open PySem L2 LamX
end Wk
namespace Wk
end Wk
namespace Wk
open PySem L2
end Wk
namespace Wk
open PySem L2
end Wk
namespace Wk
open PySem L2
instance {α : Type} {e : Rep α} {n : Nat} [Dao e n] : Dsj pN (pL e) 0 (n + 1) := ⟨fun x y => rfl, fun x y => rfl⟩
end Wk
namespace Wk
open PySem L2
instance {α β γ α' β' γ' : Type} {e : Rep α} {f : Rep β} {g : Rep γ} {e' : Rep α'} {f' : Rep β'} {g' : Rep γ'} {n m k n' m' k' : Nat} [Dao e n] [Dao f m] [Dao g k] [Dao e' n'] [Dao f' m'] [Dao g' k'] [D : Dsj f f' m m'] :
    Dsj (pT3 e f g) (pT3 e' f' g') (max n (max m k) + 1) (max n' (max m' k') + 1) := ⟨fun x y => by
    show (PyData.eqv _ _ && (PyData.eqv _ _ && (PyData.eqv _ _ && PyData.eqvAll [] []))) = false
    rw [D.l, Bool.false_and, Bool.and_false], fun x y => by
    show (PyData.eqv _ _ && (PyData.eqv _ _ && (PyData.eqv _ _ && PyData.eqvAll [] []))) = false
    rw [D.r, Bool.false_and, Bool.and_false]⟩
end Wk
namespace Wk
open PySem L2
end Wk
namespace Wk
open PySem PySem.Spec PyProof.Rows L2
end Wk
namespace Wk
open PySem L2
def pT0 : Rep Unit := ⟨fun F v _ => ∃ p, v = .ref p ∧ F p = some (.tup []), fun ex ⟨p, a, b⟩ => ⟨p, a, ex _ _ b⟩⟩
end Wk
namespace Wk
open PySem L2
instance : Dao pT0 1 := ⟨fun _ => True, fun _ => .tuple [], fun {K F v x} h => by
    obtain ⟨p, rfl, hp⟩ := h
    exact .tup (SqT.of hp) .nil, fun _ _ => rfl, fun _ => by simp [PyData.depth, PyData.depthAll], fun x y => ⟨fun _ => rfl, fun _ => rfl⟩⟩
instance {α β γ α' β' : Type} {e : Rep α} {f : Rep β} {g : Rep γ} {e' : Rep α'} {f' : Rep β'} {n m k n' m' : Nat} [Dao e n] [Dao f m] [Dao g k] [Dao e' n'] [Dao f' m'] :
    Dsj (pT3 e f g) (pT2 e' f') (max n (max m k) + 1) (max n' m' + 1) := ⟨fun x y => by
    show (PyData.eqv _ _ && (PyData.eqv _ _ && false)) = false
    rw [Bool.and_false, Bool.and_false], fun x y => by
    show (PyData.eqv _ _ && (PyData.eqv _ _ && false)) = false
    rw [Bool.and_false, Bool.and_false]⟩
instance {α β γ : Type} {e : Rep α} {f : Rep β} {g : Rep γ} {n m k : Nat} [Dao e n] [Dao f m] [Dao g k] : Dsj (pT3 e f g) pT0 (max n (max m k) + 1) 1 := ⟨fun _ _ => rfl, fun _ _ => rfl⟩
instance {α β : Type} {e : Rep α} {f : Rep β} {n m : Nat} [Dao e n] [Dao f m] : Dsj (pT2 e f) pT0 (max n m + 1) 1 := ⟨fun _ _ => rfl, fun _ _ => rfl⟩
instance dsjAlt {α β γ : Type} {e : Rep α} {f : Rep β} {g : Rep γ} {n m k : Nat} [Dao e n] [Dao f m] [Dao g k] [Dsj e f n m] [D1 : Dsj e g n k] [D2 : Dsj f g m k] : Dsj (pAlt e f) g (max n m) k := ⟨fun x y => match x with
    | .inl a => D1.l a y
    | .inr a => D2.l a y, fun x y => match x with
    | .inl a => D1.r a y
    | .inr a => D2.r a y⟩
end Wk
namespace Wk
open PySem L2
end Wk
namespace Wk
open PySem L2
end Wk
namespace Wk
open PySem L2
instance {α β γ δ ε ζ : Type} {e : Rep α} {f : Rep β} {g : Rep γ} {i : Rep δ} {j : Rep ε} {k6 : Rep ζ} {n m k l o q : Nat} [Dao e n] [Dao f m] [Dao g k] [Dao i l] [Dao j o] [Dao k6 q] : Dao (pT6 e f g i j k6) (max n (max m (max k (max l (max o q)))) + 1) := ⟨fun x => Dao.ok e x.1 ∧ Dao.ok f x.2.1 ∧ Dao.ok g x.2.2.1 ∧ Dao.ok i x.2.2.2.1 ∧ Dao.ok j x.2.2.2.2.1 ∧ Dao.ok k6 x.2.2.2.2.2, fun x => .tuple [Dao.d e x.1, Dao.d f x.2.1, Dao.d g x.2.2.1, Dao.d i x.2.2.2.1, Dao.d j x.2.2.2.2.1, Dao.d k6 x.2.2.2.2.2], fun {K F v x} h => by
    obtain ⟨p, u1, u2, u3, u4, u5, u6, rfl, hp, a, b, c, d, m, n⟩ := h
    exact .tup (SqT.of hp) (.cons (Dao.dp a) (.cons (Dao.dp b) (.cons (Dao.dp c) (.cons (Dao.dp d) (.cons (Dao.dp m) (.cons (Dao.dp n) .nil)))))), fun x h => by
    show (PyData.canLay0 (Dao.d e x.1) && (PyData.canLay0 (Dao.d f x.2.1) && (PyData.canLay0 (Dao.d g x.2.2.1) && (PyData.canLay0 (Dao.d i x.2.2.2.1) && (PyData.canLay0 (Dao.d j x.2.2.2.2.1) && (PyData.canLay0 (Dao.d k6 x.2.2.2.2.2) && PyData.canLayAll0 [])))))) = true
    rw [Dao.lay _ h.1, Dao.lay _ h.2.1, Dao.lay _ h.2.2.1, Dao.lay _ h.2.2.2.1, Dao.lay _ h.2.2.2.2.1, Dao.lay _ h.2.2.2.2.2]; rfl, fun x => by
    have a := Dao.dep (e := e) x.1
    have b := Dao.dep (e := f) x.2.1
    have c := Dao.dep (e := g) x.2.2.1
    have d := Dao.dep (e := i) x.2.2.2.1
    have m' := Dao.dep (e := j) x.2.2.2.2.1
    have n' := Dao.dep (e := k6) x.2.2.2.2.2
    simp only [PyData.depth, PyData.depthAll]
    omega, fun x y => by
    show (PyData.eqv (Dao.d e x.1) (Dao.d e y.1) && (PyData.eqv (Dao.d f x.2.1) (Dao.d f y.2.1) && (PyData.eqv (Dao.d g x.2.2.1) (Dao.d g y.2.2.1) && (PyData.eqv (Dao.d i x.2.2.2.1) (Dao.d i y.2.2.2.1) && (PyData.eqv (Dao.d j x.2.2.2.2.1) (Dao.d j y.2.2.2.2.1) && (PyData.eqv (Dao.d k6 x.2.2.2.2.2) (Dao.d k6 y.2.2.2.2.2) && PyData.eqvAll [] [])))))) = true ↔ _
    have z : PyData.eqvAll [] [] = true := rfl
    rw [z, Bool.and_true, Bool.and_eq_true, Bool.and_eq_true, Bool.and_eq_true, Bool.and_eq_true, Bool.and_eq_true, Dao.inj, Dao.inj, Dao.inj, Dao.inj, Dao.inj, Dao.inj, Prod.ext_iff, Prod.ext_iff, Prod.ext_iff, Prod.ext_iff, Prod.ext_iff]⟩
structure XA {α : Type} (e : Rep α) (H0 F H : Hp) (p : Addr) (xs : List α) (n : Nat) : Prop where
  x : ∃ vs, Xc H0 F H p (.lst (vs ++ [.int (n : Int)])) ∧ All e F vs xs
section
variable {α : Type} {e : Rep α} {F0 H0 F F' H H' : Hp} {p q : Addr} {xs : List α} {n : Nat} {Q : VK} {K : PySem.W.Frag} {σ : L2.St} {te tp tq : TE}
theorem XA.step (x : XA e H0 F H p xs n) (w : Wf F H F' H') : XA e H0 F' H' p xs n := let ⟨vs, a, b⟩ := x.x; ⟨vs, a.step w, b.mono w.g⟩
theorem XA.ne (x : XA e H0 F H p xs n) (h : H q = none) : p ≠ q := let ⟨_, a, _⟩ := x.x; a.ne h
theorem XA.kept (x : XA e H0 F H q xs n) (h : ∀ q o, H q = some o → q ≠ p → H' q = some o) (hq : q ≠ p) : XA e H0 F H' q xs n := let ⟨vs, a, b⟩ := x.x; ⟨vs, a.kept h hq, b⟩
theorem XA.frzO (x : XA e H0 F H q xs n) (h : Fz F F' p) (hq : q ≠ p) (g : Ex F F') : XA e H0 F' H q xs n := let ⟨vs, a, b⟩ := x.x; ⟨vs, ⟨a.z, h _ hq a.n, a.h⟩, b.mono g⟩
end
end Wk
namespace Wk
instance dec6 {α β γ δ ε ζ : Type} [DecidableEq α] [DecidableEq β] [DecidableEq γ] [DecidableEq δ] [DecidableEq ε] [DecidableEq ζ] : DecidableEq (α × β × γ × δ × ε × ζ) := fun a b => instDecidableEqProd a b
end Wk
namespace Wk
open PySem PySem.Spec PyProof.Rows L2
/-- C(e, ..) as a thing, C's own __init__ keeping sp -/
def tMkV (C : Addr) (sp : Sp) (dvs : List V) (ta : TA) : TE := fun σ H Q => ta σ H fun vs H1 => vs.length ≤ 1000 ∧ ∀ a, H1 a = none → sp (.ref a :: (vs ++ dvs)) (upd H1 a (exo a C none)) (fun v H2 => v = .non ∧ Q (.ref a) H2) (fun _ _ _ => False)
section
variable {X : Cx} {e : Expr} {es : List Expr} {ta : TA} {p pos : Pos}
theorem pe_mkV {CX : CXT} {x : Str} {C fI : Addr} {k : Nat} {fd : FuncData} {ps : List Str} {sp : Sp} {ds : List Value} {dvs : List V} (T : OexC X.K C) (iC : PySem.W.findIn X.K (.ref C) "__init__" = some (some (.ref fI))) (tI : PySem.W.typeIn X.K (.ref fI) = some (.type "function"))
    (F1 : FnOk X.prog X.w X.K X.mg X.base CX k fI fd ps sp) (hr : Room (k + 1) X.A) (hb : Binds X.K fd ps ds) (hd : Vals dvs ds) (hx : Passes CX X (fun _ _ _ => False)) (hg : Gl X x) (hm : X.mg x = some (.ref C)) (ha : PA X (e :: es) ta)
    (hdb : (x == ("__debug__" : Str)) = false := by decide) (he : starEach (e :: es) X.env = (false, eval e X.env) :: starEach es X.env := by rfl) (hpl : (backTo pos (starEach es X.env)).any (·.1) = false := by rfl) :
    PE X (.Call (.Name x p) (e :: es) [] pos) (tMkV C sp dvs ta) := by
  refine ⟨fun pins s σ H Q I h => ?_⟩
  obtain ⟨nm, q, N, bs, bm, sn, sub, ab, col, dd, k0, k1, k2, k3, k5, hC, hbm⟩ := T.cls
  refine wpAny_Call_Name_kw (ld_glob I hg hm ?_ hdb)
  refine PySem.W.callWith_K (h₀ := X.base) I.ok.mod.kin T.kC (thn (ha.run pos pins s σ H _ I h) fun us s1 ⟨vs, H1, I1, r1, hz, q1⟩ => ⟨I1.kIn, ?_⟩) he hpl
  show wpAny _ _ (call (.ref C) us) _ _ _
  obtain ⟨hp, g, dr, tk, os⟩ := s1
  have hsz : hp.objs.size ≤ hp.objs.size + 1 := Nat.le_succ _
  have hn : H1 (hp.objs.size + 1) = none := I1.hok.fresh hsz
  have hq := q1 (hp.objs.size + 1) hn
  have kk : ∀ b o, hp.get? b = some o → ((hp.push (PySem.W.kdv_tup us)).push (PySem.HandSPX.excO C hp.objs.size)).get? b = some o := fun b o e => Heap.get?_push_of_some _ (Heap.get?_push_of_some _ e)
  have hget : ((hp.push (PySem.W.kdv_tup us)).push (PySem.HandSPX.excO C hp.objs.size)).get? (hp.objs.size + 1) = some (PySem.HandSPX.excO C hp.objs.size) := by heap_get
  have I2 : Inv X pins σ (upd H1 (hp.objs.size + 1) (exo (hp.objs.size + 1) C none)) ⟨(hp.push (PySem.W.kdv_tup us)).push (PySem.HandSPX.excO C hp.objs.size), g, dr, tk, os⟩ :=
    I1.laid (t' := tk) (a := hp.objs.size + 1) (o := exo (hp.objs.size + 1) C none) (h' := (hp.push (PySem.W.kdv_tup us)).push (PySem.HandSPX.excO C hp.objs.size)) kk hsz (exo_ok hget)
  have r2 : Vals (V.ref (hp.objs.size + 1) :: (vs ++ dvs)) (Value.ref (hp.objs.size + 1) :: (us ++ ds)) := .cons rfl (r1.append hd)
  have hl : (Value.ref (hp.objs.size + 1) :: us ++ ds).length = ps.length := by
    have e := r2.length
    rw [F1.len _ _ _ _ hq] at e
    exact e.symm
  have hus : us.length ≤ sizeLine := by
    rw [← Paired.length r1, sizeLine_eq]
    omega
  refine wpAny_call (PySem.HandSPX.call_own F.excBase_ValueError (fun Y => PySem.HandSPX.refsVE_contains Y bm hbm) (I1.kIn _ _ hC) (PySem.W.looks_findIn I1.kIn iC) (fun self => PySem.W.bind_fn I1.kIn self tI) hus
    (codeAny_mono (F1.run _ X.stack _ _ ⟨Value.ref (hp.objs.size + 1) :: us, []⟩ (Value.ref (hp.objs.size + 1) :: (us ++ ds)) _ _ (fun _ _ _ => False) (hr.make C us []) (I2.env0.make C us []) (hb _ (Value.ref (hp.objs.size + 1) :: us) I2.kIn hl) r2 hq) fun r s' hq' => ?_))
  cases r with
  | error er => exact hx pins σ _ _ er s' I2 hq'
  | ok fl =>
    cases fl with
    | ret u =>
      obtain ⟨v, H2, os2, bare2, un2, hok2, rv, ev, q2⟩ := hq'
      subst ev
      obtain ⟨h2, g2, d2, t2, os'⟩ := s'
      have J : Inv X pins σ H2 ⟨h2, g2, d2, t2, os'⟩ := I2.call' (ch := []) os2 un2 hok2 bare2 (fun b z => absurd z (by simp))
      exact ⟨rv, .ref (hp.objs.size + 1), H2, J, rfl, q2⟩
    | next => exact False.elim hq'
    | brk => exact False.elim hq'
    | cont => exact False.elim hq'
end
/-- what stands at an exception that is a thing -/
def EvAt (H : Hp) (a D : Addr) : Prop := H a = some (ExO (.ref D) a) ∨ ∃ d fs, H a = some (exo a D (some d)) ∧ H d = some (exd d fs)
def rIsV (K : PySem.W.Frag) : List V → Hp → VK → Prop := fun xs H Q => ∃ (a D : Addr) (c : V) (cv : Value) (b : Bool), xs = [.ref a, c] ∧ EvAt H a D ∧ ExcC K D ∧ (∀ u, RelV c u → u = cv) ∧ PySem.W.kitOne K (.ref D) cv = some b ∧ Q (.bl b) H
theorem call_isV {X : Cx} : CallR X (.builtin "isinstance") (rIsV X.K) := by
  intro pins s σ H xs us Q I r h
  obtain ⟨a, D, c, cv, b, rfl, ea, hC, hcv, e, q⟩ := h
  cases r with | cons rx rr => ?_
  cases rr with | cons rt rr => ?_
  cases rr; cases rx
  obtain rfl := hcv _ rt
  rcases ea with ea | ⟨d, fs, ea, ed⟩
  · have hx : ObjOk X.prog X.w H s.heap a (ExO (.ref D) a) := I.hok a _ ea
    obtain ⟨⟨oe, vs, hget, hz, hv, _⟩, _, _⟩ := hx
    have J : PySem.W.InstAt s.heap a oe D none := by
      obtain ⟨oc, od, oda, osl⟩ := oe
      obtain ⟨h1, h2⟩ := hz
      dsimp only at h1 h2 hv
      subst h1 h2 hv
      exact ⟨hget, rfl, rfl, trivial⟩
    exact PySem.W.kia_one (PySem.W.handS_kitx_exc hC.hg hC.hk hC.hs hC.hd hC.ha hC.hn hC.ht hC.hm) I.kIn J e (fun z => nomatch z) fun tk => ⟨.bl b, H, I.kept (t' := tk) fun _ _ z => z, rfl, q⟩
  · obtain ⟨t0, hget⟩ := exo_at I.hok ea
    obtain ⟨mA, hns, hr⟩ := exd_at I.hok ed
    obtain ⟨oD, ho, _⟩ := lookIn_ns hns
    have J : PySem.W.InstAt s.heap a ({ cls := .ref D, dict := some d, data := .fields #[.ref t0, .none, .none, .none, .bool false, .none] } : Obj) D (some oD) := ⟨hget, rfl, rfl, ho⟩
    exact PySem.W.kia_one (kitx_exd (ox := ({ cls := .ref D, dict := some d, data := .fields #[.ref t0, .none, .none, .none, .bool false, .none] } : Obj)) (od := some oD) hC) I.kIn J e (fun z => nomatch z) fun tk => ⟨.bl b, H, I.kept (t' := tk) fun _ _ z => z, rfl, q⟩
/-- e.f of an exception that is a thing -/
def tXv (K : PySem.W.Frag) (f : Str) (te : TE) : TE := fun σ H Q => te σ H fun x H1 => ∃ (a C dd : Addr) (fs : List (Str × V)) (v : V), x = .ref a ∧ XfC K C ∧ PySem.W.findIn K (.ref C) f = some none ∧ H1 a = some (exo a C (some dd)) ∧ H1 dd = some (exd dd fs) ∧ fs.lookup f = some v ∧ Q v H1
theorem pe_xv {X : Cx} {e : Expr} {te : TE} {pos : Pos} {n : Str} (he : PE X e te) (hb : attributeBase e n X.env (eval e X.env) = eval e X.env := by rfl) : PE X (.Attribute e n pos) (tXv X.K n te) := by
  refine ⟨fun pins s σ H Q I h => ?_⟩
  refine attr_of hb (thn (he.run pins s σ H _ I h) fun u s1 hh => ?_)
  obtain ⟨x, H1, I1, rx, a, C, dd, fs, v, ex, T, hno, ea, ed, l, q⟩ := hh
  subst ex
  obtain rfl : u = Value.ref a := rx
  obtain ⟨t0, hget⟩ := exo_at I1.hok ea
  obtain ⟨mA, hns, hr⟩ := exd_at I1.hok ed
  obtain ⟨od, ho, hl⟩ := lookIn_ns hns
  obtain ⟨u, hu, ru⟩ := RelO.some_of (v := v) (o := mA n) (by rw [← l]; exact hr n)
  have J : PySem.W.InstAt s1.heap a ({ cls := .ref C, dict := some dd, data := .fields #[.ref t0, .none, .none, .none, .bool false, .none] } : Obj) C (some od) := ⟨hget, rfl, rfl, ho⟩
  exact HandSPX.exc_get I1.kIn J T.ga T.gg T.exC (PySem.W.findObj_own T.hdC hno rfl (by rw [hl, hu])) (handed_of ru) ⟨v, H1, I1.tok _, ru, q⟩
end Wk
namespace Wk
open PySem L2 ClX
/-- C(e), C without an own __init__ -/
def tMk0 (C : Addr) (ta : TE) : TE := fun σ H Q => ta σ H fun _ H1 => ∀ a, H1 a = none → Q (.ref a) (upd H1 a (ExO (.ref C) a))
section
variable {X : Cx} {k : Nat} {C : Addr} {x : Str} {ps : List Str} {sp : Sp} {e : Expr} {te : TE} {p pos : Pos}
theorem pe_mk0 (T : XC X.K X.mg x C) (hg : Gl X x) (he : PE X e te) (hs : starEach [e] X.env = (false, eval e X.env) :: starEach [] X.env := by rfl) (hdb : (x == ("__debug__" : Str)) = false := by decide) :
    PE X (.Call (.Name x p) [e] [] pos) (tMk0 C te) := pe_exc1 PySem.F.excBase_ValueError T.x T.g T.k hg he hs hdb
theorem pe_mkX (M : Xi X.prog X.w X.K X.mg X.base CX0 k C ps sp) (T : OexC X.K C) (hr : Room (k + 1) X.A) (hg : Gl X x) (hm : X.mg x = some (.ref C)) (he : PE X e te)
    (hdb : (x == ("__debug__" : Str)) = false := by decide) (hs : starEach [e] X.env = (false, eval e X.env) :: starEach [] X.env := by rfl) (hpl : (backTo pos (starEach [] X.env)).any (·.1) = false := by rfl) :
    PE X (.Call (.Name x p) [e] [] pos) (tMkV C sp [] (tCons te tNil)) := by
  obtain ⟨f1, fd, F, ⟨iC, tI⟩, hb⟩ := M.ex
  exact pe_mkV T iC tI F hr hb .nil pass0 hg hm (pa_cons he pa_nil hs) hdb hs hpl
end
/-- C.__init__(self, n), n a number -/
def okLine (n : Nat) : Prop := n.log2 < 1920 ∧ (Str.ofString "row ").length + (strN n).length < 1000000 ∧ (Str.ofString "row " ++ strN n).length + (Str.ofString " has not its form").length < 1000000 ∧ True
def sp_xiN (f : Str) (C : Addr) : Sp := fun vs H Q _ => ∃ (a : Addr) (n : Nat), vs = [.ref a, .int (n : Int)] ∧ okLine n ∧ H a = some (exo a C none) ∧ ∀ d, H d = none → d ≠ a → Q .non (upd (upd H d (exd d [(f, .int (n : Int))])) a (exo a C (some d)))
/-- C.__init__(self, xs), that keeps list(xs) -/
def sp_xiL (f : Str) (C : Addr) : Sp := fun vs H Q _ => ∃ (a q : Addr) (ws : List V), vs = [.ref a, .ref q] ∧ H a = some (exo a C none) ∧ H q = some (.lst ws) ∧ ∀ l, H l = none → ∀ d, upd H l (.lst ws) d = none → d ≠ a → Q .non (upd (upd (upd H l (.lst ws)) d (exd d [(f, .ref l)])) a (exo a C (some d)))
section
variable {C B : Addr} {f : Str} {D : Ends} {σ : L2.St} {H : Hp} {K : PySem.W.Frag}
theorem x_initL {tm : TE} {m : Str} (T : OexC K C) (no : PySem.W.findIn K (.ref C) f = some none) {a q : Addr} {ws : List V} (h0 : σ[0]? = some (some (.ref a))) (h1 : σ[1]? = some (some (.ref q))) (ho : H a = some (exo a C none)) (hq : H q = some (.lst ws)) (hm : Val tm σ H (.str m))
    (hQ : ∀ l, H l = none → ∀ d, upd H l (.lst ws) d = none → d ≠ a → D.nx σ (upd (upd (upd H l (.lst ws)) d (exd d [(f, .ref l)])) a (exo a C (some d)))) :
    tSeq (tDrop (tWeI K B (tC (.ref B)) (tCons (tVar 0) (tCons tm tNil)))) (tOst K f (tVar 0) (tCB (rListOf K) (tCons (tVar 1) tNil))) D σ H := by
  show tWeI K B (tC (.ref B)) (tCons (tVar 0) (tCons tm tNil)) σ H fun _ H1 => tOst K f (tVar 0) (tCB (rListOf K) (tCons (tVar 1) tNil)) D σ H1
  unfold tWeI
  show (V.ref B = .ref B) ∧ _
  refine ⟨rfl, ?_⟩
  refine a_val (val_var h0) (a_val hm (a_nil ?_))
  refine ⟨a, C, [.str m], rfl, (show (1 : Nat) ≤ 1000 by decide), T, ho, ?_⟩
  show tOst K f (tVar 0) (tCB (rListOf K) (tCons (tVar 1) tNil)) D σ H
  unfold tOst tCB
  refine a_val (val_var h1) (a_nil ⟨q, ws, rfl, .inl (SqL.of hq), fun l hl => ?_⟩)
  have al : a ≠ l := fun z => by rw [← z, ho] at hl; cases hl
  have ho' : upd H l (.lst ws) a = some (exo a C none) := by rw [upd_ne al]; exact ho
  exact val_var h0 _ ⟨a, C, rfl, T, no, .inl ⟨ho', hQ l hl⟩⟩
end
structure EV where
  k : Nat
  s : Str
  n : Nat
  l : List Str
def pEV (C : Nat → Addr) : Rep EV := ⟨fun F v x => ∃ a, v = .ref a ∧ ((x.k < 5 ∧ F a = some (ExO (.ref (C x.k)) a)) ∨ (5 ≤ x.k ∧ x.k < 8 ∧ ∃ d, F a = some (exo a (C x.k) (some d)) ∧ F d = some (exd d [("name", .str x.s)])) ∨
    (x.k = 8 ∧ ∃ d, F a = some (exo a (C x.k) (some d)) ∧ F d = some (exd d [("line", .int (x.n : Int))])) ∨ (x.k = 9 ∧ ∃ d w, F a = some (exo a (C x.k) (some d)) ∧ F d = some (exd d [("ring", w)]) ∧ (pL pS).r F w x.l)), fun h q => by
  obtain ⟨a, e, q⟩ := q
  rcases q with ⟨h1, h2⟩ | ⟨h1, h2, d, h3, h4⟩ | ⟨h1, d, h3, h4⟩ | ⟨h1, d, w, h3, h4, h5⟩
  · exact ⟨a, e, .inl ⟨h1, h _ _ h2⟩⟩
  · exact ⟨a, e, .inr (.inl ⟨h1, h2, d, h _ _ h3, h _ _ h4⟩)⟩
  · exact ⟨a, e, .inr (.inr (.inl ⟨h1, d, h _ _ h3, h _ _ h4⟩))⟩
  · exact ⟨a, e, .inr (.inr (.inr ⟨h1, d, w, h _ _ h3, h _ _ h4, (pL pS).mono h h5⟩))⟩⟩
section
variable {C : Nat → Addr} {F0 H0 F H : Hp} {Q : VK} {v : V} {x : EV} {σ : L2.St} {te : TE} {K : PySem.W.Frag} {k : Nat} {s : Str} {n : Nat} {l : List Str}
theorem wf_two {a d : Addr} {o1 o2 o3 : HO} (f : Ex F H) (ha : H a = none) (hd : H d = none) (hda : d ≠ a) : Wf F H (upd (upd F d o2) a o3) (upd (upd (upd H a o1) d o2) a o3) := by
  have e : upd (upd (upd H a o1) d o2) a o3 = upd (upd H d o2) a o3 := by
    funext b
    by_cases h1 : b = a
    · rw [h1, upd_same, upd_same]
    · rw [upd_ne h1, upd_ne h1]
      by_cases h2 : b = d
      · rw [h2, upd_same, upd_same]
      · rw [upd_ne h2, upd_ne h2, upd_ne h1]
  rw [e]
  have w1 := Wf.new (o := o2) f hd
  exact w1.tr (Wf.new (o := o3) w1.f (by rw [upd_ne (Ne.symm hda)]; exact ha))
theorem n_ev0 (hk : k < 5) (hv : Val te σ H v) (w : Wf F0 H0 F H) (kk : ∀ p F' H', Wf F H F' H' → (pEV C).r F' (.ref p) ⟨k, s, n, l⟩ → Q (.ref p) H') : tMk0 (C k) te σ H Q :=
  hv _ fun a ha => kk a _ _ (Wf.new w.f ha) ⟨a, rfl, .inl ⟨hk, upd_same⟩⟩
theorem n_ev5 (hk : 5 ≤ k ∧ k < 8) (hv : Val te σ H (.str s)) (w : Wf F0 H0 F H) (kk : ∀ p F' H', Wf F H F' H' → (pEV C).r F' (.ref p) ⟨k, s, n, l⟩ → Q (.ref p) H') : tMkV (C k) (sp_xi "name" (C k)) [] (tCons te tNil) σ H Q := by
  unfold tMkV
  refine a_val hv (a_nil ⟨(show (1 : Nat) ≤ 1000 by decide), fun a ha => ⟨a, .str s, rfl, upd_same, fun d hd hda => ⟨rfl, ?_⟩⟩⟩)
  rw [upd_ne hda] at hd
  exact kk a _ _ (wf_two w.f ha hd hda) ⟨a, rfl, .inr (.inl ⟨hk.1, hk.2, d, upd_same, by rw [upd_ne hda, upd_same]⟩)⟩
theorem n_ev8 (hok : okLine n) (hv : Val te σ H (.int (n : Int))) (w : Wf F0 H0 F H) (kk : ∀ p F' H', Wf F H F' H' → (pEV C).r F' (.ref p) ⟨8, s, n, l⟩ → Q (.ref p) H') : tMkV (C 8) (sp_xiN "line" (C 8)) [] (tCons te tNil) σ H Q := by
  unfold tMkV
  refine a_val hv (a_nil ⟨(show (1 : Nat) ≤ 1000 by decide), fun a ha => ⟨a, n, rfl, hok, upd_same, fun d hd hda => ⟨rfl, ?_⟩⟩⟩)
  rw [upd_ne hda] at hd
  exact kk a _ _ (wf_two w.f ha hd hda) ⟨a, rfl, .inr (.inr (.inl ⟨rfl, d, upd_same, by rw [upd_ne hda, upd_same]⟩))⟩
theorem n_ev9 {q : Addr} (x : XL pS H0 F H q l) (hv : Val te σ H (.ref q)) (w : Wf F0 H0 F H) (kk : ∀ p F' H', Wf F H F' H' → (pEV C).r F' (.ref p) ⟨9, s, n, l⟩ → Q (.ref p) H') : tMkV (C 9) (sp_xiL "ring" (C 9)) [] (tCons te tNil) σ H Q := by
  obtain ⟨ws, xc, al⟩ := x.x
  unfold tMkV
  refine a_val hv (a_nil ⟨(show (1 : Nat) ≤ 1000 by decide), fun a ha => ⟨a, q, ws, rfl, upd_same, ?_, fun l' hl d hd hda => ⟨rfl, ?_⟩⟩⟩)
  · have : q ≠ a := fun z => by rw [← z, xc.h] at ha; cases ha
    rw [upd_ne this]; exact xc.h
  have la : l' ≠ a := fun z => by rw [z, upd_same] at hl; cases hl
  rw [upd_ne la] at hl
  have dl : d ≠ l' := fun z => by rw [z, upd_same] at hd; cases hd
  rw [upd_ne dl, upd_ne hda] at hd
  have w1 := Wf.new (o := .lst ws) w.f hl
  have ha1 : upd H l' (.lst ws) a = none := by rw [upd_ne (Ne.symm la)]; exact ha
  have hd1 : upd H l' (.lst ws) d = none := by rw [upd_ne dl]; exact hd
  have w2 := wf_two (o1 := exo a (C 9) none) (o2 := exd d [("ring", .ref l')]) (o3 := exo a (C 9) (some d)) w1.f ha1 hd1 hda
  have e : upd (upd (upd (upd H a (exo a (C 9) none)) l' (.lst ws)) d (exd d [("ring", .ref l')])) a (exo a (C 9) (some d)) = upd (upd (upd (upd H l' (.lst ws)) a (exo a (C 9) none)) d (exd d [("ring", .ref l')])) a (exo a (C 9) (some d)) := by
    have c : upd (upd H a (exo a (C 9) none)) l' (.lst ws) = upd (upd H l' (.lst ws)) a (exo a (C 9) none) := by
      funext b
      by_cases h1 : b = a
      · rw [h1, upd_ne (Ne.symm la), upd_same, upd_same]
      · rw [upd_ne h1]
        by_cases h2 : b = l'
        · rw [h2, upd_same, upd_same]
        · rw [upd_ne h2, upd_ne h2, upd_ne h1]
    rw [c]
  rw [e]
  refine kk a _ _ (w1.tr w2) ⟨a, rfl, .inr (.inr (.inr ⟨rfl, d, .ref l', upd_same, by rw [upd_ne hda, upd_same], l', ws, rfl, ?_, ?_⟩))⟩
  · rw [upd_ne la, upd_ne (Ne.symm dl), upd_same]
  · exact al.mono (w1.tr w2).g
theorem evAt (r : (pEV C).r F v x) (f : Ex F H) : ∃ a, v = .ref a ∧ EvAt H a (C x.k) ∧ x.k < 10 := by
  obtain ⟨a, e, q⟩ := r
  rcases q with ⟨h1, h2⟩ | ⟨h1, h2, d, h3, h4⟩ | ⟨h1, d, h3, h4⟩ | ⟨h1, d, w, h3, h4, h5⟩
  · exact ⟨a, e, .inl (f _ _ h2), by omega⟩
  · exact ⟨a, e, .inr ⟨d, _, f _ _ h3, f _ _ h4⟩, by omega⟩
  · exact ⟨a, e, .inr ⟨d, _, f _ _ h3, f _ _ h4⟩, by omega⟩
  · exact ⟨a, e, .inr ⟨d, _, f _ _ h3, f _ _ h4⟩, by omega⟩
theorem v_isEv {c : V} {cv : Value} {b : Nat → Bool} (r : (pEV C).r F v x) (f : Ex F H) (hv : Val te σ H v) (hC : ∀ k, k < 10 → ExcC K (C k)) (hc : ∀ u, RelV c u → u = cv) (hk : ∀ k, k < 10 → PySem.W.kitOne K (.ref (C k)) cv = some (b k)) :
    Val (tCB (rIsV K) (tCons te (tCons (tC c) tNil))) σ H (.bl (b x.k)) := fun Q q => by
  obtain ⟨a, e, ea, hx⟩ := evAt r f
  subst e
  show tCons te (tCons (tC c) tNil) σ H _
  exact a_val hv (a_val val_c (a_nil ⟨a, _, c, cv, _, rfl, ea, hC _ hx, hc, hk _ hx, q⟩))
theorem v_evName (r : (pEV C).r F v x) (f : Ex F H) (hv : Val te σ H v) (hx : 5 ≤ x.k ∧ x.k < 8) (hT : ∀ k, 5 ≤ k → k < 8 → XfC K (C k) ∧ PySem.W.findIn K (.ref (C k)) "name" = some none) : Val (tXv K "name" te) σ H (.str x.s) := fun Q q => by
  obtain ⟨a, e, z⟩ := r
  subst e
  rcases z with ⟨h1, h2⟩ | ⟨h1, h2, d, h3, h4⟩ | ⟨h1, d, h3, h4⟩ | ⟨h1, d, w, h3, h4, h5⟩
  · exact absurd h1 (by omega)
  · exact hv _ ⟨a, _, d, _, _, rfl, (hT _ h1 h2).1, (hT _ h1 h2).2, f _ _ h3, f _ _ h4, by simp [List.lookup], q⟩
  · exact absurd h1 (by omega)
  · exact absurd h1 (by omega)
theorem v_evLine (r : (pEV C).r F v x) (f : Ex F H) (hv : Val te σ H v) (hx : x.k = 8) (hT : XfC K (C 8) ∧ PySem.W.findIn K (.ref (C 8)) "line" = some none) : Val (tXv K "line" te) σ H (.int ((x.n : Nat) : Int)) := fun Q q => by
  obtain ⟨a, e, z⟩ := r
  subst e
  rcases z with ⟨h1, h2⟩ | ⟨h1, h2, d, h3, h4⟩ | ⟨h1, d, h3, h4⟩ | ⟨h1, d, w, h3, h4, h5⟩
  · exact absurd h1 (by omega)
  · exact absurd h2 (by omega)
  · rw [hx] at h3
    exact hv _ ⟨a, _, d, _, _, rfl, hT.1, hT.2, f _ _ h3, f _ _ h4, by simp [List.lookup], q⟩
  · exact absurd h1 (by omega)
theorem v_evRing (r : (pEV C).r F v x) (f : Ex F H) (hx : x.k = 9) (hT : XfC K (C 9) ∧ PySem.W.findIn K (.ref (C 9)) "ring" = some none) : ∃ w, (pL pS).r F w x.l ∧ ∀ ⦃σ te⦄, Val te σ H v → Val (tXv K "ring" te) σ H w := by
  obtain ⟨a, e, z⟩ := r
  subst e
  rcases z with ⟨h1, h2⟩ | ⟨h1, h2, d, h3, h4⟩ | ⟨h1, d, h3, h4⟩ | ⟨h1, d, w, h3, h4, h5⟩
  · exact absurd h1 (by omega)
  · exact absurd h2 (by omega)
  · exact absurd h1 (by omega)
  · rw [hx] at h3
    exact ⟨w, h5, fun σ te hv Q q => hv _ ⟨a, _, d, _, _, rfl, hT.1, hT.2, f _ _ h3, f _ _ h4, by simp [List.lookup], q⟩⟩
end
end Wk
namespace My
open PySem L2 Wk
def topS (i : Nat) : Stmt := PySem.Challenge.pw_sumwires_k04_refusals_apart.main.body.getD i (.Pass ⟨0, 0, 0, 0⟩)
structure Cz where
  BadSizes : Addr
  TooMany : Addr
  BadMask : Addr
  BadTable : Addr
  BadRow : Addr
  WireError : Addr
  BadName : Addr
  Doubled : Addr
  NoWire : Addr
  BadLine : Addr
  Ring : Addr
structure Tz (K : PySem.W.Frag) (mg : Str → Option Value) (cc : Cz) : Prop where
  xc_BadSizes : XC K mg "BadSizes" cc.BadSizes
  xc_TooMany : XC K mg "TooMany" cc.TooMany
  xc_BadMask : XC K mg "BadMask" cc.BadMask
  xc_BadTable : XC K mg "BadTable" cc.BadTable
  xc_BadRow : XC K mg "BadRow" cc.BadRow
  xc_WireError : XC K mg "WireError" cc.WireError
  xc_BadName : XF K mg "BadName" cc.BadName "name"
  xc_Doubled : XF K mg "Doubled" cc.Doubled "name"
  xc_NoWire : XF K mg "NoWire" cc.NoWire "name"
  xc_BadLine : XF K mg "BadLine" cc.BadLine "line"
  xc_Ring : XF K mg "Ring" cc.Ring "ring"
  xw : ClX.CRead K cc.WireError (.type "type")
  xwv : PySem.W.findCls K (.ref cc.WireError) (.type "type") "__init__" = some (.val (.builtin "ValueError.__init__"))
  xe_BadLine : ExcC K cc.BadLine
  xe_BadMask : ExcC K cc.BadMask
  xe_BadName : ExcC K cc.BadName
  xe_BadRow : ExcC K cc.BadRow
  xe_BadSizes : ExcC K cc.BadSizes
  xe_BadTable : ExcC K cc.BadTable
  xe_Doubled : ExcC K cc.Doubled
  xe_NoWire : ExcC K cc.NoWire
  xe_Ring : ExcC K cc.Ring
  xe_TooMany : ExcC K cc.TooMany
  xt_BadLine_ValueError : PySem.W.kitOne K (.ref cc.BadLine) (.type "ValueError") = some true
  xt_BadMask_ValueError : PySem.W.kitOne K (.ref cc.BadMask) (.type "ValueError") = some true
  xt_BadName_ValueError : PySem.W.kitOne K (.ref cc.BadName) (.type "ValueError") = some true
  xt_BadRow_ValueError : PySem.W.kitOne K (.ref cc.BadRow) (.type "ValueError") = some true
  xt_BadSizes_ValueError : PySem.W.kitOne K (.ref cc.BadSizes) (.type "ValueError") = some true
  xt_BadTable_ValueError : PySem.W.kitOne K (.ref cc.BadTable) (.type "ValueError") = some true
  xt_Doubled_ValueError : PySem.W.kitOne K (.ref cc.Doubled) (.type "ValueError") = some true
  xt_NoWire_ValueError : PySem.W.kitOne K (.ref cc.NoWire) (.type "ValueError") = some true
  xt_Ring_ValueError : PySem.W.kitOne K (.ref cc.Ring) (.type "ValueError") = some true
  xt_TooMany_ValueError : PySem.W.kitOne K (.ref cc.TooMany) (.type "ValueError") = some true
  xi_BadLine_BadLine : PySem.W.kitOne K (.ref cc.BadLine) (.ref cc.BadLine) = some true
  xi_BadLine_BadMask : PySem.W.kitOne K (.ref cc.BadLine) (.ref cc.BadMask) = some false
  xi_BadLine_BadName : PySem.W.kitOne K (.ref cc.BadLine) (.ref cc.BadName) = some false
  xi_BadLine_BadRow : PySem.W.kitOne K (.ref cc.BadLine) (.ref cc.BadRow) = some false
  xi_BadLine_BadSizes : PySem.W.kitOne K (.ref cc.BadLine) (.ref cc.BadSizes) = some false
  xi_BadLine_BadTable : PySem.W.kitOne K (.ref cc.BadLine) (.ref cc.BadTable) = some false
  xi_BadLine_Doubled : PySem.W.kitOne K (.ref cc.BadLine) (.ref cc.Doubled) = some false
  xi_BadLine_NoWire : PySem.W.kitOne K (.ref cc.BadLine) (.ref cc.NoWire) = some false
  xi_BadLine_Ring : PySem.W.kitOne K (.ref cc.BadLine) (.ref cc.Ring) = some false
  xi_BadLine_TooMany : PySem.W.kitOne K (.ref cc.BadLine) (.ref cc.TooMany) = some false
  xi_BadLine_WireError : PySem.W.kitOne K (.ref cc.BadLine) (.ref cc.WireError) = some true
  xi_BadMask_BadLine : PySem.W.kitOne K (.ref cc.BadMask) (.ref cc.BadLine) = some false
  xi_BadMask_BadMask : PySem.W.kitOne K (.ref cc.BadMask) (.ref cc.BadMask) = some true
  xi_BadMask_BadName : PySem.W.kitOne K (.ref cc.BadMask) (.ref cc.BadName) = some false
  xi_BadMask_BadRow : PySem.W.kitOne K (.ref cc.BadMask) (.ref cc.BadRow) = some false
  xi_BadMask_BadSizes : PySem.W.kitOne K (.ref cc.BadMask) (.ref cc.BadSizes) = some false
  xi_BadMask_BadTable : PySem.W.kitOne K (.ref cc.BadMask) (.ref cc.BadTable) = some false
  xi_BadMask_Doubled : PySem.W.kitOne K (.ref cc.BadMask) (.ref cc.Doubled) = some false
  xi_BadMask_NoWire : PySem.W.kitOne K (.ref cc.BadMask) (.ref cc.NoWire) = some false
  xi_BadMask_Ring : PySem.W.kitOne K (.ref cc.BadMask) (.ref cc.Ring) = some false
  xi_BadMask_TooMany : PySem.W.kitOne K (.ref cc.BadMask) (.ref cc.TooMany) = some false
  xi_BadMask_WireError : PySem.W.kitOne K (.ref cc.BadMask) (.ref cc.WireError) = some true
  xi_BadName_BadLine : PySem.W.kitOne K (.ref cc.BadName) (.ref cc.BadLine) = some false
  xi_BadName_BadMask : PySem.W.kitOne K (.ref cc.BadName) (.ref cc.BadMask) = some false
  xi_BadName_BadName : PySem.W.kitOne K (.ref cc.BadName) (.ref cc.BadName) = some true
  xi_BadName_BadRow : PySem.W.kitOne K (.ref cc.BadName) (.ref cc.BadRow) = some false
  xi_BadName_BadSizes : PySem.W.kitOne K (.ref cc.BadName) (.ref cc.BadSizes) = some false
  xi_BadName_BadTable : PySem.W.kitOne K (.ref cc.BadName) (.ref cc.BadTable) = some false
  xi_BadName_Doubled : PySem.W.kitOne K (.ref cc.BadName) (.ref cc.Doubled) = some false
  xi_BadName_NoWire : PySem.W.kitOne K (.ref cc.BadName) (.ref cc.NoWire) = some false
  xi_BadName_Ring : PySem.W.kitOne K (.ref cc.BadName) (.ref cc.Ring) = some false
  xi_BadName_TooMany : PySem.W.kitOne K (.ref cc.BadName) (.ref cc.TooMany) = some false
  xi_BadName_WireError : PySem.W.kitOne K (.ref cc.BadName) (.ref cc.WireError) = some true
  xi_BadRow_BadLine : PySem.W.kitOne K (.ref cc.BadRow) (.ref cc.BadLine) = some false
  xi_BadRow_BadMask : PySem.W.kitOne K (.ref cc.BadRow) (.ref cc.BadMask) = some false
  xi_BadRow_BadName : PySem.W.kitOne K (.ref cc.BadRow) (.ref cc.BadName) = some false
  xi_BadRow_BadRow : PySem.W.kitOne K (.ref cc.BadRow) (.ref cc.BadRow) = some true
  xi_BadRow_BadSizes : PySem.W.kitOne K (.ref cc.BadRow) (.ref cc.BadSizes) = some false
  xi_BadRow_BadTable : PySem.W.kitOne K (.ref cc.BadRow) (.ref cc.BadTable) = some false
  xi_BadRow_Doubled : PySem.W.kitOne K (.ref cc.BadRow) (.ref cc.Doubled) = some false
  xi_BadRow_NoWire : PySem.W.kitOne K (.ref cc.BadRow) (.ref cc.NoWire) = some false
  xi_BadRow_Ring : PySem.W.kitOne K (.ref cc.BadRow) (.ref cc.Ring) = some false
  xi_BadRow_TooMany : PySem.W.kitOne K (.ref cc.BadRow) (.ref cc.TooMany) = some false
  xi_BadRow_WireError : PySem.W.kitOne K (.ref cc.BadRow) (.ref cc.WireError) = some true
  xi_BadSizes_BadLine : PySem.W.kitOne K (.ref cc.BadSizes) (.ref cc.BadLine) = some false
  xi_BadSizes_BadMask : PySem.W.kitOne K (.ref cc.BadSizes) (.ref cc.BadMask) = some false
  xi_BadSizes_BadName : PySem.W.kitOne K (.ref cc.BadSizes) (.ref cc.BadName) = some false
  xi_BadSizes_BadRow : PySem.W.kitOne K (.ref cc.BadSizes) (.ref cc.BadRow) = some false
  xi_BadSizes_BadSizes : PySem.W.kitOne K (.ref cc.BadSizes) (.ref cc.BadSizes) = some true
  xi_BadSizes_BadTable : PySem.W.kitOne K (.ref cc.BadSizes) (.ref cc.BadTable) = some false
  xi_BadSizes_Doubled : PySem.W.kitOne K (.ref cc.BadSizes) (.ref cc.Doubled) = some false
  xi_BadSizes_NoWire : PySem.W.kitOne K (.ref cc.BadSizes) (.ref cc.NoWire) = some false
  xi_BadSizes_Ring : PySem.W.kitOne K (.ref cc.BadSizes) (.ref cc.Ring) = some false
  xi_BadSizes_TooMany : PySem.W.kitOne K (.ref cc.BadSizes) (.ref cc.TooMany) = some false
  xi_BadSizes_WireError : PySem.W.kitOne K (.ref cc.BadSizes) (.ref cc.WireError) = some true
  xi_BadTable_BadLine : PySem.W.kitOne K (.ref cc.BadTable) (.ref cc.BadLine) = some false
  xi_BadTable_BadMask : PySem.W.kitOne K (.ref cc.BadTable) (.ref cc.BadMask) = some false
  xi_BadTable_BadName : PySem.W.kitOne K (.ref cc.BadTable) (.ref cc.BadName) = some false
  xi_BadTable_BadRow : PySem.W.kitOne K (.ref cc.BadTable) (.ref cc.BadRow) = some false
  xi_BadTable_BadSizes : PySem.W.kitOne K (.ref cc.BadTable) (.ref cc.BadSizes) = some false
  xi_BadTable_BadTable : PySem.W.kitOne K (.ref cc.BadTable) (.ref cc.BadTable) = some true
  xi_BadTable_Doubled : PySem.W.kitOne K (.ref cc.BadTable) (.ref cc.Doubled) = some false
  xi_BadTable_NoWire : PySem.W.kitOne K (.ref cc.BadTable) (.ref cc.NoWire) = some false
  xi_BadTable_Ring : PySem.W.kitOne K (.ref cc.BadTable) (.ref cc.Ring) = some false
  xi_BadTable_TooMany : PySem.W.kitOne K (.ref cc.BadTable) (.ref cc.TooMany) = some false
  xi_BadTable_WireError : PySem.W.kitOne K (.ref cc.BadTable) (.ref cc.WireError) = some true
  xi_Doubled_BadLine : PySem.W.kitOne K (.ref cc.Doubled) (.ref cc.BadLine) = some false
  xi_Doubled_BadMask : PySem.W.kitOne K (.ref cc.Doubled) (.ref cc.BadMask) = some false
  xi_Doubled_BadName : PySem.W.kitOne K (.ref cc.Doubled) (.ref cc.BadName) = some false
  xi_Doubled_BadRow : PySem.W.kitOne K (.ref cc.Doubled) (.ref cc.BadRow) = some false
  xi_Doubled_BadSizes : PySem.W.kitOne K (.ref cc.Doubled) (.ref cc.BadSizes) = some false
  xi_Doubled_BadTable : PySem.W.kitOne K (.ref cc.Doubled) (.ref cc.BadTable) = some false
  xi_Doubled_Doubled : PySem.W.kitOne K (.ref cc.Doubled) (.ref cc.Doubled) = some true
  xi_Doubled_NoWire : PySem.W.kitOne K (.ref cc.Doubled) (.ref cc.NoWire) = some false
  xi_Doubled_Ring : PySem.W.kitOne K (.ref cc.Doubled) (.ref cc.Ring) = some false
  xi_Doubled_TooMany : PySem.W.kitOne K (.ref cc.Doubled) (.ref cc.TooMany) = some false
  xi_Doubled_WireError : PySem.W.kitOne K (.ref cc.Doubled) (.ref cc.WireError) = some true
  xi_NoWire_BadLine : PySem.W.kitOne K (.ref cc.NoWire) (.ref cc.BadLine) = some false
  xi_NoWire_BadMask : PySem.W.kitOne K (.ref cc.NoWire) (.ref cc.BadMask) = some false
  xi_NoWire_BadName : PySem.W.kitOne K (.ref cc.NoWire) (.ref cc.BadName) = some false
  xi_NoWire_BadRow : PySem.W.kitOne K (.ref cc.NoWire) (.ref cc.BadRow) = some false
  xi_NoWire_BadSizes : PySem.W.kitOne K (.ref cc.NoWire) (.ref cc.BadSizes) = some false
  xi_NoWire_BadTable : PySem.W.kitOne K (.ref cc.NoWire) (.ref cc.BadTable) = some false
  xi_NoWire_Doubled : PySem.W.kitOne K (.ref cc.NoWire) (.ref cc.Doubled) = some false
  xi_NoWire_NoWire : PySem.W.kitOne K (.ref cc.NoWire) (.ref cc.NoWire) = some true
  xi_NoWire_Ring : PySem.W.kitOne K (.ref cc.NoWire) (.ref cc.Ring) = some false
  xi_NoWire_TooMany : PySem.W.kitOne K (.ref cc.NoWire) (.ref cc.TooMany) = some false
  xi_NoWire_WireError : PySem.W.kitOne K (.ref cc.NoWire) (.ref cc.WireError) = some true
  xi_Ring_BadLine : PySem.W.kitOne K (.ref cc.Ring) (.ref cc.BadLine) = some false
  xi_Ring_BadMask : PySem.W.kitOne K (.ref cc.Ring) (.ref cc.BadMask) = some false
  xi_Ring_BadName : PySem.W.kitOne K (.ref cc.Ring) (.ref cc.BadName) = some false
  xi_Ring_BadRow : PySem.W.kitOne K (.ref cc.Ring) (.ref cc.BadRow) = some false
  xi_Ring_BadSizes : PySem.W.kitOne K (.ref cc.Ring) (.ref cc.BadSizes) = some false
  xi_Ring_BadTable : PySem.W.kitOne K (.ref cc.Ring) (.ref cc.BadTable) = some false
  xi_Ring_Doubled : PySem.W.kitOne K (.ref cc.Ring) (.ref cc.Doubled) = some false
  xi_Ring_NoWire : PySem.W.kitOne K (.ref cc.Ring) (.ref cc.NoWire) = some false
  xi_Ring_Ring : PySem.W.kitOne K (.ref cc.Ring) (.ref cc.Ring) = some true
  xi_Ring_TooMany : PySem.W.kitOne K (.ref cc.Ring) (.ref cc.TooMany) = some false
  xi_Ring_WireError : PySem.W.kitOne K (.ref cc.Ring) (.ref cc.WireError) = some true
  xi_TooMany_BadLine : PySem.W.kitOne K (.ref cc.TooMany) (.ref cc.BadLine) = some false
  xi_TooMany_BadMask : PySem.W.kitOne K (.ref cc.TooMany) (.ref cc.BadMask) = some false
  xi_TooMany_BadName : PySem.W.kitOne K (.ref cc.TooMany) (.ref cc.BadName) = some false
  xi_TooMany_BadRow : PySem.W.kitOne K (.ref cc.TooMany) (.ref cc.BadRow) = some false
  xi_TooMany_BadSizes : PySem.W.kitOne K (.ref cc.TooMany) (.ref cc.BadSizes) = some false
  xi_TooMany_BadTable : PySem.W.kitOne K (.ref cc.TooMany) (.ref cc.BadTable) = some false
  xi_TooMany_Doubled : PySem.W.kitOne K (.ref cc.TooMany) (.ref cc.Doubled) = some false
  xi_TooMany_NoWire : PySem.W.kitOne K (.ref cc.TooMany) (.ref cc.NoWire) = some false
  xi_TooMany_Ring : PySem.W.kitOne K (.ref cc.TooMany) (.ref cc.Ring) = some false
  xi_TooMany_TooMany : PySem.W.kitOne K (.ref cc.TooMany) (.ref cc.TooMany) = some true
  xi_TooMany_WireError : PySem.W.kitOne K (.ref cc.TooMany) (.ref cc.WireError) = some true
def evC (cc : Cz) : Nat → Addr
  | 0 => cc.BadSizes
  | 1 => cc.TooMany
  | 2 => cc.BadMask
  | 3 => cc.BadTable
  | 4 => cc.BadRow
  | 5 => cc.BadName
  | 6 => cc.Doubled
  | 7 => cc.NoWire
  | 8 => cc.BadLine
  | _ => cc.Ring
theorem ev_e {K : PySem.W.Frag} {mg : Str → Option Value} {cc : Cz} (T : Tz K mg cc) : ∀ k, k < 10 → ExcC K (evC cc k)
  | 0, _ => T.xe_BadSizes
  | 1, _ => T.xe_TooMany
  | 2, _ => T.xe_BadMask
  | 3, _ => T.xe_BadTable
  | 4, _ => T.xe_BadRow
  | 5, _ => T.xe_BadName
  | 6, _ => T.xe_Doubled
  | 7, _ => T.xe_NoWire
  | 8, _ => T.xe_BadLine
  | 9, _ => T.xe_Ring
  | _ + 10, h => absurd h (by omega)
theorem ev_v {K : PySem.W.Frag} {mg : Str → Option Value} {cc : Cz} (T : Tz K mg cc) : ∀ k, k < 10 → PySem.W.kitOne K (.ref (evC cc k)) (.type "ValueError") = some true
  | 0, _ => T.xt_BadSizes_ValueError
  | 1, _ => T.xt_TooMany_ValueError
  | 2, _ => T.xt_BadMask_ValueError
  | 3, _ => T.xt_BadTable_ValueError
  | 4, _ => T.xt_BadRow_ValueError
  | 5, _ => T.xt_BadName_ValueError
  | 6, _ => T.xt_Doubled_ValueError
  | 7, _ => T.xt_NoWire_ValueError
  | 8, _ => T.xt_BadLine_ValueError
  | 9, _ => T.xt_Ring_ValueError
  | _ + 10, h => absurd h (by omega)
theorem ev_w {K : PySem.W.Frag} {mg : Str → Option Value} {cc : Cz} (T : Tz K mg cc) : ∀ k, k < 10 → PySem.W.kitOne K (.ref (evC cc k)) (.ref cc.WireError) = some true
  | 0, _ => T.xi_BadSizes_WireError
  | 1, _ => T.xi_TooMany_WireError
  | 2, _ => T.xi_BadMask_WireError
  | 3, _ => T.xi_BadTable_WireError
  | 4, _ => T.xi_BadRow_WireError
  | 5, _ => T.xi_BadName_WireError
  | 6, _ => T.xi_Doubled_WireError
  | 7, _ => T.xi_NoWire_WireError
  | 8, _ => T.xi_BadLine_WireError
  | 9, _ => T.xi_Ring_WireError
  | _ + 10, h => absurd h (by omega)
theorem ev_i_BadSizes {K : PySem.W.Frag} {mg : Str → Option Value} {cc : Cz} (T : Tz K mg cc) : ∀ k, k < 10 → PySem.W.kitOne K (.ref (evC cc k)) (.ref cc.BadSizes) = some (decide (k = 0))
  | 0, _ => T.xi_BadSizes_BadSizes
  | 1, _ => T.xi_TooMany_BadSizes
  | 2, _ => T.xi_BadMask_BadSizes
  | 3, _ => T.xi_BadTable_BadSizes
  | 4, _ => T.xi_BadRow_BadSizes
  | 5, _ => T.xi_BadName_BadSizes
  | 6, _ => T.xi_Doubled_BadSizes
  | 7, _ => T.xi_NoWire_BadSizes
  | 8, _ => T.xi_BadLine_BadSizes
  | 9, _ => T.xi_Ring_BadSizes
  | _ + 10, h => absurd h (by omega)
theorem ev_i_TooMany {K : PySem.W.Frag} {mg : Str → Option Value} {cc : Cz} (T : Tz K mg cc) : ∀ k, k < 10 → PySem.W.kitOne K (.ref (evC cc k)) (.ref cc.TooMany) = some (decide (k = 1))
  | 0, _ => T.xi_BadSizes_TooMany
  | 1, _ => T.xi_TooMany_TooMany
  | 2, _ => T.xi_BadMask_TooMany
  | 3, _ => T.xi_BadTable_TooMany
  | 4, _ => T.xi_BadRow_TooMany
  | 5, _ => T.xi_BadName_TooMany
  | 6, _ => T.xi_Doubled_TooMany
  | 7, _ => T.xi_NoWire_TooMany
  | 8, _ => T.xi_BadLine_TooMany
  | 9, _ => T.xi_Ring_TooMany
  | _ + 10, h => absurd h (by omega)
theorem ev_i_BadMask {K : PySem.W.Frag} {mg : Str → Option Value} {cc : Cz} (T : Tz K mg cc) : ∀ k, k < 10 → PySem.W.kitOne K (.ref (evC cc k)) (.ref cc.BadMask) = some (decide (k = 2))
  | 0, _ => T.xi_BadSizes_BadMask
  | 1, _ => T.xi_TooMany_BadMask
  | 2, _ => T.xi_BadMask_BadMask
  | 3, _ => T.xi_BadTable_BadMask
  | 4, _ => T.xi_BadRow_BadMask
  | 5, _ => T.xi_BadName_BadMask
  | 6, _ => T.xi_Doubled_BadMask
  | 7, _ => T.xi_NoWire_BadMask
  | 8, _ => T.xi_BadLine_BadMask
  | 9, _ => T.xi_Ring_BadMask
  | _ + 10, h => absurd h (by omega)
theorem ev_i_BadTable {K : PySem.W.Frag} {mg : Str → Option Value} {cc : Cz} (T : Tz K mg cc) : ∀ k, k < 10 → PySem.W.kitOne K (.ref (evC cc k)) (.ref cc.BadTable) = some (decide (k = 3))
  | 0, _ => T.xi_BadSizes_BadTable
  | 1, _ => T.xi_TooMany_BadTable
  | 2, _ => T.xi_BadMask_BadTable
  | 3, _ => T.xi_BadTable_BadTable
  | 4, _ => T.xi_BadRow_BadTable
  | 5, _ => T.xi_BadName_BadTable
  | 6, _ => T.xi_Doubled_BadTable
  | 7, _ => T.xi_NoWire_BadTable
  | 8, _ => T.xi_BadLine_BadTable
  | 9, _ => T.xi_Ring_BadTable
  | _ + 10, h => absurd h (by omega)
theorem ev_i_BadRow {K : PySem.W.Frag} {mg : Str → Option Value} {cc : Cz} (T : Tz K mg cc) : ∀ k, k < 10 → PySem.W.kitOne K (.ref (evC cc k)) (.ref cc.BadRow) = some (decide (k = 4))
  | 0, _ => T.xi_BadSizes_BadRow
  | 1, _ => T.xi_TooMany_BadRow
  | 2, _ => T.xi_BadMask_BadRow
  | 3, _ => T.xi_BadTable_BadRow
  | 4, _ => T.xi_BadRow_BadRow
  | 5, _ => T.xi_BadName_BadRow
  | 6, _ => T.xi_Doubled_BadRow
  | 7, _ => T.xi_NoWire_BadRow
  | 8, _ => T.xi_BadLine_BadRow
  | 9, _ => T.xi_Ring_BadRow
  | _ + 10, h => absurd h (by omega)
theorem ev_i_BadName {K : PySem.W.Frag} {mg : Str → Option Value} {cc : Cz} (T : Tz K mg cc) : ∀ k, k < 10 → PySem.W.kitOne K (.ref (evC cc k)) (.ref cc.BadName) = some (decide (k = 5))
  | 0, _ => T.xi_BadSizes_BadName
  | 1, _ => T.xi_TooMany_BadName
  | 2, _ => T.xi_BadMask_BadName
  | 3, _ => T.xi_BadTable_BadName
  | 4, _ => T.xi_BadRow_BadName
  | 5, _ => T.xi_BadName_BadName
  | 6, _ => T.xi_Doubled_BadName
  | 7, _ => T.xi_NoWire_BadName
  | 8, _ => T.xi_BadLine_BadName
  | 9, _ => T.xi_Ring_BadName
  | _ + 10, h => absurd h (by omega)
theorem ev_i_Doubled {K : PySem.W.Frag} {mg : Str → Option Value} {cc : Cz} (T : Tz K mg cc) : ∀ k, k < 10 → PySem.W.kitOne K (.ref (evC cc k)) (.ref cc.Doubled) = some (decide (k = 6))
  | 0, _ => T.xi_BadSizes_Doubled
  | 1, _ => T.xi_TooMany_Doubled
  | 2, _ => T.xi_BadMask_Doubled
  | 3, _ => T.xi_BadTable_Doubled
  | 4, _ => T.xi_BadRow_Doubled
  | 5, _ => T.xi_BadName_Doubled
  | 6, _ => T.xi_Doubled_Doubled
  | 7, _ => T.xi_NoWire_Doubled
  | 8, _ => T.xi_BadLine_Doubled
  | 9, _ => T.xi_Ring_Doubled
  | _ + 10, h => absurd h (by omega)
theorem ev_i_NoWire {K : PySem.W.Frag} {mg : Str → Option Value} {cc : Cz} (T : Tz K mg cc) : ∀ k, k < 10 → PySem.W.kitOne K (.ref (evC cc k)) (.ref cc.NoWire) = some (decide (k = 7))
  | 0, _ => T.xi_BadSizes_NoWire
  | 1, _ => T.xi_TooMany_NoWire
  | 2, _ => T.xi_BadMask_NoWire
  | 3, _ => T.xi_BadTable_NoWire
  | 4, _ => T.xi_BadRow_NoWire
  | 5, _ => T.xi_BadName_NoWire
  | 6, _ => T.xi_Doubled_NoWire
  | 7, _ => T.xi_NoWire_NoWire
  | 8, _ => T.xi_BadLine_NoWire
  | 9, _ => T.xi_Ring_NoWire
  | _ + 10, h => absurd h (by omega)
theorem ev_i_BadLine {K : PySem.W.Frag} {mg : Str → Option Value} {cc : Cz} (T : Tz K mg cc) : ∀ k, k < 10 → PySem.W.kitOne K (.ref (evC cc k)) (.ref cc.BadLine) = some (decide (k = 8))
  | 0, _ => T.xi_BadSizes_BadLine
  | 1, _ => T.xi_TooMany_BadLine
  | 2, _ => T.xi_BadMask_BadLine
  | 3, _ => T.xi_BadTable_BadLine
  | 4, _ => T.xi_BadRow_BadLine
  | 5, _ => T.xi_BadName_BadLine
  | 6, _ => T.xi_Doubled_BadLine
  | 7, _ => T.xi_NoWire_BadLine
  | 8, _ => T.xi_BadLine_BadLine
  | 9, _ => T.xi_Ring_BadLine
  | _ + 10, h => absurd h (by omega)
theorem ev_i_Ring {K : PySem.W.Frag} {mg : Str → Option Value} {cc : Cz} (T : Tz K mg cc) : ∀ k, k < 10 → PySem.W.kitOne K (.ref (evC cc k)) (.ref cc.Ring) = some (decide (k = 9))
  | 0, _ => T.xi_BadSizes_Ring
  | 1, _ => T.xi_TooMany_Ring
  | 2, _ => T.xi_BadMask_Ring
  | 3, _ => T.xi_BadTable_Ring
  | 4, _ => T.xi_BadRow_Ring
  | 5, _ => T.xi_BadName_Ring
  | 6, _ => T.xi_Doubled_Ring
  | 7, _ => T.xi_NoWire_Ring
  | 8, _ => T.xi_BadLine_Ring
  | 9, _ => T.xi_Ring_Ring
  | _ + 10, h => absurd h (by omega)
theorem ev_n {K : PySem.W.Frag} {mg : Str → Option Value} {cc : Cz} (T : Tz K mg cc) : ∀ k, 5 ≤ k → k < 8 → XfC K (evC cc k) ∧ PySem.W.findIn K (.ref (evC cc k)) "name" = some none
  | 5, _, _ => ⟨T.xc_BadName.xf, T.xc_BadName.no⟩
  | 6, _, _ => ⟨T.xc_Doubled.xf, T.xc_Doubled.no⟩
  | 7, _, _ => ⟨T.xc_NoWire.xf, T.xc_NoWire.no⟩
  | 0, h, _ | 1, h, _ | 2, h, _ | 3, h, _ | 4, h, _ => absurd h (by omega)
  | _ + 8, _, h => absurd h (by omega)
abbrev s_BadName___init__ : Stmt := inClass (topS 7) 0
abbrev N_BadName___init__ : List Str := ["self", "name"]
theorem sc_BadName___init__ : FnScope N_BadName___init__ ["self", "name"] (defScope s_BadName___init__) := ⟨rfl, rfl, rfl, by decide +kernel, rfl, by decide +kernel, by decide +kernel⟩
theorem ok_BadName___init__ {P : Program} {w0 : World} {K : PySem.W.Frag} {mg : Str → Option Value} {base : Heap} {f : Addr} {fd : FuncData} {cc : Cz} (T : Tz K mg cc) (FU : Fun K "__init__" "BadName.__init__" s_BadName___init__ f fd) (hm : PySem.W.findIn K (.ref cc.BadName) "__init__" = some (some (.ref f)) ∧ PySem.W.typeIn K (.ref f) = some (.type "function")) (hb : Binds K fd ["self", "name"] []) : Xi P w0 K mg base CX0 2 cc.BadName ["self", "name"] (sp_xi "name" cc.BadName) := by
  refine ⟨f, fd, FU.ok sc_BadName___init__ (fun vs H Q E h => ?_) (fun cdv A outer s H0 vs Q E hr h => ?_), hm, hb⟩
  · obtain ⟨ob, v, rfl, _⟩ := h; rfl
  · obtain ⟨ob, v, rfl, ho, hQ⟩ := h
    have nd := sc_BadName___init__.nd
    have wf : Ex H0 H0 := Ex.rfl'
    refine ⟨(tSeq (tDrop (tWeI K cc.WireError (tC (.ref cc.WireError)) (tCons (tVar 0) (tCons (tC (.str (PySem.Str.ofString "no name"))) tNil)))) (tOst K "name" (tVar 0) (tVar 1))), (pss_cons (ps_expr (pe_weinit T.xw T.xwv (pe_glob (by rfl) T.xc_WireError.g rfl) (pa_cons (pv 0) (pa_cons pe_str pa_nil)))) (pss_one (ps_ost (pv 0) (pv 1)))), ?_⟩
    exact x_init (m := (PySem.Str.ofString "no name")) T.xc_BadName.ox T.xc_BadName.no rfl rfl ho val_c hQ
abbrev s_Doubled___init__ : Stmt := inClass (topS 8) 0
abbrev N_Doubled___init__ : List Str := ["self", "name"]
theorem sc_Doubled___init__ : FnScope N_Doubled___init__ ["self", "name"] (defScope s_Doubled___init__) := ⟨rfl, rfl, rfl, by decide +kernel, rfl, by decide +kernel, by decide +kernel⟩
theorem ok_Doubled___init__ {P : Program} {w0 : World} {K : PySem.W.Frag} {mg : Str → Option Value} {base : Heap} {f : Addr} {fd : FuncData} {cc : Cz} (T : Tz K mg cc) (FU : Fun K "__init__" "Doubled.__init__" s_Doubled___init__ f fd) (hm : PySem.W.findIn K (.ref cc.Doubled) "__init__" = some (some (.ref f)) ∧ PySem.W.typeIn K (.ref f) = some (.type "function")) (hb : Binds K fd ["self", "name"] []) : Xi P w0 K mg base CX0 2 cc.Doubled ["self", "name"] (sp_xi "name" cc.Doubled) := by
  refine ⟨f, fd, FU.ok sc_Doubled___init__ (fun vs H Q E h => ?_) (fun cdv A outer s H0 vs Q E hr h => ?_), hm, hb⟩
  · obtain ⟨ob, v, rfl, _⟩ := h; rfl
  · obtain ⟨ob, v, rfl, ho, hQ⟩ := h
    have nd := sc_Doubled___init__.nd
    have wf : Ex H0 H0 := Ex.rfl'
    refine ⟨(tSeq (tDrop (tWeI K cc.WireError (tC (.ref cc.WireError)) (tCons (tVar 0) (tCons (tC (.str (PySem.Str.ofString "a name that is there already"))) tNil)))) (tOst K "name" (tVar 0) (tVar 1))), (pss_cons (ps_expr (pe_weinit T.xw T.xwv (pe_glob (by rfl) T.xc_WireError.g rfl) (pa_cons (pv 0) (pa_cons pe_str pa_nil)))) (pss_one (ps_ost (pv 0) (pv 1)))), ?_⟩
    exact x_init (m := (PySem.Str.ofString "a name that is there already")) T.xc_Doubled.ox T.xc_Doubled.no rfl rfl ho val_c hQ
abbrev s_NoWire___init__ : Stmt := inClass (topS 9) 0
abbrev N_NoWire___init__ : List Str := ["self", "name"]
theorem sc_NoWire___init__ : FnScope N_NoWire___init__ ["self", "name"] (defScope s_NoWire___init__) := ⟨rfl, rfl, rfl, by decide +kernel, rfl, by decide +kernel, by decide +kernel⟩
theorem ok_NoWire___init__ {P : Program} {w0 : World} {K : PySem.W.Frag} {mg : Str → Option Value} {base : Heap} {f : Addr} {fd : FuncData} {cc : Cz} (T : Tz K mg cc) (FU : Fun K "__init__" "NoWire.__init__" s_NoWire___init__ f fd) (hm : PySem.W.findIn K (.ref cc.NoWire) "__init__" = some (some (.ref f)) ∧ PySem.W.typeIn K (.ref f) = some (.type "function")) (hb : Binds K fd ["self", "name"] []) : Xi P w0 K mg base CX0 2 cc.NoWire ["self", "name"] (sp_xi "name" cc.NoWire) := by
  refine ⟨f, fd, FU.ok sc_NoWire___init__ (fun vs H Q E h => ?_) (fun cdv A outer s H0 vs Q E hr h => ?_), hm, hb⟩
  · obtain ⟨ob, v, rfl, _⟩ := h; rfl
  · obtain ⟨ob, v, rfl, ho, hQ⟩ := h
    have nd := sc_NoWire___init__.nd
    have wf : Ex H0 H0 := Ex.rfl'
    refine ⟨(tSeq (tDrop (tWeI K cc.WireError (tC (.ref cc.WireError)) (tCons (tVar 0) (tCons (tC (.str (PySem.Str.ofString "a wire that is not there"))) tNil)))) (tOst K "name" (tVar 0) (tVar 1))), (pss_cons (ps_expr (pe_weinit T.xw T.xwv (pe_glob (by rfl) T.xc_WireError.g rfl) (pa_cons (pv 0) (pa_cons pe_str pa_nil)))) (pss_one (ps_ost (pv 0) (pv 1)))), ?_⟩
    exact x_init (m := (PySem.Str.ofString "a wire that is not there")) T.xc_NoWire.ox T.xc_NoWire.no rfl rfl ho val_c hQ
abbrev s_BadLine___init__ : Stmt := inClass (topS 10) 0
abbrev N_BadLine___init__ : List Str := ["self", "line"]
theorem sc_BadLine___init__ : FnScope N_BadLine___init__ ["self", "line"] (defScope s_BadLine___init__) := ⟨rfl, rfl, rfl, by decide +kernel, rfl, by decide +kernel, by decide +kernel⟩
theorem ok_BadLine___init__ {P : Program} {w0 : World} {K : PySem.W.Frag} {mg : Str → Option Value} {base : Heap} {f : Addr} {fd : FuncData} {cc : Cz} (T : Tz K mg cc) (FU : Fun K "__init__" "BadLine.__init__" s_BadLine___init__ f fd) (hm : PySem.W.findIn K (.ref cc.BadLine) "__init__" = some (some (.ref f)) ∧ PySem.W.typeIn K (.ref f) = some (.type "function")) (hb : Binds K fd ["self", "line"] []) (n_str : mg "str" = none) : Xi P w0 K mg base CX0 2 cc.BadLine ["self", "line"] (sp_xiN "line" cc.BadLine) := by
  refine ⟨f, fd, FU.ok sc_BadLine___init__ (fun vs H Q E h => ?_) (fun cdv A outer s H0 vs Q E hr h => ?_), hm, hb⟩
  · obtain ⟨ob, nx, rfl, _⟩ := h; rfl
  · obtain ⟨ob, nx, rfl, hW, ho, hQ⟩ := h
    have nd := sc_BadLine___init__.nd
    have wf : Ex H0 H0 := Ex.rfl'
    refine ⟨(tSeq (tDrop (tWeI K cc.WireError (tC (.ref cc.WireError)) (tCons (tVar 0) (tCons (tOp kAddS (tOp kAddS (tC (.str (PySem.Str.ofString "row "))) (tCB rStrI (tCons (tVar 1) tNil))) (tC (.str (PySem.Str.ofString " has not its form")))) tNil)))) (tOst K "line" (tVar 0) (tVar 1))), (pss_cons (ps_expr (pe_weinit T.xw T.xwv (pe_glob (by rfl) T.xc_WireError.g rfl) (pa_cons (pv 0) (pa_cons (pe_op op_addS (pe_op op_addS pe_str (pe_callTy call_str_int (by rfl) n_str PyProof.Rows.boot_str (pa_cons (pv 1) pa_nil))) pe_str) pa_nil)))) (pss_one (ps_ost (pv 0) (pv 1)))), ?_⟩
    obtain ⟨c1, hW⟩ := hW
    obtain ⟨c2, hW⟩ := hW
    obtain ⟨c3, hW⟩ := hW
    exact x_init (m := (((PySem.Str.ofString "row ") ++ (strN nx)) ++ (PySem.Str.ofString " has not its form"))) T.xc_BadLine.ox T.xc_BadLine.no rfl rfl ho (v_addS (v_addS val_c (vn_str c1 (val_var rfl)) c2) val_c c3) hQ
abbrev s_Ring___init__ : Stmt := inClass (topS 11) 0
abbrev N_Ring___init__ : List Str := ["self", "ring"]
theorem sc_Ring___init__ : FnScope N_Ring___init__ ["self", "ring"] (defScope s_Ring___init__) := ⟨rfl, rfl, rfl, by decide +kernel, rfl, by decide +kernel, by decide +kernel⟩
theorem ok_Ring___init__ {P : Program} {w0 : World} {K : PySem.W.Frag} {mg : Str → Option Value} {base : Heap} {f : Addr} {fd : FuncData} {cc : Cz} (T : Tz K mg cc) (FU : Fun K "__init__" "Ring.__init__" s_Ring___init__ f fd) (hm : PySem.W.findIn K (.ref cc.Ring) "__init__" = some (some (.ref f)) ∧ PySem.W.typeIn K (.ref f) = some (.type "function")) (hb : Binds K fd ["self", "ring"] []) (n_list : mg "list" = none) : Xi P w0 K mg base CX0 2 cc.Ring ["self", "ring"] (sp_xiL "ring" cc.Ring) := by
  refine ⟨f, fd, FU.ok sc_Ring___init__ (fun vs H Q E h => ?_) (fun cdv A outer s H0 vs Q E hr h => ?_), hm, hb⟩
  · obtain ⟨ob, q, ws, rfl, _⟩ := h; rfl
  · obtain ⟨ob, q, ws, rfl, ho, hq, hQ⟩ := h
    have nd := sc_Ring___init__.nd
    have wf : Ex H0 H0 := Ex.rfl'
    refine ⟨(tSeq (tDrop (tWeI K cc.WireError (tC (.ref cc.WireError)) (tCons (tVar 0) (tCons (tC (.str (PySem.Str.ofString "a ring of sums"))) tNil)))) (tOst K "ring" (tVar 0) (tCB (rListOf K) (tCons (tVar 1) tNil)))), (pss_cons (ps_expr (pe_weinit T.xw T.xwv (pe_glob (by rfl) T.xc_WireError.g rfl) (pa_cons (pv 0) (pa_cons pe_str pa_nil)))) (pss_one (ps_ost (pv 0) (pe_callTy call_list_of (by rfl) n_list PyProof.Rows.boot_list (pa_cons (pv 1) pa_nil))))), ?_⟩
    exact x_initL (m := (PySem.Str.ofString "a ring of sums")) T.xc_Ring.ox T.xc_Ring.no rfl rfl ho hq val_c hQ
abbrev s_cell : Stmt := topS 13
def W_cell (script1 : List Int) (k1 : Nat) (R : Int → Prop) : Prop := if k1 < script1.length then (∃ x1, script1[k1]? = some x1 ∧ R x1) else (R (((41 * k1) + 3 : Nat) : Int))
def sp_cell (K : PySem.W.Frag) (cc : Cz) : Sp := fun vs H Q _ => ∃ (F : Hp) (v1 : V) (script1 : List Int) (k1 : Nat) (R : Int → Prop), vs = [v1, (.int ((k1 : Nat) : Int))] ∧ Ex F H ∧ (pScr K).r F v1 script1 ∧ W_cell script1 k1 R ∧ ∀ z, R z → ∀ F' H', Wf F H F' H' → Q (.int (z)) H'
abbrev N_cell : List Str := ["_law_script", "_law_k"]
theorem sc_cell : FnScope N_cell ["_law_script", "_law_k"] (defScope s_cell) := ⟨rfl, rfl, rfl, by decide +kernel, rfl, by decide +kernel, by decide +kernel⟩
theorem ok_cell {P : Program} {w0 : World} {K : PySem.W.Frag} {mg : Str → Option Value} {base : Heap} {f : Addr} {fd : FuncData} {cc : Cz} (T : Tz K mg cc) (FU : Fun K "_law_cell" "_law_cell" s_cell f fd) (hm : mg "_law_cell" = some (.ref f)) (hb : Binds K fd ["_law_script", "_law_k"] []) (n_len : mg "len" = none) : Fn P w0 K mg base CX0 1 "_law_cell" ["_law_script", "_law_k"] (sp_cell K cc) := by
  refine ⟨f, fd, FU.ok sc_cell (fun vs H Q E h => ?_) (fun cdv A outer s H0 vs Q E hr h => ?_), hm, FU.kp, hb⟩
  · obtain ⟨_, _, _, _, _, rfl, _⟩ := h; rfl
  · obtain ⟨F0, v1, script1, k1, R, rfl, wf, r1, hW, hQ⟩ := h
    have nd := sc_cell.nd
    refine ⟨(tSeq (tIfS (tTest (tOp kLt (tVar 1) (tCB (Wk.rLen K) (tCons (tVar 0) tNil)))) (tRet (tOp (L2.rIxL K) (tVar 0) (tVar 1))) tNext) (tRet (tOp kAdd (tOp kMul (tC (.int 41)) (tVar 1)) (tC (.int 3))))), (pss_cons (ps_if (pt_cmpR op_lt (pv 1) (pe_callB call_len_seq (by rfl) n_len PySem.boot_len (pa_cons (pv 0) pa_nil)) (nomark _)) (pss_one (ps_ret (pe_ix ix_list (pv 0) (pv 1) (fun _ _ => rfl)))) pss_nil) (pss_one (ps_ret (pe_op op_add (pe_op op_mul pe_int (pv 1)) pe_int)))), ?_⟩
    have w := Wf.id wf
    refine q_sq fun N1 hN1 => ?_
    refine a_ifE ?_
    refine e_ans (b := decide (k1 < script1.length)) (t_of (vb_dec (c_lt (val_var rfl) (len_S r1 w.f (val_var rfl))) n_lt)) ?_
    refine b_if (fun hc1 => ?_) (fun hc1 => ?_)
    · have hW := ifP hW hc1
      obtain ⟨x1, hx1_1, hW⟩ := hW
      have ix1 := ix_S (K := K) w.f r1 hx1_1
      refine a_ret (v := (.int (x1))) (ix1 (val_var rfl) (val_var rfl)) ?_
      exact hQ _ hW _ _ w
    · have hW := ifN hW hc1
      refine hN1 _ _ ?_
      refine a_ret (v := (.int ((((41 * k1) + 3 : Nat) : Int)))) (vn_add (vn_mul val_c (val_var rfl) (.inl (by decide))) val_c) ?_
      exact hQ _ hW _ _ w
abbrev s_mix : Stmt := topS 14
def W_mix (cell_here1 : Int) (k1 : Nat) (R : Nat → Prop) : Prop := ∀ number1 : Nat, number1 = ((((modN cell_here1 2147483647) * 48271) + (7919 * k1)) + 11) % 2147483647 → (NMul number1 number1) ∧ ∀ number2 : Nat, number2 = (number1 * number1) % 2147483629 → (NMul number2 ((number2 + (48271 * k1)) + 7)) ∧ R ((number2 * ((number2 + (48271 * k1)) + 7)) % 2147483587)
def sp_mix (K : PySem.W.Frag) (cc : Cz) : Sp := fun vs H Q _ => ∃ (F : Hp) (cell_here1 : Int) (k1 : Nat) (R : Nat → Prop), vs = [(.int (cell_here1)), (.int ((k1 : Nat) : Int))] ∧ Ex F H ∧ W_mix cell_here1 k1 R ∧ ∀ z, R z → ∀ F' H', Wf F H F' H' → Q (.int ((z : Nat) : Int)) H'
abbrev N_mix : List Str := ["_law_cell_here", "_law_k", "_law_number"]
theorem sc_mix : FnScope N_mix ["_law_cell_here", "_law_k"] (defScope s_mix) := ⟨rfl, rfl, rfl, by decide +kernel, rfl, by decide +kernel, by decide +kernel⟩
theorem ok_mix {P : Program} {w0 : World} {K : PySem.W.Frag} {mg : Str → Option Value} {base : Heap} {f : Addr} {fd : FuncData} {cc : Cz} (T : Tz K mg cc) (FU : Fun K "_law_mix" "_law_mix" s_mix f fd) (hm : mg "_law_mix" = some (.ref f)) (hb : Binds K fd ["_law_cell_here", "_law_k"] []) : Fn P w0 K mg base CX0 1 "_law_mix" ["_law_cell_here", "_law_k"] (sp_mix K cc) := by
  refine ⟨f, fd, FU.ok sc_mix (fun vs H Q E h => ?_) (fun cdv A outer s H0 vs Q E hr h => ?_), hm, FU.kp, hb⟩
  · obtain ⟨_, _, _, _, rfl, _⟩ := h; rfl
  · obtain ⟨F0, cell_here1, k1, R, rfl, wf, hW, hQ⟩ := h
    have nd := sc_mix.nd
    refine ⟨(tSeq (tAsg (tOp kMod (tOp kAdd (tOp kAdd (tOp kMul (tOp kMod (tVar 0) (tC (.int 2147483647))) (tC (.int 48271))) (tOp kMul (tC (.int 7919)) (tVar 1))) (tC (.int 11))) (tC (.int 2147483647))) (gName 2)) (tSeq (tAsg (tOp kMod (tOp kMul (tVar 2) (tVar 2)) (tC (.int 2147483629))) (gName 2)) (tRet (tOp kMod (tOp kMul (tVar 2) (tOp kAdd (tOp kAdd (tVar 2) (tOp kMul (tC (.int 48271)) (tVar 1))) (tC (.int 7)))) (tC (.int 2147483587)))))), (pss_cons (ps_set (i := 2) nd rfl (Or.inl rfl) (pe_op op_mod (pe_op op_add (pe_op op_add (pe_op op_mul (pe_op op_mod (pv 0) pe_int) pe_int) (pe_op op_mul pe_int (pv 1))) pe_int) pe_int)) (pss_cons (ps_set (i := 2) nd rfl (Or.inl rfl) (pe_op op_mod (pe_op op_mul (pv 2) (pv 2)) pe_int)) (pss_one (ps_ret (pe_op op_mod (pe_op op_mul (pv 2) (pe_op op_add (pe_op op_add (pv 2) (pe_op op_mul pe_int (pv 1))) pe_int)) pe_int))))), ?_⟩
    have w := Wf.id wf
    refine q_sq fun N1 hN1 => ?_
    obtain ⟨number1, enumber1⟩ : ∃ number1 : Nat, number1 = ((((modN cell_here1 2147483647) * 48271) + (7919 * k1)) + 11) % 2147483647 := ⟨_, rfl⟩
    replace hW := hW number1 enumber1
    refine a_asg (v := (.int ((number1 : Nat) : Int))) (v_eq (vn_mod (vn_add (vn_add (vn_mul (vm_mod (val_var rfl) val_c (by decide)) val_c (.inr (by decide))) (vn_mul val_c (val_var rfl) (.inl (by decide)))) val_c) val_c (by decide)) (by rw [enumber1])) ?_
    refine hN1 _ _ ?_
    refine q_sq fun N2 hN2 => ?_
    obtain ⟨c1, hW⟩ := hW
    obtain ⟨number2, enumber2⟩ : ∃ number2 : Nat, number2 = (number1 * number1) % 2147483629 := ⟨_, rfl⟩
    replace hW := hW number2 enumber2
    refine a_asg (v := (.int ((number2 : Nat) : Int))) (v_eq (vn_mod (vn_mul (val_var rfl) (val_var rfl) c1) val_c (by decide)) (by rw [enumber2])) ?_
    refine hN2 _ _ ?_
    obtain ⟨c2, hW⟩ := hW
    refine a_ret (v := (.int (((number2 * ((number2 + (48271 * k1)) + 7)) % 2147483587 : Nat) : Int))) (vn_mod (vn_mul (val_var rfl) (vn_add (vn_add (val_var rfl) (vn_mul val_c (val_var rfl) (.inl (by decide)))) val_c) c2) val_c (by decide)) ?_
    exact hQ _ hW _ _ w
abbrev s_word : Stmt := topS 15
def W_word (cell_here1 : Int) (R : Str → Prop) : Prop := ∀ letters1 : Str, letters1 = (PySem.Str.ofString "abcdefghijklmnopqrstuvwxyz0123456789") → (modN cell_here1 9 < 1000000) ∧ compW (List.range (modN cell_here1 9)) (fun k1 kk => W_mix cell_here1 k1 fun z1 => (letters1.length < 1000000) ∧ ∃ c3 : Nat, letters1.cps.toList[z1 % 36]? = some c3 ∧ kk (some (sg c3))) fun ys1 => ((ys1.map (·.length)).sum + ys1.length * (PySem.Str.ofString "").length ≤ 16777216) ∧ R (Txt.join (PySem.Str.ofString "") ys1)
def sp_word (K : PySem.W.Frag) (cc : Cz) : Sp := fun vs H Q _ => ∃ (F : Hp) (cell_here1 : Int) (R : Str → Prop), vs = [(.int (cell_here1))] ∧ Ex F H ∧ W_word cell_here1 R ∧ ∀ z, R z → ∀ F' H', Wf F H F' H' → Q (.str (z)) H'
abbrev N_word : List Str := ["_law_cell_here", "_law_letters", "_law_k"]
theorem sc_word : FnScope N_word ["_law_cell_here"] (defScope s_word) := ⟨rfl, rfl, rfl, by decide +kernel, rfl, by decide +kernel, by decide +kernel⟩
theorem ok_word {P : Program} {w0 : World} {K : PySem.W.Frag} {mg : Str → Option Value} {base : Heap} {f : Addr} {fd : FuncData} {cc : Cz} (T : Tz K mg cc) (FU : Fun K "_law_word" "_law_word" s_word f fd) (hm : mg "_law_word" = some (.ref f)) (hb : Binds K fd ["_law_cell_here"] []) (c_mix : Fn P w0 K mg base CX0 1 "_law_mix" ["_law_cell_here", "_law_k"] (sp_mix K cc)) (n_range : mg "range" = none) : Fn P w0 K mg base CX0 2 "_law_word" ["_law_cell_here"] (sp_word K cc) := by
  refine ⟨f, fd, FU.ok sc_word (fun vs H Q E h => ?_) (fun cdv A outer s H0 vs Q E hr h => ?_), hm, FU.kp, hb⟩
  · obtain ⟨_, _, _, rfl, _⟩ := h; rfl
  · obtain ⟨F0, cell_here1, R, rfl, wf, hW, hQ⟩ := h
    have nd := sc_word.nd
    refine ⟨(tSeq (tAsg (tC (.str (PySem.Str.ofString "abcdefghijklmnopqrstuvwxyz0123456789"))) (gName 1)) (tRet (tM1 (rJoin K) (tC (.str (PySem.Str.ofString ""))) (tLc (iRng1 (tCons (tOp kMod (tVar 0) (tC (.int 9))) tNil)) (gName 2) tYes (tOp L2.rIxS (tVar 1) (tOp kMod (tCall (sp_mix K cc) [] E0 (tCons (tVar 0) (tCons (tVar 2) tNil))) (tC (.int 36)))) [2])))), (pss_cons (ps_set (i := 1) nd rfl (Or.inr rfl) pe_str) (pss_one (ps_ret (pe_join pe_str (pe_lc (own := [("_law_k", 2)]) (wi := (iRng1 (tCons (tOp kMod (tVar 0) (tC (.int 9))) tNil))) (g := (gName 2)) (tt := tYes) (te := (tOp L2.rIxS (tVar 1) (tOp kMod (tCall (sp_mix K cc) [] E0 (tCons (tVar 0) (tCons (tVar 2) tNil))) (tC (.int 36))))) rfl nd (pi_range1 rfl n_range (pa_cons (pe_op op_mod (pv 0) pe_int) pa_nil)) (blkOk_by (N := N_word) (sc := defScope s_word) (by decide +kernel)) (fun _ _ _ _ _ => (pg_name (i := 2) nd rfl (Or.inl rfl))) (fun _ _ _ _ _ => pts_nil) (fun _ _ _ _ _ => (pe_ix ix_str (pv 1) (pe_op op_mod (pe_fn c_mix (hr.mono (by decide)) rfl (pa_cons (pv 0) (pa_cons (pv 2) pa_nil))) pe_int) (fun _ _ => rfl)))))))), ?_⟩
    have w := Wf.id wf
    refine q_sq fun N1 hN1 => ?_
    obtain ⟨letters1, eletters1⟩ : ∃ letters1 : Str, letters1 = (PySem.Str.ofString "abcdefghijklmnopqrstuvwxyz0123456789") := ⟨_, rfl⟩
    replace hW := hW letters1 eletters1
    refine a_asg (v := (.str (letters1))) (v_eq val_c (by rw [eletters1])) ?_
    refine hN1 _ _ ?_
    refine a_retE ?_
    refine e_m1 ?_
    refine e_val (v := (.str ((PySem.Str.ofString "")))) val_c ?_
    refine ⟨⟨_, rfl⟩, ?_⟩
    refine c_RE ?_
    refine e_val (v := (.int ((modN cell_here1 9 : Nat) : Int))) (vm_mod (val_var rfl) val_c (by decide)) ?_
    obtain ⟨c1, hW⟩ := hW
    refine w_compR (e := pS) w c1 hW ?_ ?_
    · intro Qy Qn k1 F1 H1 R1 q1 hx1 hW hy1 hn1
      have w := Wf.id q1.f
      refine ⟨rfl, ?_⟩
      refine c_yes ?_
      refine e_op ?_
      refine e_val (v := (.str (letters1))) (val_var rfl) ?_
      refine e_op ?_
      refine e_call ?_
      refine a_val (v := (.int (cell_here1))) (val_var rfl) ?_
      refine a_val (v := (.int ((k1 : Nat) : Int))) (val_var rfl) ?_
      refine a_nil ?_
      refine ⟨F1, (cell_here1), (k1), _, rfl, w.f, hW, ?_⟩
      intro z1 hW F2 H2 s1
      replace w := w.tr s1
      refine e_val (v := (.int ((36 : Nat) : Int))) val_c ?_
      refine rv2 (z := (.int ((z1 % 36 : Nat) : Int))) (vn_mod val_c val_c (by decide)) ?_
      obtain ⟨c2, hW⟩ := hW
      obtain ⟨c3, hc1, hW⟩ := hW
      refine rv2 (z := .str (sg c3)) (ix_Str val_c val_c c2 hc1) ?_
      exact hy1 _ _ _ _ w rfl hW
    intro p1 ys1 F3 H3 hp1 s2 x1 hW
    replace w := w.tr s2
    obtain ⟨c4, hW⟩ := hW
    refine n_joinX x1 c4 ?_
    exact hQ _ hW _ _ w
abbrev s_kinds : Stmt := topS 16
def W_kinds (e1 : EV) (R : (List Nat) → Prop) : Prop := ([(decide (e1.k = 0)), (decide (e1.k = 1)), (decide (e1.k = 2)), (decide (e1.k = 3))].length + [(decide (e1.k = 4)), (decide (e1.k = 5)), (decide (e1.k = 6)), (decide (e1.k = 7))].length < 1000000) ∧ (([(decide (e1.k = 0)), (decide (e1.k = 1)), (decide (e1.k = 2)), (decide (e1.k = 3))] ++ [(decide (e1.k = 4)), (decide (e1.k = 5)), (decide (e1.k = 6)), (decide (e1.k = 7))]).length + [(decide (e1.k = 8)), (decide (e1.k = 9))].length < 1000000) ∧ (10 < 1000000) ∧ compW (List.range 10) (fun k1 kk => ∃ x6, (([(decide (e1.k = 0)), (decide (e1.k = 1)), (decide (e1.k = 2)), (decide (e1.k = 3))] ++ [(decide (e1.k = 4)), (decide (e1.k = 5)), (decide (e1.k = 6)), (decide (e1.k = 7))]) ++ [(decide (e1.k = 8)), (decide (e1.k = 9))])[k1]? = some x6 ∧ if x6 = true then (kk (some k1)) else (kk none)) fun ys1 => R ys1
def sp_kinds (K : PySem.W.Frag) (cc : Cz) : Sp := fun vs H Q _ => ∃ (F : Hp) (v1 : V) (e1 : EV) (R : (List Nat) → Prop), vs = [v1] ∧ Ex F H ∧ (pEV (evC cc)).r F v1 e1 ∧ W_kinds e1 R ∧ ∀ z, R z → ∀ p F' H', Wf F H F' H' → XL pN H F' H' p z → Q (.ref p) H'
abbrev N_kinds : List Str := ["_law_e", "_law_some", "_law_k"]
theorem sc_kinds : FnScope N_kinds ["_law_e"] (defScope s_kinds) := ⟨rfl, rfl, rfl, by decide +kernel, rfl, by decide +kernel, by decide +kernel⟩
theorem ok_kinds {P : Program} {w0 : World} {K : PySem.W.Frag} {mg : Str → Option Value} {base : Heap} {f : Addr} {fd : FuncData} {cc : Cz} (T : Tz K mg cc) (FU : Fun K "_law_kinds" "_law_kinds" s_kinds f fd) (hm : mg "_law_kinds" = some (.ref f)) (hb : Binds K fd ["_law_e"] []) (n_isinstance : mg "isinstance" = none) (n_range : mg "range" = none) : Fn P w0 K mg base CX0 1 "_law_kinds" ["_law_e"] (sp_kinds K cc) := by
  refine ⟨f, fd, FU.ok sc_kinds (fun vs H Q E h => ?_) (fun cdv A outer s H0 vs Q E hr h => ?_), hm, FU.kp, hb⟩
  · obtain ⟨_, _, _, _, rfl, _⟩ := h; rfl
  · obtain ⟨F0, v1, e1, R, rfl, wf, r1, hW, hQ⟩ := h
    have nd := sc_kinds.nd
    refine ⟨(tSeq (tAsg (tLst (tCons (tCB (rIsV K) (tCons (tVar 0) (tCons (tC (.ref cc.BadSizes)) tNil))) (tCons (tCB (rIsV K) (tCons (tVar 0) (tCons (tC (.ref cc.TooMany)) tNil))) (tCons (tCB (rIsV K) (tCons (tVar 0) (tCons (tC (.ref cc.BadMask)) tNil))) (tCons (tCB (rIsV K) (tCons (tVar 0) (tCons (tC (.ref cc.BadTable)) tNil))) tNil))))) (gName 1)) (tSeq (tAsg (tOp L2.rCat (tVar 1) (tLst (tCons (tCB (rIsV K) (tCons (tVar 0) (tCons (tC (.ref cc.BadRow)) tNil))) (tCons (tCB (rIsV K) (tCons (tVar 0) (tCons (tC (.ref cc.BadName)) tNil))) (tCons (tCB (rIsV K) (tCons (tVar 0) (tCons (tC (.ref cc.Doubled)) tNil))) (tCons (tCB (rIsV K) (tCons (tVar 0) (tCons (tC (.ref cc.NoWire)) tNil))) tNil)))))) (gName 1)) (tSeq (tAsg (tOp L2.rCat (tVar 1) (tLst (tCons (tCB (rIsV K) (tCons (tVar 0) (tCons (tC (.ref cc.BadLine)) tNil))) (tCons (tCB (rIsV K) (tCons (tVar 0) (tCons (tC (.ref cc.Ring)) tNil))) tNil)))) (gName 1)) (tRet (tLc (iRng1 (tCons (tC (.int 10)) tNil)) (gName 2) (tB (tOp (L2.rIxL K) (tVar 1) (tVar 2))) (tVar 2) [2]))))), (pss_cons (ps_set (i := 1) nd rfl (Or.inr rfl) (pe_lst (pa_cons (pe_callB call_isV (by rfl) n_isinstance PyProof.Rows.boot_isinstance (pa_cons (pv 0) (pa_cons (pe_glob (by rfl) T.xc_BadSizes.g rfl) pa_nil))) (pa_cons (pe_callB call_isV (by rfl) n_isinstance PyProof.Rows.boot_isinstance (pa_cons (pv 0) (pa_cons (pe_glob (by rfl) T.xc_TooMany.g rfl) pa_nil))) (pa_cons (pe_callB call_isV (by rfl) n_isinstance PyProof.Rows.boot_isinstance (pa_cons (pv 0) (pa_cons (pe_glob (by rfl) T.xc_BadMask.g rfl) pa_nil))) (pa_cons (pe_callB call_isV (by rfl) n_isinstance PyProof.Rows.boot_isinstance (pa_cons (pv 0) (pa_cons (pe_glob (by rfl) T.xc_BadTable.g rfl) pa_nil))) pa_nil)))))) (pss_cons (ps_set (i := 1) nd rfl (Or.inr rfl) (pe_op op_cat (pv 1) (pe_lst (pa_cons (pe_callB call_isV (by rfl) n_isinstance PyProof.Rows.boot_isinstance (pa_cons (pv 0) (pa_cons (pe_glob (by rfl) T.xc_BadRow.g rfl) pa_nil))) (pa_cons (pe_callB call_isV (by rfl) n_isinstance PyProof.Rows.boot_isinstance (pa_cons (pv 0) (pa_cons (pe_glob (by rfl) T.xc_BadName.g rfl) pa_nil))) (pa_cons (pe_callB call_isV (by rfl) n_isinstance PyProof.Rows.boot_isinstance (pa_cons (pv 0) (pa_cons (pe_glob (by rfl) T.xc_Doubled.g rfl) pa_nil))) (pa_cons (pe_callB call_isV (by rfl) n_isinstance PyProof.Rows.boot_isinstance (pa_cons (pv 0) (pa_cons (pe_glob (by rfl) T.xc_NoWire.g rfl) pa_nil))) pa_nil))))))) (pss_cons (ps_set (i := 1) nd rfl (Or.inr rfl) (pe_op op_cat (pv 1) (pe_lst (pa_cons (pe_callB call_isV (by rfl) n_isinstance PyProof.Rows.boot_isinstance (pa_cons (pv 0) (pa_cons (pe_glob (by rfl) T.xc_BadLine.g rfl) pa_nil))) (pa_cons (pe_callB call_isV (by rfl) n_isinstance PyProof.Rows.boot_isinstance (pa_cons (pv 0) (pa_cons (pe_glob (by rfl) T.xc_Ring.g rfl) pa_nil))) pa_nil))))) (pss_one (ps_ret (pe_lc (own := [("_law_k", 2)]) (wi := (iRng1 (tCons (tC (.int 10)) tNil))) (g := (gName 2)) (tt := (tB (tOp (L2.rIxL K) (tVar 1) (tVar 2)))) (te := (tVar 2)) rfl nd (pi_range1 rfl n_range (pa_cons pe_int pa_nil)) (blkOk_by (N := N_kinds) (sc := defScope s_kinds) (by decide +kernel)) (fun _ _ _ _ _ => (pg_name (i := 2) nd rfl (Or.inl rfl))) (fun _ _ _ _ _ => (pts_one (pt_val (pe_ix ix_list (pv 1) (pv 2) (fun _ _ => rfl))))) (fun _ _ _ _ _ => (pv 2)))))))), ?_⟩
    have w := Wf.id wf
    refine q_sq fun N1 hN1 => ?_
    refine a_asgE ?_
    refine e_lst ?_
    refine a_val (v := (.bl ((decide (e1.k = 0))))) (v_isEv (c := .ref cc.BadSizes) (cv := .ref cc.BadSizes) (b := fun k => decide (k = 0)) r1 w.f (val_var rfl) (ev_e T) (fun _ z => z) (ev_i_BadSizes T)) ?_
    refine a_val (v := (.bl ((decide (e1.k = 1))))) (v_isEv (c := .ref cc.TooMany) (cv := .ref cc.TooMany) (b := fun k => decide (k = 1)) r1 w.f (val_var rfl) (ev_e T) (fun _ z => z) (ev_i_TooMany T)) ?_
    refine a_val (v := (.bl ((decide (e1.k = 2))))) (v_isEv (c := .ref cc.BadMask) (cv := .ref cc.BadMask) (b := fun k => decide (k = 2)) r1 w.f (val_var rfl) (ev_e T) (fun _ z => z) (ev_i_BadMask T)) ?_
    refine a_val (v := (.bl ((decide (e1.k = 3))))) (v_isEv (c := .ref cc.BadTable) (cv := .ref cc.BadTable) (b := fun k => decide (k = 3)) r1 w.f (val_var rfl) (ev_e T) (fun _ z => z) (ev_i_BadTable T)) ?_
    refine a_nil ?_
    refine n_lstX (e := pB) (xs := [(decide (e1.k = 0)), (decide (e1.k = 1)), (decide (e1.k = 2)), (decide (e1.k = 3))]) (vs := [(.bl ((decide (e1.k = 0)))), (.bl ((decide (e1.k = 1)))), (.bl ((decide (e1.k = 2)))), (.bl ((decide (e1.k = 3))))]) (show All pB _ [(.bl ((decide (e1.k = 0)))), (.bl ((decide (e1.k = 1)))), (.bl ((decide (e1.k = 2)))), (.bl ((decide (e1.k = 3))))] [(decide (e1.k = 0)), (decide (e1.k = 1)), (decide (e1.k = 2)), (decide (e1.k = 3))] from ⟨rfl, ⟨rfl, ⟨rfl, ⟨rfl, trivial⟩⟩⟩⟩) (show 4 < 1000000 from by decide) w ?_
    intro p1 H1 hp1 s1 x1
    replace r1 := Rep.mono _ s1.g r1
    replace w := w.tr s1
    obtain ⟨F1, w1, g1, r2, fz1⟩ := x1.frzE w
    replace r1 := Rep.mono _ g1 r1
    replace w := w1
    refine hN1 _ _ ?_
    refine q_sq fun N2 hN2 => ?_
    refine a_asgE ?_
    refine e_op ?_
    refine e_val (v := (.ref p1)) (val_var rfl) ?_
    refine e_lst ?_
    refine a_val (v := (.bl ((decide (e1.k = 4))))) (v_isEv (c := .ref cc.BadRow) (cv := .ref cc.BadRow) (b := fun k => decide (k = 4)) r1 w.f (val_var rfl) (ev_e T) (fun _ z => z) (ev_i_BadRow T)) ?_
    refine a_val (v := (.bl ((decide (e1.k = 5))))) (v_isEv (c := .ref cc.BadName) (cv := .ref cc.BadName) (b := fun k => decide (k = 5)) r1 w.f (val_var rfl) (ev_e T) (fun _ z => z) (ev_i_BadName T)) ?_
    refine a_val (v := (.bl ((decide (e1.k = 6))))) (v_isEv (c := .ref cc.Doubled) (cv := .ref cc.Doubled) (b := fun k => decide (k = 6)) r1 w.f (val_var rfl) (ev_e T) (fun _ z => z) (ev_i_Doubled T)) ?_
    refine a_val (v := (.bl ((decide (e1.k = 7))))) (v_isEv (c := .ref cc.NoWire) (cv := .ref cc.NoWire) (b := fun k => decide (k = 7)) r1 w.f (val_var rfl) (ev_e T) (fun _ z => z) (ev_i_NoWire T)) ?_
    refine a_nil ?_
    refine n_lstX (e := pB) (xs := [(decide (e1.k = 4)), (decide (e1.k = 5)), (decide (e1.k = 6)), (decide (e1.k = 7))]) (vs := [(.bl ((decide (e1.k = 4)))), (.bl ((decide (e1.k = 5)))), (.bl ((decide (e1.k = 6)))), (.bl ((decide (e1.k = 7))))]) (show All pB _ [(.bl ((decide (e1.k = 4)))), (.bl ((decide (e1.k = 5)))), (.bl ((decide (e1.k = 6)))), (.bl ((decide (e1.k = 7))))] [(decide (e1.k = 4)), (decide (e1.k = 5)), (decide (e1.k = 6)), (decide (e1.k = 7))] from ⟨rfl, ⟨rfl, ⟨rfl, ⟨rfl, trivial⟩⟩⟩⟩) (show 4 < 1000000 from by decide) w ?_
    intro p2 H2 hp2 s2 x2
    replace r1 := Rep.mono _ s2.g r1
    replace r2 := Rep.mono _ s2.g r2
    replace w := w.tr s2
    obtain ⟨F2, w2, g2, r3, fz2⟩ := x2.frzE w
    replace r1 := Rep.mono _ g2 r1
    replace r2 := Rep.mono _ g2 r2
    replace w := w2
    obtain ⟨c1, hW⟩ := hW
    refine n_cat r2 r3 w c1 ?_
    intro p3 H3 hp3 s3 x3
    replace r1 := Rep.mono _ s3.g r1
    replace r2 := Rep.mono _ s3.g r2
    replace r3 := Rep.mono _ s3.g r3
    replace w := w.tr s3
    obtain ⟨F3, w3, g3, r4, fz3⟩ := x3.frzE w
    replace r1 := Rep.mono _ g3 r1
    replace r2 := Rep.mono _ g3 r2
    replace r3 := Rep.mono _ g3 r3
    replace w := w3
    refine hN2 _ _ ?_
    refine q_sq fun N3 hN3 => ?_
    refine a_asgE ?_
    refine e_op ?_
    refine e_val (v := (.ref p3)) (val_var rfl) ?_
    refine e_lst ?_
    refine a_val (v := (.bl ((decide (e1.k = 8))))) (v_isEv (c := .ref cc.BadLine) (cv := .ref cc.BadLine) (b := fun k => decide (k = 8)) r1 w.f (val_var rfl) (ev_e T) (fun _ z => z) (ev_i_BadLine T)) ?_
    refine a_val (v := (.bl ((decide (e1.k = 9))))) (v_isEv (c := .ref cc.Ring) (cv := .ref cc.Ring) (b := fun k => decide (k = 9)) r1 w.f (val_var rfl) (ev_e T) (fun _ z => z) (ev_i_Ring T)) ?_
    refine a_nil ?_
    refine n_lstX (e := pB) (xs := [(decide (e1.k = 8)), (decide (e1.k = 9))]) (vs := [(.bl ((decide (e1.k = 8)))), (.bl ((decide (e1.k = 9))))]) (show All pB _ [(.bl ((decide (e1.k = 8)))), (.bl ((decide (e1.k = 9))))] [(decide (e1.k = 8)), (decide (e1.k = 9))] from ⟨rfl, ⟨rfl, trivial⟩⟩) (show 2 < 1000000 from by decide) w ?_
    intro p4 H4 hp4 s4 x4
    replace r1 := Rep.mono _ s4.g r1
    replace r4 := Rep.mono _ s4.g r4
    replace w := w.tr s4
    obtain ⟨F4, w4, g4, r5, fz4⟩ := x4.frzE w
    replace r1 := Rep.mono _ g4 r1
    replace r4 := Rep.mono _ g4 r4
    replace w := w4
    obtain ⟨c2, hW⟩ := hW
    refine n_cat r4 r5 w c2 ?_
    intro p5 H5 hp5 s5 x5
    replace r1 := Rep.mono _ s5.g r1
    replace r4 := Rep.mono _ s5.g r4
    replace r5 := Rep.mono _ s5.g r5
    replace w := w.tr s5
    obtain ⟨F5, w5, g5, r6, fz5⟩ := x5.frzE w
    replace r1 := Rep.mono _ g5 r1
    replace r4 := Rep.mono _ g5 r4
    replace r5 := Rep.mono _ g5 r5
    replace w := w5
    refine hN3 _ _ ?_
    refine a_retE ?_
    refine c_RE ?_
    refine e_val (v := (.int ((10 : Nat) : Int))) val_c ?_
    obtain ⟨c3, hW⟩ := hW
    refine w_compR (e := pN) w c3 hW ?_ ?_
    · intro Qy Qn k1 F6 H6 R1 q1 hx1 hW hy1 hn1
      have r1 := Rep.mono _ q1.g r1
      have r6 := Rep.mono _ q1.g r6
      have w := Wf.id q1.f
      refine ⟨rfl, ?_⟩
      obtain ⟨x6, hx6_1, hW⟩ := hW
      obtain ⟨_, rfl, ix1⟩ := ix_L (K := K) r6 w.f hx6_1
      refine e_ans (b := decide (x6 = true)) (t_ofB (vb_of (ix1 (val_var rfl) (val_var rfl)) dec_tt)) ?_
      refine b_if (fun hc1 => ?_) (fun hc1 => ?_)
      · have hW := ifP hW hc1
        refine e_val (v := (.int ((k1 : Nat) : Int))) (val_var rfl) ?_
        exact hy1 _ _ _ _ w rfl hW
      · have hW := ifN hW hc1
        exact hn1 _ _ w hW
    intro p6 ys1 F7 H7 hp6 s6 x7 hW
    replace r1 := Rep.mono _ s6.g r1
    replace r6 := Rep.mono _ s6.g r6
    replace w := w.tr s6
    exact hQ _ hW _ _ _ w x7
abbrev s_law : Stmt := topS 17
def W_law (script1 : List Int) (R : Bool → Prop) : Prop := W_cell script1 0 fun z1 => W_word z1 fun z2 => W_cell script1 1 fun z3 => ∀ number1 : Nat, number1 = modN z3 1000000000 → ((cutT script1 (some 2) (some 12)).length < 1000000) ∧ compW (cutT script1 (some 2) (some 12)) (fun cell_here1 kk => W_word cell_here1 fun z4 => kk (some z4)) fun ys1 => (okLine number1) ∧ ([(EV.mk 0 PySem.Str.empty 0 []), (EV.mk 1 PySem.Str.empty 0 []), (EV.mk 2 PySem.Str.empty 0 []), (EV.mk 3 PySem.Str.empty 0 []), (EV.mk 4 PySem.Str.empty 0 []), (EV.mk 5 z2 0 []), (EV.mk 6 z2 0 [])].length + [(EV.mk 7 z2 0 []), (EV.mk 8 PySem.Str.empty number1 []), (EV.mk 9 PySem.Str.empty 0 ys1)].length < 1000000) ∧ (ys1.length < 1000000) ∧ forW (enumT ([(EV.mk 0 PySem.Str.empty 0 []), (EV.mk 1 PySem.Str.empty 0 []), (EV.mk 2 PySem.Str.empty 0 []), (EV.mk 3 PySem.Str.empty 0 []), (EV.mk 4 PySem.Str.empty 0 []), (EV.mk 5 z2 0 []), (EV.mk 6 z2 0 [])] ++ [(EV.mk 7 z2 0 []), (EV.mk 8 PySem.Str.empty number1 []), (EV.mk 9 PySem.Str.empty 0 ys1)])) () (fun it1 _ nx1 bk1 => jn (fun kk => W_kinds it1.2 fun z5 => if z5 ≠ [it1.1] then (kk true) else (kk false)) fun b1 => if b1 = true then (R false) else (nx1 ())) fun _ => forW (cutT ([(EV.mk 0 PySem.Str.empty 0 []), (EV.mk 1 PySem.Str.empty 0 []), (EV.mk 2 PySem.Str.empty 0 []), (EV.mk 3 PySem.Str.empty 0 []), (EV.mk 4 PySem.Str.empty 0 []), (EV.mk 5 z2 0 []), (EV.mk 6 z2 0 [])] ++ [(EV.mk 7 z2 0 []), (EV.mk 8 PySem.Str.empty number1 []), (EV.mk 9 PySem.Str.empty 0 ys1)]) (some 5) (some 8)) () (fun e2 _ nx2 bk2 => (5 ≤ e2.k ∧ e2.k < 8) ∧ if e2.s ≠ z2 then (R false) else (nx2 ())) fun _ => jn (fun kk => ∃ x15, ([(EV.mk 0 PySem.Str.empty 0 []), (EV.mk 1 PySem.Str.empty 0 []), (EV.mk 2 PySem.Str.empty 0 []), (EV.mk 3 PySem.Str.empty 0 []), (EV.mk 4 PySem.Str.empty 0 []), (EV.mk 5 z2 0 []), (EV.mk 6 z2 0 [])] ++ [(EV.mk 7 z2 0 []), (EV.mk 8 PySem.Str.empty number1 []), (EV.mk 9 PySem.Str.empty 0 ys1)])[8]? = some x15 ∧ (x15.k = 8) ∧ if x15.n = number1 then (∃ x16, ([(EV.mk 0 PySem.Str.empty 0 []), (EV.mk 1 PySem.Str.empty 0 []), (EV.mk 2 PySem.Str.empty 0 []), (EV.mk 3 PySem.Str.empty 0 []), (EV.mk 4 PySem.Str.empty 0 []), (EV.mk 5 z2 0 []), (EV.mk 6 z2 0 [])] ++ [(EV.mk 7 z2 0 []), (EV.mk 8 PySem.Str.empty number1 []), (EV.mk 9 PySem.Str.empty 0 ys1)])[9]? = some x16 ∧ (x16.k = 9) ∧ (okV (pL pS) x16.l ∧ okV (pL pS) ys1) ∧ kk (decide (x16.l = ys1))) else (kk false)) fun b2 => R b2
def sp_law (K : PySem.W.Frag) (cc : Cz) : Sp := fun vs H Q _ => ∃ (F : Hp) (v1 : V) (script1 : List Int) (R : Bool → Prop), vs = [v1] ∧ Ex F H ∧ (pScr K).r F v1 script1 ∧ W_law script1 R ∧ ∀ z, R z → ∀ F' H', Wf F H F' H' → Q (.bl (z)) H'
abbrev N_law : List Str := ["_law_script", "_law_word_here", "_law_number", "_law_ring", "_law_cell_here", "_law_handed", "_law_made", "_law_k", "_law_e"]
theorem sc_law : FnScope N_law ["_law_script"] (defScope s_law) := ⟨rfl, rfl, rfl, by decide +kernel, rfl, by decide +kernel, by decide +kernel⟩
theorem ok_law {P : Program} {w0 : World} {K : PySem.W.Frag} {mg : Str → Option Value} {base : Heap} {f : Addr} {fd : FuncData} {cc : Cz} (T : Tz K mg cc) (FU : Fun K "law" "law" s_law f fd) (c_cell : Fn P w0 K mg base CX0 1 "_law_cell" ["_law_script", "_law_k"] (sp_cell K cc)) (c_word : Fn P w0 K mg base CX0 2 "_law_word" ["_law_cell_here"] (sp_word K cc)) (c_BadName___init__ : Xi P w0 K mg base CX0 2 cc.BadName ["self", "name"] (sp_xi "name" cc.BadName)) (c_Doubled___init__ : Xi P w0 K mg base CX0 2 cc.Doubled ["self", "name"] (sp_xi "name" cc.Doubled)) (c_NoWire___init__ : Xi P w0 K mg base CX0 2 cc.NoWire ["self", "name"] (sp_xi "name" cc.NoWire)) (c_BadLine___init__ : Xi P w0 K mg base CX0 2 cc.BadLine ["self", "line"] (sp_xiN "line" cc.BadLine)) (c_Ring___init__ : Xi P w0 K mg base CX0 2 cc.Ring ["self", "ring"] (sp_xiL "ring" cc.Ring)) (c_kinds : Fn P w0 K mg base CX0 1 "_law_kinds" ["_law_e"] (sp_kinds K cc)) (n_ValueError : mg "ValueError" = none) (n_enumerate : mg "enumerate" = none) (n_isinstance : mg "isinstance" = none) (n_list : mg "list" = none) : FnOk P w0 K mg base CX0 4 f fd ["_law_script"] (sp_law K cc) := by
  refine FU.ok sc_law (fun vs H Q E h => ?_) (fun cdv A outer s H0 vs Q E hr h => ?_)
  · obtain ⟨_, _, _, _, rfl, _⟩ := h; rfl
  · obtain ⟨F0, v1, script1, R, rfl, wf, r1, hW, hQ⟩ := h
    have nd := sc_law.nd
    refine ⟨(tSeq (tAsg (tCall (sp_word K cc) [] E0 (tCons (tCall (sp_cell K cc) [] E0 (tCons (tVar 0) (tCons (tC (.int 0)) tNil))) tNil)) (gName 1)) (tSeq (tAsg (tOp kMod (tCall (sp_cell K cc) [] E0 (tCons (tVar 0) (tCons (tC (.int 1)) tNil))) (tOp kPow (tC (.int 10)) (tC (.int 9)))) (gName 2)) (tSeq (tAsg (tLc (iList K (tSl (rSlL K) (tVar 0) (tPart (tC (.int 2))) (tPart (tC (.int 12))))) (gName 4) tYes (tCall (sp_word K cc) [] E0 (tCons (tVar 4) tNil)) [4]) (gName 3)) (tSeq (tAsg (tCB (rListOf K) (tCons (tVar 3) tNil)) (gName 5)) (tSeq (tAsg (tLst (tCons (tMk0 cc.BadSizes (tVar 1)) (tCons (tMk0 cc.TooMany (tVar 1)) (tCons (tMk0 cc.BadMask (tVar 1)) (tCons (tMk0 cc.BadTable (tVar 1)) (tCons (tMk0 cc.BadRow (tVar 1)) (tCons (tMkV cc.BadName (sp_xi "name" cc.BadName) [] (tCons (tVar 1) tNil)) (tCons (tMkV cc.Doubled (sp_xi "name" cc.Doubled) [] (tCons (tVar 1) tNil)) tNil)))))))) (gName 6)) (tSeq (tAsg (tOp L2.rCat (tVar 6) (tLst (tCons (tMkV cc.NoWire (sp_xi "name" cc.NoWire) [] (tCons (tVar 1) tNil)) (tCons (tMkV cc.BadLine (sp_xiN "line" cc.BadLine) [] (tCons (tVar 2) tNil)) (tCons (tMkV cc.Ring (sp_xiL "ring" cc.Ring) [] (tCons (tVar 5) tNil)) tNil))))) (gName 6)) (tSeq (tDrop (tBM K "list" rAppend (tVar 5) (tCons (tC (.str (PySem.Str.ofString "x"))) tNil))) (tSeq (tFor (iEnum K (tCons (tVar 6) tNil)) (gTup K 2 (gCons (gName 7) (gCons (gName 8) gNil))) (tIfS (tOr (tTest (tOp (L2.rNeD K) (tCall (sp_kinds K cc) [] E0 (tCons (tVar 8) tNil)) (tLst (tCons (tVar 7) tNil)))) (tOr (tNot (tB (tCB (rIsV K) (tCons (tVar 8) (tCons (tC (.ref cc.WireError)) tNil))))) (tNot (tB (tCB (rIsV K) (tCons (tVar 8) (tCons (tC (.ty "ValueError")) tNil))))))) (tRet (tC (.bl false))) tNext)) (tSeq (tFor (iList K (tSl (rSlL K) (tVar 6) (tPart (tC (.int 5))) (tPart (tC (.int 8))))) (gName 8) (tIfS (tTest (tOp L2.rNe (tXv K "name" (tVar 8)) (tVar 1))) (tRet (tC (.bl false))) tNext)) (tRet (tAndV (tOp L2.rEq (tXv K "line" (tOp (L2.rIxL K) (tVar 6) (tC (.int 8)))) (tVar 2)) (tOp (L2.rEqD K) (tXv K "ring" (tOp (L2.rIxL K) (tVar 6) (tC (.int 9)))) (tVar 3))))))))))))), (pss_cons (ps_set (i := 1) nd rfl (Or.inl rfl) (pe_fn c_word (hr.mono (by decide)) rfl (pa_cons (pe_fn c_cell (hr.mono (by decide)) rfl (pa_cons (pv 0) (pa_cons pe_int pa_nil))) pa_nil))) (pss_cons (ps_set (i := 2) nd rfl (Or.inl rfl) (pe_op op_mod (pe_fn c_cell (hr.mono (by decide)) rfl (pa_cons (pv 0) (pa_cons pe_int pa_nil))) (pe_op op_pow pe_int pe_int))) (pss_cons (ps_setLc (i := 3) (own := [("_law_cell_here", 4)]) (wi := (iList K (tSl (rSlL K) (tVar 0) (tPart (tC (.int 2))) (tPart (tC (.int 12)))))) (g := (gName 4)) (tt := tYes) (te := (tCall (sp_word K cc) [] E0 (tCons (tVar 4) tNil))) rfl nd rfl rfl (sw_true rfl rfl rfl (by decide +kernel)) (pi_list (pe_slice sl_list (pv 0) (po_some pe_int) (po_some pe_int))) (blkOk_by (N := N_law) (sc := defScope s_law) (by decide +kernel)) (fun _ _ _ _ _ => (pg_name (i := 4) nd rfl (Or.inl rfl))) (fun _ _ _ _ _ => pts_nil) (fun _ _ _ _ _ => (pe_fn c_word (hr.mono (by decide)) rfl (pa_cons (pv 4) pa_nil)))) (pss_cons (ps_set (i := 5) nd rfl (Or.inl rfl) (pe_callTy call_list_of (by rfl) n_list PyProof.Rows.boot_list (pa_cons (pv 3) pa_nil))) (pss_cons (ps_set (i := 6) nd rfl (Or.inl rfl) (pe_lst (pa_cons (pe_mk0 T.xc_BadSizes (by rfl) (pv 1)) (pa_cons (pe_mk0 T.xc_TooMany (by rfl) (pv 1)) (pa_cons (pe_mk0 T.xc_BadMask (by rfl) (pv 1)) (pa_cons (pe_mk0 T.xc_BadTable (by rfl) (pv 1)) (pa_cons (pe_mk0 T.xc_BadRow (by rfl) (pv 1)) (pa_cons (pe_mkX c_BadName___init__ T.xc_BadName.ox (hr.mono (by decide)) (by rfl) T.xc_BadName.g (pv 1)) (pa_cons (pe_mkX c_Doubled___init__ T.xc_Doubled.ox (hr.mono (by decide)) (by rfl) T.xc_Doubled.g (pv 1)) pa_nil))))))))) (pss_cons (ps_set (i := 6) nd rfl (Or.inl rfl) (pe_op op_cat (pv 6) (pe_lst (pa_cons (pe_mkX c_NoWire___init__ T.xc_NoWire.ox (hr.mono (by decide)) (by rfl) T.xc_NoWire.g (pv 1)) (pa_cons (pe_mkX c_BadLine___init__ T.xc_BadLine.ox (hr.mono (by decide)) (by rfl) T.xc_BadLine.g (pv 2)) (pa_cons (pe_mkX c_Ring___init__ T.xc_Ring.ox (hr.mono (by decide)) (by rfl) T.xc_Ring.g (pv 5)) pa_nil)))))) (pss_cons (ps_expr (pe_bm PySem.F.plainAttrs_list PySem.F.slot_list_append PySem.F.type_list_append mt_append (pv 5) (pa_cons pe_str pa_nil))) (pss_cons (ps_for PassesOwn.never rfl (pi_enum (by rfl) n_enumerate (pa_cons (pv 6) pa_nil)) (pg_tup rfl (pgs_cons (pg_name (i := 7) nd rfl (Or.inl rfl)) (pgs_cons (pg_name (i := 8) nd rfl (Or.inl rfl)) pgs_nil)) (by rfl)) (pss_one (ps_if (PW.pt (pw_or (pt_cmpR (op_neD hr.units) (pe_fn c_kinds (hr.mono (by decide)) rfl (pa_cons (pv 8) pa_nil)) (pe_lst (pa_cons (pv 7) pa_nil)) (nomark _)) (pw_or (pt_not (pt_val (pe_callB call_isV (by rfl) n_isinstance PyProof.Rows.boot_isinstance (pa_cons (pv 8) (pa_cons (pe_glob (by rfl) T.xc_WireError.g rfl) pa_nil))))) (pw_or1 (pt_not (pt_val (pe_callB call_isV (by rfl) n_isinstance PyProof.Rows.boot_isinstance (pa_cons (pv 8) (pa_cons (pe_bltn (v := .ty "ValueError") (by rfl) n_ValueError (by kernel_rfl) rfl) pa_nil))))))))) (pss_one (ps_ret pe_bl)) pss_nil))) (pss_cons (ps_for PassesOwn.never rfl (pi_list (pe_slice sl_list (pv 6) (po_some pe_int) (po_some pe_int))) (pg_name (i := 8) nd rfl (Or.inl rfl)) (pss_one (ps_if (pt_cmpR op_ne (pe_xv (pv 8)) (pv 1) (nomark _)) (pss_one (ps_ret pe_bl)) pss_nil))) (pss_one (ps_ret (pe_and (pe_cmpR op_eq (pe_xv (pe_ix ix_list (pv 6) pe_int (fun _ _ => rfl))) (pv 2) (nomark _)) (pe_one (pe_cmpR (op_eqD hr.units) (pe_xv (pe_ix ix_list (pv 6) pe_int (fun _ _ => rfl))) (pv 3) (nomark _))))))))))))))), ?_⟩
    have w := Wf.id wf
    refine q_sq fun N1 hN1 => ?_
    refine a_asgE ?_
    refine e_call ?_
    refine a_cons ?_
    refine e_call ?_
    refine a_val (v := v1) (val_var rfl) ?_
    refine a_val (v := (.int ((0 : Nat) : Int))) val_c ?_
    refine a_nil ?_
    refine ⟨F0, (v1), (script1), (0), _, rfl, w.f, r1, hW, ?_⟩
    intro z1 hW F1 H1 s1
    replace r1 := Rep.mono _ s1.g r1
    replace w := w.tr s1
    refine a_nil ?_
    refine ⟨F1, (z1), _, rfl, w.f, hW, ?_⟩
    intro z2 hW F2 H2 s2
    replace r1 := Rep.mono _ s2.g r1
    replace w := w.tr s2
    refine hN1 _ _ ?_
    refine q_sq fun N2 hN2 => ?_
    refine a_asgE ?_
    refine e_op ?_
    refine e_call ?_
    refine a_val (v := v1) (val_var rfl) ?_
    refine a_val (v := (.int ((1 : Nat) : Int))) val_c ?_
    refine a_nil ?_
    refine ⟨F2, (v1), (script1), (1), _, rfl, w.f, r1, hW, ?_⟩
    intro z3 hW F3 H3 s3
    replace r1 := Rep.mono _ s3.g r1
    replace w := w.tr s3
    refine e_val (v := (.int ((1000000000 : Nat) : Int))) (vn_pow (a := 10) (b := 9) (c := 1000000000) val_c val_c ⟨by decide, by decide⟩ (by decide +kernel)) ?_
    refine rv2 (z := (.int ((modN z3 1000000000 : Nat) : Int))) (vm_mod val_c val_c (by decide)) ?_
    obtain ⟨number1, enumber1⟩ : ∃ number1 : Nat, number1 = modN z3 1000000000 := ⟨_, rfl⟩
    replace hW := hW number1 enumber1
    refine nx_set (v := (.int ((number1 : Nat) : Int))) (by rw [enumber1]) ?_
    refine hN2 _ _ ?_
    refine q_sq fun N3 hN3 => ?_
    refine a_asgE ?_
    refine c_LE ?_
    refine n_cutS (lo := (some 2)) (hi := (some 12)) r1 (val_var rfl) (po_s (n := 2) val_c) (po_s (n := 12) val_c) w ?_
    intro p1 H4 hp1 s4 x1
    replace r1 := Rep.mono _ s4.g r1
    replace w := w.tr s4
    obtain ⟨F4, w1, g1, r2, fz1⟩ := x1.frzE w
    replace r1 := Rep.mono _ g1 r1
    replace w := w1
    obtain ⟨c1, hW⟩ := hW
    refine w_compL (e := pS) r2 w c1 hW ?_ ?_
    · intro Qy Qn cell_here1 u1 F5 H5 R1 q1 hx1 ru1 hW hy1 hn1
      have r1 := Rep.mono _ q1.g r1
      have r2 := Rep.mono _ q1.g r2
      have w := Wf.id q1.f
      obtain rfl : u1 = (.int (cell_here1)) := ru1
      refine ⟨rfl, ?_⟩
      refine c_yes ?_
      refine e_call ?_
      refine a_val (v := (.int (cell_here1))) (val_var rfl) ?_
      refine a_nil ?_
      refine ⟨F5, (cell_here1), _, rfl, w.f, hW, ?_⟩
      intro z4 hW F6 H6 s5
      replace r1 := Rep.mono _ s5.g r1
      replace r2 := Rep.mono _ s5.g r2
      replace w := w.tr s5
      exact hy1 _ _ _ _ w rfl hW
    intro p2 ys1 F7 H7 hp2 s6 x2 hW
    replace r1 := Rep.mono _ s6.g r1
    replace r2 := Rep.mono _ s6.g r2
    replace w := w.tr s6
    obtain ⟨F8, w2, g2, r3, fz2⟩ := x2.frzE w
    replace r1 := Rep.mono _ g2 r1
    replace r2 := Rep.mono _ g2 r2
    replace w := w2
    refine hN3 _ _ ?_
    refine q_sq fun N4 hN4 => ?_
    refine a_asgE ?_
    refine e_cb ?_
    refine a_val (v := (.ref p2)) (val_var rfl) ?_
    refine a_nil ?_
    refine n_listX r3 w ?_
    intro p3 H8 hp3 s7 x3
    replace r1 := Rep.mono _ s7.g r1
    replace r3 := Rep.mono _ s7.g r3
    replace w := w.tr s7
    refine hN4 _ _ ?_
    refine q_sq fun N5 hN5 => ?_
    refine a_asgE ?_
    refine e_lst ?_
    refine a_cons ?_
    refine n_ev0 (C := evC cc) (k := 0) (s := PySem.Str.empty) (n := 0) (l := []) (by decide) (val_var rfl) w ?_
    intro p4 F9 H9 s8 r4
    replace r1 := Rep.mono _ s8.g r1
    replace r3 := Rep.mono _ s8.g r3
    replace x3 := x3.step s8
    replace w := w.tr s8
    refine a_cons ?_
    refine n_ev0 (C := evC cc) (k := 1) (s := PySem.Str.empty) (n := 0) (l := []) (by decide) (val_var rfl) w ?_
    intro p5 F10 H10 s9 r5
    replace r1 := Rep.mono _ s9.g r1
    replace r3 := Rep.mono _ s9.g r3
    replace x3 := x3.step s9
    replace r4 := Rep.mono _ s9.g r4
    replace w := w.tr s9
    refine a_cons ?_
    refine n_ev0 (C := evC cc) (k := 2) (s := PySem.Str.empty) (n := 0) (l := []) (by decide) (val_var rfl) w ?_
    intro p6 F11 H11 s10 r6
    replace r1 := Rep.mono _ s10.g r1
    replace r3 := Rep.mono _ s10.g r3
    replace x3 := x3.step s10
    replace r4 := Rep.mono _ s10.g r4
    replace r5 := Rep.mono _ s10.g r5
    replace w := w.tr s10
    refine a_cons ?_
    refine n_ev0 (C := evC cc) (k := 3) (s := PySem.Str.empty) (n := 0) (l := []) (by decide) (val_var rfl) w ?_
    intro p7 F12 H12 s11 r7
    replace r1 := Rep.mono _ s11.g r1
    replace r3 := Rep.mono _ s11.g r3
    replace x3 := x3.step s11
    replace r4 := Rep.mono _ s11.g r4
    replace r5 := Rep.mono _ s11.g r5
    replace r6 := Rep.mono _ s11.g r6
    replace w := w.tr s11
    refine a_cons ?_
    refine n_ev0 (C := evC cc) (k := 4) (s := PySem.Str.empty) (n := 0) (l := []) (by decide) (val_var rfl) w ?_
    intro p8 F13 H13 s12 r8
    replace r1 := Rep.mono _ s12.g r1
    replace r3 := Rep.mono _ s12.g r3
    replace x3 := x3.step s12
    replace r4 := Rep.mono _ s12.g r4
    replace r5 := Rep.mono _ s12.g r5
    replace r6 := Rep.mono _ s12.g r6
    replace r7 := Rep.mono _ s12.g r7
    replace w := w.tr s12
    refine a_cons ?_
    refine n_ev5 (C := evC cc) (k := 5) (s := z2) (n := 0) (l := []) (by decide) (val_var rfl) w ?_
    intro p9 F14 H14 s13 r9
    replace r1 := Rep.mono _ s13.g r1
    replace r3 := Rep.mono _ s13.g r3
    replace x3 := x3.step s13
    replace r4 := Rep.mono _ s13.g r4
    replace r5 := Rep.mono _ s13.g r5
    replace r6 := Rep.mono _ s13.g r6
    replace r7 := Rep.mono _ s13.g r7
    replace r8 := Rep.mono _ s13.g r8
    replace w := w.tr s13
    refine a_cons ?_
    refine n_ev5 (C := evC cc) (k := 6) (s := z2) (n := 0) (l := []) (by decide) (val_var rfl) w ?_
    intro p10 F15 H15 s14 r10
    replace r1 := Rep.mono _ s14.g r1
    replace r3 := Rep.mono _ s14.g r3
    replace x3 := x3.step s14
    replace r4 := Rep.mono _ s14.g r4
    replace r5 := Rep.mono _ s14.g r5
    replace r6 := Rep.mono _ s14.g r6
    replace r7 := Rep.mono _ s14.g r7
    replace r8 := Rep.mono _ s14.g r8
    replace r9 := Rep.mono _ s14.g r9
    replace w := w.tr s14
    refine a_nil ?_
    refine n_lstX (e := (pEV (evC cc))) (xs := [(EV.mk 0 PySem.Str.empty 0 []), (EV.mk 1 PySem.Str.empty 0 []), (EV.mk 2 PySem.Str.empty 0 []), (EV.mk 3 PySem.Str.empty 0 []), (EV.mk 4 PySem.Str.empty 0 []), (EV.mk 5 z2 0 []), (EV.mk 6 z2 0 [])]) (vs := [(.ref p4), (.ref p5), (.ref p6), (.ref p7), (.ref p8), (.ref p9), (.ref p10)]) (show All (pEV (evC cc)) _ [(.ref p4), (.ref p5), (.ref p6), (.ref p7), (.ref p8), (.ref p9), (.ref p10)] [(EV.mk 0 PySem.Str.empty 0 []), (EV.mk 1 PySem.Str.empty 0 []), (EV.mk 2 PySem.Str.empty 0 []), (EV.mk 3 PySem.Str.empty 0 []), (EV.mk 4 PySem.Str.empty 0 []), (EV.mk 5 z2 0 []), (EV.mk 6 z2 0 [])] from ⟨r4, ⟨r5, ⟨r6, ⟨r7, ⟨r8, ⟨r9, ⟨r10, trivial⟩⟩⟩⟩⟩⟩⟩) (show 7 < 1000000 from by decide) w ?_
    intro p11 H16 hp4 s15 x4
    have ne1 := x3.ne hp4
    replace r1 := Rep.mono _ s15.g r1
    replace r3 := Rep.mono _ s15.g r3
    replace x3 := x3.step s15
    replace r4 := Rep.mono _ s15.g r4
    replace r5 := Rep.mono _ s15.g r5
    replace r6 := Rep.mono _ s15.g r6
    replace r7 := Rep.mono _ s15.g r7
    replace r8 := Rep.mono _ s15.g r8
    replace r9 := Rep.mono _ s15.g r9
    replace r10 := Rep.mono _ s15.g r10
    replace w := w.tr s15
    obtain ⟨F16, w3, g3, r11, fz3⟩ := x4.frzE w
    replace r1 := Rep.mono _ g3 r1
    replace r3 := Rep.mono _ g3 r3
    replace x3 := x3.frzO fz3 ne1 g3
    replace r4 := Rep.mono _ g3 r4
    replace r5 := Rep.mono _ g3 r5
    replace r6 := Rep.mono _ g3 r6
    replace r7 := Rep.mono _ g3 r7
    replace r8 := Rep.mono _ g3 r8
    replace r9 := Rep.mono _ g3 r9
    replace r10 := Rep.mono _ g3 r10
    replace w := w3
    refine hN5 _ _ ?_
    refine q_sq fun N6 hN6 => ?_
    refine a_asgE ?_
    refine e_op ?_
    refine e_val (v := (.ref p11)) (val_var rfl) ?_
    refine e_lst ?_
    refine a_cons ?_
    refine n_ev5 (C := evC cc) (k := 7) (s := z2) (n := 0) (l := []) (by decide) (val_var rfl) w ?_
    intro p12 F17 H17 s16 r12
    replace r1 := Rep.mono _ s16.g r1
    replace r3 := Rep.mono _ s16.g r3
    replace x3 := x3.step s16
    replace r11 := Rep.mono _ s16.g r11
    replace w := w.tr s16
    refine a_cons ?_
    obtain ⟨c2, hW⟩ := hW
    refine n_ev8 (C := evC cc) (s := PySem.Str.empty) (n := number1) (l := []) c2 (val_var rfl) w ?_
    intro p13 F18 H18 s17 r13
    replace r1 := Rep.mono _ s17.g r1
    replace r3 := Rep.mono _ s17.g r3
    replace x3 := x3.step s17
    replace r11 := Rep.mono _ s17.g r11
    replace r12 := Rep.mono _ s17.g r12
    replace w := w.tr s17
    refine a_cons ?_
    refine n_ev9 (C := evC cc) (s := PySem.Str.empty) (n := 0) x3 (val_var rfl) w ?_
    intro p14 F19 H19 s18 r14
    replace r1 := Rep.mono _ s18.g r1
    replace r3 := Rep.mono _ s18.g r3
    replace x3 := x3.step s18
    replace r11 := Rep.mono _ s18.g r11
    replace r12 := Rep.mono _ s18.g r12
    replace r13 := Rep.mono _ s18.g r13
    replace w := w.tr s18
    refine a_nil ?_
    refine n_lstX (e := (pEV (evC cc))) (xs := [(EV.mk 7 z2 0 []), (EV.mk 8 PySem.Str.empty number1 []), (EV.mk 9 PySem.Str.empty 0 ys1)]) (vs := [(.ref p12), (.ref p13), (.ref p14)]) (show All (pEV (evC cc)) _ [(.ref p12), (.ref p13), (.ref p14)] [(EV.mk 7 z2 0 []), (EV.mk 8 PySem.Str.empty number1 []), (EV.mk 9 PySem.Str.empty 0 ys1)] from ⟨r12, ⟨r13, ⟨r14, trivial⟩⟩⟩) (show 3 < 1000000 from by decide) w ?_
    intro p15 H20 hp5 s19 x5
    have ne2 := x3.ne hp5
    replace r1 := Rep.mono _ s19.g r1
    replace r3 := Rep.mono _ s19.g r3
    replace x3 := x3.step s19
    replace r11 := Rep.mono _ s19.g r11
    replace r12 := Rep.mono _ s19.g r12
    replace r13 := Rep.mono _ s19.g r13
    replace r14 := Rep.mono _ s19.g r14
    replace w := w.tr s19
    obtain ⟨F20, w4, g4, r15, fz4⟩ := x5.frzE w
    replace r1 := Rep.mono _ g4 r1
    replace r3 := Rep.mono _ g4 r3
    replace x3 := x3.frzO fz4 ne2 g4
    replace r11 := Rep.mono _ g4 r11
    replace r12 := Rep.mono _ g4 r12
    replace r13 := Rep.mono _ g4 r13
    replace r14 := Rep.mono _ g4 r14
    replace w := w4
    obtain ⟨c3, hW⟩ := hW
    refine n_cat r11 r15 w c3 ?_
    intro p16 H21 hp6 s20 x6
    have ne3 := x3.ne hp6
    replace r1 := Rep.mono _ s20.g r1
    replace r3 := Rep.mono _ s20.g r3
    replace x3 := x3.step s20
    replace r11 := Rep.mono _ s20.g r11
    replace r12 := Rep.mono _ s20.g r12
    replace r13 := Rep.mono _ s20.g r13
    replace r14 := Rep.mono _ s20.g r14
    replace r15 := Rep.mono _ s20.g r15
    replace w := w.tr s20
    obtain ⟨F21, w5, g5, r16, fz5⟩ := x6.frzE w
    replace r1 := Rep.mono _ g5 r1
    replace r3 := Rep.mono _ g5 r3
    replace x3 := x3.frzO fz5 ne3 g5
    replace r11 := Rep.mono _ g5 r11
    replace r12 := Rep.mono _ g5 r12
    replace r13 := Rep.mono _ g5 r13
    replace r14 := Rep.mono _ g5 r14
    replace r15 := Rep.mono _ g5 r15
    replace w := w5
    refine hN6 _ _ ?_
    refine q_sq fun N7 hN7 => ?_
    refine a_dropE ?_
    refine m_list x3 (val_var rfl) ?_
    refine a_val (v := (.str ((PySem.Str.ofString "x")))) val_c ?_
    refine a_nil ?_
    obtain ⟨c4, hW⟩ := hW
    refine a_app x3 w c4 rfl (fun H22 w6 x7 kp1 => ?_)
    replace w := w6
    refine hN7 _ _ ?_
    refine q_sq fun N8 hN8 => ?_
    refine f_J ?_
    refine a_val (v := (.ref p16)) (val_var rfl) ?_
    refine a_nil ?_
    refine src_enum r16 w.f (fun a1 T1 => ?_)
    refine w_forG (S := Unit) T1 (fun _ σ' F' H' => ∃ (o1 : Option V) (o2 : Option V), Wf F0 H0 F' H' ∧ Ex F21 F' ∧ σ' = [some v1, some (.str (z2)), some (.int ((number1 : Nat) : Int)), some (.ref p2), none, some (.ref p3), some (.ref p16), o1, o2] ∧ XL pS H0 F' H' p3 (ys1 ++ [(PySem.Str.ofString "x")])) hW ⟨_, _, w, Ex.rfl', rfl, x7⟩ (fun s σ' F' H' hI => by obtain ⟨_, _, w', gx', _⟩ := hI; exact ⟨gx', w'.f⟩) w.f ?_ ?_
    · intro N9 Bk1 it1 u2 s21 σ' F22 H23 F23 H24 nx1 bk1 hI1 hx2 s22 ru2 hW hN9 hB1
      obtain ⟨o1, o2, w, gx1, rfl, x8⟩ := hI1
      have r1 := Rep.mono _ gx1 r1
      have r3 := Rep.mono _ gx1 r3
      have r16 := Rep.mono _ gx1 r16
      replace r1 := Rep.mono _ s22.g r1
      replace r3 := Rep.mono _ s22.g r3
      replace x8 := x8.step s22
      replace r16 := Rep.mono _ s22.g r16
      replace w := w.tr s22
      replace gx1 := Ex.tr gx1 s22.g
      obtain ⟨p17, u3, u4, rfl, h1, rfl, r17⟩ := ru2
      refine ⟨p17, _, rfl, SqT.of (w.f _ _ h1), rfl, _, _, rfl, _, _, rfl, rfl, ?_⟩
      refine a_ifE ?_
      refine e_jnT hW (fun b F' H' => b = b ∧ Wf F0 H0 F' H' ∧ Ex F23 F' ∧ XL pS H0 F' H' p3 (ys1 ++ [(PySem.Str.ofString "x")])) ?_ ?_
      · intro N10 hN10 hW
        have gx2 : Ex F23 F23 := Ex.rfl'
        refine e_tOr ?_
        refine e_tT ?_
        refine e_op ?_
        refine e_call ?_
        refine a_val (v := u4) (val_var rfl) ?_
        refine a_nil ?_
        refine ⟨F23, (u4), (it1.2), _, rfl, w.f, r17, hW, ?_⟩
        intro z5 hW p18 F24 H25 s23 x10
        have ne4 := x8.ne x10.zero
        replace x10 := x10.base w
        replace r1 := Rep.mono _ s23.g r1
        replace r3 := Rep.mono _ s23.g r3
        replace x8 := x8.step s23
        replace r16 := Rep.mono _ s23.g r16
        replace r17 := Rep.mono _ s23.g r17
        replace w := w.tr s23
        replace gx2 := Ex.tr gx2 s23.g
        replace gx1 := Ex.tr gx1 s23.g
        refine e_lst ?_
        refine a_val (v := (.int ((it1.1 : Nat) : Int))) (val_var rfl) ?_
        refine a_nil ?_
        refine n_lstX (e := pN) (xs := [it1.1]) (vs := [(.int ((it1.1 : Nat) : Int))]) (show All pN _ [(.int ((it1.1 : Nat) : Int))] [it1.1] from ⟨rfl, trivial⟩) (show 1 < 1000000 from by decide) w ?_
        intro p19 H26 hp7 s24 x11
        have ne5 := x8.ne hp7
        have ne6 := x10.ne hp7
        replace r1 := Rep.mono _ s24.g r1
        replace r3 := Rep.mono _ s24.g r3
        replace x8 := x8.step s24
        replace r16 := Rep.mono _ s24.g r16
        replace r17 := Rep.mono _ s24.g r17
        replace x10 := x10.step s24
        replace w := w.tr s24
        replace gx2 := Ex.tr gx2 s24.g
        replace gx1 := Ex.tr gx1 s24.g
        obtain ⟨F25, w7, g6, r18, fz6⟩ := x10.frzE w
        replace r1 := Rep.mono _ g6 r1
        replace r3 := Rep.mono _ g6 r3
        replace x8 := x8.frzO fz6 ne4 g6
        replace r16 := Rep.mono _ g6 r16
        replace r17 := Rep.mono _ g6 r17
        replace x11 := x11.frzO fz6 (Ne.symm ne6) g6
        replace w := w7
        replace gx2 := Ex.tr gx2 g6
        replace gx1 := Ex.tr gx1 g6
        obtain ⟨F26, w8, g7, r19, fz7⟩ := x11.frzE w
        replace r1 := Rep.mono _ g7 r1
        replace r3 := Rep.mono _ g7 r3
        replace x8 := x8.frzO fz7 ne5 g7
        replace r16 := Rep.mono _ g7 r16
        replace r17 := Rep.mono _ g7 r17
        replace r18 := Rep.mono _ g7 r18
        replace w := w8
        replace gx2 := Ex.tr gx2 g7
        replace gx1 := Ex.tr gx1 g7
        refine rv2T (b := decide (z5 ≠ [it1.1])) (c_neD (K := K) (e := (pL pN)) val_c val_c w.f r18 w.f r19) ?_
        refine b_if (fun hc1 => ?_) (fun hc1 => ?_)
        · have hW := ifP hW hc1
          exact hN10 true _ _ ⟨rfl, w, gx2, x8⟩ hW
        · have hW := ifN hW hc1
          refine e_ans (b := false) (t_dec (t_iff (p := (¬ (True)) ∨ (¬ (True))) (q := False) (t_or (t_not (t_ofB (vb_of (v_isEv (c := .ref cc.WireError) (cv := .ref cc.WireError) (b := fun _ => true) r17 w.f (val_var rfl) (ev_e T) (fun _ z => z) (ev_w T)) dec_T))) (fun _ => (t_not (t_ofB (vb_of (v_isEv (c := .ty "ValueError") (cv := .type "ValueError") (b := fun _ => true) r17 w.f (val_var rfl) (ev_e T) (fun _ z => z) (ev_v T)) dec_T))))) (by simp)) dec_F.symm) ?_
          exact hN10 false _ _ ⟨rfl, w, gx2, x8⟩ hW
      intro b1 F27 H27 hI2 hW
      obtain ⟨_, w, gx3, x9⟩ := hI2
      have r1 := Rep.mono _ gx3 r1
      have r3 := Rep.mono _ gx3 r3
      have r16 := Rep.mono _ gx3 r16
      have r17 := Rep.mono _ gx3 r17
      have gx1 := Ex.tr gx1 gx3
      refine bb_if (fun hc2 => ?_) (fun hc2 => ?_)
      · have hW := ifP hW hc2
        refine a_ret (v := (.bl (false))) val_c ?_
        exact hQ _ hW _ _ w
      · have hW := ifN hW hc2
        exact hN9 () _ _ _ ⟨_, _, w, gx1, rfl, x9⟩ hW
    · intro s25 σ' F28 H28 hI3 hW
      obtain ⟨o1, o2, w, gx4, rfl, x8⟩ := hI3
      have r1 := Rep.mono _ gx4 r1
      have r3 := Rep.mono _ gx4 r3
      have r16 := Rep.mono _ gx4 r16
      refine hN8 _ _ ?_
      refine q_sq fun N11 hN11 => ?_
      refine f_LE ?_
      refine n_cutX (lo := (some 5)) (hi := (some 8)) r16 (val_var rfl) (po_s (n := 5) val_c) (po_s (n := 8) val_c) w ?_
      intro p20 H29 hp8 s26 x12
      have ne7 := x8.ne hp8
      replace r1 := Rep.mono _ s26.g r1
      replace r3 := Rep.mono _ s26.g r3
      replace x8 := x8.step s26
      replace r16 := Rep.mono _ s26.g r16
      replace w := w.tr s26
      replace gx4 := Ex.tr gx4 s26.g
      obtain ⟨F29, w9, g8, r20, fz8⟩ := x12.frzE w
      replace r1 := Rep.mono _ g8 r1
      replace r3 := Rep.mono _ g8 r3
      replace x8 := x8.frzO fz8 ne7 g8
      replace r16 := Rep.mono _ g8 r16
      replace w := w9
      replace gx4 := Ex.tr gx4 g8
      refine w_forL (S := Unit) (fun _ σ' F' H' => ∃ (o3 : Option V), Wf F0 H0 F' H' ∧ Ex F29 F' ∧ σ' = [some v1, some (.str (z2)), some (.int ((number1 : Nat) : Int)), some (.ref p2), none, some (.ref p3), some (.ref p16), o1, o3] ∧ XL pS H0 F' H' p3 (ys1 ++ [(PySem.Str.ofString "x")])) r20 hW ⟨_, w, Ex.rfl', rfl, x8⟩ (fun s σ' F' H' hI => by obtain ⟨_, w', gx', _⟩ := hI; exact ⟨gx', w'.f⟩) w.f ?_ ?_
      · intro N12 Bk2 e2 u5 s27 σ' F30 H30 nx2 bk2 hI4 hx3 ru3 hW hN12 hB2
        obtain ⟨o3, w, gx5, rfl, x13⟩ := hI4
        have r1 := Rep.mono _ gx5 r1
        have r3 := Rep.mono _ gx5 r3
        have r16 := Rep.mono _ gx5 r16
        have r20 := Rep.mono _ gx5 r20
        have gx4 := Ex.tr gx4 gx5
        refine g_name ?_
        refine a_ifE ?_
        obtain ⟨c5, hW⟩ := hW
        refine e_ans (b := decide (e2.s ≠ z2)) (t_of (c_neS (v_evName ru3 w.f (val_var rfl) c5 (ev_n T)) (val_var rfl))) ?_
        refine b_if (fun hc3 => ?_) (fun hc3 => ?_)
        · have hW := ifP hW hc3
          refine a_ret (v := (.bl (false))) val_c ?_
          exact hQ _ hW _ _ w
        · have hW := ifN hW hc3
          exact hN12 () _ _ _ ⟨_, w, gx5, rfl, x13⟩ hW
      · intro s28 σ' F31 H31 hI5 hW
        obtain ⟨o3, w, gx6, rfl, x13⟩ := hI5
        have r1 := Rep.mono _ gx6 r1
        have r3 := Rep.mono _ gx6 r3
        have r16 := Rep.mono _ gx6 r16
        have r20 := Rep.mono _ gx6 r20
        have gx4 := Ex.tr gx4 gx6
        refine hN11 _ _ ?_
        refine a_retE ?_
        refine e_jnV hW (fun b F' H' => b = b ∧ Wf F0 H0 F' H' ∧ Ex F31 F' ∧ XL pS H0 F' H' p3 (ys1 ++ [(PySem.Str.ofString "x")])) ?_ ?_
        · intro N13 hN13 hW
          have gx7 : Ex F31 F31 := Ex.rfl'
          refine e_AndV ?_
          obtain ⟨x15, hx15_1, hW⟩ := hW
          obtain ⟨v2, r21, ix1⟩ := ix_L (K := K) r16 w.f hx15_1
          obtain ⟨c6, hW⟩ := hW
          refine e_val (v := .bl (decide (x15.n = number1))) (vb_dec (c_eqI (v_evLine r21 w.f (ix1 (val_var rfl) val_c) c6 ⟨T.xc_BadLine.xf, T.xc_BadLine.no⟩) (val_var rfl)) n_eq) ?_
          refine bl_if ?_
          refine b_if (fun hc4 => ?_) (fun hc4 => ?_)
          · have hW := ifP hW hc4
            obtain ⟨x16, hx16_1, hW⟩ := hW
            obtain ⟨v3, r22, ix2⟩ := ix_L (K := K) r16 w.f hx16_1
            obtain ⟨c7, hW⟩ := hW
            obtain ⟨v4, r23, hx4⟩ := v_evRing (K := K) (C := evC cc) r22 w.f c7 ⟨T.xc_Ring.xf, T.xc_Ring.no⟩
            obtain ⟨c8, hW⟩ := hW
            refine e_val (v := .bl (decide (x16.l = ys1))) (c_eqO (K := K) (e := (pL pS)) (hx4 (ix2 (val_var rfl) val_c)) (val_var rfl) w.f r23 w.f r3 c8) ?_
            exact hN13 (decide (x16.l = ys1)) _ _ ⟨rfl, w, gx7, x13⟩ hW
          · have hW := ifN hW hc4
            exact hN13 false _ _ ⟨rfl, w, gx7, x13⟩ hW
        intro b2 F32 H32 hI6 hW
        obtain ⟨_, w, gx8, x14⟩ := hI6
        have r1 := Rep.mono _ gx8 r1
        have r3 := Rep.mono _ gx8 r3
        have r16 := Rep.mono _ gx8 r16
        have gx6 := Ex.tr gx6 gx8
        have gx4 := Ex.tr gx4 gx8
        exact hQ _ hW _ _ w
end My
namespace My
open Wk
def cellV (s : List Int) (k : Nat) : Int := if h : k < s.length then s[k] else ((41 * k + 3 : Nat) : Int)
theorem w_cell {s : List Int} {k : Nat} {R : Int → Prop} (h : R (cellV s k)) : W_cell s k R := by
  unfold W_cell
  unfold cellV at h
  by_cases e : k < s.length
  · rw [dif_pos e] at h; rw [if_pos e]; exact ⟨_, List.getElem?_eq_getElem e, h⟩
  · rw [dif_neg e] at h; rw [if_neg e]; exact h
def mixN (c : Int) (k : Nat) : Nat := (((modN c 2147483647) * 48271) + (7919 * k) + 11) % 2147483647
def mixV (c : Int) (k : Nat) : Nat := ((mixN c k * mixN c k % 2147483629) * ((mixN c k * mixN c k % 2147483629 + 48271 * k) + 7)) % 2147483587
theorem w_mix {c : Int} {k : Nat} {R : Nat → Prop} (h : R (mixV c k)) : W_mix c k R := by
  rintro _ rfl
  have b : mixN c k < 2 ^ 64 := Nat.lt_trans (Nat.mod_lt _ (by decide)) (by decide)
  refine ⟨.inl b, ?_⟩
  rintro _ rfl
  exact ⟨.inl (Nat.lt_trans (Nat.mod_lt _ (by decide)) (by decide)), h⟩
end My
namespace My
open Wk PySem
theorem cps_lit (s : String) : (Str.ofString s).cps.toList = s.toList.map Char.toNat := PyProof.Rows.signs_ofString s
theorem lE : (Str.ofString "").cps.toList = [] := by rw [cps_lit]; rfl
theorem len_app (x y : Str) : (x ++ y).length = x.length + y.length := Str.length_append x y
theorem okS_all {x : Str} : okS x ↔ ∀ c ∈ x.cps.toList, c < 0x110000 := by
  show (x.cps.all (· < 0x110000)) = true ↔ _
  rw [← Array.all_toList, List.all_eq_true]
  exact ⟨fun h c hc => of_decide_eq_true (h c hc), fun h c hc => decide_eq_true (h c hc)⟩
theorem joinL_nil : ∀ ps : List (List Nat), TL.joinL [] ps = ps.flatten
  | [] => rfl
  | [p] => by show p = _; simp
  | p :: q :: r => by
    show p ++ ([] ++ TL.joinL [] (q :: r)) = _
    rw [joinL_nil (q :: r)]; rfl
theorem join_sg (cs : List Nat) : (Txt.join (Str.ofString "") (cs.map sg)).cps.toList = cs := by
  rw [show (Txt.join (Str.ofString "") (cs.map sg)).cps.toList = TL.joinL (Str.ofString "").cps.toList ((cs.map sg).map fun x => x.cps.toList) by rw [TL.join_eq]; exact TL.tl_join _ _, lE, joinL_nil, List.map_map]
  induction cs with
  | nil => rfl
  | cons c cs ih =>
    show c :: ([] ++ (List.map ((fun x => x.cps.toList) ∘ sg) cs).flatten) = _
    rw [ih]; rfl
def lets : List Nat := (Str.ofString "abcdefghijklmnopqrstuvwxyz0123456789").cps.toList
theorem lets_len : lets.length = 36 := by unfold lets; rw [cps_lit]; decide +kernel
theorem lets_ok : ∀ c ∈ lets, c < 0x110000 := by unfold lets; rw [cps_lit]; decide +kernel
theorem w_word {c : Int} {R : Str → Prop} (h : ∀ t, okS t → R t) : W_word c R := by
  rintro _ rfl
  have m9 : modN c 9 < 9 := modN_lt (by decide)
  generalize modN c 9 = m at m9
  refine ⟨by omega, compW_map (fun k => sg (lets.getD (mixV c k % 36) 0)) (fun k _ kk hk => w_mix ⟨?_, _, ?_, hk⟩) ⟨?_, ?_⟩⟩
  · have : (Str.ofString "abcdefghijklmnopqrstuvwxyz0123456789").length = 36 := lets_len
    rw [this]; decide
  · show lets[mixV c k % 36]? = _
    have : mixV c k % 36 < lets.length := by rw [lets_len]; exact Nat.mod_lt _ (by decide)
    rw [List.getD_eq_getElem?_getD, List.getElem?_eq_getElem this]; rfl
  · have e : ((List.range m).map fun k => sg (lets.getD (mixV c k % 36) 0)).map (·.length) = (List.range m).map fun _ => 1 := by rw [List.map_map]; rfl
    have z : (Str.ofString "").length = 0 := by rw [← Str_len, lE]; rfl
    have sm : ∀ m : Nat, ((List.range m).map fun _ => 1).sum = m := fun m => by
      induction m with
      | zero => rfl
      | succ m ih => rw [List.range_succ, List.map_append, List.sum_append, ih]; rfl
    rw [e, z, sm]; omega
  · refine h _ (okS_all.mpr fun q hq => ?_)
    have e : (List.range m).map (fun k => sg (lets.getD (mixV c k % 36) 0)) = ((List.range m).map fun k => lets.getD (mixV c k % 36) 0).map sg := by rw [List.map_map]; rfl
    rw [e, join_sg] at hq
    obtain ⟨k, _, e2⟩ := List.mem_map.mp hq
    rw [← e2]
    have : mixV c k % 36 < lets.length := by rw [lets_len]; exact Nat.mod_lt _ (by decide)
    rw [List.getD_eq_getElem?_getD, List.getElem?_eq_getElem this]
    exact lets_ok _ (List.getElem_mem this)
theorem one_kind : ∀ k, k < 10 → (List.range 10).filterMap (fun j => if decide (k = j) = true then some j else none) = [k] := by decide
theorem w_kinds {e : EV} (hk : e.k < 10) {R : List Nat → Prop} (h : R [e.k]) : W_kinds e R := by
  refine ⟨show 4 + 4 < 1000000 by decide, show 8 + 2 < 1000000 by decide, by decide, compW_fm (fun j => if decide (e.k = j) = true then some j else none) (fun j hj kk hkk => ?_) (by rw [one_kind _ hk]; exact h)⟩
  refine ⟨decide (e.k = j), ?_, ?_⟩
  · show ((List.range 10).map fun j => decide (e.k = j))[j]? = _
    rw [List.getElem?_map, List.getElem?_range (List.mem_range.mp hj)]; rfl
  · by_cases q : decide (e.k = j) = true
    · rw [if_pos q] at hkk ⊢; exact hkk
    · rw [if_neg q] at hkk ⊢; exact hkk
theorem core_len : ∀ (f n : Nat) (ds : List Char) (k : Nat), n < 10 ^ (k + 1) → (Nat.toDigitsCore 10 f n ds).length ≤ k + 1 + ds.length
  | 0, n, ds, k, h => by unfold Nat.toDigitsCore; omega
  | f + 1, n, ds, k, h => by
    unfold Nat.toDigitsCore
    by_cases z : n / 10 = 0
    · simp only [z, if_true, List.length_cons]; omega
    · simp only [z, if_false]
      cases k with
      | zero => omega
      | succ k =>
        have := core_len f (n / 10) (Nat.digitChar (n % 10) :: ds) k (by rw [Nat.pow_succ] at h; omega)
        rw [List.length_cons] at this; omega
theorem strN_list (n : Nat) : (strN n).cps.toList = (Nat.toDigits 10 n).map Char.toNat := by
  show (PySem.Str.ofString (Nat.repr n)).cps.toList = _
  rw [Str.ofString_eq_toList]
  show ((Nat.repr n).toList.map Char.toNat) = _
  rw [show (Nat.repr n).toList = Nat.toDigits 10 n from by unfold Nat.repr; exact String.toList_ofList]
theorem strN_lenB {n k : Nat} (h : n < 10 ^ (k + 1)) : (strN n).length ≤ k + 1 := by
  show (strN n).cps.toList.length ≤ _
  rw [strN_list, List.length_map]
  exact core_len (n + 1) n [] k h
theorem ok_line {n : Nat} (h : n < 1000000000) : okLine n := by
  have l := strN_lenB (k := 8) h
  have a : (Str.ofString "row ").length = 4 := by rw [← Str_len, cps_lit]; rfl
  have b : (Str.ofString " has not its form").length = 17 := by rw [← Str_len, cps_lit]; rfl
  refine ⟨?_, by rw [a]; omega, by rw [len_app, a, b]; omega, trivial⟩
  by_cases z : n = 0
  · subst z; decide
  · exact (Nat.log2_lt z).mpr (Nat.lt_of_lt_of_le h (by decide +kernel))
theorem w_law {s : List Int} (hs : s.length ≤ 63) {R : Bool → Prop} (h : R true) : W_law s R := by
  refine w_cell (w_word fun t ht => w_cell ?_)
  intro n hn
  have hn : n < 1000000000 := by rw [hn]; exact modN_lt (by decide)
  have cl : (cutT s (some 2) (some 12)).length ≤ 63 := by
    unfold cutT
    rw [List.length_take, List.length_drop]; omega
  refine ⟨by omega, compW_rel (P := fun _ o => ∃ x : Str, o = some x ∧ okS x) (fun c _ kk hk => w_word fun x hx => hk _ ⟨x, rfl, hx⟩) fun ys hys => ?_⟩
  have all : ∀ (xs : List Int) (ys : List Str), CR (fun (_ : Int) (o : Option Str) => ∃ x : Str, o = some x ∧ okS x) xs ys → ys.length = xs.length ∧ ∀ y ∈ ys, okS y := by
    intro xs
    induction xs with
    | nil => rintro ys rfl; exact ⟨rfl, fun y hy => by cases hy⟩
    | cons x xs ih =>
      rintro ys ⟨o, ys', ⟨y, eo, hy⟩, ey, hc⟩
      obtain ⟨a, b⟩ := ih ys' hc
      subst eo ey
      refine ⟨by show (_ :: ys').length = _; rw [List.length_cons, a]; rfl, fun z hz => ?_⟩
      have hz' : z = y ∨ z ∈ ys' := List.mem_cons.mp hz
      rcases hz' with q | q
      · rw [q]; exact hy
      · exact b z q
  obtain ⟨yl, yk⟩ := all _ _ hys
  refine ⟨ok_line hn, show 7 + 3 < 1000000 by decide, by omega, forW_unit (fun it hit nx bk hx => jnI ?_) ?_⟩
  · have hk : it.2.k = it.1 ∧ it.2.k < 10 := by
      have e : it ∈ [((0 : Nat), EV.mk 0 Str.empty 0 []), (1, EV.mk 1 Str.empty 0 []), (2, EV.mk 2 Str.empty 0 []), (3, EV.mk 3 Str.empty 0 []), (4, EV.mk 4 Str.empty 0 []), (5, EV.mk 5 t 0 []), (6, EV.mk 6 t 0 []), (7, EV.mk 7 t 0 []), (8, EV.mk 8 Str.empty n []), (9, EV.mk 9 Str.empty 0 ys)] := hit
      simp only [List.mem_cons, List.not_mem_nil, or_false] at e
      rcases e with e | e | e | e | e | e | e | e | e | e <;> subst e <;> refine ⟨rfl, ?_⟩
      · show 0 < 10; decide
      · show 1 < 10; decide
      · show 2 < 10; decide
      · show 3 < 10; decide
      · show 4 < 10; decide
      · show 5 < 10; decide
      · show 6 < 10; decide
      · show 7 < 10; decide
      · show 8 < 10; decide
      · show 9 < 10; decide
    refine w_kinds hk.2 ?_
    rw [if_neg (by rw [hk.1]; simp)]
    show if false = true then _ else _
    rw [if_neg (by decide)]; exact hx
  · show forW [EV.mk 5 t 0 [], EV.mk 6 t 0 [], EV.mk 7 t 0 []] () _ _
    refine forW_unit (fun e he nx bk hx => ?_) (jnI ?_)
    · simp only [List.mem_cons, List.not_mem_nil, or_false] at he
      have hk : (5 ≤ e.k ∧ e.k < 8) ∧ e.s = t := by
        rcases he with q | q | q <;> subst q <;> refine ⟨?_, rfl⟩
        · show 5 ≤ 5 ∧ 5 < 8; decide
        · show 5 ≤ 6 ∧ 6 < 8; decide
        · show 5 ≤ 7 ∧ 7 < 8; decide
      refine ⟨hk.1, ?_⟩
      rw [if_neg (fun z => z hk.2)]; exact hx
    · refine ⟨EV.mk 8 Str.empty n [], rfl, rfl, ?_⟩
      rw [if_pos rfl]
      refine ⟨EV.mk 9 Str.empty 0 ys, rfl, rfl, ⟨fun y hy => yk y hy, fun y hy => yk y hy⟩, ?_⟩
      rw [decide_eq_true rfl]; exact h
end My
namespace My
open PySem L2 Wk
theorem all_mk {l : PySem.W.OpenLaw} {w : World} {K : PySem.W.Frag} {h : Heap} {mg : Str → Option Value} {fa f_BadName___init__ f_Doubled___init__ f_NoWire___init__ f_BadLine___init__ f_Ring___init__ f_cell f_mix f_word f_kinds f_law C_BadSizes C_TooMany C_BadMask C_BadTable C_BadRow C_WireError C_BadName C_Doubled C_NoWire C_BadLine C_Ring : Addr} (X : K.In h) (G : h.Ns mainGlobals mg) (hfa : mg "law" = some (.ref fa))
    {oc_BadName___init__ kV_BadName___init__ dc_BadName___init__ pm_BadName___init__ cd_BadName___init__ ct_BadName___init__ : Value} {od_BadName___init__ an_BadName___init__ : Option Addr} {sl_BadName___init__ : Array (Option Value)} {oc_Doubled___init__ kV_Doubled___init__ dc_Doubled___init__ pm_Doubled___init__ cd_Doubled___init__ ct_Doubled___init__ : Value} {od_Doubled___init__ an_Doubled___init__ : Option Addr} {sl_Doubled___init__ : Array (Option Value)} {oc_NoWire___init__ kV_NoWire___init__ dc_NoWire___init__ pm_NoWire___init__ cd_NoWire___init__ ct_NoWire___init__ : Value} {od_NoWire___init__ an_NoWire___init__ : Option Addr} {sl_NoWire___init__ : Array (Option Value)} {oc_BadLine___init__ kV_BadLine___init__ dc_BadLine___init__ pm_BadLine___init__ cd_BadLine___init__ ct_BadLine___init__ : Value} {od_BadLine___init__ an_BadLine___init__ : Option Addr} {sl_BadLine___init__ : Array (Option Value)} {oc_Ring___init__ kV_Ring___init__ dc_Ring___init__ pm_Ring___init__ cd_Ring___init__ ct_Ring___init__ : Value} {od_Ring___init__ an_Ring___init__ : Option Addr} {sl_Ring___init__ : Array (Option Value)} {oc_cell kV_cell dc_cell pm_cell cd_cell ct_cell : Value} {od_cell an_cell : Option Addr} {sl_cell : Array (Option Value)} {oc_mix kV_mix dc_mix pm_mix cd_mix ct_mix : Value} {od_mix an_mix : Option Addr} {sl_mix : Array (Option Value)} {oc_word kV_word dc_word pm_word cd_word ct_word : Value} {od_word an_word : Option Addr} {sl_word : Array (Option Value)} {oc_kinds kV_kinds dc_kinds pm_kinds cd_kinds ct_kinds : Value} {od_kinds an_kinds : Option Addr} {sl_kinds : Array (Option Value)} {oc_law kV_law dc_law pm_law cd_law ct_law : Value} {od_law an_law : Option Addr} {sl_law : Array (Option Value)}
    (aC_BadSizes : PySem.W.nsIn K mainGlobals "BadSizes" = some (some (.ref C_BadSizes))) (xX_BadSizes : PySem.W.excIn K C_BadSizes [.type "ValueError", .type "Exception", .type "BaseException", .type "object"] "ValueError.__new__" = true) (kX_BadSizes : PySem.W.keepIn K (.ref C_BadSizes) = true) (bX_BadSizes : PySem.W.subIn K (.ref C_BadSizes) (.type "BaseException") = some true) (tX_BadSizes : PySem.W.typeIn K (.ref C_BadSizes) = some (.type "type")) (iX_BadSizes : PySem.W.isClsIn K C_BadSizes = true)
    (aC_TooMany : PySem.W.nsIn K mainGlobals "TooMany" = some (some (.ref C_TooMany))) (xX_TooMany : PySem.W.excIn K C_TooMany [.type "ValueError", .type "Exception", .type "BaseException", .type "object"] "ValueError.__new__" = true) (kX_TooMany : PySem.W.keepIn K (.ref C_TooMany) = true) (bX_TooMany : PySem.W.subIn K (.ref C_TooMany) (.type "BaseException") = some true) (tX_TooMany : PySem.W.typeIn K (.ref C_TooMany) = some (.type "type")) (iX_TooMany : PySem.W.isClsIn K C_TooMany = true)
    (aC_BadMask : PySem.W.nsIn K mainGlobals "BadMask" = some (some (.ref C_BadMask))) (xX_BadMask : PySem.W.excIn K C_BadMask [.type "ValueError", .type "Exception", .type "BaseException", .type "object"] "ValueError.__new__" = true) (kX_BadMask : PySem.W.keepIn K (.ref C_BadMask) = true) (bX_BadMask : PySem.W.subIn K (.ref C_BadMask) (.type "BaseException") = some true) (tX_BadMask : PySem.W.typeIn K (.ref C_BadMask) = some (.type "type")) (iX_BadMask : PySem.W.isClsIn K C_BadMask = true)
    (aC_BadTable : PySem.W.nsIn K mainGlobals "BadTable" = some (some (.ref C_BadTable))) (xX_BadTable : PySem.W.excIn K C_BadTable [.type "ValueError", .type "Exception", .type "BaseException", .type "object"] "ValueError.__new__" = true) (kX_BadTable : PySem.W.keepIn K (.ref C_BadTable) = true) (bX_BadTable : PySem.W.subIn K (.ref C_BadTable) (.type "BaseException") = some true) (tX_BadTable : PySem.W.typeIn K (.ref C_BadTable) = some (.type "type")) (iX_BadTable : PySem.W.isClsIn K C_BadTable = true)
    (aC_BadRow : PySem.W.nsIn K mainGlobals "BadRow" = some (some (.ref C_BadRow))) (xX_BadRow : PySem.W.excIn K C_BadRow [.type "ValueError", .type "Exception", .type "BaseException", .type "object"] "ValueError.__new__" = true) (kX_BadRow : PySem.W.keepIn K (.ref C_BadRow) = true) (bX_BadRow : PySem.W.subIn K (.ref C_BadRow) (.type "BaseException") = some true) (tX_BadRow : PySem.W.typeIn K (.ref C_BadRow) = some (.type "type")) (iX_BadRow : PySem.W.isClsIn K C_BadRow = true)
    (aC_WireError : PySem.W.nsIn K mainGlobals "WireError" = some (some (.ref C_WireError))) (xX_WireError : PySem.W.excIn K C_WireError [.type "ValueError", .type "Exception", .type "BaseException", .type "object"] "ValueError.__new__" = true) (kX_WireError : PySem.W.keepIn K (.ref C_WireError) = true) (bX_WireError : PySem.W.subIn K (.ref C_WireError) (.type "BaseException") = some true) (tX_WireError : PySem.W.typeIn K (.ref C_WireError) = some (.type "type")) (iX_WireError : PySem.W.isClsIn K C_WireError = true)
    {nm_BadName q_BadName : Str} {N_BadName : Addr} {bs_BadName bm_BadName : List Value} {sn_BadName : List Str} {sub_BadName : List Value} {ab_BadName : Bool} {col_BadName : Option Bool} {dd_BadName : Option Addr} {k0_BadName k1_BadName k2_BadName k3_BadName k5_BadName : Option Value}
    (aC_BadName : PySem.W.nsIn K mainGlobals "BadName" = some (some (.ref C_BadName))) (lx_BadName : K.lookup C_BadName = some (excClassObj nm_BadName q_BadName C_BadName N_BadName bs_BadName bm_BadName true sn_BadName sub_BadName ab_BadName col_BadName dd_BadName k0_BadName k1_BadName k2_BadName k3_BadName k5_BadName "ValueError.__new__")) (rv_BadName : PySem.HandSPX.refsVE bm_BadName = true)
    (kX_BadName : PySem.W.keepIn K (.ref C_BadName) = true) (bX_BadName : PySem.W.subIn K (.ref C_BadName) (.type "BaseException") = some true) (tX_BadName : PySem.W.typeIn K (.ref C_BadName) = some (.type "type")) (iX_BadName : PySem.W.isClsIn K C_BadName = true)
    (sa_BadName : PySem.W.findIn K (.ref C_BadName) "__setattr__" = some (some (.builtin "object.__setattr__"))) (xga_BadName : PySem.W.findIn K (.ref C_BadName) "__getattribute__" = some (some (.builtin "BaseException.__getattribute__"))) (xgg_BadName : PySem.W.findIn K (.ref C_BadName) "__getattr__" = some none) (xhd_BadName : PySem.W.hasDictIn K C_BadName = true) (xno_BadName : PySem.W.findIn K (.ref C_BadName) "name" = some none)
    {nm_Doubled q_Doubled : Str} {N_Doubled : Addr} {bs_Doubled bm_Doubled : List Value} {sn_Doubled : List Str} {sub_Doubled : List Value} {ab_Doubled : Bool} {col_Doubled : Option Bool} {dd_Doubled : Option Addr} {k0_Doubled k1_Doubled k2_Doubled k3_Doubled k5_Doubled : Option Value}
    (aC_Doubled : PySem.W.nsIn K mainGlobals "Doubled" = some (some (.ref C_Doubled))) (lx_Doubled : K.lookup C_Doubled = some (excClassObj nm_Doubled q_Doubled C_Doubled N_Doubled bs_Doubled bm_Doubled true sn_Doubled sub_Doubled ab_Doubled col_Doubled dd_Doubled k0_Doubled k1_Doubled k2_Doubled k3_Doubled k5_Doubled "ValueError.__new__")) (rv_Doubled : PySem.HandSPX.refsVE bm_Doubled = true)
    (kX_Doubled : PySem.W.keepIn K (.ref C_Doubled) = true) (bX_Doubled : PySem.W.subIn K (.ref C_Doubled) (.type "BaseException") = some true) (tX_Doubled : PySem.W.typeIn K (.ref C_Doubled) = some (.type "type")) (iX_Doubled : PySem.W.isClsIn K C_Doubled = true)
    (sa_Doubled : PySem.W.findIn K (.ref C_Doubled) "__setattr__" = some (some (.builtin "object.__setattr__"))) (xga_Doubled : PySem.W.findIn K (.ref C_Doubled) "__getattribute__" = some (some (.builtin "BaseException.__getattribute__"))) (xgg_Doubled : PySem.W.findIn K (.ref C_Doubled) "__getattr__" = some none) (xhd_Doubled : PySem.W.hasDictIn K C_Doubled = true) (xno_Doubled : PySem.W.findIn K (.ref C_Doubled) "name" = some none)
    {nm_NoWire q_NoWire : Str} {N_NoWire : Addr} {bs_NoWire bm_NoWire : List Value} {sn_NoWire : List Str} {sub_NoWire : List Value} {ab_NoWire : Bool} {col_NoWire : Option Bool} {dd_NoWire : Option Addr} {k0_NoWire k1_NoWire k2_NoWire k3_NoWire k5_NoWire : Option Value}
    (aC_NoWire : PySem.W.nsIn K mainGlobals "NoWire" = some (some (.ref C_NoWire))) (lx_NoWire : K.lookup C_NoWire = some (excClassObj nm_NoWire q_NoWire C_NoWire N_NoWire bs_NoWire bm_NoWire true sn_NoWire sub_NoWire ab_NoWire col_NoWire dd_NoWire k0_NoWire k1_NoWire k2_NoWire k3_NoWire k5_NoWire "ValueError.__new__")) (rv_NoWire : PySem.HandSPX.refsVE bm_NoWire = true)
    (kX_NoWire : PySem.W.keepIn K (.ref C_NoWire) = true) (bX_NoWire : PySem.W.subIn K (.ref C_NoWire) (.type "BaseException") = some true) (tX_NoWire : PySem.W.typeIn K (.ref C_NoWire) = some (.type "type")) (iX_NoWire : PySem.W.isClsIn K C_NoWire = true)
    (sa_NoWire : PySem.W.findIn K (.ref C_NoWire) "__setattr__" = some (some (.builtin "object.__setattr__"))) (xga_NoWire : PySem.W.findIn K (.ref C_NoWire) "__getattribute__" = some (some (.builtin "BaseException.__getattribute__"))) (xgg_NoWire : PySem.W.findIn K (.ref C_NoWire) "__getattr__" = some none) (xhd_NoWire : PySem.W.hasDictIn K C_NoWire = true) (xno_NoWire : PySem.W.findIn K (.ref C_NoWire) "name" = some none)
    {nm_BadLine q_BadLine : Str} {N_BadLine : Addr} {bs_BadLine bm_BadLine : List Value} {sn_BadLine : List Str} {sub_BadLine : List Value} {ab_BadLine : Bool} {col_BadLine : Option Bool} {dd_BadLine : Option Addr} {k0_BadLine k1_BadLine k2_BadLine k3_BadLine k5_BadLine : Option Value}
    (aC_BadLine : PySem.W.nsIn K mainGlobals "BadLine" = some (some (.ref C_BadLine))) (lx_BadLine : K.lookup C_BadLine = some (excClassObj nm_BadLine q_BadLine C_BadLine N_BadLine bs_BadLine bm_BadLine true sn_BadLine sub_BadLine ab_BadLine col_BadLine dd_BadLine k0_BadLine k1_BadLine k2_BadLine k3_BadLine k5_BadLine "ValueError.__new__")) (rv_BadLine : PySem.HandSPX.refsVE bm_BadLine = true)
    (kX_BadLine : PySem.W.keepIn K (.ref C_BadLine) = true) (bX_BadLine : PySem.W.subIn K (.ref C_BadLine) (.type "BaseException") = some true) (tX_BadLine : PySem.W.typeIn K (.ref C_BadLine) = some (.type "type")) (iX_BadLine : PySem.W.isClsIn K C_BadLine = true)
    (sa_BadLine : PySem.W.findIn K (.ref C_BadLine) "__setattr__" = some (some (.builtin "object.__setattr__"))) (xga_BadLine : PySem.W.findIn K (.ref C_BadLine) "__getattribute__" = some (some (.builtin "BaseException.__getattribute__"))) (xgg_BadLine : PySem.W.findIn K (.ref C_BadLine) "__getattr__" = some none) (xhd_BadLine : PySem.W.hasDictIn K C_BadLine = true) (xno_BadLine : PySem.W.findIn K (.ref C_BadLine) "line" = some none)
    {nm_Ring q_Ring : Str} {N_Ring : Addr} {bs_Ring bm_Ring : List Value} {sn_Ring : List Str} {sub_Ring : List Value} {ab_Ring : Bool} {col_Ring : Option Bool} {dd_Ring : Option Addr} {k0_Ring k1_Ring k2_Ring k3_Ring k5_Ring : Option Value}
    (aC_Ring : PySem.W.nsIn K mainGlobals "Ring" = some (some (.ref C_Ring))) (lx_Ring : K.lookup C_Ring = some (excClassObj nm_Ring q_Ring C_Ring N_Ring bs_Ring bm_Ring true sn_Ring sub_Ring ab_Ring col_Ring dd_Ring k0_Ring k1_Ring k2_Ring k3_Ring k5_Ring "ValueError.__new__")) (rv_Ring : PySem.HandSPX.refsVE bm_Ring = true)
    (kX_Ring : PySem.W.keepIn K (.ref C_Ring) = true) (bX_Ring : PySem.W.subIn K (.ref C_Ring) (.type "BaseException") = some true) (tX_Ring : PySem.W.typeIn K (.ref C_Ring) = some (.type "type")) (iX_Ring : PySem.W.isClsIn K C_Ring = true)
    (sa_Ring : PySem.W.findIn K (.ref C_Ring) "__setattr__" = some (some (.builtin "object.__setattr__"))) (xga_Ring : PySem.W.findIn K (.ref C_Ring) "__getattribute__" = some (some (.builtin "BaseException.__getattribute__"))) (xgg_Ring : PySem.W.findIn K (.ref C_Ring) "__getattr__" = some none) (xhd_Ring : PySem.W.hasDictIn K C_Ring = true) (xno_Ring : PySem.W.findIn K (.ref C_Ring) "ring" = some none)
    (xrd : PySem.W.readsIn K C_WireError (.type "type") = true) (xrga : PySem.W.specialIn K (.ref C_WireError) "__getattribute__" = some (some (.builtin "type.__getattribute__"))) (xrv : PySem.W.findCls K (.ref C_WireError) (.type "type") "__init__" = some (.val (.builtin "ValueError.__init__")))
    (eg_BadLine : PySem.W.findIn K (.ref C_BadLine) "__getattribute__" = some (some (.builtin "BaseException.__getattribute__"))) (ek_BadLine : PySem.W.findIn K (.ref C_BadLine) "__getattr__" = some none) (ed_BadLine : PySem.W.hasDictIn K C_BadLine = true) (ea_BadLine : PySem.W.findIn K (.ref C_BadLine) "__class__" = some (some (.builtin "object.__class__"))) (em_BadLine : PySem.W.mroIn K C_BadLine (.type "object") = some true)
    (eg_BadMask : PySem.W.findIn K (.ref C_BadMask) "__getattribute__" = some (some (.builtin "BaseException.__getattribute__"))) (ek_BadMask : PySem.W.findIn K (.ref C_BadMask) "__getattr__" = some none) (ed_BadMask : PySem.W.hasDictIn K C_BadMask = true) (ea_BadMask : PySem.W.findIn K (.ref C_BadMask) "__class__" = some (some (.builtin "object.__class__"))) (em_BadMask : PySem.W.mroIn K C_BadMask (.type "object") = some true)
    (eg_BadName : PySem.W.findIn K (.ref C_BadName) "__getattribute__" = some (some (.builtin "BaseException.__getattribute__"))) (ek_BadName : PySem.W.findIn K (.ref C_BadName) "__getattr__" = some none) (ed_BadName : PySem.W.hasDictIn K C_BadName = true) (ea_BadName : PySem.W.findIn K (.ref C_BadName) "__class__" = some (some (.builtin "object.__class__"))) (em_BadName : PySem.W.mroIn K C_BadName (.type "object") = some true)
    (eg_BadRow : PySem.W.findIn K (.ref C_BadRow) "__getattribute__" = some (some (.builtin "BaseException.__getattribute__"))) (ek_BadRow : PySem.W.findIn K (.ref C_BadRow) "__getattr__" = some none) (ed_BadRow : PySem.W.hasDictIn K C_BadRow = true) (ea_BadRow : PySem.W.findIn K (.ref C_BadRow) "__class__" = some (some (.builtin "object.__class__"))) (em_BadRow : PySem.W.mroIn K C_BadRow (.type "object") = some true)
    (eg_BadSizes : PySem.W.findIn K (.ref C_BadSizes) "__getattribute__" = some (some (.builtin "BaseException.__getattribute__"))) (ek_BadSizes : PySem.W.findIn K (.ref C_BadSizes) "__getattr__" = some none) (ed_BadSizes : PySem.W.hasDictIn K C_BadSizes = true) (ea_BadSizes : PySem.W.findIn K (.ref C_BadSizes) "__class__" = some (some (.builtin "object.__class__"))) (em_BadSizes : PySem.W.mroIn K C_BadSizes (.type "object") = some true)
    (eg_BadTable : PySem.W.findIn K (.ref C_BadTable) "__getattribute__" = some (some (.builtin "BaseException.__getattribute__"))) (ek_BadTable : PySem.W.findIn K (.ref C_BadTable) "__getattr__" = some none) (ed_BadTable : PySem.W.hasDictIn K C_BadTable = true) (ea_BadTable : PySem.W.findIn K (.ref C_BadTable) "__class__" = some (some (.builtin "object.__class__"))) (em_BadTable : PySem.W.mroIn K C_BadTable (.type "object") = some true)
    (eg_Doubled : PySem.W.findIn K (.ref C_Doubled) "__getattribute__" = some (some (.builtin "BaseException.__getattribute__"))) (ek_Doubled : PySem.W.findIn K (.ref C_Doubled) "__getattr__" = some none) (ed_Doubled : PySem.W.hasDictIn K C_Doubled = true) (ea_Doubled : PySem.W.findIn K (.ref C_Doubled) "__class__" = some (some (.builtin "object.__class__"))) (em_Doubled : PySem.W.mroIn K C_Doubled (.type "object") = some true)
    (eg_NoWire : PySem.W.findIn K (.ref C_NoWire) "__getattribute__" = some (some (.builtin "BaseException.__getattribute__"))) (ek_NoWire : PySem.W.findIn K (.ref C_NoWire) "__getattr__" = some none) (ed_NoWire : PySem.W.hasDictIn K C_NoWire = true) (ea_NoWire : PySem.W.findIn K (.ref C_NoWire) "__class__" = some (some (.builtin "object.__class__"))) (em_NoWire : PySem.W.mroIn K C_NoWire (.type "object") = some true)
    (eg_Ring : PySem.W.findIn K (.ref C_Ring) "__getattribute__" = some (some (.builtin "BaseException.__getattribute__"))) (ek_Ring : PySem.W.findIn K (.ref C_Ring) "__getattr__" = some none) (ed_Ring : PySem.W.hasDictIn K C_Ring = true) (ea_Ring : PySem.W.findIn K (.ref C_Ring) "__class__" = some (some (.builtin "object.__class__"))) (em_Ring : PySem.W.mroIn K C_Ring (.type "object") = some true)
    (eg_TooMany : PySem.W.findIn K (.ref C_TooMany) "__getattribute__" = some (some (.builtin "BaseException.__getattribute__"))) (ek_TooMany : PySem.W.findIn K (.ref C_TooMany) "__getattr__" = some none) (ed_TooMany : PySem.W.hasDictIn K C_TooMany = true) (ea_TooMany : PySem.W.findIn K (.ref C_TooMany) "__class__" = some (some (.builtin "object.__class__"))) (em_TooMany : PySem.W.mroIn K C_TooMany (.type "object") = some true)
    (eN : PySem.W.specialIn K (.builtin "object.__class__") "__get__" = some (some (.builtin "getset_descriptor.__get__"))) (eT : PySem.W.takesIn K (.builtin "object.__class__") = some true)
    (sT_BadLine_ValueError : PySem.W.subIn K (.ref C_BadLine) (.type "ValueError") = some true)
    (sT_BadMask_ValueError : PySem.W.subIn K (.ref C_BadMask) (.type "ValueError") = some true)
    (sT_BadName_ValueError : PySem.W.subIn K (.ref C_BadName) (.type "ValueError") = some true)
    (sT_BadRow_ValueError : PySem.W.subIn K (.ref C_BadRow) (.type "ValueError") = some true)
    (sT_BadSizes_ValueError : PySem.W.subIn K (.ref C_BadSizes) (.type "ValueError") = some true)
    (sT_BadTable_ValueError : PySem.W.subIn K (.ref C_BadTable) (.type "ValueError") = some true)
    (sT_Doubled_ValueError : PySem.W.subIn K (.ref C_Doubled) (.type "ValueError") = some true)
    (sT_NoWire_ValueError : PySem.W.subIn K (.ref C_NoWire) (.type "ValueError") = some true)
    (sT_Ring_ValueError : PySem.W.subIn K (.ref C_Ring) (.type "ValueError") = some true)
    (sT_TooMany_ValueError : PySem.W.subIn K (.ref C_TooMany) (.type "ValueError") = some true)
    (sX_BadLine_BadLine : PySem.W.subIn K (.ref C_BadLine) (.ref C_BadLine) = some true)
    (sX_BadLine_BadMask : PySem.W.subIn K (.ref C_BadLine) (.ref C_BadMask) = some false)
    (sX_BadLine_BadName : PySem.W.subIn K (.ref C_BadLine) (.ref C_BadName) = some false)
    (sX_BadLine_BadRow : PySem.W.subIn K (.ref C_BadLine) (.ref C_BadRow) = some false)
    (sX_BadLine_BadSizes : PySem.W.subIn K (.ref C_BadLine) (.ref C_BadSizes) = some false)
    (sX_BadLine_BadTable : PySem.W.subIn K (.ref C_BadLine) (.ref C_BadTable) = some false)
    (sX_BadLine_Doubled : PySem.W.subIn K (.ref C_BadLine) (.ref C_Doubled) = some false)
    (sX_BadLine_NoWire : PySem.W.subIn K (.ref C_BadLine) (.ref C_NoWire) = some false)
    (sX_BadLine_Ring : PySem.W.subIn K (.ref C_BadLine) (.ref C_Ring) = some false)
    (sX_BadLine_TooMany : PySem.W.subIn K (.ref C_BadLine) (.ref C_TooMany) = some false)
    (sX_BadLine_WireError : PySem.W.subIn K (.ref C_BadLine) (.ref C_WireError) = some true)
    (sX_BadMask_BadLine : PySem.W.subIn K (.ref C_BadMask) (.ref C_BadLine) = some false)
    (sX_BadMask_BadMask : PySem.W.subIn K (.ref C_BadMask) (.ref C_BadMask) = some true)
    (sX_BadMask_BadName : PySem.W.subIn K (.ref C_BadMask) (.ref C_BadName) = some false)
    (sX_BadMask_BadRow : PySem.W.subIn K (.ref C_BadMask) (.ref C_BadRow) = some false)
    (sX_BadMask_BadSizes : PySem.W.subIn K (.ref C_BadMask) (.ref C_BadSizes) = some false)
    (sX_BadMask_BadTable : PySem.W.subIn K (.ref C_BadMask) (.ref C_BadTable) = some false)
    (sX_BadMask_Doubled : PySem.W.subIn K (.ref C_BadMask) (.ref C_Doubled) = some false)
    (sX_BadMask_NoWire : PySem.W.subIn K (.ref C_BadMask) (.ref C_NoWire) = some false)
    (sX_BadMask_Ring : PySem.W.subIn K (.ref C_BadMask) (.ref C_Ring) = some false)
    (sX_BadMask_TooMany : PySem.W.subIn K (.ref C_BadMask) (.ref C_TooMany) = some false)
    (sX_BadMask_WireError : PySem.W.subIn K (.ref C_BadMask) (.ref C_WireError) = some true)
    (sX_BadName_BadLine : PySem.W.subIn K (.ref C_BadName) (.ref C_BadLine) = some false)
    (sX_BadName_BadMask : PySem.W.subIn K (.ref C_BadName) (.ref C_BadMask) = some false)
    (sX_BadName_BadName : PySem.W.subIn K (.ref C_BadName) (.ref C_BadName) = some true)
    (sX_BadName_BadRow : PySem.W.subIn K (.ref C_BadName) (.ref C_BadRow) = some false)
    (sX_BadName_BadSizes : PySem.W.subIn K (.ref C_BadName) (.ref C_BadSizes) = some false)
    (sX_BadName_BadTable : PySem.W.subIn K (.ref C_BadName) (.ref C_BadTable) = some false)
    (sX_BadName_Doubled : PySem.W.subIn K (.ref C_BadName) (.ref C_Doubled) = some false)
    (sX_BadName_NoWire : PySem.W.subIn K (.ref C_BadName) (.ref C_NoWire) = some false)
    (sX_BadName_Ring : PySem.W.subIn K (.ref C_BadName) (.ref C_Ring) = some false)
    (sX_BadName_TooMany : PySem.W.subIn K (.ref C_BadName) (.ref C_TooMany) = some false)
    (sX_BadName_WireError : PySem.W.subIn K (.ref C_BadName) (.ref C_WireError) = some true)
    (sX_BadRow_BadLine : PySem.W.subIn K (.ref C_BadRow) (.ref C_BadLine) = some false)
    (sX_BadRow_BadMask : PySem.W.subIn K (.ref C_BadRow) (.ref C_BadMask) = some false)
    (sX_BadRow_BadName : PySem.W.subIn K (.ref C_BadRow) (.ref C_BadName) = some false)
    (sX_BadRow_BadRow : PySem.W.subIn K (.ref C_BadRow) (.ref C_BadRow) = some true)
    (sX_BadRow_BadSizes : PySem.W.subIn K (.ref C_BadRow) (.ref C_BadSizes) = some false)
    (sX_BadRow_BadTable : PySem.W.subIn K (.ref C_BadRow) (.ref C_BadTable) = some false)
    (sX_BadRow_Doubled : PySem.W.subIn K (.ref C_BadRow) (.ref C_Doubled) = some false)
    (sX_BadRow_NoWire : PySem.W.subIn K (.ref C_BadRow) (.ref C_NoWire) = some false)
    (sX_BadRow_Ring : PySem.W.subIn K (.ref C_BadRow) (.ref C_Ring) = some false)
    (sX_BadRow_TooMany : PySem.W.subIn K (.ref C_BadRow) (.ref C_TooMany) = some false)
    (sX_BadRow_WireError : PySem.W.subIn K (.ref C_BadRow) (.ref C_WireError) = some true)
    (sX_BadSizes_BadLine : PySem.W.subIn K (.ref C_BadSizes) (.ref C_BadLine) = some false)
    (sX_BadSizes_BadMask : PySem.W.subIn K (.ref C_BadSizes) (.ref C_BadMask) = some false)
    (sX_BadSizes_BadName : PySem.W.subIn K (.ref C_BadSizes) (.ref C_BadName) = some false)
    (sX_BadSizes_BadRow : PySem.W.subIn K (.ref C_BadSizes) (.ref C_BadRow) = some false)
    (sX_BadSizes_BadSizes : PySem.W.subIn K (.ref C_BadSizes) (.ref C_BadSizes) = some true)
    (sX_BadSizes_BadTable : PySem.W.subIn K (.ref C_BadSizes) (.ref C_BadTable) = some false)
    (sX_BadSizes_Doubled : PySem.W.subIn K (.ref C_BadSizes) (.ref C_Doubled) = some false)
    (sX_BadSizes_NoWire : PySem.W.subIn K (.ref C_BadSizes) (.ref C_NoWire) = some false)
    (sX_BadSizes_Ring : PySem.W.subIn K (.ref C_BadSizes) (.ref C_Ring) = some false)
    (sX_BadSizes_TooMany : PySem.W.subIn K (.ref C_BadSizes) (.ref C_TooMany) = some false)
    (sX_BadSizes_WireError : PySem.W.subIn K (.ref C_BadSizes) (.ref C_WireError) = some true)
    (sX_BadTable_BadLine : PySem.W.subIn K (.ref C_BadTable) (.ref C_BadLine) = some false)
    (sX_BadTable_BadMask : PySem.W.subIn K (.ref C_BadTable) (.ref C_BadMask) = some false)
    (sX_BadTable_BadName : PySem.W.subIn K (.ref C_BadTable) (.ref C_BadName) = some false)
    (sX_BadTable_BadRow : PySem.W.subIn K (.ref C_BadTable) (.ref C_BadRow) = some false)
    (sX_BadTable_BadSizes : PySem.W.subIn K (.ref C_BadTable) (.ref C_BadSizes) = some false)
    (sX_BadTable_BadTable : PySem.W.subIn K (.ref C_BadTable) (.ref C_BadTable) = some true)
    (sX_BadTable_Doubled : PySem.W.subIn K (.ref C_BadTable) (.ref C_Doubled) = some false)
    (sX_BadTable_NoWire : PySem.W.subIn K (.ref C_BadTable) (.ref C_NoWire) = some false)
    (sX_BadTable_Ring : PySem.W.subIn K (.ref C_BadTable) (.ref C_Ring) = some false)
    (sX_BadTable_TooMany : PySem.W.subIn K (.ref C_BadTable) (.ref C_TooMany) = some false)
    (sX_BadTable_WireError : PySem.W.subIn K (.ref C_BadTable) (.ref C_WireError) = some true)
    (sX_Doubled_BadLine : PySem.W.subIn K (.ref C_Doubled) (.ref C_BadLine) = some false)
    (sX_Doubled_BadMask : PySem.W.subIn K (.ref C_Doubled) (.ref C_BadMask) = some false)
    (sX_Doubled_BadName : PySem.W.subIn K (.ref C_Doubled) (.ref C_BadName) = some false)
    (sX_Doubled_BadRow : PySem.W.subIn K (.ref C_Doubled) (.ref C_BadRow) = some false)
    (sX_Doubled_BadSizes : PySem.W.subIn K (.ref C_Doubled) (.ref C_BadSizes) = some false)
    (sX_Doubled_BadTable : PySem.W.subIn K (.ref C_Doubled) (.ref C_BadTable) = some false)
    (sX_Doubled_Doubled : PySem.W.subIn K (.ref C_Doubled) (.ref C_Doubled) = some true)
    (sX_Doubled_NoWire : PySem.W.subIn K (.ref C_Doubled) (.ref C_NoWire) = some false)
    (sX_Doubled_Ring : PySem.W.subIn K (.ref C_Doubled) (.ref C_Ring) = some false)
    (sX_Doubled_TooMany : PySem.W.subIn K (.ref C_Doubled) (.ref C_TooMany) = some false)
    (sX_Doubled_WireError : PySem.W.subIn K (.ref C_Doubled) (.ref C_WireError) = some true)
    (sX_NoWire_BadLine : PySem.W.subIn K (.ref C_NoWire) (.ref C_BadLine) = some false)
    (sX_NoWire_BadMask : PySem.W.subIn K (.ref C_NoWire) (.ref C_BadMask) = some false)
    (sX_NoWire_BadName : PySem.W.subIn K (.ref C_NoWire) (.ref C_BadName) = some false)
    (sX_NoWire_BadRow : PySem.W.subIn K (.ref C_NoWire) (.ref C_BadRow) = some false)
    (sX_NoWire_BadSizes : PySem.W.subIn K (.ref C_NoWire) (.ref C_BadSizes) = some false)
    (sX_NoWire_BadTable : PySem.W.subIn K (.ref C_NoWire) (.ref C_BadTable) = some false)
    (sX_NoWire_Doubled : PySem.W.subIn K (.ref C_NoWire) (.ref C_Doubled) = some false)
    (sX_NoWire_NoWire : PySem.W.subIn K (.ref C_NoWire) (.ref C_NoWire) = some true)
    (sX_NoWire_Ring : PySem.W.subIn K (.ref C_NoWire) (.ref C_Ring) = some false)
    (sX_NoWire_TooMany : PySem.W.subIn K (.ref C_NoWire) (.ref C_TooMany) = some false)
    (sX_NoWire_WireError : PySem.W.subIn K (.ref C_NoWire) (.ref C_WireError) = some true)
    (sX_Ring_BadLine : PySem.W.subIn K (.ref C_Ring) (.ref C_BadLine) = some false)
    (sX_Ring_BadMask : PySem.W.subIn K (.ref C_Ring) (.ref C_BadMask) = some false)
    (sX_Ring_BadName : PySem.W.subIn K (.ref C_Ring) (.ref C_BadName) = some false)
    (sX_Ring_BadRow : PySem.W.subIn K (.ref C_Ring) (.ref C_BadRow) = some false)
    (sX_Ring_BadSizes : PySem.W.subIn K (.ref C_Ring) (.ref C_BadSizes) = some false)
    (sX_Ring_BadTable : PySem.W.subIn K (.ref C_Ring) (.ref C_BadTable) = some false)
    (sX_Ring_Doubled : PySem.W.subIn K (.ref C_Ring) (.ref C_Doubled) = some false)
    (sX_Ring_NoWire : PySem.W.subIn K (.ref C_Ring) (.ref C_NoWire) = some false)
    (sX_Ring_Ring : PySem.W.subIn K (.ref C_Ring) (.ref C_Ring) = some true)
    (sX_Ring_TooMany : PySem.W.subIn K (.ref C_Ring) (.ref C_TooMany) = some false)
    (sX_Ring_WireError : PySem.W.subIn K (.ref C_Ring) (.ref C_WireError) = some true)
    (sX_TooMany_BadLine : PySem.W.subIn K (.ref C_TooMany) (.ref C_BadLine) = some false)
    (sX_TooMany_BadMask : PySem.W.subIn K (.ref C_TooMany) (.ref C_BadMask) = some false)
    (sX_TooMany_BadName : PySem.W.subIn K (.ref C_TooMany) (.ref C_BadName) = some false)
    (sX_TooMany_BadRow : PySem.W.subIn K (.ref C_TooMany) (.ref C_BadRow) = some false)
    (sX_TooMany_BadSizes : PySem.W.subIn K (.ref C_TooMany) (.ref C_BadSizes) = some false)
    (sX_TooMany_BadTable : PySem.W.subIn K (.ref C_TooMany) (.ref C_BadTable) = some false)
    (sX_TooMany_Doubled : PySem.W.subIn K (.ref C_TooMany) (.ref C_Doubled) = some false)
    (sX_TooMany_NoWire : PySem.W.subIn K (.ref C_TooMany) (.ref C_NoWire) = some false)
    (sX_TooMany_Ring : PySem.W.subIn K (.ref C_TooMany) (.ref C_Ring) = some false)
    (sX_TooMany_TooMany : PySem.W.subIn K (.ref C_TooMany) (.ref C_TooMany) = some true)
    (sX_TooMany_WireError : PySem.W.subIn K (.ref C_TooMany) (.ref C_WireError) = some true)
    (a_BadName___init__ : PySem.W.findIn K (.ref C_BadName) "__init__" = some (some (.ref f_BadName___init__))) (i_BadName___init__ : PySem.W.typeIn K (.ref f_BadName___init__) = some (.type "function"))
    (l_BadName___init__ : K.lookup f_BadName___init__ = some ⟨oc_BadName___init__, od_BadName___init__, .func (PySem.W.fnOf "__init__" "BadName.__init__" (defArgs s_BadName___init__) (defBody s_BadName___init__) (defScope s_BadName___init__) .none kV_BadName___init__ dc_BadName___init__ pm_BadName___init__ an_BadName___init__ cd_BadName___init__ ct_BadName___init__), sl_BadName___init__⟩) (c_BadName___init__ : PySem.W.codeIn K cd_BadName___init__ "BadName.__init__" = true) (k_BadName___init__ : PySem.W.keepIn K (.ref f_BadName___init__) = true)
    (a_Doubled___init__ : PySem.W.findIn K (.ref C_Doubled) "__init__" = some (some (.ref f_Doubled___init__))) (i_Doubled___init__ : PySem.W.typeIn K (.ref f_Doubled___init__) = some (.type "function"))
    (l_Doubled___init__ : K.lookup f_Doubled___init__ = some ⟨oc_Doubled___init__, od_Doubled___init__, .func (PySem.W.fnOf "__init__" "Doubled.__init__" (defArgs s_Doubled___init__) (defBody s_Doubled___init__) (defScope s_Doubled___init__) .none kV_Doubled___init__ dc_Doubled___init__ pm_Doubled___init__ an_Doubled___init__ cd_Doubled___init__ ct_Doubled___init__), sl_Doubled___init__⟩) (c_Doubled___init__ : PySem.W.codeIn K cd_Doubled___init__ "Doubled.__init__" = true) (k_Doubled___init__ : PySem.W.keepIn K (.ref f_Doubled___init__) = true)
    (a_NoWire___init__ : PySem.W.findIn K (.ref C_NoWire) "__init__" = some (some (.ref f_NoWire___init__))) (i_NoWire___init__ : PySem.W.typeIn K (.ref f_NoWire___init__) = some (.type "function"))
    (l_NoWire___init__ : K.lookup f_NoWire___init__ = some ⟨oc_NoWire___init__, od_NoWire___init__, .func (PySem.W.fnOf "__init__" "NoWire.__init__" (defArgs s_NoWire___init__) (defBody s_NoWire___init__) (defScope s_NoWire___init__) .none kV_NoWire___init__ dc_NoWire___init__ pm_NoWire___init__ an_NoWire___init__ cd_NoWire___init__ ct_NoWire___init__), sl_NoWire___init__⟩) (c_NoWire___init__ : PySem.W.codeIn K cd_NoWire___init__ "NoWire.__init__" = true) (k_NoWire___init__ : PySem.W.keepIn K (.ref f_NoWire___init__) = true)
    (a_BadLine___init__ : PySem.W.findIn K (.ref C_BadLine) "__init__" = some (some (.ref f_BadLine___init__))) (i_BadLine___init__ : PySem.W.typeIn K (.ref f_BadLine___init__) = some (.type "function"))
    (l_BadLine___init__ : K.lookup f_BadLine___init__ = some ⟨oc_BadLine___init__, od_BadLine___init__, .func (PySem.W.fnOf "__init__" "BadLine.__init__" (defArgs s_BadLine___init__) (defBody s_BadLine___init__) (defScope s_BadLine___init__) .none kV_BadLine___init__ dc_BadLine___init__ pm_BadLine___init__ an_BadLine___init__ cd_BadLine___init__ ct_BadLine___init__), sl_BadLine___init__⟩) (c_BadLine___init__ : PySem.W.codeIn K cd_BadLine___init__ "BadLine.__init__" = true) (k_BadLine___init__ : PySem.W.keepIn K (.ref f_BadLine___init__) = true)
    (a_Ring___init__ : PySem.W.findIn K (.ref C_Ring) "__init__" = some (some (.ref f_Ring___init__))) (i_Ring___init__ : PySem.W.typeIn K (.ref f_Ring___init__) = some (.type "function"))
    (l_Ring___init__ : K.lookup f_Ring___init__ = some ⟨oc_Ring___init__, od_Ring___init__, .func (PySem.W.fnOf "__init__" "Ring.__init__" (defArgs s_Ring___init__) (defBody s_Ring___init__) (defScope s_Ring___init__) .none kV_Ring___init__ dc_Ring___init__ pm_Ring___init__ an_Ring___init__ cd_Ring___init__ ct_Ring___init__), sl_Ring___init__⟩) (c_Ring___init__ : PySem.W.codeIn K cd_Ring___init__ "Ring.__init__" = true) (k_Ring___init__ : PySem.W.keepIn K (.ref f_Ring___init__) = true)
    (a_cell : PySem.W.nsIn K mainGlobals "_law_cell" = some (some (.ref f_cell)))
    (l_cell : K.lookup f_cell = some ⟨oc_cell, od_cell, .func (PySem.W.fnOf "_law_cell" "_law_cell" (defArgs s_cell) (defBody s_cell) (defScope s_cell) .none kV_cell dc_cell pm_cell an_cell cd_cell ct_cell), sl_cell⟩) (c_cell : PySem.W.codeIn K cd_cell "_law_cell" = true) (k_cell : PySem.W.keepIn K (.ref f_cell) = true)
    (a_mix : PySem.W.nsIn K mainGlobals "_law_mix" = some (some (.ref f_mix)))
    (l_mix : K.lookup f_mix = some ⟨oc_mix, od_mix, .func (PySem.W.fnOf "_law_mix" "_law_mix" (defArgs s_mix) (defBody s_mix) (defScope s_mix) .none kV_mix dc_mix pm_mix an_mix cd_mix ct_mix), sl_mix⟩) (c_mix : PySem.W.codeIn K cd_mix "_law_mix" = true) (k_mix : PySem.W.keepIn K (.ref f_mix) = true)
    (a_word : PySem.W.nsIn K mainGlobals "_law_word" = some (some (.ref f_word)))
    (l_word : K.lookup f_word = some ⟨oc_word, od_word, .func (PySem.W.fnOf "_law_word" "_law_word" (defArgs s_word) (defBody s_word) (defScope s_word) .none kV_word dc_word pm_word an_word cd_word ct_word), sl_word⟩) (c_word : PySem.W.codeIn K cd_word "_law_word" = true) (k_word : PySem.W.keepIn K (.ref f_word) = true)
    (a_kinds : PySem.W.nsIn K mainGlobals "_law_kinds" = some (some (.ref f_kinds)))
    (l_kinds : K.lookup f_kinds = some ⟨oc_kinds, od_kinds, .func (PySem.W.fnOf "_law_kinds" "_law_kinds" (defArgs s_kinds) (defBody s_kinds) (defScope s_kinds) .none kV_kinds dc_kinds pm_kinds an_kinds cd_kinds ct_kinds), sl_kinds⟩) (c_kinds : PySem.W.codeIn K cd_kinds "_law_kinds" = true) (k_kinds : PySem.W.keepIn K (.ref f_kinds) = true)
    (a_law : PySem.W.nsIn K mainGlobals "law" = some (some (.ref f_law)))
    (l_law : K.lookup f_law = some ⟨oc_law, od_law, .func (PySem.W.fnOf "law" "law" (defArgs s_law) (defBody s_law) (defScope s_law) .none kV_law dc_law pm_law an_law cd_law ct_law), sl_law⟩) (c_law : PySem.W.codeIn K cd_law "law" = true) (k_law : PySem.W.keepIn K (.ref f_law) = true)
    (z_ValueError : PySem.W.nsIn K mainGlobals "ValueError" = some none)
    (z_enumerate : PySem.W.nsIn K mainGlobals "enumerate" = some none)
    (z_isinstance : PySem.W.nsIn K mainGlobals "isinstance" = some none)
    (z_len : PySem.W.nsIn K mainGlobals "len" = some none)
    (z_list : PySem.W.nsIn K mainGlobals "list" = some none)
    (z_range : PySem.W.nsIn K mainGlobals "range" = some none)
    (z_str : PySem.W.nsIn K mainGlobals "str" = some none)
    : ∃ (fd : FuncData) (sp : Sp), (∀ (s : Shared) (v : Value), BindsTo s fd ⟨[v], []⟩ [("_law_script", v)]) ∧ (∀ (H : Hp) (a : Addr) (ns : List Int), ns.length ≤ 63 → SqL K H a (ns.map V.int) → sp [.ref a] H (fun v _ => v = .bl true) fun _ _ _ => False) ∧ ∀ base : Heap, K.In base → base.Ns mainGlobals mg → FnOk l.prog w K mg base CX0 4 fa fd ["_law_script"] sp := by
  have e := hfa.symm.trans (PySem.W.mg_of X G a_law)
  cases e
  have F_BadName___init__ := fun_mk (st := s_BadName___init__) l_BadName___init__ c_BadName___init__ k_BadName___init__
  have b_BadName___init__ := F_BadName___init__.binds (ps := ["self", "name"]) fun _ _ _ _ _ _ us hl => match us, hl with | [_, _], _ => rfl
  have F_Doubled___init__ := fun_mk (st := s_Doubled___init__) l_Doubled___init__ c_Doubled___init__ k_Doubled___init__
  have b_Doubled___init__ := F_Doubled___init__.binds (ps := ["self", "name"]) fun _ _ _ _ _ _ us hl => match us, hl with | [_, _], _ => rfl
  have F_NoWire___init__ := fun_mk (st := s_NoWire___init__) l_NoWire___init__ c_NoWire___init__ k_NoWire___init__
  have b_NoWire___init__ := F_NoWire___init__.binds (ps := ["self", "name"]) fun _ _ _ _ _ _ us hl => match us, hl with | [_, _], _ => rfl
  have F_BadLine___init__ := fun_mk (st := s_BadLine___init__) l_BadLine___init__ c_BadLine___init__ k_BadLine___init__
  have b_BadLine___init__ := F_BadLine___init__.binds (ps := ["self", "line"]) fun _ _ _ _ _ _ us hl => match us, hl with | [_, _], _ => rfl
  have F_Ring___init__ := fun_mk (st := s_Ring___init__) l_Ring___init__ c_Ring___init__ k_Ring___init__
  have b_Ring___init__ := F_Ring___init__.binds (ps := ["self", "ring"]) fun _ _ _ _ _ _ us hl => match us, hl with | [_, _], _ => rfl
  have F_cell := fun_mk (st := s_cell) l_cell c_cell k_cell
  have b_cell := F_cell.binds (ps := ["_law_script", "_law_k"]) fun _ _ _ _ _ _ us hl => match us, hl with | [_, _], _ => rfl
  have F_mix := fun_mk (st := s_mix) l_mix c_mix k_mix
  have b_mix := F_mix.binds (ps := ["_law_cell_here", "_law_k"]) fun _ _ _ _ _ _ us hl => match us, hl with | [_, _], _ => rfl
  have F_word := fun_mk (st := s_word) l_word c_word k_word
  have b_word := F_word.binds (ps := ["_law_cell_here"]) fun _ _ _ _ _ _ us hl => match us, hl with | [_], _ => rfl
  have F_kinds := fun_mk (st := s_kinds) l_kinds c_kinds k_kinds
  have b_kinds := F_kinds.binds (ps := ["_law_e"]) fun _ _ _ _ _ _ us hl => match us, hl with | [_], _ => rfl
  have F_law := fun_mk (st := s_law) l_law c_law k_law
  refine ⟨PySem.W.fnOf "law" "law" (defArgs s_law) (defBody s_law) (defScope s_law) .none kV_law dc_law pm_law an_law cd_law ct_law, sp_law K ⟨C_BadSizes, C_TooMany, C_BadMask, C_BadTable, C_BadRow, C_WireError, C_BadName, C_Doubled, C_NoWire, C_BadLine, C_Ring⟩, fun s v => .of_eq rfl, fun H a ns hl  hS => ⟨H, .ref a, ns, fun b => b = true, rfl, Ex.rfl', ⟨a, rfl, hS⟩, w_law hl  rfl, fun z hz _ _ _ => by subst hz; rfl⟩, fun base _ _ => ?_⟩
  have T : Tz K mg ⟨C_BadSizes, C_TooMany, C_BadMask, C_BadTable, C_BadRow, C_WireError, C_BadName, C_Doubled, C_NoWire, C_BadLine, C_Ring⟩ := ⟨⟨xX_BadSizes, PySem.W.mg_of X G aC_BadSizes, kX_BadSizes, bX_BadSizes, tX_BadSizes⟩, ⟨xX_TooMany, PySem.W.mg_of X G aC_TooMany, kX_TooMany, bX_TooMany, tX_TooMany⟩, ⟨xX_BadMask, PySem.W.mg_of X G aC_BadMask, kX_BadMask, bX_BadMask, tX_BadMask⟩, ⟨xX_BadTable, PySem.W.mg_of X G aC_BadTable, kX_BadTable, bX_BadTable, tX_BadTable⟩, ⟨xX_BadRow, PySem.W.mg_of X G aC_BadRow, kX_BadRow, bX_BadRow, tX_BadRow⟩, ⟨xX_WireError, PySem.W.mg_of X G aC_WireError, kX_WireError, bX_WireError, tX_WireError⟩, ⟨PySem.W.mg_of X G aC_BadName, ⟨⟨_, _, _, _, _, _, _, _, _, _, _, _, _, _, _, lx_BadName, rv_BadName⟩, sa_BadName, bX_BadName, tX_BadName, kX_BadName⟩, ⟨xga_BadName, xgg_BadName, bX_BadName, xhd_BadName⟩, xno_BadName⟩, ⟨PySem.W.mg_of X G aC_Doubled, ⟨⟨_, _, _, _, _, _, _, _, _, _, _, _, _, _, _, lx_Doubled, rv_Doubled⟩, sa_Doubled, bX_Doubled, tX_Doubled, kX_Doubled⟩, ⟨xga_Doubled, xgg_Doubled, bX_Doubled, xhd_Doubled⟩, xno_Doubled⟩, ⟨PySem.W.mg_of X G aC_NoWire, ⟨⟨_, _, _, _, _, _, _, _, _, _, _, _, _, _, _, lx_NoWire, rv_NoWire⟩, sa_NoWire, bX_NoWire, tX_NoWire, kX_NoWire⟩, ⟨xga_NoWire, xgg_NoWire, bX_NoWire, xhd_NoWire⟩, xno_NoWire⟩, ⟨PySem.W.mg_of X G aC_BadLine, ⟨⟨_, _, _, _, _, _, _, _, _, _, _, _, _, _, _, lx_BadLine, rv_BadLine⟩, sa_BadLine, bX_BadLine, tX_BadLine, kX_BadLine⟩, ⟨xga_BadLine, xgg_BadLine, bX_BadLine, xhd_BadLine⟩, xno_BadLine⟩, ⟨PySem.W.mg_of X G aC_Ring, ⟨⟨_, _, _, _, _, _, _, _, _, _, _, _, _, _, _, lx_Ring, rv_Ring⟩, sa_Ring, bX_Ring, tX_Ring, kX_Ring⟩, ⟨xga_Ring, xgg_Ring, bX_Ring, xhd_Ring⟩, xno_Ring⟩, ⟨xrd, xrga⟩, xrv, ⟨eg_BadLine, ek_BadLine, bX_BadLine, ed_BadLine, ea_BadLine, eN, eT, em_BadLine⟩, ⟨eg_BadMask, ek_BadMask, bX_BadMask, ed_BadMask, ea_BadMask, eN, eT, em_BadMask⟩, ⟨eg_BadName, ek_BadName, bX_BadName, ed_BadName, ea_BadName, eN, eT, em_BadName⟩, ⟨eg_BadRow, ek_BadRow, bX_BadRow, ed_BadRow, ea_BadRow, eN, eT, em_BadRow⟩, ⟨eg_BadSizes, ek_BadSizes, bX_BadSizes, ed_BadSizes, ea_BadSizes, eN, eT, em_BadSizes⟩, ⟨eg_BadTable, ek_BadTable, bX_BadTable, ed_BadTable, ea_BadTable, eN, eT, em_BadTable⟩, ⟨eg_Doubled, ek_Doubled, bX_Doubled, ed_Doubled, ea_Doubled, eN, eT, em_Doubled⟩, ⟨eg_NoWire, ek_NoWire, bX_NoWire, ed_NoWire, ea_NoWire, eN, eT, em_NoWire⟩, ⟨eg_Ring, ek_Ring, bX_Ring, ed_Ring, ea_Ring, eN, eT, em_Ring⟩, ⟨eg_TooMany, ek_TooMany, bX_TooMany, ed_TooMany, ea_TooMany, eN, eT, em_TooMany⟩, kit_ty (by kernel_rfl) sT_BadLine_ValueError, kit_ty (by kernel_rfl) sT_BadMask_ValueError, kit_ty (by kernel_rfl) sT_BadName_ValueError, kit_ty (by kernel_rfl) sT_BadRow_ValueError, kit_ty (by kernel_rfl) sT_BadSizes_ValueError, kit_ty (by kernel_rfl) sT_BadTable_ValueError, kit_ty (by kernel_rfl) sT_Doubled_ValueError, kit_ty (by kernel_rfl) sT_NoWire_ValueError, kit_ty (by kernel_rfl) sT_Ring_ValueError, kit_ty (by kernel_rfl) sT_TooMany_ValueError, kit_own iX_BadLine tX_BadLine sX_BadLine_BadLine sX_BadLine_BadLine, kit_own iX_BadMask tX_BadMask sX_BadLine_BadLine sX_BadLine_BadMask, kit_own iX_BadName tX_BadName sX_BadLine_BadLine sX_BadLine_BadName, kit_own iX_BadRow tX_BadRow sX_BadLine_BadLine sX_BadLine_BadRow, kit_own iX_BadSizes tX_BadSizes sX_BadLine_BadLine sX_BadLine_BadSizes, kit_own iX_BadTable tX_BadTable sX_BadLine_BadLine sX_BadLine_BadTable, kit_own iX_Doubled tX_Doubled sX_BadLine_BadLine sX_BadLine_Doubled, kit_own iX_NoWire tX_NoWire sX_BadLine_BadLine sX_BadLine_NoWire, kit_own iX_Ring tX_Ring sX_BadLine_BadLine sX_BadLine_Ring, kit_own iX_TooMany tX_TooMany sX_BadLine_BadLine sX_BadLine_TooMany, kit_own iX_WireError tX_WireError sX_BadLine_BadLine sX_BadLine_WireError, kit_own iX_BadLine tX_BadLine sX_BadMask_BadMask sX_BadMask_BadLine, kit_own iX_BadMask tX_BadMask sX_BadMask_BadMask sX_BadMask_BadMask, kit_own iX_BadName tX_BadName sX_BadMask_BadMask sX_BadMask_BadName, kit_own iX_BadRow tX_BadRow sX_BadMask_BadMask sX_BadMask_BadRow, kit_own iX_BadSizes tX_BadSizes sX_BadMask_BadMask sX_BadMask_BadSizes, kit_own iX_BadTable tX_BadTable sX_BadMask_BadMask sX_BadMask_BadTable, kit_own iX_Doubled tX_Doubled sX_BadMask_BadMask sX_BadMask_Doubled, kit_own iX_NoWire tX_NoWire sX_BadMask_BadMask sX_BadMask_NoWire, kit_own iX_Ring tX_Ring sX_BadMask_BadMask sX_BadMask_Ring, kit_own iX_TooMany tX_TooMany sX_BadMask_BadMask sX_BadMask_TooMany, kit_own iX_WireError tX_WireError sX_BadMask_BadMask sX_BadMask_WireError, kit_own iX_BadLine tX_BadLine sX_BadName_BadName sX_BadName_BadLine, kit_own iX_BadMask tX_BadMask sX_BadName_BadName sX_BadName_BadMask, kit_own iX_BadName tX_BadName sX_BadName_BadName sX_BadName_BadName, kit_own iX_BadRow tX_BadRow sX_BadName_BadName sX_BadName_BadRow, kit_own iX_BadSizes tX_BadSizes sX_BadName_BadName sX_BadName_BadSizes, kit_own iX_BadTable tX_BadTable sX_BadName_BadName sX_BadName_BadTable, kit_own iX_Doubled tX_Doubled sX_BadName_BadName sX_BadName_Doubled, kit_own iX_NoWire tX_NoWire sX_BadName_BadName sX_BadName_NoWire, kit_own iX_Ring tX_Ring sX_BadName_BadName sX_BadName_Ring, kit_own iX_TooMany tX_TooMany sX_BadName_BadName sX_BadName_TooMany, kit_own iX_WireError tX_WireError sX_BadName_BadName sX_BadName_WireError, kit_own iX_BadLine tX_BadLine sX_BadRow_BadRow sX_BadRow_BadLine, kit_own iX_BadMask tX_BadMask sX_BadRow_BadRow sX_BadRow_BadMask, kit_own iX_BadName tX_BadName sX_BadRow_BadRow sX_BadRow_BadName, kit_own iX_BadRow tX_BadRow sX_BadRow_BadRow sX_BadRow_BadRow, kit_own iX_BadSizes tX_BadSizes sX_BadRow_BadRow sX_BadRow_BadSizes, kit_own iX_BadTable tX_BadTable sX_BadRow_BadRow sX_BadRow_BadTable, kit_own iX_Doubled tX_Doubled sX_BadRow_BadRow sX_BadRow_Doubled, kit_own iX_NoWire tX_NoWire sX_BadRow_BadRow sX_BadRow_NoWire, kit_own iX_Ring tX_Ring sX_BadRow_BadRow sX_BadRow_Ring, kit_own iX_TooMany tX_TooMany sX_BadRow_BadRow sX_BadRow_TooMany, kit_own iX_WireError tX_WireError sX_BadRow_BadRow sX_BadRow_WireError, kit_own iX_BadLine tX_BadLine sX_BadSizes_BadSizes sX_BadSizes_BadLine, kit_own iX_BadMask tX_BadMask sX_BadSizes_BadSizes sX_BadSizes_BadMask, kit_own iX_BadName tX_BadName sX_BadSizes_BadSizes sX_BadSizes_BadName, kit_own iX_BadRow tX_BadRow sX_BadSizes_BadSizes sX_BadSizes_BadRow, kit_own iX_BadSizes tX_BadSizes sX_BadSizes_BadSizes sX_BadSizes_BadSizes, kit_own iX_BadTable tX_BadTable sX_BadSizes_BadSizes sX_BadSizes_BadTable, kit_own iX_Doubled tX_Doubled sX_BadSizes_BadSizes sX_BadSizes_Doubled, kit_own iX_NoWire tX_NoWire sX_BadSizes_BadSizes sX_BadSizes_NoWire, kit_own iX_Ring tX_Ring sX_BadSizes_BadSizes sX_BadSizes_Ring, kit_own iX_TooMany tX_TooMany sX_BadSizes_BadSizes sX_BadSizes_TooMany, kit_own iX_WireError tX_WireError sX_BadSizes_BadSizes sX_BadSizes_WireError, kit_own iX_BadLine tX_BadLine sX_BadTable_BadTable sX_BadTable_BadLine, kit_own iX_BadMask tX_BadMask sX_BadTable_BadTable sX_BadTable_BadMask, kit_own iX_BadName tX_BadName sX_BadTable_BadTable sX_BadTable_BadName, kit_own iX_BadRow tX_BadRow sX_BadTable_BadTable sX_BadTable_BadRow, kit_own iX_BadSizes tX_BadSizes sX_BadTable_BadTable sX_BadTable_BadSizes, kit_own iX_BadTable tX_BadTable sX_BadTable_BadTable sX_BadTable_BadTable, kit_own iX_Doubled tX_Doubled sX_BadTable_BadTable sX_BadTable_Doubled, kit_own iX_NoWire tX_NoWire sX_BadTable_BadTable sX_BadTable_NoWire, kit_own iX_Ring tX_Ring sX_BadTable_BadTable sX_BadTable_Ring, kit_own iX_TooMany tX_TooMany sX_BadTable_BadTable sX_BadTable_TooMany, kit_own iX_WireError tX_WireError sX_BadTable_BadTable sX_BadTable_WireError, kit_own iX_BadLine tX_BadLine sX_Doubled_Doubled sX_Doubled_BadLine, kit_own iX_BadMask tX_BadMask sX_Doubled_Doubled sX_Doubled_BadMask, kit_own iX_BadName tX_BadName sX_Doubled_Doubled sX_Doubled_BadName, kit_own iX_BadRow tX_BadRow sX_Doubled_Doubled sX_Doubled_BadRow, kit_own iX_BadSizes tX_BadSizes sX_Doubled_Doubled sX_Doubled_BadSizes, kit_own iX_BadTable tX_BadTable sX_Doubled_Doubled sX_Doubled_BadTable, kit_own iX_Doubled tX_Doubled sX_Doubled_Doubled sX_Doubled_Doubled, kit_own iX_NoWire tX_NoWire sX_Doubled_Doubled sX_Doubled_NoWire, kit_own iX_Ring tX_Ring sX_Doubled_Doubled sX_Doubled_Ring, kit_own iX_TooMany tX_TooMany sX_Doubled_Doubled sX_Doubled_TooMany, kit_own iX_WireError tX_WireError sX_Doubled_Doubled sX_Doubled_WireError, kit_own iX_BadLine tX_BadLine sX_NoWire_NoWire sX_NoWire_BadLine, kit_own iX_BadMask tX_BadMask sX_NoWire_NoWire sX_NoWire_BadMask, kit_own iX_BadName tX_BadName sX_NoWire_NoWire sX_NoWire_BadName, kit_own iX_BadRow tX_BadRow sX_NoWire_NoWire sX_NoWire_BadRow, kit_own iX_BadSizes tX_BadSizes sX_NoWire_NoWire sX_NoWire_BadSizes, kit_own iX_BadTable tX_BadTable sX_NoWire_NoWire sX_NoWire_BadTable, kit_own iX_Doubled tX_Doubled sX_NoWire_NoWire sX_NoWire_Doubled, kit_own iX_NoWire tX_NoWire sX_NoWire_NoWire sX_NoWire_NoWire, kit_own iX_Ring tX_Ring sX_NoWire_NoWire sX_NoWire_Ring, kit_own iX_TooMany tX_TooMany sX_NoWire_NoWire sX_NoWire_TooMany, kit_own iX_WireError tX_WireError sX_NoWire_NoWire sX_NoWire_WireError, kit_own iX_BadLine tX_BadLine sX_Ring_Ring sX_Ring_BadLine, kit_own iX_BadMask tX_BadMask sX_Ring_Ring sX_Ring_BadMask, kit_own iX_BadName tX_BadName sX_Ring_Ring sX_Ring_BadName, kit_own iX_BadRow tX_BadRow sX_Ring_Ring sX_Ring_BadRow, kit_own iX_BadSizes tX_BadSizes sX_Ring_Ring sX_Ring_BadSizes, kit_own iX_BadTable tX_BadTable sX_Ring_Ring sX_Ring_BadTable, kit_own iX_Doubled tX_Doubled sX_Ring_Ring sX_Ring_Doubled, kit_own iX_NoWire tX_NoWire sX_Ring_Ring sX_Ring_NoWire, kit_own iX_Ring tX_Ring sX_Ring_Ring sX_Ring_Ring, kit_own iX_TooMany tX_TooMany sX_Ring_Ring sX_Ring_TooMany, kit_own iX_WireError tX_WireError sX_Ring_Ring sX_Ring_WireError, kit_own iX_BadLine tX_BadLine sX_TooMany_TooMany sX_TooMany_BadLine, kit_own iX_BadMask tX_BadMask sX_TooMany_TooMany sX_TooMany_BadMask, kit_own iX_BadName tX_BadName sX_TooMany_TooMany sX_TooMany_BadName, kit_own iX_BadRow tX_BadRow sX_TooMany_TooMany sX_TooMany_BadRow, kit_own iX_BadSizes tX_BadSizes sX_TooMany_TooMany sX_TooMany_BadSizes, kit_own iX_BadTable tX_BadTable sX_TooMany_TooMany sX_TooMany_BadTable, kit_own iX_Doubled tX_Doubled sX_TooMany_TooMany sX_TooMany_Doubled, kit_own iX_NoWire tX_NoWire sX_TooMany_TooMany sX_TooMany_NoWire, kit_own iX_Ring tX_Ring sX_TooMany_TooMany sX_TooMany_Ring, kit_own iX_TooMany tX_TooMany sX_TooMany_TooMany sX_TooMany_TooMany, kit_own iX_WireError tX_WireError sX_TooMany_TooMany sX_TooMany_WireError⟩
  have C_BadName___init__ := ok_BadName___init__ (P := l.prog) (w0 := w) (base := base) T F_BadName___init__ ⟨a_BadName___init__, i_BadName___init__⟩ b_BadName___init__
  have C_Doubled___init__ := ok_Doubled___init__ (P := l.prog) (w0 := w) (base := base) T F_Doubled___init__ ⟨a_Doubled___init__, i_Doubled___init__⟩ b_Doubled___init__
  have C_NoWire___init__ := ok_NoWire___init__ (P := l.prog) (w0 := w) (base := base) T F_NoWire___init__ ⟨a_NoWire___init__, i_NoWire___init__⟩ b_NoWire___init__
  have C_BadLine___init__ := ok_BadLine___init__ (P := l.prog) (w0 := w) (base := base) T F_BadLine___init__ ⟨a_BadLine___init__, i_BadLine___init__⟩ b_BadLine___init__ (PySem.W.mg_none_of X G z_str)
  have C_Ring___init__ := ok_Ring___init__ (P := l.prog) (w0 := w) (base := base) T F_Ring___init__ ⟨a_Ring___init__, i_Ring___init__⟩ b_Ring___init__ (PySem.W.mg_none_of X G z_list)
  have C_cell := ok_cell (P := l.prog) (w0 := w) (base := base) T F_cell (PySem.W.mg_of X G a_cell) b_cell (PySem.W.mg_none_of X G z_len)
  have C_mix := ok_mix (P := l.prog) (w0 := w) (base := base) T F_mix (PySem.W.mg_of X G a_mix) b_mix
  have C_word := ok_word (P := l.prog) (w0 := w) (base := base) T F_word (PySem.W.mg_of X G a_word) b_word C_mix (PySem.W.mg_none_of X G z_range)
  have C_kinds := ok_kinds (P := l.prog) (w0 := w) (base := base) T F_kinds (PySem.W.mg_of X G a_kinds) b_kinds (PySem.W.mg_none_of X G z_isinstance) (PySem.W.mg_none_of X G z_range)
  exact ok_law T F_law C_cell C_word C_BadName___init__ C_Doubled___init__ C_NoWire___init__ C_BadLine___init__ C_Ring___init__ C_kinds (PySem.W.mg_none_of X G z_ValueError) (PySem.W.mg_none_of X G z_enumerate) (PySem.W.mg_none_of X G z_isinstance) (PySem.W.mg_none_of X G z_list)
theorem walk {l : PySem.W.OpenLaw} {q : Program} {loose : List Str} {XP : (Str → Option Value) → Heap → Prop} {YP : World → Heap → Prop} {d : DefRec} {K : Params → PySem.W.Frag} (hn : l.most = some 63) (hdf : d.params.defaults = [])
    (hY : ∀ (w : World) (h : Heap), YP w h → (K w.params).In h)
    (F : ∀ (w : World) (mg : Str → Option Value) (fa : Addr) (h : Heap), (K w.params).In h → h.Ns mainGlobals mg → mg d.name = some (.ref fa) → ∃ (fd : FuncData) (sp : Sp), (∀ (s : Shared) (u : Value), BindsTo s fd ⟨[u], []⟩ [("_law_script", u)]) ∧ (∀ (H : Hp) (a : Addr) (ns : List Int), ns.length ≤ 63 → SqL (K w.params) H a (ns.map V.int) → sp [.ref a] H (fun v _ => v = .bl true) fun _ _ _ => False) ∧ ∀ base : Heap, (K w.params).In base → base.Ns mainGlobals mg → FnOk l.prog w (K w.params) mg base CX0 4 fa fd ["_law_script"] sp) :
    PySem.W.WalkO q loose XP YP l.row.toRowW d [] (fun f vs => PySem.call f vs) := by
  refine Att.attach_call hn hdf fun w s₀ s₁ mg mb fa o pm cd doc a vs ns G Y ho hd hcd hmg hobj hints hlen hg => ?_
  have KX := hY w _ Y
  obtain ⟨fd, sp, hb, hsp, hF⟩ := F w mg fa _ KX G.T.g hmg
  exact law_call (k := 4) (x := "_law_script") (CX := CX0) KX G.T.g G.T.b G.T.builtins G.T.nolimit hg hobj hints (Nat.le_trans hlen (by decide)) ⟨rfl, by decide, by decide⟩ hF hb (fun H hO hS => hsp H a ns hlen hS) fun H e s' z => z
end My
open PySem PySem.W PyProof.Rows
set_option maxRecDepth 100000 in
set_option maxHeartbeats 0 in
theorem PySem.Challenge.cw_sumwires_k04_refusals_apart_holds : PySem.Challenge.rw_sumwires_k04_refusals_apart.Holds := by
  w_on; o_law; k_head; (case hw => w_witness2)
  k_fill
  refine My.walk (l := PySem.Challenge.rw_sumwires_k04_refusals_apart) rfl rfl (fun w h Y => PySem.W.kIn_of Y) ?F
  case F =>
    intro w mg fa h KX G hmg
    refine' My.all_mk KX G hmg ?aC_BadSizes ?xX_BadSizes ?kX_BadSizes ?bX_BadSizes ?tX_BadSizes ?iX_BadSizes ?aC_TooMany ?xX_TooMany ?kX_TooMany ?bX_TooMany ?tX_TooMany ?iX_TooMany ?aC_BadMask ?xX_BadMask ?kX_BadMask ?bX_BadMask ?tX_BadMask ?iX_BadMask ?aC_BadTable ?xX_BadTable ?kX_BadTable ?bX_BadTable ?tX_BadTable ?iX_BadTable ?aC_BadRow ?xX_BadRow ?kX_BadRow ?bX_BadRow ?tX_BadRow ?iX_BadRow ?aC_WireError ?xX_WireError ?kX_WireError ?bX_WireError ?tX_WireError ?iX_WireError ?aC_BadName ?lx_BadName ?rv_BadName ?kX_BadName ?bX_BadName ?tX_BadName ?iX_BadName ?sa_BadName ?xga_BadName ?xgg_BadName ?xhd_BadName ?xno_BadName ?aC_Doubled ?lx_Doubled ?rv_Doubled ?kX_Doubled ?bX_Doubled ?tX_Doubled ?iX_Doubled ?sa_Doubled ?xga_Doubled ?xgg_Doubled ?xhd_Doubled ?xno_Doubled ?aC_NoWire ?lx_NoWire ?rv_NoWire ?kX_NoWire ?bX_NoWire ?tX_NoWire ?iX_NoWire ?sa_NoWire ?xga_NoWire ?xgg_NoWire ?xhd_NoWire ?xno_NoWire ?aC_BadLine ?lx_BadLine ?rv_BadLine ?kX_BadLine ?bX_BadLine ?tX_BadLine ?iX_BadLine ?sa_BadLine ?xga_BadLine ?xgg_BadLine ?xhd_BadLine ?xno_BadLine ?aC_Ring ?lx_Ring ?rv_Ring ?kX_Ring ?bX_Ring ?tX_Ring ?iX_Ring ?sa_Ring ?xga_Ring ?xgg_Ring ?xhd_Ring ?xno_Ring ?xrd ?xrga ?xrv ?eg_BadLine ?ek_BadLine ?ed_BadLine ?ea_BadLine ?em_BadLine ?eg_BadMask ?ek_BadMask ?ed_BadMask ?ea_BadMask ?em_BadMask ?eg_BadName ?ek_BadName ?ed_BadName ?ea_BadName ?em_BadName ?eg_BadRow ?ek_BadRow ?ed_BadRow ?ea_BadRow ?em_BadRow ?eg_BadSizes ?ek_BadSizes ?ed_BadSizes ?ea_BadSizes ?em_BadSizes ?eg_BadTable ?ek_BadTable ?ed_BadTable ?ea_BadTable ?em_BadTable ?eg_Doubled ?ek_Doubled ?ed_Doubled ?ea_Doubled ?em_Doubled ?eg_NoWire ?ek_NoWire ?ed_NoWire ?ea_NoWire ?em_NoWire ?eg_Ring ?ek_Ring ?ed_Ring ?ea_Ring ?em_Ring ?eg_TooMany ?ek_TooMany ?ed_TooMany ?ea_TooMany ?em_TooMany ?eN ?eT ?sT_BadLine_ValueError ?sT_BadMask_ValueError ?sT_BadName_ValueError ?sT_BadRow_ValueError ?sT_BadSizes_ValueError ?sT_BadTable_ValueError ?sT_Doubled_ValueError ?sT_NoWire_ValueError ?sT_Ring_ValueError ?sT_TooMany_ValueError ?sX_BadLine_BadLine ?sX_BadLine_BadMask ?sX_BadLine_BadName ?sX_BadLine_BadRow ?sX_BadLine_BadSizes ?sX_BadLine_BadTable ?sX_BadLine_Doubled ?sX_BadLine_NoWire ?sX_BadLine_Ring ?sX_BadLine_TooMany ?sX_BadLine_WireError ?sX_BadMask_BadLine ?sX_BadMask_BadMask ?sX_BadMask_BadName ?sX_BadMask_BadRow ?sX_BadMask_BadSizes ?sX_BadMask_BadTable ?sX_BadMask_Doubled ?sX_BadMask_NoWire ?sX_BadMask_Ring ?sX_BadMask_TooMany ?sX_BadMask_WireError ?sX_BadName_BadLine ?sX_BadName_BadMask ?sX_BadName_BadName ?sX_BadName_BadRow ?sX_BadName_BadSizes ?sX_BadName_BadTable ?sX_BadName_Doubled ?sX_BadName_NoWire ?sX_BadName_Ring ?sX_BadName_TooMany ?sX_BadName_WireError ?sX_BadRow_BadLine ?sX_BadRow_BadMask ?sX_BadRow_BadName ?sX_BadRow_BadRow ?sX_BadRow_BadSizes ?sX_BadRow_BadTable ?sX_BadRow_Doubled ?sX_BadRow_NoWire ?sX_BadRow_Ring ?sX_BadRow_TooMany ?sX_BadRow_WireError ?sX_BadSizes_BadLine ?sX_BadSizes_BadMask ?sX_BadSizes_BadName ?sX_BadSizes_BadRow ?sX_BadSizes_BadSizes ?sX_BadSizes_BadTable ?sX_BadSizes_Doubled ?sX_BadSizes_NoWire ?sX_BadSizes_Ring ?sX_BadSizes_TooMany ?sX_BadSizes_WireError ?sX_BadTable_BadLine ?sX_BadTable_BadMask ?sX_BadTable_BadName ?sX_BadTable_BadRow ?sX_BadTable_BadSizes ?sX_BadTable_BadTable ?sX_BadTable_Doubled ?sX_BadTable_NoWire ?sX_BadTable_Ring ?sX_BadTable_TooMany ?sX_BadTable_WireError ?sX_Doubled_BadLine ?sX_Doubled_BadMask ?sX_Doubled_BadName ?sX_Doubled_BadRow ?sX_Doubled_BadSizes ?sX_Doubled_BadTable ?sX_Doubled_Doubled ?sX_Doubled_NoWire ?sX_Doubled_Ring ?sX_Doubled_TooMany ?sX_Doubled_WireError ?sX_NoWire_BadLine ?sX_NoWire_BadMask ?sX_NoWire_BadName ?sX_NoWire_BadRow ?sX_NoWire_BadSizes ?sX_NoWire_BadTable ?sX_NoWire_Doubled ?sX_NoWire_NoWire ?sX_NoWire_Ring ?sX_NoWire_TooMany ?sX_NoWire_WireError ?sX_Ring_BadLine ?sX_Ring_BadMask ?sX_Ring_BadName ?sX_Ring_BadRow ?sX_Ring_BadSizes ?sX_Ring_BadTable ?sX_Ring_Doubled ?sX_Ring_NoWire ?sX_Ring_Ring ?sX_Ring_TooMany ?sX_Ring_WireError ?sX_TooMany_BadLine ?sX_TooMany_BadMask ?sX_TooMany_BadName ?sX_TooMany_BadRow ?sX_TooMany_BadSizes ?sX_TooMany_BadTable ?sX_TooMany_Doubled ?sX_TooMany_NoWire ?sX_TooMany_Ring ?sX_TooMany_TooMany ?sX_TooMany_WireError ?a_BadName___init__ ?i_BadName___init__ ?l_BadName___init__ ?c_BadName___init__ ?k_BadName___init__ ?a_Doubled___init__ ?i_Doubled___init__ ?l_Doubled___init__ ?c_Doubled___init__ ?k_Doubled___init__ ?a_NoWire___init__ ?i_NoWire___init__ ?l_NoWire___init__ ?c_NoWire___init__ ?k_NoWire___init__ ?a_BadLine___init__ ?i_BadLine___init__ ?l_BadLine___init__ ?c_BadLine___init__ ?k_BadLine___init__ ?a_Ring___init__ ?i_Ring___init__ ?l_Ring___init__ ?c_Ring___init__ ?k_Ring___init__ ?a_cell ?l_cell ?c_cell ?k_cell ?a_mix ?l_mix ?c_mix ?k_mix ?a_word ?l_word ?c_word ?k_word ?a_kinds ?l_kinds ?c_kinds ?k_kinds ?a_law ?l_law ?c_law ?k_law ?z_ValueError ?z_enumerate ?z_isinstance ?z_len ?z_list ?z_range ?z_str
    (case aC_BadSizes => k_is); (case xX_BadSizes => k_exc); (case kX_BadSizes => k_is); (case bX_BadSizes => k_is)
    (case tX_BadSizes => k_is); (case iX_BadSizes => k_is); (case aC_TooMany => k_is); (case xX_TooMany => k_exc)
    (case kX_TooMany => k_is); (case bX_TooMany => k_is); (case tX_TooMany => k_is); (case iX_TooMany => k_is)
    (case aC_BadMask => k_is); (case xX_BadMask => k_exc); (case kX_BadMask => k_is); (case bX_BadMask => k_is)
    (case tX_BadMask => k_is); (case iX_BadMask => k_is); (case aC_BadTable => k_is); (case xX_BadTable => k_exc)
    (case kX_BadTable => k_is); (case bX_BadTable => k_is); (case tX_BadTable => k_is); (case iX_BadTable => k_is)
    (case aC_BadRow => k_is); (case xX_BadRow => k_exc); (case kX_BadRow => k_is); (case bX_BadRow => k_is)
    (case tX_BadRow => k_is); (case iX_BadRow => k_is); (case aC_WireError => k_is); (case xX_WireError => k_exc)
    (case kX_WireError => k_is); (case bX_WireError => k_is); (case tX_WireError => k_is); (case iX_WireError => k_is)
    (case aC_BadName => k_is); (case lx_BadName => k_is); (case rv_BadName => rfl); (case kX_BadName => k_is)
    (case bX_BadName => k_is); (case tX_BadName => k_is); (case iX_BadName => k_is); (case sa_BadName => k_is)
    (case xga_BadName => k_is); (case xgg_BadName => k_is); (case xhd_BadName => k_is); (case xno_BadName => k_is)
    (case aC_Doubled => k_is); (case lx_Doubled => k_is); (case rv_Doubled => rfl); (case kX_Doubled => k_is)
    (case bX_Doubled => k_is); (case tX_Doubled => k_is); (case iX_Doubled => k_is); (case sa_Doubled => k_is)
    (case xga_Doubled => k_is); (case xgg_Doubled => k_is); (case xhd_Doubled => k_is); (case xno_Doubled => k_is)
    (case aC_NoWire => k_is); (case lx_NoWire => k_is); (case rv_NoWire => rfl); (case kX_NoWire => k_is)
    (case bX_NoWire => k_is); (case tX_NoWire => k_is); (case iX_NoWire => k_is); (case sa_NoWire => k_is)
    (case xga_NoWire => k_is); (case xgg_NoWire => k_is); (case xhd_NoWire => k_is); (case xno_NoWire => k_is)
    (case aC_BadLine => k_is); (case lx_BadLine => k_is); (case rv_BadLine => rfl); (case kX_BadLine => k_is)
    (case bX_BadLine => k_is); (case tX_BadLine => k_is); (case iX_BadLine => k_is); (case sa_BadLine => k_is)
    (case xga_BadLine => k_is); (case xgg_BadLine => k_is); (case xhd_BadLine => k_is); (case xno_BadLine => k_is)
    (case aC_Ring => k_is); (case lx_Ring => k_is); (case rv_Ring => rfl); (case kX_Ring => k_is)
    (case bX_Ring => k_is); (case tX_Ring => k_is); (case iX_Ring => k_is); (case sa_Ring => k_is)
    (case xga_Ring => k_is); (case xgg_Ring => k_is); (case xhd_Ring => k_is); (case xno_Ring => k_is)
    (case xrd => k_is); (case xrga => k_is); (case xrv => k_is); (case eg_BadLine => k_is)
    (case ek_BadLine => k_is); (case ed_BadLine => k_is); (case ea_BadLine => k_is); (case em_BadLine => k_is)
    (case eg_BadMask => k_is); (case ek_BadMask => k_is); (case ed_BadMask => k_is); (case ea_BadMask => k_is)
    (case em_BadMask => k_is); (case eg_BadName => k_is); (case ek_BadName => k_is); (case ed_BadName => k_is)
    (case ea_BadName => k_is); (case em_BadName => k_is); (case eg_BadRow => k_is); (case ek_BadRow => k_is)
    (case ed_BadRow => k_is); (case ea_BadRow => k_is); (case em_BadRow => k_is); (case eg_BadSizes => k_is)
    (case ek_BadSizes => k_is); (case ed_BadSizes => k_is); (case ea_BadSizes => k_is); (case em_BadSizes => k_is)
    (case eg_BadTable => k_is); (case ek_BadTable => k_is); (case ed_BadTable => k_is); (case ea_BadTable => k_is)
    (case em_BadTable => k_is); (case eg_Doubled => k_is); (case ek_Doubled => k_is); (case ed_Doubled => k_is)
    (case ea_Doubled => k_is); (case em_Doubled => k_is); (case eg_NoWire => k_is); (case ek_NoWire => k_is)
    (case ed_NoWire => k_is); (case ea_NoWire => k_is); (case em_NoWire => k_is); (case eg_Ring => k_is)
    (case ek_Ring => k_is); (case ed_Ring => k_is); (case ea_Ring => k_is); (case em_Ring => k_is)
    (case eg_TooMany => k_is); (case ek_TooMany => k_is); (case ed_TooMany => k_is); (case ea_TooMany => k_is)
    (case em_TooMany => k_is); (case eN => k_is); (case eT => k_is); (case sT_BadLine_ValueError => k_is)
    (case sT_BadMask_ValueError => k_is); (case sT_BadName_ValueError => k_is); (case sT_BadRow_ValueError => k_is); (case sT_BadSizes_ValueError => k_is)
    (case sT_BadTable_ValueError => k_is); (case sT_Doubled_ValueError => k_is); (case sT_NoWire_ValueError => k_is); (case sT_Ring_ValueError => k_is)
    (case sT_TooMany_ValueError => k_is); (case sX_BadLine_BadLine => first | rfl | k_is); (case sX_BadLine_BadMask => first | rfl | k_is); (case sX_BadLine_BadName => first | rfl | k_is)
    (case sX_BadLine_BadRow => first | rfl | k_is); (case sX_BadLine_BadSizes => first | rfl | k_is); (case sX_BadLine_BadTable => first | rfl | k_is); (case sX_BadLine_Doubled => first | rfl | k_is)
    (case sX_BadLine_NoWire => first | rfl | k_is); (case sX_BadLine_Ring => first | rfl | k_is); (case sX_BadLine_TooMany => first | rfl | k_is); (case sX_BadLine_WireError => first | rfl | k_is)
    (case sX_BadMask_BadLine => first | rfl | k_is); (case sX_BadMask_BadMask => first | rfl | k_is); (case sX_BadMask_BadName => first | rfl | k_is); (case sX_BadMask_BadRow => first | rfl | k_is)
    (case sX_BadMask_BadSizes => first | rfl | k_is); (case sX_BadMask_BadTable => first | rfl | k_is); (case sX_BadMask_Doubled => first | rfl | k_is); (case sX_BadMask_NoWire => first | rfl | k_is)
    (case sX_BadMask_Ring => first | rfl | k_is); (case sX_BadMask_TooMany => first | rfl | k_is); (case sX_BadMask_WireError => first | rfl | k_is); (case sX_BadName_BadLine => first | rfl | k_is)
    (case sX_BadName_BadMask => first | rfl | k_is); (case sX_BadName_BadName => first | rfl | k_is); (case sX_BadName_BadRow => first | rfl | k_is); (case sX_BadName_BadSizes => first | rfl | k_is)
    (case sX_BadName_BadTable => first | rfl | k_is); (case sX_BadName_Doubled => first | rfl | k_is); (case sX_BadName_NoWire => first | rfl | k_is); (case sX_BadName_Ring => first | rfl | k_is)
    (case sX_BadName_TooMany => first | rfl | k_is); (case sX_BadName_WireError => first | rfl | k_is); (case sX_BadRow_BadLine => first | rfl | k_is); (case sX_BadRow_BadMask => first | rfl | k_is)
    (case sX_BadRow_BadName => first | rfl | k_is); (case sX_BadRow_BadRow => first | rfl | k_is); (case sX_BadRow_BadSizes => first | rfl | k_is); (case sX_BadRow_BadTable => first | rfl | k_is)
    (case sX_BadRow_Doubled => first | rfl | k_is); (case sX_BadRow_NoWire => first | rfl | k_is); (case sX_BadRow_Ring => first | rfl | k_is); (case sX_BadRow_TooMany => first | rfl | k_is)
    (case sX_BadRow_WireError => first | rfl | k_is); (case sX_BadSizes_BadLine => first | rfl | k_is); (case sX_BadSizes_BadMask => first | rfl | k_is); (case sX_BadSizes_BadName => first | rfl | k_is)
    (case sX_BadSizes_BadRow => first | rfl | k_is); (case sX_BadSizes_BadSizes => first | rfl | k_is); (case sX_BadSizes_BadTable => first | rfl | k_is); (case sX_BadSizes_Doubled => first | rfl | k_is)
    (case sX_BadSizes_NoWire => first | rfl | k_is); (case sX_BadSizes_Ring => first | rfl | k_is); (case sX_BadSizes_TooMany => first | rfl | k_is); (case sX_BadSizes_WireError => first | rfl | k_is)
    (case sX_BadTable_BadLine => first | rfl | k_is); (case sX_BadTable_BadMask => first | rfl | k_is); (case sX_BadTable_BadName => first | rfl | k_is); (case sX_BadTable_BadRow => first | rfl | k_is)
    (case sX_BadTable_BadSizes => first | rfl | k_is); (case sX_BadTable_BadTable => first | rfl | k_is); (case sX_BadTable_Doubled => first | rfl | k_is); (case sX_BadTable_NoWire => first | rfl | k_is)
    (case sX_BadTable_Ring => first | rfl | k_is); (case sX_BadTable_TooMany => first | rfl | k_is); (case sX_BadTable_WireError => first | rfl | k_is); (case sX_Doubled_BadLine => first | rfl | k_is)
    (case sX_Doubled_BadMask => first | rfl | k_is); (case sX_Doubled_BadName => first | rfl | k_is); (case sX_Doubled_BadRow => first | rfl | k_is); (case sX_Doubled_BadSizes => first | rfl | k_is)
    (case sX_Doubled_BadTable => first | rfl | k_is); (case sX_Doubled_Doubled => first | rfl | k_is); (case sX_Doubled_NoWire => first | rfl | k_is); (case sX_Doubled_Ring => first | rfl | k_is)
    (case sX_Doubled_TooMany => first | rfl | k_is); (case sX_Doubled_WireError => first | rfl | k_is); (case sX_NoWire_BadLine => first | rfl | k_is); (case sX_NoWire_BadMask => first | rfl | k_is)
    (case sX_NoWire_BadName => first | rfl | k_is); (case sX_NoWire_BadRow => first | rfl | k_is); (case sX_NoWire_BadSizes => first | rfl | k_is); (case sX_NoWire_BadTable => first | rfl | k_is)
    (case sX_NoWire_Doubled => first | rfl | k_is); (case sX_NoWire_NoWire => first | rfl | k_is); (case sX_NoWire_Ring => first | rfl | k_is); (case sX_NoWire_TooMany => first | rfl | k_is)
    (case sX_NoWire_WireError => first | rfl | k_is); (case sX_Ring_BadLine => first | rfl | k_is); (case sX_Ring_BadMask => first | rfl | k_is); (case sX_Ring_BadName => first | rfl | k_is)
    (case sX_Ring_BadRow => first | rfl | k_is); (case sX_Ring_BadSizes => first | rfl | k_is); (case sX_Ring_BadTable => first | rfl | k_is); (case sX_Ring_Doubled => first | rfl | k_is)
    (case sX_Ring_NoWire => first | rfl | k_is); (case sX_Ring_Ring => first | rfl | k_is); (case sX_Ring_TooMany => first | rfl | k_is); (case sX_Ring_WireError => first | rfl | k_is)
    (case sX_TooMany_BadLine => first | rfl | k_is); (case sX_TooMany_BadMask => first | rfl | k_is); (case sX_TooMany_BadName => first | rfl | k_is); (case sX_TooMany_BadRow => first | rfl | k_is)
    (case sX_TooMany_BadSizes => first | rfl | k_is); (case sX_TooMany_BadTable => first | rfl | k_is); (case sX_TooMany_Doubled => first | rfl | k_is); (case sX_TooMany_NoWire => first | rfl | k_is)
    (case sX_TooMany_Ring => first | rfl | k_is); (case sX_TooMany_TooMany => first | rfl | k_is); (case sX_TooMany_WireError => first | rfl | k_is); (case a_BadName___init__ => k_is)
    (case i_BadName___init__ => k_is); (case l_BadName___init__ => k_is); (case c_BadName___init__ => k_is); (case k_BadName___init__ => k_is)
    (case a_Doubled___init__ => k_is); (case i_Doubled___init__ => k_is); (case l_Doubled___init__ => k_is); (case c_Doubled___init__ => k_is)
    (case k_Doubled___init__ => k_is); (case a_NoWire___init__ => k_is); (case i_NoWire___init__ => k_is); (case l_NoWire___init__ => k_is)
    (case c_NoWire___init__ => k_is); (case k_NoWire___init__ => k_is); (case a_BadLine___init__ => k_is); (case i_BadLine___init__ => k_is)
    (case l_BadLine___init__ => k_is); (case c_BadLine___init__ => k_is); (case k_BadLine___init__ => k_is); (case a_Ring___init__ => k_is)
    (case i_Ring___init__ => k_is); (case l_Ring___init__ => k_is); (case c_Ring___init__ => k_is); (case k_Ring___init__ => k_is)
    (case a_cell => k_is); (case l_cell => k_is); (case c_cell => k_is); (case k_cell => k_is)
    (case a_mix => k_is); (case l_mix => k_is); (case c_mix => k_is); (case k_mix => k_is)
    (case a_word => k_is); (case l_word => k_is); (case c_word => k_is); (case k_word => k_is)
    (case a_kinds => k_is); (case l_kinds => k_is); (case c_kinds => k_is); (case k_kinds => k_is)
    (case a_law => k_is); (case l_law => k_is); (case c_law => k_is); (case k_law => k_is)
    (case z_ValueError => k_is); (case z_enumerate => k_is); (case z_isinstance => k_is); (case z_len => k_is)
    (case z_list => k_is); (case z_range => k_is); (case z_str => k_is)
