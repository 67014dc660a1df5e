import PyProof.Rows.All
import Wide.All
import OpenK.AllK
import Wide.FinOn
import HandS.ForMost
import HandS.Wide
import HandS.WideBits
import HandS.IsInst
import HandS.Steps
import HandS.Exc
import HandS.ExcOwn
import HandS.TryOnly
import HandS.WordsExc
import HandS.EndBits
import HandS.Rev
import HandS.RevTup
import HandS.Walk
import HandS.Zip
import HandS.SortInts
import HandS.More
import HandS.SetFor
import KE.GoesMore
import KE.KDictZip
import HandS.Iter
import HandS.Keys
import HandS.Defaults
import HandS.ExcIs
import HandS.Text
import PyProof.EqKinds
import PyProof.NeKinds
import KE.KEqDict
import HandS.Style
import HandS.ClsMeth
import HandS.List
import HandS.ExcInit
import HandS.ExcField
import PyProof.StrOps2
import HandS.Deep
import HandS.TryMany
import HandS.NoneIn
import HandS.Lambda
import HandS.EndTab
import KE.KNestM
import HandS.Conv
import PySem.Challenge.RW_sumwires_k55_whole_all_states_walked
set_option Elab.async false
set_option linter.all false
set_option maxRecDepth 100000
set_option maxHeartbeats 4000000
set_option exponentiation.threshold 4000
namespace Wk
open PySem L2
abbrev Ex (H H' : Hp) : Prop := ∀ a o, H a = some o → H' a = some o
theorem Ex.rfl' {H : Hp} : Ex H H := fun _ _ h => h
theorem Ex.tr {H H1 H2 : Hp} (a : Ex H H1) (b : Ex H1 H2) : Ex H H2 := fun x o h => b x o (a x o h)
theorem Ex.new {H : Hp} {p : Addr} {o : HO} (h : H p = none) : Ex H (upd H p o) := fun a u e => by
  rw [upd_ne (ne_of_none e h)]; exact e
theorem Ex.non {H H' : Hp} (e : Ex H H') {p : Addr} (h : H' p = none) : H p = none := by
  cases q : H p with
  | none => rfl
  | some o => rw [e p o q] at h; cases h
/-- from (F0, H0) to (F, H): all is kept, and F has grown by nothing but what is new to H0 -/
structure Wf (F0 H0 F H : Hp) : Prop where
  h : Ex H0 H
  f : Ex F H
  g : Ex F0 F
  n : ∀ a o, F a = some o → F0 a = none → H0 a = none
theorem Wf.id {F H : Hp} (e : Ex F H) : Wf F H F H := ⟨Ex.rfl', e, Ex.rfl', fun a o h h' => by rw [h] at h'; cases h'⟩
theorem Wf.tr {F0 H0 F H F' H' : Hp} (a : Wf F0 H0 F H) (b : Wf F H F' H') : Wf F0 H0 F' H' := ⟨a.h.tr b.h, b.f, a.g.tr b.g, fun x o h h0 => by
  cases q : F x with
  | none => exact a.h.non (b.n x o h q)
  | some u => exact a.n x u q h0⟩
/-- a new object that stays as it is -/
theorem Wf.new {F H : Hp} {p : Addr} {o : HO} (e : Ex F H) (hp : H p = none) : Wf F H (upd F p o) (upd H p o) := ⟨Ex.new hp, fun a u h => by
    by_cases q : a = p
    · subst q; rw [upd_same] at h ⊢; exact h
    · rw [upd_ne q] at h ⊢; exact e a u h, Ex.new (e.non hp), fun a u h h0 => by
    by_cases q : a = p
    · subst q; exact hp
    · rw [upd_ne q, h0] at h; cases h⟩
/-- a new object that is still changed -/
theorem Wf.newX {F H : Hp} {p : Addr} {o : HO} (e : Ex F H) (hp : H p = none) : Wf F H F (upd H p o) := ⟨Ex.new hp, e.tr (Ex.new hp), Ex.rfl', fun a u h h0 => by rw [h] at h0; cases h0⟩
/-- the heap alone has grown -/
theorem Wf.grow {F H H' : Hp} (e : Ex F H) (h : Ex H H') : Wf F H F H' := ⟨h, e.tr h, Ex.rfl', fun a u h h0 => by rw [h] at h0; cases h0⟩
/-- F' has grown by nothing but p -/
abbrev Fz (F F' : Hp) (p : Addr) : Prop := ∀ q, q ≠ p → F q = none → F' q = none
/-- one's own object, not yet in F -/
structure Xc (H0 F H : Hp) (p : Addr) (o : HO) : Prop where
  z : H0 p = none
  n : F p = none
  h : H p = some o
section
variable {F0 H0 F H F' H' : Hp} {p q : Addr} {o u : HO}
theorem Xc.mk' (w : Wf F0 H0 F H) (hp : H p = none) : Xc H0 F (upd H p o) p o := ⟨w.h.non hp, w.f.non hp, upd_same⟩
theorem Xc.step (x : Xc H0 F H p o) (w : Wf F H F' H') : Xc H0 F' H' p o := ⟨x.z, (by
  cases q : F' p with
  | none => rfl
  | some u => have := w.n p u q x.n; rw [x.h] at this; cases this), w.h _ _ x.h⟩
theorem Xc.set (x : Xc H0 F H p o) : Xc H0 F (upd H p u) p u := ⟨x.z, x.n, upd_same⟩
theorem Wf.set (w : Wf F0 H0 F H) (x : Xc H0 F H p o) : Wf F0 H0 F (upd H p u) := ⟨fun a v e => by
    rw [upd_ne (ne_of_none e x.z)]; exact w.h a v e, fun a v e => by rw [upd_ne (ne_of_none e x.n)]; exact w.f a v e, w.g, w.n⟩
/-- it is changed no more -/
theorem Wf.freeze (w : Wf F0 H0 F H) (x : Xc H0 F H p o) : Wf F0 H0 (upd F p o) H := ⟨w.h, fun a v e => by
    by_cases q : a = p
    · subst q; rw [upd_same] at e; rw [← e]; exact x.h
    · rw [upd_ne q] at e; exact w.f a v e, w.g.tr (Ex.new x.n), fun a v e e0 => by
    by_cases q : a = p
    · subst q; exact x.z
    · rw [upd_ne q] at e; exact w.n a v e e0⟩
theorem Xc.frz (x : Xc H0 F H p o) (y : Xc H0 F H q u) (h : p ≠ q) : Xc H0 (upd F q u) H p o := ⟨x.z, by rw [upd_ne h]; exact x.n, x.h⟩
theorem Xc.ne (x : Xc H0 F H p o) (h : H q = none) : p ≠ q := ne_of_none x.h h
end
structure Rep (α : Type) where
  r : Hp → V → α → Prop
  mono : ∀ {F F' : Hp} {v : V} {x : α}, Ex F F' → r F v x → r F' v x
def pI : Rep Int := ⟨fun _ v x => v = .int x, fun _ h => h⟩
def pN : Rep Nat := ⟨fun _ v x => v = .int (x : Int), fun _ h => h⟩
def pB : Rep Bool := ⟨fun _ v x => v = .bl x, fun _ h => h⟩
def pS : Rep Str := ⟨fun _ v x => v = .str x, fun _ h => h⟩
def All {α : Type} (e : Rep α) (F : Hp) : List V → List α → Prop
  | [], [] => True
  | v :: vs, x :: xs => e.r F v x ∧ All e F vs xs
  | _, _ => False
section
variable {α β γ : Type} {e : Rep α} {F F' : Hp} {vs ws : List V} {xs ys : List α} {v : V} {x : α}
theorem All.mono (h : Ex F F') : ∀ {vs : List V} {xs : List α}, All e F vs xs → All e F' vs xs
  | [], [], _ => trivial
  | _ :: _, _ :: _, ⟨a, b⟩ => ⟨e.mono h a, All.mono h b⟩
  | [], _ :: _, q => q.elim
  | _ :: _, [], q => q.elim
theorem All.len : ∀ {vs : List V} {xs : List α}, All e F vs xs → vs.length = xs.length
  | [], [], _ => rfl
  | _ :: _, _ :: _, ⟨_, b⟩ => by rw [List.length_cons, List.length_cons, All.len b]
  | [], _ :: _, q => q.elim
  | _ :: _, [], q => q.elim
theorem All.get : ∀ {vs : List V} {xs : List α} {i : Nat} {x : α}, All e F vs xs → xs[i]? = some x → ∃ v, vs[i]? = some v ∧ e.r F v x
  | _ :: _, _ :: _, 0, _, ⟨a, _⟩, h => by simp at h; subst h; exact ⟨_, rfl, a⟩
  | _ :: _, _ :: _, i + 1, _, ⟨_, b⟩, h => by
    obtain ⟨v, h1, h2⟩ := All.get (i := i) b (by simpa using h)
    exact ⟨v, by simpa using h1, h2⟩
  | [], [], _, _, _, h => by simp at h
  | [], _ :: _, _, _, q, _ => q.elim
  | _ :: _, [], _, _, q, _ => q.elim
theorem All.got : ∀ {vs : List V} {xs : List α} {i : Nat} {v : V}, All e F vs xs → vs[i]? = some v → ∃ x, xs[i]? = some x ∧ e.r F v x
  | _ :: _, _ :: _, 0, _, ⟨a, _⟩, h => by simp at h; subst h; exact ⟨_, rfl, a⟩
  | _ :: _, _ :: _, i + 1, _, ⟨_, b⟩, h => by
    obtain ⟨v, h1, h2⟩ := All.got (i := i) b (by simpa using h)
    exact ⟨v, by simpa using h1, h2⟩
  | [], [], _, _, _, h => by simp at h
  | [], _ :: _, _, _, q, _ => q.elim
  | _ :: _, [], _, _, q, _ => q.elim
theorem All.app : ∀ {vs : List V} {xs : List α}, All e F vs xs → All e F ws ys → All e F (vs ++ ws) (xs ++ ys)
  | [], [], _, b => b
  | _ :: _, _ :: _, ⟨a, a'⟩, b => ⟨a, All.app a' b⟩
  | [], _ :: _, q, _ => q.elim
  | _ :: _, [], q, _ => q.elim
theorem All.snoc (a : All e F vs xs) (b : e.r F v x) : All e F (vs ++ [v]) (xs ++ [x]) := a.app ⟨b, trivial⟩
theorem All.set : ∀ {vs : List V} {xs : List α} (i : Nat), All e F vs xs → e.r F v x → All e F (vs.set i v) (xs.set i x)
  | [], [], _, _, _ => trivial
  | _ :: _, _ :: _, 0, ⟨_, b⟩, r => ⟨r, b⟩
  | _ :: _, _ :: _, i + 1, ⟨a, b⟩, r => ⟨a, All.set i b r⟩
  | [], _ :: _, _, q, _ => q.elim
  | _ :: _, [], _, q, _ => q.elim
theorem All.take : ∀ {vs : List V} {xs : List α} (i : Nat), All e F vs xs → All e F (vs.take i) (xs.take i)
  | [], [], i, _ => by simp [All]
  | _ :: _, _ :: _, 0, _ => trivial
  | _ :: _, _ :: _, i + 1, ⟨a, b⟩ => ⟨a, All.take i b⟩
  | [], _ :: _, _, q => q.elim
  | _ :: _, [], _, q => q.elim
theorem All.drop : ∀ {vs : List V} {xs : List α} (i : Nat), All e F vs xs → All e F (vs.drop i) (xs.drop i)
  | [], [], i, _ => by simp [All]
  | _ :: _, _ :: _, 0, h => h
  | _ :: _, _ :: _, i + 1, ⟨_, b⟩ => All.drop i b
  | [], _ :: _, _, q => q.elim
  | _ :: _, [], _, q => q.elim
theorem All.ofInts : ∀ {xs : List Int}, All pI F (xs.map V.int) xs
  | [] => trivial
  | _ :: _ => ⟨rfl, All.ofInts⟩
end
/-- a list, a tuple of things of one kind, pairs, triples -/
def pL {α : Type} (e : Rep α) : Rep (List α) := ⟨fun F v xs => ∃ p vs, v = .ref p ∧ F p = some (.lst vs) ∧ All e F vs xs, fun h ⟨p, vs, a, b, c⟩ => ⟨p, vs, a, h _ _ b, c.mono h⟩⟩
def pTL {α : Type} (e : Rep α) : Rep (List α) := ⟨fun F v xs => ∃ p vs, v = .ref p ∧ F p = some (.tup vs) ∧ All e F vs xs, fun h ⟨p, vs, a, b, c⟩ => ⟨p, vs, a, h _ _ b, c.mono h⟩⟩
def pT2 {α β : Type} (e : Rep α) (f : Rep β) : Rep (α × β) := ⟨fun F v x => ∃ p u w, v = .ref p ∧ F p = some (.tup [u, w]) ∧ e.r F u x.1 ∧ f.r F w x.2, fun h ⟨p, u, w, a, b, c, d⟩ => ⟨p, u, w, a, h _ _ b, e.mono h c, f.mono h d⟩⟩
def pT3 {α β γ : Type} (e : Rep α) (f : Rep β) (g : Rep γ) : Rep (α × β × γ) := ⟨fun F v x => ∃ p u w y, v = .ref p ∧ F p = some (.tup [u, w, y]) ∧ e.r F u x.1 ∧ f.r F w x.2.1 ∧ g.r F y x.2.2, fun h ⟨p, u, w, y, a, b, c, d, k⟩ => ⟨p, u, w, y, a, h _ _ b, e.mono h c, f.mono h d, g.mono h k⟩⟩
/-- the script: read only -/
def pScr (K : PySem.W.Frag) : Rep (List Int) := ⟨fun F v xs => ∃ a, v = .ref a ∧ SqL K F a (xs.map V.int), fun h ⟨a, e, q⟩ => ⟨a, e, by
  rcases q with (q | ⟨o, q⟩) | q
  · exact .inl (.inl (h _ _ q))
  · exact .inl (.inr ⟨o, h _ _ q⟩)
  · exact .inr q⟩⟩
/-- one's own list -/
structure XL {α : Type} (e : Rep α) (H0 F H : Hp) (p : Addr) (xs : List α) : Prop where
  x : ∃ vs, Xc H0 F H p (.lst vs) ∧ All e F vs xs
section
variable {α : Type} {e : Rep α} {F0 H0 F H F' H' : Hp} {p q : Addr} {o : HO} {xs : List α} {y : α} {v : V}
theorem XL.step (x : XL e H0 F H p xs) (w : Wf F H F' H') : XL e H0 F' H' p xs := let ⟨vs, a, b⟩ := x.x; ⟨vs, a.step w, b.mono w.g⟩
theorem XL.ne (x : XL e H0 F H p xs) (h : H q = none) : p ≠ q := let ⟨_, a, _⟩ := x.x; a.ne h
theorem XL.nil (w : Wf F0 H0 F H) (hp : H p = none) : XL e H0 F (upd H p (.lst [])) p [] := ⟨[], Xc.mk' w hp, trivial⟩
theorem XL.frz {u : HO} {β : Type} {e' : Rep β} {ys : List β} (x : XL e H0 F H p xs) (z : Xc H0 F H q u) (h : p ≠ q) : XL e H0 (upd F q u) H p xs := let ⟨vs, a, b⟩ := x.x; ⟨vs, a.frz z h, b.mono (Ex.new z.n)⟩
theorem XL.zero (x : XL e H0 F H p xs) : H0 p = none := let ⟨_, a, _⟩ := x.x; a.z
end
def forW {α S : Type} : List α → S → (α → S → (S → Prop) → (S → Prop) → Prop) → (S → Prop) → Prop
  | [], s, _, k => k s
  | x :: xs, s, b, k => b x s (fun s' => forW xs s' b k) k
def compG {α β : Type} : List α → List β → (α → (Option β → Prop) → Prop) → (List β → Prop) → Prop
  | [], acc, _, k => k acc
  | x :: xs, acc, b, k => b x fun o => compG xs (acc ++ o.toList) b k
def compW {α β : Type} (xs : List α) (b : α → (Option β → Prop) → Prop) (k : List β → Prop) : Prop := compG xs [] b k
def whileW {S : Type} (test : S → (Bool → Prop) → Prop) (body : S → (S → Prop) → (S → Prop) → Prop) (s : S) (k : S → Prop) : Prop :=
  ∃ I : Nat → S → Prop, (∃ m, I m s) ∧ ∀ m s, I m s → test s fun b => if b = true then body s (fun s' => ∃ m', m' < m ∧ I m' s') k else k s
section
variable {K : PySem.W.Frag} {σ σ1 : L2.St} {H H1 : Hp} {te ta tb tc : TE} {tt tu : TT} {tA tR : TA} {Q : VK} {v w x y z : V} {D : Ends} {t u : TS} {i j : Int} {a b m n : Nat} {p q : Prop}
theorem e_val (h : Val te σ H v) (q : Q v H) : te σ H Q := h Q q
theorem v_eq (h : Val te σ H v) (e : v = w) : Val te σ H w := e ▸ h
theorem vi_of (h : Val te σ H (.int i)) (e : i = j) : Val te σ H (.int j) := e ▸ h
theorem vb_of {b c : Bool} (h : Val te σ H (.bl b)) (e : b = c) : Val te σ H (.bl c) := e ▸ h
theorem v2 {r : R2} (ha : Val ta σ H x) (hb : Val tb σ H y) (hr : ∀ Q : VK, Q z H → r x y H Q) : Val (tOp r ta tb) σ H z := fun Q k => ha _ (hb _ (hr Q k))
theorem v1 {r : V → Hp → VK → Prop} (ha : Val ta σ H x) (hr : ∀ Q : VK, Q z H → r x H Q) : Val (tUn r ta) σ H z := fun Q k => ha _ (hr Q k)
theorem vi0 {g : Int → Int → V} (ha : Val ta σ H (.int i)) (hb : Val tb σ H (.int j)) : Val (tOp (rI0 g) ta tb) σ H (g i j) := fun _ k => ha _ (hb _ ⟨i, j, rfl, rfl, k⟩)
theorem viC {C : Int → Int → Prop} {g : Int → Int → V} (ha : Val ta σ H (.int i)) (hb : Val tb σ H (.int j)) (hc : C i j) : Val (tOp (rI C g) ta tb) σ H (g i j) := fun _ k => ha _ (hb _ ⟨i, j, rfl, rfl, hc, k⟩)
theorem vn_add (ha : Val ta σ H (.int (a : Int))) (hb : Val tb σ H (.int (b : Int))) : Val (tOp (rI0 fun i j => .int (i + j)) ta tb) σ H (.int ((a + b : Nat) : Int)) := vi_of (vi0 ha hb) (by omega)
theorem vn_sub (ha : Val ta σ H (.int (a : Int))) (hb : Val tb σ H (.int (b : Int))) (h : b ≤ a) : Val (tOp (rI0 fun i j => .int (i - j)) ta tb) σ H (.int ((a - b : Nat) : Int)) := vi_of (vi0 ha hb) (by omega)
def NMul (a b : Nat) : Prop := a < 2 ^ 64 ∨ b < 2 ^ 64
theorem vn_mul (ha : Val ta σ H (.int (a : Int))) (hb : Val tb σ H (.int (b : Int))) (h : NMul a b) : Val (tOp (rI CMul fun i j => .int (i * j)) ta tb) σ H (.int ((a * b : Nat) : Int)) := vi_of (viC ha hb (by
  rcases h with h | h
  · exact .inl ⟨by omega, by omega⟩
  · exact .inr ⟨by omega, by omega⟩)) (by rw [Int.natCast_mul])
def NDiv (b : Nat) : Prop := 0 < b ∧ b.log2 < 9000
theorem vn_div (ha : Val ta σ H (.int (a : Int))) (hb : Val tb σ H (.int (b : Int))) (h : NDiv b) : Val (tOp (rI CDivW fun i j => .int (i / j)) ta tb) σ H (.int ((a / b : Nat) : Int)) := vi_of (viC ha hb ⟨by have := h.1; omega, h.2⟩) (by rw [Int.natCast_ediv])
theorem vi_div (ha : Val ta σ H (.int i)) (hb : Val tb σ H (.int (b : Int))) (h : NDiv b) : Val (tOp (rI CDivW fun i j => .int (i / j)) ta tb) σ H (.int (i / (b : Int))) := viC ha hb ⟨by have := h.1; omega, h.2⟩
theorem vn_mod (ha : Val ta σ H (.int (a : Int))) (hb : Val tb σ H (.int (b : Int))) (h : 0 < b) : Val (tOp (rI (fun _ j => 0 < j) fun i j => .int (i % j)) ta tb) σ H (.int ((a % b : Nat) : Int)) := vi_of (viC (C := fun _ j => 0 < j) ha hb (by omega)) (by rw [Int.natCast_emod])
/-- i % m, as a whole number from 0 on -/
def modN (i : Int) (m : Nat) : Nat := (i % (m : Int)).toNat
theorem modN_cast {i : Int} {m : Nat} (h : 0 < m) : ((modN i m : Nat) : Int) = i % (m : Int) := Int.toNat_of_nonneg (Int.emod_nonneg _ (by omega))
theorem modN_lt {i : Int} {m : Nat} (h : 0 < m) : modN i m < m := by
  have := modN_cast (i := i) h
  have := Int.emod_lt_of_pos i (show (0 : Int) < m by omega)
  omega
theorem vm_mod (ha : Val ta σ H (.int i)) (hb : Val tb σ H (.int (b : Int))) (h : 0 < b) : Val (tOp (rI (fun _ j => 0 < j) fun i j => .int (i % j)) ta tb) σ H (.int ((modN i b : Nat) : Int)) := vi_of (viC (C := fun _ j => 0 < j) ha hb (by omega)) (modN_cast h).symm
theorem bitAnd_N (a b : Nat) : Builtin.bitAnd (a : Int) (b : Int) = ((a &&& b : Nat) : Int) := by
  unfold Builtin.bitAnd
  rw [decide_eq_true (Int.natCast_nonneg a), decide_eq_true (Int.natCast_nonneg b)]
  rfl
theorem bitXor_N (a b : Nat) : Builtin.bitXor (a : Int) (b : Int) = ((a ^^^ b : Nat) : Int) := by rw [Bits.bitXor_pp (Int.natCast_nonneg a) (Int.natCast_nonneg b)]; rfl
theorem bitOr_N (a b : Nat) : Builtin.bitOr (a : Int) (b : Int) = ((a ||| b : Nat) : Int) := by rw [Bits.bitOr_pp (Int.natCast_nonneg a) (Int.natCast_nonneg b)]; rfl
theorem vn_and (ha : Val ta σ H (.int (a : Int))) (hb : Val tb σ H (.int (b : Int))) : Val (tOp (rI0 fun i j => .int (Builtin.bitAnd i j)) ta tb) σ H (.int ((a &&& b : Nat) : Int)) := vi_of (vi0 ha hb) (bitAnd_N a b)
theorem vn_or (ha : Val ta σ H (.int (a : Int))) (hb : Val tb σ H (.int (b : Int))) : Val (tOp (rI0 fun i j => .int (Builtin.bitOr i j)) ta tb) σ H (.int ((a ||| b : Nat) : Int)) := vi_of (vi0 ha hb) (bitOr_N a b)
theorem vn_xor (ha : Val ta σ H (.int (a : Int))) (hb : Val tb σ H (.int (b : Int))) : Val (tOp (rI0 fun i j => .int (Builtin.bitXor i j)) ta tb) σ H (.int ((a ^^^ b : Nat) : Int)) := vi_of (vi0 ha hb) (bitXor_N a b)
def NShl (a k : Nat) : Prop := a.log2 + k < 100000000
theorem NShl.ok {a k : Nat} (h : NShl a k) : CShl (a : Int) (k : Int) := by
  have e : (2 : Int) ^ 27 = 134217728 := by decide
  refine ⟨Int.natCast_nonneg _, ?_⟩
  rw [e]
  have b : Builtin.Int.intBits (a : Int) ≤ a.log2 + 1 := by
    unfold Builtin.Int.intBits
    split
    · omega
    · exact Nat.le_refl _
  unfold NShl at h
  omega
theorem vn_shl (ha : Val ta σ H (.int (a : Int))) (hb : Val tb σ H (.int (b : Int))) (h : NShl a b) : Val (tOp (rI CShl fun i j => .int (i * 2 ^ j.toNat)) ta tb) σ H (.int ((a <<< b : Nat) : Int)) := vi_of (viC ha hb h.ok) (by
  rw [Int.toNat_natCast, Nat.shiftLeft_eq, Int.natCast_mul, Int.natCast_pow]; rfl)
theorem vn_one (ha : Val ta σ H (.int 1)) (hb : Val tb σ H (.int (b : Int))) (h : b < 100000000) : Val (tOp (rI CShl fun i j => .int (i * 2 ^ j.toNat)) ta tb) σ H (.int ((2 ^ b : Nat) : Int)) := vi_of (vn_shl (a := 1) ha hb (by
  unfold NShl
  have : Nat.log2 1 = 0 := by decide
  omega)) (by rw [Nat.shiftLeft_eq, Nat.one_mul])
theorem vi_shr (ha : Val ta σ H (.int i)) (hb : Val tb σ H (.int (b : Int))) : Val (tOp (rI (fun _ j => 0 ≤ j) fun i j => .int (i / 2 ^ j.toNat)) ta tb) σ H (.int (i / 2 ^ b)) := vi_of (viC (C := fun _ j => 0 ≤ j) ha hb (Int.natCast_nonneg _)) (by rw [Int.toNat_natCast])
theorem vn_shr (ha : Val ta σ H (.int (a : Int))) (hb : Val tb σ H (.int (b : Int))) : Val (tOp (rI (fun _ j => 0 ≤ j) fun i j => .int (i / 2 ^ j.toNat)) ta tb) σ H (.int ((a >>> b : Nat) : Int)) := vi_of (vi_shr ha hb) (by
  rw [Nat.shiftRight_eq_div_pow, Int.natCast_ediv, Int.natCast_pow]; rfl)
theorem v_neg (ha : Val ta σ H (.int i)) : Val (tUn (rU fun i => .int (-i)) ta) σ H (.int (-i)) := v1 ha fun _ k => ⟨i, rfl, k⟩
theorem c_lt (ha : Val ta σ H (.int i)) (hb : Val tb σ H (.int j)) : Val (tOp (rI0 fun i j => .bl (decide (i < j))) ta tb) σ H (.bl (decide (i < j))) := vi0 ha hb
theorem c_le (ha : Val ta σ H (.int i)) (hb : Val tb σ H (.int j)) : Val (tOp (rI0 fun i j => .bl (decide (i ≤ j))) ta tb) σ H (.bl (decide (i ≤ j))) := vi0 ha hb
theorem c_gt (ha : Val ta σ H (.int i)) (hb : Val tb σ H (.int j)) : Val (tOp (rI0 fun i j => .bl (decide (j < i))) ta tb) σ H (.bl (decide (j < i))) := vi0 ha hb
theorem dec_iff {p q : Prop} [Decidable p] [Decidable q] (h : p ↔ q) : decide p = decide q := by
  by_cases k : p
  · rw [decide_eq_true k, decide_eq_true (h.mp k)]
  · rw [decide_eq_false k, decide_eq_false (fun z => k (h.mpr z))]
theorem vb_dec [Decidable p] [Decidable q] (h : Val te σ H (.bl (decide p))) (e : p ↔ q) : Val te σ H (.bl (decide q)) := vb_of h (dec_iff e)
theorem c_eqI (ha : Val ta σ H (.int i)) (hb : Val tb σ H (.int j)) : Val (tOp rEq ta tb) σ H (.bl (decide (i = j))) := v2 ha hb fun Q k => ⟨rfl, by
  rw [dec_iff (show V.int i = V.int j ↔ i = j from ⟨fun h => V.int.inj h, fun h => by rw [h]⟩)]; exact k⟩
theorem c_neI (ha : Val ta σ H (.int i)) (hb : Val tb σ H (.int j)) : Val (tOp rNe ta tb) σ H (.bl (decide (i ≠ j))) := v2 ha hb fun Q k => ⟨rfl, by
  rw [← decide_not, dec_iff (show ¬ V.int i = V.int j ↔ i ≠ j from ⟨fun h e => h (by rw [e]), fun h e => h (V.int.inj e)⟩)]; exact k⟩
theorem c_eqS {s r : Str} (ha : Val ta σ H (.str s)) (hb : Val tb σ H (.str r)) : Val (tOp rEq ta tb) σ H (.bl (decide (s = r))) := v2 ha hb fun Q k => ⟨rfl, by
  rw [dec_iff (show V.str s = V.str r ↔ s = r from ⟨fun h => V.str.inj h, fun h => by rw [h]⟩)]; exact k⟩
theorem c_neS {s r : Str} (ha : Val ta σ H (.str s)) (hb : Val tb σ H (.str r)) : Val (tOp rNe ta tb) σ H (.bl (decide (s ≠ r))) := v2 ha hb fun Q k => ⟨rfl, by
  rw [← decide_not, dec_iff (show ¬ V.str s = V.str r ↔ s ≠ r from ⟨fun h e => h (by rw [e]), fun h e => h (V.str.inj e)⟩)]; exact k⟩
theorem c_eqB {s r : Bool} (ha : Val ta σ H (.bl s)) (hb : Val tb σ H (.bl r)) : Val (tOp rEq ta tb) σ H (.bl (decide (s = r))) := v2 ha hb fun Q k => ⟨rfl, by
  rw [dec_iff (show V.bl s = V.bl r ↔ s = r from ⟨fun h => V.bl.inj h, fun h => by rw [h]⟩)]; exact k⟩
theorem c_neB {s r : Bool} (ha : Val ta σ H (.bl s)) (hb : Val tb σ H (.bl r)) : Val (tOp rNe ta tb) σ H (.bl (decide (s ≠ r))) := v2 ha hb fun Q k => ⟨rfl, by
  rw [← decide_not, dec_iff (show ¬ V.bl s = V.bl r ↔ s ≠ r from ⟨fun h e => h (by rw [e]), fun h e => h (V.bl.inj e)⟩)]; exact k⟩
/-- numbers from 0 on: the comparison without casts -/
theorem n_lt : ((a : Int) < (b : Int)) ↔ a < b := by omega
theorem n_le : ((a : Int) ≤ (b : Int)) ↔ a ≤ b := by omega
theorem n_eq : ((a : Int) = (b : Int)) ↔ a = b := by omega
theorem n_ne : ((a : Int) ≠ (b : Int)) ↔ a ≠ b := by omega
/-- a < b < c -/
theorem v_chain {r r' : R2} {b1 b2 : Bool} (ha : Val ta σ H x) (hb : Val tb σ H y) (hc : Val tc σ H z) (h1 : ∀ Q : VK, Q (.bl b1) H → r x y H Q) (h2 : ∀ Q : VK, Q (.bl b2) H → r' y z H Q) : Val (tChain r r' ta tb tc) σ H (.bl (b1 && b2)) := fun Q k => ha _ (hb _ (h1 _ ⟨b1, rfl, by
  cases b1 with
  | true => rw [if_pos rfl]; exact hc _ (h2 _ (by simpa using k))
  | false => rw [if_neg (by simp)]; simpa using k⟩))
theorem t_of (h : Val te σ H (.bl b')) : Ans (tTest te) σ H b' := fun _ k => h _ ⟨_, rfl, k⟩
theorem t_ofB (h : Val te σ H (.bl b')) : Ans (tB te) σ H b' := fun _ k => h _ ⟨_, rfl, k⟩
theorem t_dec {b c : Bool} (h : Ans tt σ H b) (e : b = c) : Ans tt σ H c := e ▸ h
theorem t_iff [Decidable p] [Decidable q] (h : Ans tt σ H (decide p)) (e : p ↔ q) : Ans tt σ H (decide q) := t_dec h (dec_iff e)
theorem t_not [Decidable p] (h : Ans tt σ H (decide p)) : Ans (tNot tt) σ H (decide (¬ p)) := fun Q k => h _ (by rw [← decide_not]; exact k)
theorem t_and [Decidable p] [Decidable q] (h : Ans tt σ H (decide p)) (h2 : p → Ans tu σ H (decide q)) : Ans (tAnd tt tu) σ H (decide (p ∧ q)) := fun Q k => h _ (by
  by_cases hp : p
  · rw [decide_eq_true hp, if_pos rfl]
    exact h2 hp Q (by rw [dec_iff (show q ↔ p ∧ q from ⟨fun z => ⟨hp, z⟩, fun z => z.2⟩)]; exact k)
  · rw [decide_eq_false hp, if_neg (by simp)]
    rw [decide_eq_false (fun z => hp z.1)] at k
    exact k)
theorem t_or [Decidable p] [Decidable q] (h : Ans tt σ H (decide p)) (h2 : ¬ p → Ans tu σ H (decide q)) : Ans (tOr tt tu) σ H (decide (p ∨ q)) := fun Q k => h _ (by
  by_cases hp : p
  · rw [decide_eq_true hp, if_pos rfl]
    rw [decide_eq_true (Or.inl hp)] at k
    exact k
  · rw [decide_eq_false hp, if_neg (by simp)]
    exact h2 hp Q (by rw [dec_iff (show q ↔ p ∨ q from ⟨fun z => .inr z, fun z => z.resolve_left hp⟩)]; exact k))
theorem vt_not [Decidable p] (h : Val te σ H (.bl (decide p))) : Val (tNotV te) σ H (.bl (decide (¬ p))) := fun Q k => h _ ⟨_, rfl, by rw [← decide_not]; exact k⟩
theorem vt_and [Decidable p] [Decidable q] (h : Val ta σ H (.bl (decide p))) (h2 : p → Val tb σ H (.bl (decide q))) : Val (tAndV ta tb) σ H (.bl (decide (p ∧ q))) := fun Q k => h _ ⟨_, rfl, by
  by_cases hp : p
  · rw [decide_eq_true hp, if_pos rfl]
    exact h2 hp Q (by rw [dec_iff (show q ↔ p ∧ q from ⟨fun z => ⟨hp, z⟩, fun z => z.2⟩)]; exact k)
  · rw [decide_eq_false hp, if_neg (by simp)]
    rw [decide_eq_false (fun z => hp z.1)] at k
    exact k⟩
theorem e_call {sp : Sp} {E : XK} (h : tA σ H fun vs H1 => sp vs H1 Q E) : tCall sp [] E tA σ H Q := by
  show tA σ H fun vs H1 => sp (vs ++ []) H1 Q E
  simpa only [List.append_nil] using h
theorem a_nil {R : List V → Hp → Prop} (h : R [] H) : tNil σ H R := h
theorem a_cons {R : List V → Hp → Prop} (h : te σ H fun x H1 => tR σ H1 fun xs H2 => R (x :: xs) H2) : tCons te tR σ H R := h
theorem a_val {R : List V → Hp → Prop} (h : Val te σ H v) (k : tR σ H fun xs H2 => R (v :: xs) H2) : tCons te tR σ H R := h _ k
theorem v_cb1 {r : List V → Hp → VK → Prop} (ha : Val ta σ H x) (hr : ∀ Q : VK, Q z H → r [x] H Q) : Val (tCB r (tCons ta tNil)) σ H z := fun Q k => ha _ (hr Q k)
theorem q_sq (h : ∀ N : L2.St → Hp → Prop, (∀ σ' H', u D σ' H' → N σ' H') → t { D with nx := N } σ H) : tSeq t u D σ H := h _ fun _ _ z => z
theorem a_asg {i : Nat} (h : Val te σ H v) (q : D.nx (σ.set i (some v)) H) : tAsg te (gName i) D σ H := h _ q
theorem a_asgE {i : Nat} (h : te σ H fun v H1 => D.nx (σ.set i (some v)) H1) : tAsg te (gName i) D σ H := h
theorem a_ret (h : Val te σ H v) (q : D.rt v H) : tRet te D σ H := h _ q
theorem a_retE (h : te σ H D.rt) : tRet te D σ H := h
theorem a_dropE (h : te σ H fun _ H1 => D.nx σ H1) : tDrop te D σ H := h
theorem a_ifE (h : tt σ H fun b H1 => if b = true then t D σ H1 else u D σ H1) : tIfS tt t u D σ H := h
theorem ifP [Decidable p] {A B : Prop} (h : if p then A else B) (hp : p) : A := by rw [if_pos hp] at h; exact h
theorem ifN [Decidable p] {A B : Prop} (h : if p then A else B) (hp : ¬ p) : B := by rw [if_neg hp] at h; exact h
end
end Wk
namespace Wk
open PySem L2
class Dat {α : Type} (e : Rep α) (lv : outParam Nat) where
  d : α → PyData
  dp : ∀ {K : PySem.W.Frag} {F : Hp} {v : V} {x : α}, e.r F v x → Dp K F v (d x)
  lay : ∀ x, (d x).canLay0 = true
  dep : ∀ x, (d x).depth ≤ lv
  inj : ∀ x y, PyData.eqv (d x) (d y) = true ↔ x = y
instance : Dat pI 0 := ⟨.int, fun h => by cases (show _ = V.int _ from h); exact .int _, fun _ => rfl, fun _ => Nat.le_refl _, fun x y => by
  show ((x == y) = true) ↔ _
  exact beq_iff_eq⟩
instance : Dat pN 0 := ⟨fun n => .int (n : Int), fun h => by cases (show _ = V.int _ from h); exact .int _, fun _ => rfl, fun _ => Nat.le_refl _, fun x y => by
  show (((x : Int) == (y : Int)) = true) ↔ _
  rw [beq_iff_eq]; omega⟩
instance : Dat pB 0 := ⟨.bool, fun h => by cases (show _ = V.bl _ from h); exact .bl _, fun _ => rfl, fun _ => Nat.le_refl _, fun x y => by
  show ((x == y) = true) ↔ _
  exact beq_iff_eq⟩
theorem lay_all {α : Type} {d : α → PyData} (h : ∀ x, (d x).canLay0 = true) : ∀ xs : List α, PyData.canLayAll0 (xs.map d) = true
  | [] => rfl
  | x :: xs => by show (PyData.canLay0 (d x) && PyData.canLayAll0 (xs.map d)) = true; rw [h x, lay_all h xs]; rfl
theorem dep_all {α : Type} {d : α → PyData} {n : Nat} (h : ∀ x, (d x).depth ≤ n) : ∀ xs : List α, PyData.depthAll (xs.map d) ≤ n
  | [] => Nat.zero_le _
  | x :: xs => by
    show PyData.depthAll (d x :: xs.map d) ≤ n
    have a := h x
    have b := dep_all h xs
    simp only [PyData.depthAll]
    omega
theorem eqv_all {α : Type} {d : α → PyData} (h : ∀ x y, PyData.eqv (d x) (d y) = true ↔ x = y) : ∀ xs ys : List α, PyData.eqvAll (xs.map d) (ys.map d) = true ↔ xs = ys
  | [], [] => ⟨fun _ => rfl, fun _ => rfl⟩
  | x :: xs, [] => ⟨fun q => (by cases q), fun q => (by cases q)⟩
  | [], y :: ys => ⟨fun q => (by cases q), fun q => (by cases q)⟩
  | x :: xs, y :: ys => by
    show (PyData.eqv (d x) (d y) && PyData.eqvAll (xs.map d) (ys.map d)) = true ↔ _
    rw [Bool.and_eq_true, h x y, eqv_all h xs ys, List.cons.injEq]
theorem dp_all {α : Type} {e : Rep α} {lv : Nat} [Dat e lv] {K : PySem.W.Frag} {F : Hp} : ∀ {vs : List V} {xs : List α}, All e F vs xs → DpAll K F vs (xs.map (Dat.d e))
  | [], [], _ => .nil
  | _ :: _, _ :: _, ⟨a, b⟩ => .cons (Dat.dp a) (dp_all b)
  | [], _ :: _, q => q.elim
  | _ :: _, [], q => q.elim
instance {α : Type} {e : Rep α} {n : Nat} [Dat e n] : Dat (pL e) (n + 1) := ⟨fun xs => .list (xs.map (Dat.d e)), fun {K F v xs} h => by
    obtain ⟨p, vs, rfl, hp, a⟩ := h
    exact .lst (SqL.of hp) (dp_all a), fun xs => lay_all (Dat.lay (e := e)) xs, fun xs => by
    have := dep_all (Dat.dep (e := e)) xs
    simp only [PyData.depth]
    omega, fun xs ys => by
    show PyData.eqvAll (xs.map (Dat.d e)) (ys.map (Dat.d e)) = true ↔ _
    exact eqv_all (Dat.inj (e := e)) xs ys⟩
instance {α : Type} {e : Rep α} {n : Nat} [Dat e n] : Dat (pTL e) (n + 1) := ⟨fun xs => .tuple (xs.map (Dat.d e)), fun {K F v xs} h => by
    obtain ⟨p, vs, rfl, hp, a⟩ := h
    exact .tup (SqT.of hp) (dp_all a), fun xs => lay_all (Dat.lay (e := e)) xs, fun xs => by
    have := dep_all (Dat.dep (e := e)) xs
    simp only [PyData.depth]
    omega, fun xs ys => by
    show PyData.eqvAll (xs.map (Dat.d e)) (ys.map (Dat.d e)) = true ↔ _
    exact eqv_all (Dat.inj (e := e)) xs ys⟩
instance {α β : Type} {e : Rep α} {f : Rep β} {n m : Nat} [Dat e n] [Dat f m] : Dat (pT2 e f) (max n m + 1) := ⟨fun x => .tuple [Dat.d e x.1, Dat.d f x.2], fun {K F v x} h => by
    obtain ⟨p, u, w, rfl, hp, a, b⟩ := h
    exact .tup (SqT.of hp) (.cons (Dat.dp a) (.cons (Dat.dp b) .nil)), fun x => by
    show (PyData.canLay0 (Dat.d e x.1) && (PyData.canLay0 (Dat.d f x.2) && PyData.canLayAll0 [])) = true
    rw [Dat.lay, Dat.lay]; rfl, fun x => by
    have a := Dat.dep (e := e) x.1
    have b := Dat.dep (e := f) x.2
    simp only [PyData.depth, PyData.depthAll]
    omega, fun x y => by
    show (PyData.eqv (Dat.d e x.1) (Dat.d e y.1) && (PyData.eqv (Dat.d f x.2) (Dat.d f y.2) && PyData.eqvAll [] [])) = true ↔ _
    have z : PyData.eqvAll [] [] = true := rfl
    rw [z, Bool.and_true, Bool.and_eq_true, Dat.inj, Dat.inj, Prod.ext_iff]⟩
theorem Dat.shp {α : Type} {e : Rep α} {n : Nat} [Dat e n] (h : n ≤ 64) (x : α) : SeqAt.shaped (Dat.d e x) = true := by
  unfold SeqAt.shaped
  rw [Dat.lay, decide_eq_true (Nat.le_trans (Dat.dep x) h)]; rfl
section
variable {α β : Type} {e : Rep α} {f : Rep β} {K : PySem.W.Frag} {σ : L2.St} {F0 H0 F F' H H' : Hp} {te tl ta tb : TE} {tt : TT} {tA : TA} {Q : VK} {v w u : V} {xs ys : List α} {x y : α} {D : Ends} {tu : TS} {p q : Addr} {n : Nat} {i : Int}
theorem c_neD [DecidableEq α] [Dat e n] (ha : Val ta σ H v) (hb : Val tb σ H w) (f : Ex F H) (r : e.r F v x) (g : Ex F' H) (s : e.r F' w y) (h : n ≤ 64 := by decide) : Val (tOp (rNeD K) ta tb) σ H (.bl (decide (x ≠ y))) :=
  v2 ha hb fun Q k => ⟨_, _, Dat.dp (e.mono f r), Dat.dp (e.mono g s), Dat.shp h x, Dat.shp h y, by
    have z : PyData.eqv (Dat.d e x) (Dat.d e y) = decide (x = y) := Bool.eq_iff_iff.mpr (by rw [Dat.inj, decide_eq_true_iff])
    rw [z, ← decide_not]; exact k⟩
theorem XL.rd (z : XL e H0 F H p xs) : ∃ vs, H p = some (.lst vs) ∧ All e F vs xs := let ⟨vs, a, b⟩ := z.x; ⟨vs, a.h, b⟩
theorem L_rd (r : (pL e).r F v xs) (f : Ex F H) : ∃ p vs, v = .ref p ∧ H p = some (.lst vs) ∧ All e F vs xs := let ⟨p, vs, a, b, c⟩ := r; ⟨p, vs, a, f _ _ b, c⟩
theorem TL_rd (r : (pTL e).r F v xs) (f : Ex F H) : ∃ p vs, v = .ref p ∧ H p = some (.tup vs) ∧ All e F vs xs := let ⟨p, vs, a, b, c⟩ := r; ⟨p, vs, a, f _ _ b, c⟩
theorem ix_L (r : (pL e).r F v xs) (f : Ex F H) {i : Nat} (hx : xs[i]? = some x) : ∃ w, e.r F w x ∧ ∀ ⦃σ ta tb⦄, Val ta σ H v → Val tb σ H (.int (i : Int)) → Val (tOp (rIxL K) ta tb) σ H w := by
  obtain ⟨p, vs, rfl, hp, a⟩ := L_rd r f
  obtain ⟨w, h1, h2⟩ := a.get hx
  exact ⟨w, h2, fun _ _ _ ha hb => v2 ha hb fun Q k => ⟨p, vs, _, w, rfl, rfl, SqL.of hp, atI_nat h1, k⟩⟩
theorem ix_X (r : XL e H0 F H p xs) {i : Nat} (hx : xs[i]? = some x) : ∃ w, e.r F w x ∧ ∀ ⦃σ ta tb⦄, Val ta σ H (.ref p) → Val tb σ H (.int (i : Int)) → Val (tOp (rIxL K) ta tb) σ H w := by
  obtain ⟨vs, hp, a⟩ := r.rd
  obtain ⟨w, h1, h2⟩ := a.get hx
  exact ⟨w, h2, fun _ _ _ ha hb => v2 ha hb fun Q k => ⟨p, vs, _, w, rfl, rfl, SqL.of hp, atI_nat h1, k⟩⟩
theorem ix_TL (r : (pTL e).r F v xs) (f : Ex F H) {i : Nat} (hx : xs[i]? = some x) : ∃ w, e.r F w x ∧ ∀ ⦃σ ta tb⦄, Val ta σ H v → Val tb σ H (.int (i : Int)) → Val (tOp (rIxT K) ta tb) σ H w := by
  obtain ⟨p, vs, rfl, hp, a⟩ := TL_rd r f
  obtain ⟨w, h1, h2⟩ := a.get hx
  exact ⟨w, h2, fun _ _ _ ha hb => v2 ha hb fun Q k => ⟨p, vs, _, w, rfl, rfl, SqT.of hp, atI_nat h1, k⟩⟩
theorem ix_S (f : Ex F H) {ys : List Int} {i : Nat} {x : Int} (r : (pScr K).r F v ys) (hx : ys[i]? = some x) : ∀ ⦃σ ta tb⦄, Val ta σ H v → Val tb σ H (.int (i : Int)) → Val (tOp (rIxL K) ta tb) σ H (.int x) := by
  obtain ⟨p, rfl, s⟩ := (pScr K).mono f r
  exact fun _ _ _ ha hb => v2 ha hb fun Q k => ⟨p, _, _, .int x, rfl, rfl, s, atI_nat (by rw [List.getElem?_map, hx]; rfl), k⟩
theorem ix_2a {e : Rep α} {f : Rep β} {x : α × β} (r : (pT2 e f).r F v x) (h : Ex F H) : ∃ w, e.r F w x.1 ∧ ∀ ⦃σ ta tb⦄, Val ta σ H v → Val tb σ H (.int 0) → Val (tOp (rIxT K) ta tb) σ H w := by
  obtain ⟨p, u, w, rfl, hp, a, b⟩ := r
  exact ⟨u, a, fun _ _ _ ha hb => v2 ha hb fun Q k => ⟨p, _, _, u, rfl, rfl, SqT.of (h _ _ hp), rfl, k⟩⟩
theorem ix_2b {e : Rep α} {f : Rep β} {x : α × β} (r : (pT2 e f).r F v x) (h : Ex F H) : ∃ w, f.r F w x.2 ∧ ∀ ⦃σ ta tb⦄, Val ta σ H v → Val tb σ H (.int 1) → Val (tOp (rIxT K) ta tb) σ H w := by
  obtain ⟨p, u, w, rfl, hp, a, b⟩ := r
  exact ⟨w, b, fun _ _ _ ha hb => v2 ha hb fun Q k => ⟨p, _, _, w, rfl, rfl, SqT.of (h _ _ hp), rfl, k⟩⟩
def rLen (K : PySem.W.Frag) : List V → Hp → VK → Prop := fun xs H Q => ∃ p ys, xs = [.ref p] ∧ (SqL K H p ys ∨ SqT K H p ys) ∧ Q (.int ys.length) H
theorem len_L (r : (pL e).r F v xs) (f : Ex F H) (ha : Val ta σ H v) : Val (tCB (rLen K) (tCons ta tNil)) σ H (.int ((xs.length : Nat) : Int)) := by
  obtain ⟨p, vs, rfl, hp, a⟩ := L_rd r f
  exact v_cb1 ha fun Q k => ⟨p, vs, rfl, .inl (SqL.of hp), by rw [a.len]; exact k⟩
theorem len_TL (r : (pTL e).r F v xs) (f : Ex F H) (ha : Val ta σ H v) : Val (tCB (rLen K) (tCons ta tNil)) σ H (.int ((xs.length : Nat) : Int)) := by
  obtain ⟨p, vs, rfl, hp, a⟩ := TL_rd r f
  exact v_cb1 ha fun Q k => ⟨p, vs, rfl, .inr (SqT.of hp), by rw [a.len]; exact k⟩
theorem len_X (r : XL e H0 F H p xs) (ha : Val ta σ H (.ref p)) : Val (tCB (rLen K) (tCons ta tNil)) σ H (.int ((xs.length : Nat) : Int)) := by
  obtain ⟨vs, hp, a⟩ := r.rd
  exact v_cb1 ha fun Q k => ⟨p, vs, rfl, .inl (SqL.of hp), by rw [a.len]; exact k⟩
theorem len_S {ys : List Int} (r : (pScr K).r F v ys) (f : Ex F H) (ha : Val ta σ H v) : Val (tCB (rLen K) (tCons ta tNil)) σ H (.int ((ys.length : Nat) : Int)) := by
  obtain ⟨p, rfl, s⟩ := (pScr K).mono f r
  exact v_cb1 ha fun Q k => ⟨p, _, rfl, .inl s, by rw [List.length_map]; exact k⟩
theorem len_T2 {e : Rep α} {f : Rep β} {x : α × β} (r : (pT2 e f).r F v x) (h : Ex F H) (ha : Val ta σ H v) : Val (tCB (rLen K) (tCons ta tNil)) σ H (.int ((2 : Nat) : Int)) := by
  obtain ⟨p, u, w, rfl, hp, a, b⟩ := r
  exact v_cb1 ha fun Q k => ⟨p, _, rfl, .inr (SqT.of (h _ _ hp)), k⟩
def kLst (Q : VK) (xs : List V) (H : Hp) : Prop := xs.length ≤ sizeLine ∧ ∀ p, H p = none → Q (.ref p) (upd H p (.lst xs))
def kTup (Q : VK) (xs : List V) (H : Hp) : Prop := xs.length ≤ sizeLine ∧ ∀ p, H p = none → Q (.ref p) (upd H p (.tup xs))
theorem small_len {n : Nat} (h : n < 1000000) : n < sizeLine := by rw [sizeLine_eq]; omega
theorem n_lstX {vs : List V} (a : All e F vs xs) (hl : xs.length < 1000000) (w : Wf F0 H0 F H) (k : ∀ p H', H p = none → Wf F H F H' → XL e H0 F H' p xs → Q (.ref p) H') :
    kLst Q vs H := ⟨by rw [a.len]; exact Nat.le_of_lt (small_len hl), fun p hp => k p _ hp (Wf.newX w.f hp) ⟨vs, Xc.mk' w hp, a⟩⟩
theorem n_tup2 {e : Rep α} {f : Rep β} {x : α} {y : β} (a : e.r F v x) (b : f.r F w y) (h : Wf F0 H0 F H) (k : ∀ p F' H', Wf F H F' H' → (pT2 e f).r F' (.ref p) (x, y) → Q (.ref p) H') :
    kTup Q [v, w] H := ⟨Nat.le_of_lt (small_len (n := 2) (by decide)), fun p hp => k p _ _ (Wf.new h.f hp) ⟨p, v, w, rfl, upd_same, e.mono (Ex.new (h.f.non hp)) a, f.mono (Ex.new (h.f.non hp)) b⟩⟩
/-- one's own list is changed no more -/
theorem XL.frzE (x : XL e H0 F H p xs) (w : Wf F0 H0 F H) : ∃ F', Wf F0 H0 F' H ∧ Ex F F' ∧ (pL e).r F' (.ref p) xs ∧ Fz F F' p := by
  obtain ⟨vs, a, b⟩ := x.x
  exact ⟨_, w.freeze a, Ex.new a.n, ⟨p, vs, rfl, upd_same, b.mono (Ex.new a.n)⟩, fun q h z => by rw [upd_ne h]; exact z⟩
/-- for a while one's own list is read by others -/
theorem XL.lend (x : XL e H0 F H p xs) (w : Wf F0 H0 F H) : ∃ F', Ex F' H ∧ Ex F F' ∧ (pL e).r F' (.ref p) xs := let ⟨F', a, b, c, _⟩ := x.frzE w; ⟨F', a.f, b, c⟩
theorem a_app (x : XL e H0 F H p xs) (w : Wf F0 H0 F H) (hl : xs.length < 1000000) (r : e.r F v y) (k : ∀ H', Wf F0 H0 F H' → XL e H0 F H' p (xs ++ [y]) → (∀ q o, H q = some o → q ≠ p → H' q = some o) → Q .non H') : rAppend (.ref p) [v] H Q := by
  obtain ⟨vs, a, b⟩ := x.x
  exact ⟨p, vs, v, rfl, rfl, a.h, by rw [b.len]; exact small_len hl, k _ (w.set a) ⟨_, a.set, b.snoc r⟩ fun q o h hq => by rw [upd_ne hq]; exact h⟩
/-- another's place is as it was -/
theorem Xc.kept {o : HO} (x : Xc H0 F H q o) (h : ∀ q o, H q = some o → q ≠ p → H' q = some o) (hq : q ≠ p) : Xc H0 F H' q o := ⟨x.z, x.n, h _ _ x.h hq⟩
theorem XL.kept (x : XL e H0 F H q xs) (h : ∀ q o, H q = some o → q ≠ p → H' q = some o) (hq : q ≠ p) : XL e H0 F H' q xs := let ⟨vs, a, b⟩ := x.x; ⟨vs, a.kept h hq, b⟩
variable {S : Type} {R : Type} {g : TG} {tb : TS} {body : β → S → (S → Prop) → (S → Prop) → Prop} {s0 : S} {k : S → Prop} {vs : List V} {zs : List β} {b : Rep β}
/-- over a list that stays -/
theorem w_forL (Inv : S → L2.St → Hp → Hp → Prop) (r : (pL b).r F v zs) (hW : forW zs s0 body k) (h0 : Inv s0 σ F H)
    (ex : ∀ s σ' F' H', Inv s σ' F' H' → Ex F F' ∧ Ex F' H') (f : Ex F H)
    (turn : ∀ (N Bk : L2.St → Hp → Prop) x u s σ' F' H' (nx bk : S → Prop), Inv s σ' F' H' → x ∈ zs → b.r F' u x → body x s nx bk → (∀ s' σ2 F2 H2, Inv s' σ2 F2 H2 → nx s' → N σ2 H2) → (∀ s' σ2 F2 H2, Inv s' σ2 F2 H2 → bk s' → Bk σ2 H2) →
      g u σ' H' fun σ2 H2 => tb { D with nx := N, ct := N, bk := Bk } σ2 H2)
    (done : ∀ s σ' F' H', Inv s σ' F' H' → k s → D.nx σ' H') :
    ∃ a, v = .ref a ∧ (∃ xs, SqL K H a xs) ∧ (fun J H1 => ∃ W : Nat → Nat → L2.St → Hp → Prop, (∃ m, W 0 m σ H1) ∧ ∀ i m σ H, W i m σ H →
      (J.stop i H ∧ D.nx σ H) ∨ (J.go i H ∧ ∃ N : L2.St → Hp → Prop, (∀ σ' H', N σ' H' → ∃ m', m' < m ∧ W (i + 1) m' σ' H') ∧ ∀ x H', J.yld i H x H' → g x σ H' fun σ2 H2 => tb { D with nx := N, ct := N, bk := D.nx } σ2 H2)) (Itl K a) H := by
  obtain ⟨p, vs, rfl, hp, a⟩ := r
  refine ⟨p, rfl, ⟨_, SqL.of (f _ _ hp)⟩, for_list (xs := vs) (fun i σ' H' => ∃ s F', Inv s σ' F' H' ∧ forW (zs.drop i) s body k) ⟨s0, F, h0, hW⟩ (fun i σ' H' _ ⟨s, F', hI, _⟩ => SqL.of ((ex _ _ _ _ hI).2 _ _ ((ex _ _ _ _ hI).1 _ _ hp))) ?_ ?_⟩
  · rintro i u σ' H' hu ⟨s, F', hI, hw⟩
    obtain ⟨x, hx, rx⟩ := a.got hu
    have e : zs.drop i = x :: zs.drop (i + 1) := by
      obtain ⟨h1, h2⟩ := List.getElem?_eq_some_iff.mp hx
      rw [← h2]; exact List.drop_eq_getElem_cons h1
    rw [e] at hw
    exact turn _ _ x u s σ' F' H' _ _ hI (List.mem_of_getElem? hx) (b.mono (ex _ _ _ _ hI).1 rx) hw (fun s' σ2 F2 H2 q n => ⟨s', F2, q, n⟩) (fun s' σ2 F2 H2 q n => done s' σ2 F2 H2 q n)
  · rintro σ' H' ⟨s, F', hI, hw⟩
    rw [List.drop_of_length_le (by rw [a.len]; exact Nat.le_refl _)] at hw
    exact done _ _ _ _ hI hw
/-- over range(n) -/
theorem w_forR {n : Nat} {body : Nat → S → (S → Prop) → (S → Prop) → Prop} (Inv : S → L2.St → Hp → Hp → Prop) (hn : n < 1000000) (hW : forW (List.range n) s0 body k) (h0 : Inv s0 σ F H)
    (turn : ∀ (N Bk : L2.St → Hp → Prop) (x : Nat) s σ' F' H' (nx bk : S → Prop), Inv s σ' F' H' → x < n → body x s nx bk → (∀ s' σ2 F2 H2, Inv s' σ2 F2 H2 → nx s' → N σ2 H2) → (∀ s' σ2 F2 H2, Inv s' σ2 F2 H2 → bk s' → Bk σ2 H2) →
      g (.int (x : Int)) σ' H' fun σ2 H2 => tb { D with nx := N, ct := N, bk := Bk } σ2 H2)
    (done : ∀ s σ' F' H', Inv s σ' F' H' → k s → D.nx σ' H') :
    ∃ j : Int, [V.int (n : Int)] = [.int j] ∧ -(2 ^ 62) ≤ j ∧ j < 2 ^ 62 ∧ (fun J H1 => ∃ W : Nat → Nat → L2.St → Hp → Prop, (∃ m, W 0 m σ H1) ∧ ∀ i m σ H, W i m σ H →
      (J.stop i H ∧ D.nx σ H) ∨ (J.go i H ∧ ∃ N : L2.St → Hp → Prop, (∀ σ' H', N σ' H' → ∃ m', m' < m ∧ W (i + 1) m' σ' H') ∧ ∀ x H', J.yld i H x H' → g x σ H' fun σ2 H2 => tb { D with nx := N, ct := N, bk := D.nx } σ2 H2)) (Itr 0 j.toNat) H := by
  refine ⟨(n : Int), rfl, by omega, by omega, for_range (lo := 0) (n := n) (fun i σ' H' => ∃ s F', Inv s σ' F' H' ∧ forW ((List.range n).drop i) s body k) ⟨s0, F, h0, hW⟩ ?_ ?_⟩
  · rintro i σ' H' hi ⟨s, F', hI, hw⟩
    have e : (List.range n).drop i = i :: (List.range n).drop (i + 1) := by
      have h1 : i < (List.range n).length := by rw [List.length_range]; exact hi
      rw [List.drop_eq_getElem_cons h1, List.getElem_range]
    rw [e] at hw
    have z : (0 : Int) + (i : Int) = (i : Int) := Int.zero_add _
    rw [z]
    exact turn _ _ i s σ' F' H' _ _ hI hi hw (fun s' σ2 F2 H2 q n => ⟨s', F2, q, n⟩) (fun s' σ2 F2 H2 q n => done s' σ2 F2 H2 q n)
  · rintro σ' H' ⟨s, F', hI, hw⟩
    rw [List.drop_of_length_le (by rw [List.length_range]; exact Nat.le_refl _)] at hw
    exact done _ _ _ _ hI hw
/-- while -/
theorem w_while {test : S → (Bool → Prop) → Prop} {body : S → (S → Prop) → (S → Prop) → Prop} (Inv : S → L2.St → Hp → Hp → Prop) (hW : whileW test body s0 k) (h0 : Inv s0 σ F H)
    (cond : ∀ s σ' F' H' (T : Bool → Prop) (Qc : Bool → Hp → Prop), Inv s σ' F' H' → test s T → (∀ b F2 H2, Inv s σ' F2 H2 → T b → Qc b H2) → tt σ' H' Qc)
    (turn : ∀ (N Bk : L2.St → Hp → Prop) s σ' F' H' (nx bk : S → Prop), Inv s σ' F' H' → body s nx bk → (∀ s' σ2 F2 H2, Inv s' σ2 F2 H2 → nx s' → N σ2 H2) → (∀ s' σ2 F2 H2, Inv s' σ2 F2 H2 → bk s' → Bk σ2 H2) →
      tb { D with nx := N, ct := N, bk := Bk } σ' H')
    (done : ∀ s σ' F' H', Inv s σ' F' H' → k s → D.nx σ' H') : tWhile tt tb D σ H := by
  obtain ⟨I, ⟨m0, hm⟩, hs⟩ := hW
  refine ⟨fun m σ' H' => ∃ s F', Inv s σ' F' H' ∧ I m s, ⟨m0, s0, F, h0, hm⟩, ?_⟩
  rintro m σ' H' ⟨s, F', hI, im⟩
  refine cond s σ' F' H' _ _ hI (hs m s im) fun b F2 H2 hI2 hb => ?_
  cases b with
  | true =>
    rw [if_pos rfl] at hb ⊢
    exact ⟨_, fun _ _ q => q, turn (fun σ2 H2 => ∃ m', m' < m ∧ ∃ s' F', Inv s' σ2 F' H2 ∧ I m' s') _ s σ' F2 H2 _ _ hI2 hb (fun s' σ2 F3 H3 q ⟨m', l, i⟩ => ⟨m', l, s', F3, q, i⟩) (fun s' σ2 F3 H3 q n => done s' σ2 F3 H3 q n)⟩
  | false =>
    rw [if_neg (by simp)] at hb ⊢
    exact done s σ' F2 H2 hI2 hb
/-- ways that meet again -/
def jn {S : Type} (f : (S → Prop) → Prop) (k : S → Prop) : Prop := f k
theorem q_jn {f : (S → Prop) → Prop} {t u : TS} (hW : jn f k) (Inv : S → L2.St → Hp → Hp → Prop)
    (h1 : ∀ N : L2.St → Hp → Prop, (∀ s σ' F' H', Inv s σ' F' H' → k s → N σ' H') → f k → t { D with nx := N } σ H) (h2 : ∀ s σ' F' H', Inv s σ' F' H' → k s → u D σ' H') : tSeq t u D σ H :=
  h1 (u D) (fun s σ' F' H' q n => h2 s σ' F' H' q n) hW
/-- what a comprehension asks of its source's value -/
def kCpL (K : PySem.W.Frag) (g : TG) (tc : TT) (te : TE) (vs : List Nat) (σ : L2.St) (Q : VK) (v : V) (H : Hp) : Prop := ∃ a, v = .ref a ∧ (∃ xs, SqL K H a xs) ∧ (fun J H1 => ∀ D, H1 D = none → ∃ W : Nat → Nat → Hp → Prop, (∃ m, W 0 m (upd H1 D (.lst []))) ∧ ∀ i m H, W i m H →
      (J.stop i H ∧ Q (.ref D) H) ∨ (J.go i H ∧ ∃ Nx : Hp → Prop, (∀ H', Nx H' → ∃ m', m' < m ∧ W (i + 1) m' H') ∧ ∀ x H', J.yld i H x H' → g x (wipe σ vs) H' fun σ2 H2 => wipe σ2 vs = wipe σ vs ∧ tc σ2 H2 fun b H3 =>
        if b = true then te σ2 H3 fun y H4 => ∃ acc, H4 D = some (.lst acc) ∧ acc.length < sizeLine ∧ Nx (upd H4 D (.lst (acc ++ [y]))) else Nx H3)) (Itl K a) H
def kCpR (g : TG) (tc : TT) (te : TE) (vs : List Nat) (σ : L2.St) (Q : VK) (v : V) (H : Hp) : Prop := ∃ j : Int, [v] = [.int j] ∧ -(2 ^ 62) ≤ j ∧ j < 2 ^ 62 ∧ (fun J H1 => ∀ D, H1 D = none → ∃ W : Nat → Nat → Hp → Prop, (∃ m, W 0 m (upd H1 D (.lst []))) ∧ ∀ i m H, W i m H →
      (J.stop i H ∧ Q (.ref D) H) ∨ (J.go i H ∧ ∃ Nx : Hp → Prop, (∀ H', Nx H' → ∃ m', m' < m ∧ W (i + 1) m' H') ∧ ∀ x H', J.yld i H x H' → g x (wipe σ vs) H' fun σ2 H2 => wipe σ2 vs = wipe σ vs ∧ tc σ2 H2 fun b H3 =>
        if b = true then te σ2 H3 fun y H4 => ∃ acc, H4 D = some (.lst acc) ∧ acc.length < sizeLine ∧ Nx (upd H4 D (.lst (acc ++ [y]))) else Nx H3)) (Itr 0 j.toNat) H
theorem w_compC {ws : List V} {tc : TT} {vs : List Nat} {bd : β → (Option α → Prop) → Prop} {kk : List α → Prop} (hp : H p = some (.lst ws)) (a : All b F ws zs) (w : Wf F0 H0 F H) (hn : zs.length < 1000000) (hW : compW zs bd kk)
    (turn : ∀ (Qy : V → Hp → Prop) (Qn : Hp → Prop) x u F1 H1 (R : Option α → Prop), Wf F H F1 H1 → x ∈ zs → b.r F1 u x → bd x R → (∀ y z F2 H2, Wf F1 H1 F2 H2 → e.r F2 y z → R (some z) → Qy y H2) → (∀ F2 H2, Wf F1 H1 F2 H2 → R none → Qn H2) →
      g u (wipe σ vs) H1 fun σ2 H2 => wipe σ2 vs = wipe σ vs ∧ tc σ2 H2 fun b H3 => if b = true then te σ2 H3 Qy else Qn H3)
    (done : ∀ p ys F' H', H p = none → Wf F H F' H' → XL e H0 F' H' p ys → kk ys → Q (.ref p) H') :
    kCpL K g tc te vs σ Q (V.ref p) H := by
  unfold kCpL
  refine ⟨p, rfl, ⟨_, SqL.of hp⟩, fun D hD => lc_list (xs := ws) (fun i H' => ∃ F' ac ys, Wf F H F' H' ∧ Xc H F' H' D (.lst ac) ∧ All e F' ac ys ∧ ys.length ≤ i ∧ compG (zs.drop i) ys bd kk)
    ⟨F, [], [], Wf.newX w.f hD, Xc.mk' (Wf.id w.f) hD, trivial, Nat.le_refl _, hW⟩ (fun i H' _ ⟨F', ac, ys, q, _⟩ => SqL.of (q.h _ _ hp)) ?_ ?_⟩
  · rintro i u H' hu ⟨F', ac, ys, q, xc, al, hl, hw⟩
    obtain ⟨x, hx, rx⟩ := a.got hu
    obtain ⟨h1, h2⟩ := List.getElem?_eq_some_iff.mp hx
    have e' : zs.drop i = x :: zs.drop (i + 1) := by rw [← h2]; exact List.drop_eq_getElem_cons h1
    rw [e'] at hw
    refine turn _ _ x u F' H' _ q (List.mem_of_getElem? hx) (b.mono q.g rx) hw (fun y z F2 H2 s ry hR => ?_) (fun F2 H2 s hR => ?_)
    · have xc2 := xc.step s
      exact ⟨ac, xc2.h, by rw [al.len]; exact small_len (by omega), F2, ac ++ [y], ys ++ [z], (q.tr s).set xc2, xc2.set, (al.mono s.g).snoc ry, by rw [List.length_append]; exact Nat.succ_le_succ hl, hR⟩
    · exact ⟨F2, ac, ys, q.tr s, xc.step s, al.mono s.g, Nat.le_succ_of_le hl, by simpa using hR⟩
  · rintro H' ⟨F', ac, ys, q, xc, al, hl, hw⟩
    rw [List.drop_of_length_le (by rw [a.len]; exact Nat.le_refl _)] at hw
    exact done D ys F' H' hD q ⟨ac, ⟨w.h.non hD, xc.n, xc.h⟩, al⟩ hw
theorem w_compL {tc : TT} {vs : List Nat} {bd : β → (Option α → Prop) → Prop} {kk : List α → Prop} (r : (pL b).r F v zs) (w : Wf F0 H0 F H) (hn : zs.length < 1000000) (hW : compW zs bd kk)
    (turn : ∀ (Qy : V → Hp → Prop) (Qn : Hp → Prop) x u F1 H1 (R : Option α → Prop), Wf F H F1 H1 → x ∈ zs → b.r F1 u x → bd x R → (∀ y z F2 H2, Wf F1 H1 F2 H2 → e.r F2 y z → R (some z) → Qy y H2) → (∀ F2 H2, Wf F1 H1 F2 H2 → R none → Qn H2) →
      g u (wipe σ vs) H1 fun σ2 H2 => wipe σ2 vs = wipe σ vs ∧ tc σ2 H2 fun b H3 => if b = true then te σ2 H3 Qy else Qn H3)
    (done : ∀ p ys F' H', H p = none → Wf F H F' H' → XL e H0 F' H' p ys → kk ys → Q (.ref p) H') :
    kCpL K g tc te vs σ Q v H := by
  obtain ⟨p, ws, rfl, hp, a⟩ := r
  exact w_compC (w.f _ _ hp) a w hn hW turn done
theorem w_compR {tc : TT} {vs : List Nat} {n : Nat} {bd : Nat → (Option α → Prop) → Prop} {kk : List α → Prop} (w : Wf F0 H0 F H) (hn : n < 1000000) (hW : compW (List.range n) bd kk)
    (turn : ∀ (Qy : V → Hp → Prop) (Qn : Hp → Prop) (x : Nat) F1 H1 (R : Option α → Prop), Wf F H F1 H1 → x < n → bd x R → (∀ y z F2 H2, Wf F1 H1 F2 H2 → e.r F2 y z → R (some z) → Qy y H2) → (∀ F2 H2, Wf F1 H1 F2 H2 → R none → Qn H2) →
      g (.int (x : Int)) (wipe σ vs) H1 fun σ2 H2 => wipe σ2 vs = wipe σ vs ∧ tc σ2 H2 fun b H3 => if b = true then te σ2 H3 Qy else Qn H3)
    (done : ∀ p ys F' H', H p = none → Wf F H F' H' → XL e H0 F' H' p ys → kk ys → Q (.ref p) H') :
    kCpR g tc te vs σ Q (.int (n : Int)) H := by
  unfold kCpR
  refine ⟨(n : Int), rfl, by omega, by omega, fun D hD => lc_range (lo := 0) (n := n) (fun i H' => ∃ F' ac ys, Wf F H F' H' ∧ Xc H F' H' D (.lst ac) ∧ All e F' ac ys ∧ ys.length ≤ i ∧ compG ((List.range n).drop i) ys bd kk)
    ⟨F, [], [], Wf.newX w.f hD, Xc.mk' (Wf.id w.f) hD, trivial, Nat.le_refl _, hW⟩ ?_ ?_⟩
  · rintro i H' hi ⟨F', ac, ys, q, xc, al, hl, hw⟩
    have e' : (List.range n).drop i = i :: (List.range n).drop (i + 1) := by
      have h1 : i < (List.range n).length := by rw [List.length_range]; exact hi
      rw [List.drop_eq_getElem_cons h1, List.getElem_range]
    rw [e'] at hw
    have z : (0 : Int) + (i : Int) = (i : Int) := Int.zero_add _
    rw [z]
    refine turn _ _ i F' H' _ q hi hw (fun y z F2 H2 s ry hR => ?_) (fun F2 H2 s hR => ?_)
    · have xc2 := xc.step s
      exact ⟨ac, xc2.h, by rw [al.len]; exact small_len (by omega), F2, ac ++ [y], ys ++ [z], (q.tr s).set xc2, xc2.set, (al.mono s.g).snoc ry, by rw [List.length_append]; exact Nat.succ_le_succ hl, hR⟩
    · exact ⟨F2, ac, ys, q.tr s, xc.step s, al.mono s.g, Nat.le_succ_of_le hl, by simpa using hR⟩
  · rintro H' ⟨F', ac, ys, q, xc, al, hl, hw⟩
    rw [List.drop_of_length_le (by rw [List.length_range]; exact Nat.le_refl _)] at hw
    exact done D ys F' H' hD q ⟨ac, ⟨w.h.non hD, xc.n, xc.h⟩, al⟩ hw
end
end Wk
namespace Wk
open PySem L2
section
variable {X : Cx} {σ : L2.St} {H : Hp} {te tl ta tb : TE} {tt tc : TT} {tA : TA} {Q : VK} {v w x y z : V} {D : Ends} {tu : TS} {g : TG} {K : PySem.W.Frag} {p q : Prop}
theorem f_LE (h : tl σ H fun v H => ∃ a, v = .ref a ∧ (∃ xs, SqL K H a xs) ∧ (fun J H1 => ∃ W : Nat → Nat → L2.St → Hp → Prop, (∃ m, W 0 m σ H1) ∧ ∀ i m σ H, W i m σ H →
      (J.stop i H ∧ D.nx σ H) ∨ (J.go i H ∧ ∃ N : L2.St → Hp → Prop, (∀ σ' H', N σ' H' → ∃ m', m' < m ∧ W (i + 1) m' σ' H') ∧ ∀ x H', J.yld i H x H' → g x σ H' fun σ2 H2 => tu { D with nx := N, ct := N, bk := D.nx } σ2 H2)) (Itl K a) H) : tFor (iList K tl) g tu D σ H := h
theorem f_RE (h : te σ H fun v H => ∃ j : Int, [v] = [.int j] ∧ -(2 ^ 62) ≤ j ∧ j < 2 ^ 62 ∧ (fun J H1 => ∃ W : Nat → Nat → L2.St → Hp → Prop, (∃ m, W 0 m σ H1) ∧ ∀ i m σ H, W i m σ H →
      (J.stop i H ∧ D.nx σ H) ∨ (J.go i H ∧ ∃ N : L2.St → Hp → Prop, (∀ σ' H', N σ' H' → ∃ m', m' < m ∧ W (i + 1) m' σ' H') ∧ ∀ x H', J.yld i H x H' → g x σ H' fun σ2 H2 => tu { D with nx := N, ct := N, bk := D.nx } σ2 H2)) (Itr 0 j.toNat) H) : tFor (iRng1 (tCons te tNil)) g tu D σ H := h
theorem c_LE {vs : List Nat} (h : tl σ H (kCpL K g tc te vs σ Q)) : tLc (iList K tl) g tc te vs σ H Q := h
theorem c_RE {vs : List Nat} (h : ta σ H (kCpR g tc te vs σ Q)) : tLc (iRng1 (tCons ta tNil)) g tc te vs σ H Q := h
theorem c_yes {A B : Hp → Prop} (h : A H) : tYes σ H fun b H3 => if b = true then A H3 else B H3 := by show if true = true then A H else B H; rw [if_pos rfl]; exact h
theorem b_if {p : Prop} [Decidable p] {A B : Prop} (h1 : p → A) (h2 : ¬ p → B) : if decide p = true then A else B := by
  by_cases hp : p
  · rw [decide_eq_true hp, if_pos rfl]; exact h1 hp
  · rw [decide_eq_false hp, if_neg (by simp)]; exact h2 hp
theorem bb_if {b : Bool} {A B : Prop} (h1 : b = true → A) (h2 : ¬ b = true → B) : if b = true then A else B := by
  by_cases hp : b = true
  · rw [if_pos hp]; exact h1 hp
  · rw [if_neg hp]; exact h2 hp
theorem e_op {r : R2} (h : ta σ H fun x H1 => tb σ H1 fun y H2 => r x y H2 Q) : tOp r ta tb σ H Q := h
theorem rv2 {r : R2} (h : Val (tOp r (tC x) (tC y)) [] H z) (q : Q z H) : r x y H Q := h Q q
theorem rv2T {r : R2} {b : Bool} {Qt : Bool → Hp → Prop} (h : Val (tOp r (tC x) (tC y)) [] H (.bl b)) (q : Qt b H) : r x y H (fun x H' => ∃ k, x = .bl k ∧ Qt k H') := h _ ⟨b, rfl, q⟩
theorem rcb1 {r : List V → Hp → VK → Prop} (h : Val (tCB r (tCons (tC x) tNil)) [] H z) (q : Q z H) : r [x] H Q := h Q q
theorem rcb2 {r : List V → Hp → VK → Prop} (h : Val (tCB r (tCons (tC x) (tCons (tC y) tNil))) [] H z) (q : Q z H) : r [x, y] H Q := h Q q
theorem e_cb {r : List V → Hp → VK → Prop} (h : tA σ H fun vs H1 => r vs H1 Q) : tCB r tA σ H Q := h
theorem e_tB {Qt : Bool → Hp → Prop} (h : te σ H fun x H1 => ∃ c, x = .bl c ∧ Qt c H1) : tB te σ H Qt := h
theorem e_tT {Qt : Bool → Hp → Prop} (h : te σ H fun x H1 => ∃ c, x = .bl c ∧ Qt c H1) : tTest te σ H Qt := h
theorem e_tNot {Qt : Bool → Hp → Prop} (h : tt σ H fun c H1 => Qt (!c) H1) : tNot tt σ H Qt := h
theorem e_ans {Qt : Bool → Hp → Prop} {b : Bool} (h : Ans tt σ H b) (q : Qt b H) : tt σ H Qt := h Qt q
theorem e_tup (h : tA σ H (kTup Q)) : tTup tA σ H Q := h
theorem e_lst (h : tA σ H (kLst Q)) : tLst tA σ H Q := h
theorem a_asgG (h : te σ H fun v H1 => g v σ H1 D.nx) : tAsg te g D σ H := h
theorem a_augE {i : Nat} {ti : TIp} (hx : σ[i]? = some (some x)) (h : te σ H fun y H1 => ti x y H1 fun z H2 => D.nx (σ.set i (some z)) H2) : tAug i te ti D σ H := ⟨x, hx, h⟩
theorem a_augV {i : Nat} {ti : TIp} (hx : σ[i]? = some (some x)) (h : Val te σ H y) (hv : Val (tOp ti (tC x) (tC y)) [] H z) (q : D.nx (σ.set i (some z)) H) : tAug i te ti D σ H := ⟨x, hx, h _ (hv _ q)⟩
theorem XL.base {α : Type} {e : Rep α} {F0 H0 F F' H' : Hp} {p : Addr} {xs : List α} (x : XL e H F' H' p xs) (w : Wf F0 H0 F H) : XL e H0 F' H' p xs := let ⟨vs, a, b⟩ := x.x; ⟨vs, ⟨w.h.non a.z, a.n, a.h⟩, b⟩
end
/-- a def that may be called -/
structure Fn (P : Program) (w : World) (K : PySem.W.Frag) (mg : Str → Option Value) (base : Heap) (CX : CXT) (k : Nat) (x : Str) (ps : List Str) (sp : Sp) : Prop where
  ex : ∃ f fd, FnOk P w K mg base CX k f fd ps sp ∧ mg x = some (.ref f) ∧ PySem.W.keepIn K (.ref f) = true ∧ Binds K fd ps []
theorem pe_fn {X : Cx} {k : Nat} {x : Str} {ps : List Str} {sp : Sp} {e : Expr} {es : List Expr} {p pos : Pos} {t : TA} (C : Fn X.prog X.w X.K X.mg X.base CX0 k x ps sp) (hr : Room k X.A) (hg : Gl X x) (ha : PA X (e :: es) t) (hdb : (x == ("__debug__" : Str)) = false := by decide)
    (he : starEach (e :: es) X.env = (false, eval e X.env) :: starEach es X.env := by rfl) (hpl : (backTo pos (starEach es X.env)).any (·.1) = false := by rfl) : PE X (.Call (.Name x p) (e :: es) [] pos) (tCall sp [] E0 t) := by
  obtain ⟨f, fd, F, hm, hk, hb⟩ := C.ex
  exact pe_call F hr hg hm hk hb .nil pass0 ha hdb he hpl
end Wk
namespace Wk
open PySem L2
theorem dec_and {p q : Prop} [Decidable p] [Decidable q] : (decide p && decide q) = decide (p ∧ q) := by
  by_cases hp : p
  · by_cases hq : q
    · rw [decide_eq_true hp, decide_eq_true hq, decide_eq_true (And.intro hp hq)]; rfl
    · rw [decide_eq_false hq, decide_eq_false (fun z : p ∧ q => hq z.2), Bool.and_false]
  · rw [decide_eq_false hp, decide_eq_false (fun z : p ∧ q => hp z.1), Bool.false_and]
theorem dec_tt {b : Bool} : b = decide (b = true) := by cases b <;> rfl
theorem dec_T : true = decide True := rfl
section
variable {α β : Type} {e : Rep α} {f : Rep β} {K : PySem.W.Frag} {σ : L2.St} {F0 H0 F F' H H' : Hp} {te ta tb : TE} {Q : VK} {v w u : V} {xs : List α} {p : Addr} {i : Int} {n : Nat} {x : V}
/-- bit_length -/
def bits (n : Nat) : Nat := if n = 0 then 0 else n.log2 + 1
theorem bits_int (n : Nat) : Builtin.Int.intBits (n : Int) = bits n := by
  unfold Builtin.Int.intBits bits
  by_cases h : n = 0
  · subst h; rfl
  · rw [if_neg (show ¬ (((n : Nat) : Int) == 0) = true by simpa using h), if_neg h]; rfl
theorem vn_bitl (ha : Val ta σ H (.int (n : Int))) : Val (tBits ta) σ H (.int ((bits n : Nat) : Int)) := fun _ k => ha _ ⟨_, rfl, by rw [bits_int]; exact k⟩
theorem v_isi {b : Bool} {cn tn : String} (ha : Val ta σ H x) (ty : TyX K H x (.type tn)) (h : kitB tn cn = some b) : Val (tCB (rIsi K) (tCons ta (tCons (tC (.ty cn)) tNil))) σ H (.bl b) := fun Q k => ha _ ⟨x, .ty cn, _, _, b, rfl, .ty cn, ty, kit_ty h, k⟩
theorem ty_L (r : (pL e).r F v xs) (f : Ex F H) : TyX K H v (.type "list") := by obtain ⟨p, vs, rfl, hp, _⟩ := r; exact .base (.lst (f _ _ hp))
theorem ty_T2 {z : α × β} (r : (pT2 e f).r F v z) (h : Ex F H) : TyX K H v (.type "tuple") := by obtain ⟨p, _, _, rfl, hp, _⟩ := r; exact .base (.tup (h _ _ hp))
def rInt1 : List V → Hp → VK → Prop := fun xs H Q => (∃ i, xs = [.int i] ∧ Q (.int i) H) ∨ ∃ k, xs = [.bl k] ∧ Q (.int (if k then 1 else 0)) H
theorem v_intB {b : Bool} (ha : Val ta σ H (.bl b)) : Val (tCB rInt1 (tCons ta tNil)) σ H (.int ((b.toNat : Nat) : Int)) := fun _ k => ha _ (.inr ⟨b, rfl, by cases b <;> exact k⟩)
end
end Wk
namespace Wk
open PySem L2
abbrev kAdd : R2 := L2.rI0 fun i j => .int (i + j)
abbrev kSub : R2 := L2.rI0 fun i j => .int (i - j)
abbrev kMul : R2 := L2.rI CMul fun i j => .int (i * j)
abbrev kDiv : R2 := L2.rI CDivW fun i j => .int (i / j)
abbrev kMod : R2 := L2.rI (fun _ j => 0 < j) fun i j => .int (i % j)
abbrev kShl : R2 := L2.rI CShl fun i j => .int (i * 2 ^ j.toNat)
abbrev kShr : R2 := L2.rI (fun _ j => 0 ≤ j) fun i j => .int (i / 2 ^ j.toNat)
abbrev kAnd : R2 := L2.rI0 fun i j => .int (Builtin.bitAnd i j)
abbrev kOr : R2 := L2.rI0 fun i j => .int (Builtin.bitOr i j)
abbrev kXor : R2 := L2.rI0 fun i j => .int (Builtin.bitXor i j)
abbrev kLt : R2 := L2.rI0 fun i j => .bl (decide (i < j))
abbrev kLe : R2 := L2.rI0 fun i j => .bl (decide (i ≤ j))
abbrev kGt : R2 := L2.rI0 fun i j => .bl (decide (j < i))
abbrev kNeg : V → Hp → VK → Prop := L2.rU fun i => .int (-i)
def rListOf (K : PySem.W.Frag) : List V → Hp → VK → Prop := fun xs H Q => ∃ p ys, xs = [.ref p] ∧ (SqL K H p ys ∨ SqT K H p ys) ∧ ∀ l, H l = none → Q (.ref l) (upd H l (.lst ys))
section
variable {α β : Type} {e : Rep α} {f : Rep β} {K : PySem.W.Frag} {σ : L2.St} {F0 H0 F F' H H' : Hp} {te ta tb : TE} {Q : VK} {v w u : V} {xs ys : List α} {p q : Addr} {i : Int} {n a b : Nat} {x : V} {tl th : TO}
theorem XL.frzO (x : XL e H0 F H q xs) (h : Fz F F' p) (hq : q ≠ p) (g : Ex F F') : XL e H0 F' H q xs := let ⟨vs, a, b⟩ := x.x; ⟨vs, ⟨a.z, h _ hq a.n, a.h⟩, b.mono g⟩
/-- list(xs): a new one -/
theorem n_listX (r : (pL e).r F v xs) (w : Wf F0 H0 F H) (k : ∀ p H', H p = none → Wf F H F H' → XL e H0 F H' p xs → Q (.ref p) H') : rListOf K [v] H Q := by
  obtain ⟨p, vs, rfl, hp, a⟩ := r
  exact ⟨p, vs, rfl, .inl (SqL.of (w.f _ _ hp)), fun l hl => k l _ hl (Wf.newX w.f hl) ⟨vs, Xc.mk' w hl, a⟩⟩
/-- xs + ys -/
theorem n_cat (r : (pL e).r F v xs) (s : (pL e).r F u ys) (w : Wf F0 H0 F H) (hl : xs.length + ys.length < 1000000) (k : ∀ p H', H p = none → Wf F H F H' → XL e H0 F H' p (xs ++ ys) → Q (.ref p) H') : rCat v u H Q := by
  obtain ⟨p, vs, rfl, hp, a⟩ := r
  obtain ⟨q, us, rfl, hq, b⟩ := s
  exact ⟨p, q, vs, us, rfl, rfl, w.f _ _ hp, w.f _ _ hq, by rw [a.len, b.len]; exact Nat.le_of_lt (small_len hl), fun l hl => k l _ hl (Wf.newX w.f hl) ⟨_, Xc.mk' w hl, a.app b⟩⟩
theorem All.rep (a : All e F vs' xs) : ∀ n, All e F (List.replicate n vs').flatten (List.replicate n xs).flatten
  | 0 => trivial
  | n + 1 => by rw [List.replicate_succ, List.replicate_succ, List.flatten_cons, List.flatten_cons]; exact a.app (All.rep a n)
/-- xs * n -/
theorem n_rep (r : (pL e).r F v xs) (w : Wf F0 H0 F H) (hl : xs.length * n < 1000000) (hn : n < 1000000) (k : ∀ p H', H p = none → Wf F H F H' → XL e H0 F H' p (List.replicate n xs).flatten → Q (.ref p) H') : rRep v (.int (n : Int)) H Q := by
  obtain ⟨p, vs, rfl, hp, a⟩ := r
  exact ⟨p, _, vs, rfl, rfl, w.f _ _ hp, by omega, by omega, by rw [a.len]; exact Nat.le_of_lt (small_len hl), fun l hl => k l _ hl (Wf.newX w.f hl) ⟨_, Xc.mk' w hl, All.rep a n⟩⟩
def cutT (xs : List α) (lo hi : Option Nat) : List α := match lo, hi with
  | none, none => xs
  | none, some b => xs.take b
  | some a, none => xs.drop a
  | some a, some b => (xs.drop a).take (b - a)
theorem cutV_T {ws : List V} (lo hi : Option Nat) : cutV ws (lo.map Int.ofNat) (hi.map Int.ofNat) = cutT ws lo hi := by
  have tk : ∀ (n : Nat) (l : List V), l.take (min n l.length) = l.take n := fun n l => by
    by_cases h : n ≤ l.length
    · rw [Nat.min_eq_left h]
    · rw [Nat.min_eq_right (by omega), List.take_of_length_le (Nat.le_refl _), List.take_of_length_le (by omega)]
  unfold cutV cutT
  cases lo with
  | none =>
    cases hi with
    | none => simp only [Option.map_none, HT.sIx_none, List.drop_zero, Nat.sub_zero, List.take_length]
    | some b =>
      simp only [Option.map_none, Option.map_some, HT.sIx_none, List.drop_zero, Nat.sub_zero]
      rw [show HT.sIx ws.length ws.length (some (Int.ofNat b)) = min b ws.length from HT.sIx_nat _ _ _]
      exact tk b ws
  | some a =>
    have dr : ws.drop (min a ws.length) = ws.drop a := by
      by_cases h : a ≤ ws.length
      · rw [Nat.min_eq_left h]
      · rw [Nat.min_eq_right (by omega), List.drop_of_length_le (Nat.le_refl _), List.drop_of_length_le (by omega)]
    cases hi with
    | none =>
      simp only [Option.map_none, Option.map_some, HT.sIx_none]
      rw [show HT.sIx ws.length 0 (some (Int.ofNat a)) = min a ws.length from HT.sIx_nat _ _ _, dr]
      exact List.take_of_length_le (by rw [List.length_drop]; omega)
    | some b =>
      simp only [Option.map_some]
      rw [show HT.sIx ws.length 0 (some (Int.ofNat a)) = min a ws.length from HT.sIx_nat _ _ _, show HT.sIx ws.length ws.length (some (Int.ofNat b)) = min b ws.length from HT.sIx_nat _ _ _, dr]
      by_cases h : b ≤ ws.length
      · rw [Nat.min_eq_left h]
        by_cases h' : a ≤ ws.length
        · rw [Nat.min_eq_left h']
        · rw [List.drop_of_length_le (by omega), List.take_nil, List.take_nil]
      · rw [Nat.min_eq_right (by omega)]
        rw [List.take_of_length_le (by rw [List.length_drop]; omega), List.take_of_length_le (by rw [List.length_drop]; omega)]
theorem All.cut {ws : List V} (a : All e F ws xs) (lo hi : Option Nat) : All e F (cutT ws lo hi) (cutT xs lo hi) := by
  cases lo <;> cases hi
  · exact a
  · exact a.take _
  · exact a.drop _
  · exact (a.drop _).take _
/-- the two ends of a slice -/
def Part (tl : TO) (σ : L2.St) (H : Hp) (o : Option Nat) : Prop := ∀ Q : Option Int → Hp → Prop, Q (o.map Int.ofNat) H → tl σ H Q
theorem po_s (h : Val te σ H (.int (n : Int))) : Part (tPart te) σ H (some n) := fun _ k => h _ ⟨_, rfl, k⟩
theorem n_cutS {lo hi : Option Nat} {zs : List Int} (r : (pScr K).r F v zs) (hv : Val te σ H v) (h1 : Part tl σ H lo) (h2 : Part th σ H hi) (w : Wf F0 H0 F H) (k : ∀ p H', H p = none → Wf F H F H' → XL pI H0 F H' p (cutT zs lo hi) → Q (.ref p) H') : tSl (rSlL K) te tl th σ H Q := by
  obtain ⟨p, rfl, s⟩ := (pScr K).mono w.f r
  exact hv _ (h1 _ (h2 _ ⟨p, _, rfl, s, fun l hl => by
    rw [cutV_T]
    exact k l _ hl (Wf.newX w.f hl) ⟨_, Xc.mk' w hl, (All.ofInts (xs := zs)).cut lo hi⟩⟩))
end
end Wk
namespace Wk
open PySem L2
section
variable {α β γ : Type} {e : Rep α} {f : Rep β} {g : Rep γ} {K : PySem.W.Frag} {σ : L2.St} {F0 H0 F F' H H' : Hp} {te ta tb to : TE} {tt : TT} {tA : TA} {Q : VK} {v w u : V} {xs ys : List α} {p q : Addr} {i : Nat} {D : Ends} {pr : Prop} {ti : TIp} {x y : V}
theorem bb_ifn {b : Bool} {A B : Prop} (h1 : b = true → B) (h2 : ¬ b = true → A) : if (!b) = true then A else B := by
  cases b with
  | true => rw [if_neg (by simp)]; exact h1 rfl
  | false => rw [if_pos (by rfl)]; exact h2 (by simp)
theorem nx_set {P : L2.St → Hp → Prop} {σ : L2.St} {i : Nat} {H : Hp} (h : v = w) (q : P (σ.set i (some v)) H) : P (σ.set i (some w)) H := h ▸ q
theorem g_name {R : L2.St → Hp → Prop} (h : R (σ.set i (some v)) H) : gName i v σ H R := h
theorem set_same {σ : L2.St} {i : Nat} {v : V} (h : σ[i]? = some (some v)) : σ.set i (some v) = σ := by
  refine List.ext_getElem? fun j => ?_
  rw [List.getElem?_set]
  split
  · rename_i h1
    subst h1
    split
    · exact h.symm
    · rename_i h2
      rw [List.getElem?_eq_none (by omega)] at h; cases h
  · rfl
theorem a_ifAsg [Decidable pr] (h : Ans tt σ H (decide pr)) (h1 : pr → Val te σ H v) (h2 : ¬ pr → σ[i]? = some (some v)) (q : D.nx (σ.set i (some v)) H) : tIfS tt (tAsg te (gName i)) tNext D σ H := h _ (b_if (fun hp => h1 hp _ q) fun hp => by
  have e := set_same (h2 hp)
  rw [e] at q
  exact q)
theorem n_tup3 {x : α} {y : β} {z : γ} (a : e.r F v x) (b : f.r F w y) (c : g.r F u z) (h : Wf F0 H0 F H) (k : ∀ p F' H', Wf F H F' H' → (pT3 e f g).r F' (.ref p) (x, y, z) → Q (.ref p) H') :
    kTup Q [v, w, u] H := ⟨Nat.le_of_lt (small_len (n := 3) (by decide)), fun p hp => k p _ _ (Wf.new h.f hp) ⟨p, v, w, u, rfl, upd_same, e.mono (Ex.new (h.f.non hp)) a, f.mono (Ex.new (h.f.non hp)) b, g.mono (Ex.new (h.f.non hp)) c⟩⟩
theorem m_list {r : V → List V → Hp → VK → Prop} (z : XL e H0 F H p xs) (ho : Val to σ H (.ref p)) (k : tA σ H fun vs H2 => r (.ref p) vs H2 Q) : tBM K "list" r to tA σ H Q := ho _ ⟨let ⟨_, a, _⟩ := z.x; Or.inl ⟨rfl, _, Or.inl (Or.inl a.h)⟩, k⟩
theorem a_ext (x : XL e H0 F H p xs) (r : (pL e).r F v ys) (w : Wf F0 H0 F H) (hl : xs.length + ys.length < 1000000) (k : ∀ H', Wf F0 H0 F H' → XL e H0 F H' p (xs ++ ys) → (∀ q o, H q = some o → q ≠ p → H' q = some o) → Q .non H') : rExtend (.ref p) [v] H Q := by
  obtain ⟨vs, a, b⟩ := x.x
  obtain ⟨q, us, rfl, hq, c⟩ := r
  exact ⟨p, q, vs, us, rfl, rfl, a.h, w.f _ _ hq, by rw [b.len, c.len]; exact Nat.le_of_lt (small_len hl), k _ (w.set a) ⟨_, a.set, b.app c⟩ fun q o h hq => by rw [upd_ne hq]; exact h⟩
end
end Wk
namespace Wk
open PySem L2
class KeyT (κ : Type) where
  k : κ → Key
  inj : ∀ {a b : κ}, k a = k b → a = b
instance : KeyT Nat := ⟨fun n => .inl (n : Int), fun h => by have := Sum.inl.inj h; omega⟩
instance : KeyT Int := ⟨fun n => .inl n, fun h => Sum.inl.inj h⟩
instance : KeyT Str := ⟨fun n => .inr n, fun h => Sum.inr.inj h⟩
section
variable {κ α : Type} [DecidableEq κ] [KeyT κ]
def valT (m : List (κ × α)) (j : κ) : Option α := (m.find? fun q => decide (q.1 = j)).map (·.2)
def hasT (m : List (κ × α)) (j : κ) : Bool := (valT m j).isSome
def putT (m : List (κ × α)) (j : κ) (x : α) : List (κ × α) := if hasT m j = true then m.map (fun q => if q.1 = j then (q.1, x) else q) else m ++ [(j, x)]
def DA (e : Rep α) (F : Hp) : List (Key × V) → List (κ × α) → Prop
  | [], [] => True
  | p :: r, q :: s => p.1 = KeyT.k q.1 ∧ e.r F p.2 q.2 ∧ DA e F r s
  | _, _ => False
variable {e : Rep α} {F F' : Hp}
omit [DecidableEq κ] in
theorem DA.mono (h : Ex F F') : ∀ {kvs : List (Key × V)} {m : List (κ × α)}, DA e F kvs m → DA e F' kvs m
  | [], [], _ => trivial
  | _ :: _, _ :: _, ⟨a, b, c⟩ => ⟨a, e.mono h b, DA.mono h c⟩
  | [], _ :: _, q => q.elim
  | _ :: _, [], q => q.elim
theorem DA.len : ∀ {kvs : List (Key × V)} {m : List (κ × α)}, DA e F kvs m → kvs.length = m.length
  | [], [], _ => rfl
  | _ :: _, _ :: _, ⟨_, _, c⟩ => by rw [List.length_cons, List.length_cons, DA.len c]
  | [], _ :: _, q => q.elim
  | _ :: _, [], q => q.elim
theorem valT_cons {q : κ × α} {m : List (κ × α)} {j : κ} : valT (q :: m) j = if q.1 = j then some q.2 else valT m j := by
  unfold valT
  rw [List.find?_cons]
  by_cases h : q.1 = j
  · rw [if_pos h, decide_eq_true h]; rfl
  · rw [if_neg h, decide_eq_false h]
theorem DA.get : ∀ {kvs : List (Key × V)} {m : List (κ × α)} (j : κ), DA e F kvs m → (∀ x, valT m j = some x → ∃ v, valV kvs (KeyT.k j) = some v ∧ e.r F v x) ∧ (valT m j = none → valV kvs (KeyT.k j) = none)
  | [], [], _, _ => ⟨fun x h => (by cases h), fun _ => rfl⟩
  | p :: r, q :: s, j, ⟨a, b, c⟩ => by
    obtain ⟨ih1, ih2⟩ := DA.get j c
    rw [valT_cons]
    by_cases h : q.1 = j
    · rw [if_pos h]
      have e1 : p.1 = KeyT.k j := by rw [a, h]
      exact ⟨fun x hx => ⟨p.2, valV_pos e1, by cases hx; exact b⟩, fun z => by cases z⟩
    · rw [if_neg h]
      have e1 : ¬ p.1 = KeyT.k j := fun z => h (KeyT.inj (a.symm.trans z))
      rw [valV_neg e1]
      exact ⟨ih1, ih2⟩
  | [], _ :: _, _, q => q.elim
  | _ :: _, [], _, q => q.elim
theorem DA.has {kvs : List (Key × V)} {m : List (κ × α)} (j : κ) (d : DA e F kvs m) : (valV kvs (KeyT.k j)).isSome = hasT m j := by
  obtain ⟨h1, h2⟩ := d.get j
  unfold hasT
  cases q : valT m j with
  | none => rw [h2 q]; rfl
  | some x => obtain ⟨v, h, _⟩ := h1 x q; rw [h]; rfl
theorem DA.app : ∀ {kvs : List (Key × V)} {m : List (κ × α)} {kvs' : List (Key × V)} {m' : List (κ × α)}, DA e F kvs m → DA e F kvs' m' → DA e F (kvs ++ kvs') (m ++ m')
  | [], [], _, _, _, h => h
  | _ :: _, _ :: _, _, _, ⟨a, b, c⟩, h => ⟨a, b, DA.app c h⟩
  | [], _ :: _, _, _, q, _ => q.elim
  | _ :: _, [], _, _, q, _ => q.elim
theorem DA.upd {v : V} {x : α} {j : κ} (r : e.r F v x) : ∀ {kvs : List (Key × V)} {m : List (κ × α)}, DA e F kvs m → DA e F (kvs.map fun kv => if kv.1 = KeyT.k j then (kv.1, v) else kv) (m.map fun q => if q.1 = j then (q.1, x) else q)
  | [], [], _ => trivial
  | p :: _, q :: _, ⟨a, b, c⟩ => by
    rw [List.map_cons, List.map_cons]
    refine ⟨?_, ?_, DA.upd r c⟩
    · by_cases h : q.1 = j
      · rw [if_pos h, if_pos (by rw [a, h])]; exact a
      · rw [if_neg h, if_neg (fun z => h (KeyT.inj (a.symm.trans z)))]; exact a
    · by_cases h : q.1 = j
      · rw [if_pos h, if_pos (by rw [a, h])]; exact r
      · rw [if_neg h, if_neg (fun z => h (KeyT.inj (a.symm.trans z)))]; exact b
  | [], _ :: _, q => q.elim
  | _ :: _, [], q => q.elim
theorem DA.put {v : V} {x : α} {j : κ} {kvs : List (Key × V)} {m : List (κ × α)} (d : DA e F kvs m) (r : e.r F v x) : DA e F (putK kvs (KeyT.k j) v) (putT m j x) := by
  unfold putK putT
  rw [valV_any, d.has j]
  by_cases h : hasT m j = true
  · rw [if_pos h, if_pos h]; exact d.upd r
  · rw [if_neg h, if_neg h]; exact d.app ⟨rfl, r, trivial⟩
end
def pD {κ α : Type} [KeyT κ] (e : Rep α) : Rep (List (κ × α)) := ⟨fun F v m => ∃ p kvs, v = .ref p ∧ F p = some (.dK kvs) ∧ DA e F kvs m, fun h ⟨p, kvs, a, b, c⟩ => ⟨p, kvs, a, h _ _ b, c.mono h⟩⟩
structure XD {κ α : Type} [KeyT κ] (e : Rep α) (H0 F H : Hp) (p : Addr) (m : List (κ × α)) : Prop where
  x : ∃ kvs, Xc H0 F H p (.dK kvs) ∧ DA e F kvs m
section
variable {κ α : Type} [DecidableEq κ] [KeyT κ] {e : Rep α} {K : PySem.W.Frag} {σ : L2.St} {F0 H0 F F' H H' : Hp} {te td ty tx tv : TE} {Q : VK} {v w y z : V} {m : List (κ × α)} {p q : Addr} {j : κ} {x : α} {D : Ends}
theorem XD.step (x : XD e H0 F H p m) (w : Wf F H F' H') : XD e H0 F' H' p m := let ⟨vs, a, b⟩ := x.x; ⟨vs, a.step w, b.mono w.g⟩
theorem XD.ne (x : XD e H0 F H p m) (h : H q = none) : p ≠ q := let ⟨_, a, _⟩ := x.x; a.ne h
theorem XD.zero (x : XD e H0 F H p m) : H0 p = none := let ⟨_, a, _⟩ := x.x; a.z
theorem XD.base (x : XD e H F' H' p m) (w : Wf F0 H0 F H) : XD e H0 F' H' p m := let ⟨vs, a, b⟩ := x.x; ⟨vs, ⟨w.h.non a.z, a.n, a.h⟩, b⟩
theorem XD.kept (x : XD e H0 F H q m) (h : ∀ q o, H q = some o → q ≠ p → H' q = some o) (hq : q ≠ p) : XD e H0 F H' q m := let ⟨vs, a, b⟩ := x.x; ⟨vs, a.kept h hq, b⟩
theorem XD.frzO (x : XD e H0 F H q m) (h : Fz F F' p) (hq : q ≠ p) (g : Ex F F') : XD e H0 F' H q m := let ⟨vs, a, b⟩ := x.x; ⟨vs, ⟨a.z, h _ hq a.n, a.h⟩, b.mono g⟩
theorem XD.frzE (x : XD e H0 F H p m) (w : Wf F0 H0 F H) : ∃ F', Wf F0 H0 F' H ∧ Ex F F' ∧ (pD e).r F' (.ref p) m ∧ Fz F F' p := by
  obtain ⟨vs, a, b⟩ := x.x
  exact ⟨_, w.freeze a, Ex.new a.n, ⟨p, vs, rfl, upd_same, b.mono (Ex.new a.n)⟩, fun q h z => by rw [upd_ne h]; exact z⟩
theorem XD.lend (x : XD e H0 F H p m) (w : Wf F0 H0 F H) : ∃ F', Ex F' H ∧ Ex F F' ∧ (pD e).r F' (.ref p) m := let ⟨F', a, b, c, _⟩ := x.frzE w; ⟨F', a.f, b, c⟩
theorem XD.rd (x : XD e H0 F H p m) : ∃ kvs, H p = some (.dK kvs) ∧ DA e F kvs m := let ⟨vs, a, b⟩ := x.x; ⟨vs, a.h, b⟩
theorem D_rd (r : (pD e).r F v m) (f : Ex F H) : ∃ p kvs, v = .ref p ∧ H p = some (.dK kvs) ∧ DA e F kvs m := let ⟨p, vs, a, b, c⟩ := r; ⟨p, vs, a, f _ _ b, c⟩
/-- {} -/
theorem n_dict (w : Wf F0 H0 F H) (k : ∀ p H', H p = none → Wf F H F H' → XD e H0 F H' p ([] : List (κ × α)) → Q (.ref p) H') : tDNewK σ H Q := fun p hp => k p _ hp (Wf.newX w.f hp) ⟨[], Xc.mk' w hp, trivial⟩
theorem in_D (r : (pD e).r F v m) (f : Ex F H) (hy : Val ty σ H (kV (KeyT.k j))) (hd : Val td σ H v) : Val (tDIn ty td) σ H (.bl (hasT m j)) := by
  obtain ⟨p, kvs, rfl, hp, a⟩ := D_rd r f
  exact fun Q k => hy _ (hd _ ⟨p, _, rfl, DGet.k hp, by rw [a.has j]; exact k⟩)
theorem in_XD (r : XD e H0 F H p m) (hy : Val ty σ H (kV (KeyT.k j))) (hd : Val td σ H (.ref p)) : Val (tDIn ty td) σ H (.bl (hasT m j)) := by
  obtain ⟨kvs, hp, a⟩ := r.rd
  exact fun Q k => hy _ (hd _ ⟨p, _, rfl, DGet.k hp, by rw [a.has j]; exact k⟩)
theorem nin_D (r : (pD e).r F v m) (f : Ex F H) (hy : Val ty σ H (kV (KeyT.k j))) (hd : Val td σ H v) : Val (tDNotIn ty td) σ H (.bl (!hasT m j)) := by
  obtain ⟨p, kvs, rfl, hp, a⟩ := D_rd r f
  exact fun Q k => hy _ (hd _ ⟨p, _, rfl, DGet.k hp, by rw [a.has j]; exact k⟩)
theorem nin_XD (r : XD e H0 F H p m) (hy : Val ty σ H (kV (KeyT.k j))) (hd : Val td σ H (.ref p)) : Val (tDNotIn ty td) σ H (.bl (!hasT m j)) := by
  obtain ⟨kvs, hp, a⟩ := r.rd
  exact fun Q k => hy _ (hd _ ⟨p, _, rfl, DGet.k hp, by rw [a.has j]; exact k⟩)
theorem ix_D (r : (pD e).r F v m) (f : Ex F H) (hx : valT m j = some x) : ∃ w, e.r F w x ∧ ∀ ⦃σ td ty⦄, Val td σ H v → Val ty σ H (kV (KeyT.k j)) → Val (tDGet td ty) σ H w := by
  obtain ⟨p, kvs, rfl, hp, a⟩ := D_rd r f
  obtain ⟨w, h1, h2⟩ := (a.get j).1 x hx
  exact ⟨w, h2, fun _ _ _ hd hy Q k => hd _ (hy _ ⟨p, w, rfl, by rw [← h1]; exact DGet.k hp, k⟩)⟩
theorem ix_XD (r : XD e H0 F H p m) (hx : valT m j = some x) : ∃ w, e.r F w x ∧ ∀ ⦃σ td ty⦄, Val td σ H (.ref p) → Val ty σ H (kV (KeyT.k j)) → Val (tDGet td ty) σ H w := by
  obtain ⟨kvs, hp, a⟩ := r.rd
  obtain ⟨w, h1, h2⟩ := (a.get j).1 x hx
  exact ⟨w, h2, fun _ _ _ hd hy Q k => hd _ (hy _ ⟨p, w, rfl, by rw [← h1]; exact DGet.k hp, k⟩)⟩
/-- d[k] = v, v evaluated -/
theorem d_put (r : XD e H0 F H p m) (w : Wf F0 H0 F H) (hl : m.length < 1000000) (rv : e.r F v x) (hd : Val td σ H (.ref p)) (hy : Val ty σ H (kV (KeyT.k j))) (k : ∀ H', Wf F0 H0 F H' → XD e H0 F H' p (putT m j x) → (∀ q o, H q = some o → q ≠ p → H' q = some o) → D.nx σ H') :
    (fun v H1 => td σ H1 fun x H2 => ty σ H2 fun y H3 => ∃ a H4, x = .ref a ∧ DPut H3 a y v H4 ∧ D.nx σ H4) v H := by
  obtain ⟨kvs, a, b⟩ := r.x
  exact hd _ (hy _ ⟨p, _, rfl, DPut.k a.h (by rw [b.len]; exact small_len hl), k _ (w.set a) ⟨_, a.set, b.put rv⟩ fun q o h hq => by rw [upd_ne hq]; exact h⟩)
theorem e_dput (h : tv σ H fun v H1 => td σ H1 fun x H2 => ty σ H2 fun y H3 => ∃ a H4, x = .ref a ∧ DPut H3 a y v H4 ∧ D.nx σ H4) : sDPut td ty tv D σ H := h
end
section
variable {S : Type} {σ : L2.St} {H : Hp} {te ta tb : TE} {tt tu : TT} {Q : VK} {k : Bool → Prop}
theorem e_jnT {f : (Bool → Prop) → Prop} {Qt : Bool → Hp → Prop} (hW : jn f k) (Inv : Bool → Hp → Hp → Prop)
    (h1 : ∀ N : Bool → Hp → Prop, (∀ b F' H', Inv b F' H' → k b → N b H') → f k → tt σ H N) (h2 : ∀ b F' H', Inv b F' H' → k b → Qt b H') : tt σ H Qt :=
  h1 Qt (fun b F' H' q n => h2 b F' H' q n) hW
theorem e_jnV {f : (Bool → Prop) → Prop} (hW : jn f k) (Inv : Bool → Hp → Hp → Prop)
    (h1 : ∀ N : VK, (∀ b F' H', Inv b F' H' → k b → N (.bl b) H') → f k → te σ H N) (h2 : ∀ b F' H', Inv b F' H' → k b → Q (.bl b) H') : te σ H Q :=
  h1 Q (fun b F' H' q n => h2 b F' H' q n) hW
theorem e_tAnd {Qt : Bool → Hp → Prop} (h : tt σ H fun c H1 => if c = true then tu σ H1 Qt else Qt false H1) : tAnd tt tu σ H Qt := h
theorem e_tOr {Qt : Bool → Hp → Prop} (h : tt σ H fun c H1 => if c = true then Qt true H1 else tu σ H1 Qt) : tOr tt tu σ H Qt := h
theorem e_AndV (h : ta σ H fun x H1 => ∃ c, x = .bl c ∧ if c = true then tb σ H1 Q else Q (.bl false) H1) : tAndV ta tb σ H Q := h
theorem bl_if {b : Bool} {A B : Prop} (h : if b = true then A else B) : ∃ c, V.bl b = .bl c ∧ if c = true then A else B := ⟨b, rfl, h⟩
theorem bl_v {b : Bool} {A : Bool → Prop} (h : A b) : ∃ c, V.bl b = .bl c ∧ A c := ⟨b, rfl, h⟩
end
end Wk
namespace Wk
theorem dec_nt {b : Bool} : (!b) = decide (¬ (b = true)) := by cases b <;> rfl
end Wk
namespace Wk.LR
open PySem PyProof.Rows L2
end Wk.LR
namespace Wk
open PySem L2 PyProof.Rows
end Wk
namespace Wk
section
variable {α β S : Type}
theorem forW_ind {xs : List α} {s : S} {body : α → S → (S → Prop) → (S → Prop) → Prop} {k : S → Prop} (P : List α → S → Prop) (h0 : P [] s)
    (hb : ∀ pre x post s nx bk, xs = pre ++ x :: post → P pre s → (∀ s', P (pre ++ [x]) s' → nx s') → (∀ s', k s' → bk s') → body x s nx bk)
    (hk : ∀ s, P xs s → k s) : forW xs s body k := by
  suffices h : ∀ (post pre : List α) (s : S), xs = pre ++ post → P pre s → forW post s body k from h xs [] s rfl h0
  intro post
  induction post with
  | nil => intro pre s e p; rw [List.append_nil] at e; subst e; exact hk s p
  | cons x post ih => intro pre s e p; exact hb pre x post s _ _ e p (fun s' p' => ih (pre ++ [x]) s' (by rw [e, List.append_assoc]; rfl) p') (fun _ h => h)
theorem forW_foldI {xs : List α} {s : S} {body : α → S → (S → Prop) → (S → Prop) → Prop} {k : S → Prop} (f : S → α → S) (I : S → Prop) (h0 : I s)
    (hb : ∀ x ∈ xs, ∀ s nx bk, I s → (I (f s x) → nx (f s x)) → body x s nx bk) (hi : ∀ x ∈ xs, ∀ s, I s → I (f s x))
    (hk : I (xs.foldl f s) → k (xs.foldl f s)) : forW xs s body k := by
  induction xs generalizing s with
  | nil => exact hk h0
  | cons x xs ih =>
    refine hb x (List.mem_cons_self ..) s _ _ h0 fun h1 => ih (s := f s x) h1 (fun y hy => hb y (List.mem_cons_of_mem _ hy)) (fun y hy => hi y (List.mem_cons_of_mem _ hy)) hk
theorem forW_fold {xs : List α} {s : S} {body : α → S → (S → Prop) → (S → Prop) → Prop} {k : S → Prop} (f : S → α → S)
    (hb : ∀ x ∈ xs, ∀ s nx bk, nx (f s x) → body x s nx bk) (hk : k (xs.foldl f s)) : forW xs s body k :=
  forW_foldI f (fun _ => True) trivial (fun x hx s nx bk _ h => hb x hx s nx bk (h trivial)) (fun _ _ _ _ => trivial) fun _ => hk
theorem forW_unit {xs : List α} {body : α → Unit → (Unit → Prop) → (Unit → Prop) → Prop} {k : Unit → Prop}
    (hb : ∀ x ∈ xs, ∀ nx bk, nx () → body x () nx bk) (hk : k ()) : forW xs () body k :=
  forW_fold (fun s _ => s) (fun x hx _ nx bk h => hb x hx nx bk h) hk
theorem compG_fm {xs : List α} {acc : List β} {b : α → (Option β → Prop) → Prop} {k : List β → Prop} (f : α → Option β) (hb : ∀ x ∈ xs, ∀ kk, kk (f x) → b x kk) (hk : k (acc ++ xs.filterMap f)) : compG xs acc b k := by
  induction xs generalizing acc with
  | nil => simpa [compG] using hk
  | cons x xs ih =>
    refine hb x (List.mem_cons_self ..) _ (ih (fun y hy => hb y (List.mem_cons_of_mem _ hy)) ?_)
    rw [List.filterMap_cons] at hk
    cases h : f x with
    | none => rw [h] at hk; simpa using hk
    | some y => rw [h] at hk; simpa using hk
theorem compW_fm {xs : List α} {b : α → (Option β → Prop) → Prop} {k : List β → Prop} (f : α → Option β) (hb : ∀ x ∈ xs, ∀ kk, kk (f x) → b x kk) (hk : k (xs.filterMap f)) : compW xs b k :=
  compG_fm f hb (by simpa using hk)
theorem compW_map {xs : List α} {b : α → (Option β → Prop) → Prop} {k : List β → Prop} (f : α → β) (hb : ∀ x ∈ xs, ∀ kk, kk (some (f x)) → b x kk) (hk : k (xs.map f)) : compW xs b k :=
  compW_fm (fun x => some (f x)) hb (by rw [show (fun x => some (f x)) = some ∘ f from rfl, List.filterMap_eq_map]; exact hk)
/-- a comprehension whose turns are told by what they may give -/
def CR (P : α → Option β → Prop) : List α → List β → Prop
  | [], ys => ys = []
  | x :: xs, ys => ∃ o ys', P x o ∧ ys = o.toList ++ ys' ∧ CR P xs ys'
theorem compG_rel {xs : List α} {acc : List β} {b : α → (Option β → Prop) → Prop} {k : List β → Prop} (P : α → Option β → Prop) (hb : ∀ x ∈ xs, ∀ kk, (∀ o, P x o → kk o) → b x kk) (hk : ∀ ys, CR P xs ys → k (acc ++ ys)) : compG xs acc b k := by
  induction xs generalizing acc with
  | nil => have := hk [] rfl; rwa [List.append_nil] at this
  | cons x xs ih =>
    refine hb x (List.mem_cons_self ..) _ fun o ho => ih (fun y hy => hb y (List.mem_cons_of_mem _ hy)) fun ys hy => ?_
    rw [List.append_assoc]
    exact hk _ ⟨o, ys, ho, rfl, hy⟩
theorem compW_rel {xs : List α} {b : α → (Option β → Prop) → Prop} {k : List β → Prop} (P : α → Option β → Prop) (hb : ∀ x ∈ xs, ∀ kk, (∀ o, P x o → kk o) → b x kk) (hk : ∀ ys, CR P xs ys → k ys) : compW xs b k := compG_rel P hb fun ys h => by rw [List.nil_append]; exact hk ys h
theorem jnI {f : (S → Prop) → Prop} {k : S → Prop} (h : f k) : jn f k := h
/-- a while loop without a measure that must be told -/
theorem whileW_ind {test : S → (Bool → Prop) → Prop} {body : S → (S → Prop) → (S → Prop) → Prop} {s : S} {k : S → Prop} (I : S → Prop) (μ : S → Nat) (h0 : I s)
    (hb : ∀ s (nx : S → Prop), I s → (∀ s', I s' → μ s' < μ s → nx s') → test s fun b => if b = true then body s nx k else k s) : whileW test body s k :=
  ⟨fun m s => m = μ s ∧ I s, ⟨_, rfl, h0⟩, fun m s ⟨e, h⟩ => hb s _ h fun s' h' hl => ⟨μ s', by rw [e]; exact hl, rfl, h'⟩⟩
end
end Wk
namespace Wk
theorem halfBit (n i : Nat) : (n / 2).testBit i = n.testBit (i + 1) := by rw [Nat.testBit_add_one]
theorem half_xor (a b : Nat) : (a ^^^ b) / 2 = a / 2 ^^^ b / 2 := Nat.eq_of_testBit_eq fun i => by rw [Nat.testBit_xor, halfBit, halfBit, halfBit, Nat.testBit_xor]
/-- is the number of bits odd? -/
def par (n : Nat) : Bool := if h : n = 0 then false else xor (n.testBit 0) (par (n / 2))
termination_by n
decreasing_by omega
theorem par_zero : par 0 = false := by rw [par]; simp
theorem par_step (n : Nat) : par n = xor (n.testBit 0) (par (n / 2)) := by
  by_cases h : n = 0
  · subst h; simp [par_zero]
  · rw [par, dif_neg h]
theorem par_xor : ∀ a b : Nat, par (a ^^^ b) = xor (par a) (par b) := by
  intro a
  induction a using Nat.strongRecOn with
  | ind a ih =>
    intro b
    by_cases h : a = 0
    · subst h; simp [par_zero]
    · rw [par_step (a ^^^ b), par_step a, par_step b, half_xor, ih (a / 2) (by omega), Nat.testBit_xor]
      cases a.testBit 0 <;> cases b.testBit 0 <;> cases par (a / 2) <;> cases par (b / 2) <;> rfl
theorem par_two_pow (k : Nat) : par (2 ^ k) = true := by
  induction k with
  | zero => rw [par_step]; simp [par_zero]
  | succ k ih =>
    rw [par_step, Nat.testBit_two_pow]
    have e : 2 ^ (k + 1) / 2 = 2 ^ k := by rw [Nat.pow_succ]; omega
    rw [e, ih]; simp
/-- the places of the bits below k -/
def bl (k n : Nat) : List Nat := (List.range k).filter n.testBit
theorem mem_bl {k n j : Nat} : j ∈ bl k n ↔ j < k ∧ n.testBit j = true := by simp [bl, List.mem_filter, List.mem_range]
theorem bl_len (k n : Nat) : (bl k n).length ≤ k := by
  have := List.length_filter_le n.testBit (List.range k)
  rw [List.length_range] at this; exact this
theorem bl_snoc (k n : Nat) : bl (k + 1) n = bl k n ++ if n.testBit k = true then [k] else [] := by
  unfold bl
  rw [List.range_succ, List.filter_append]
  by_cases h : n.testBit k = true
  · rw [if_pos h, List.filter_cons_of_pos h]; rfl
  · rw [if_neg h, List.filter_cons_of_neg h]; rfl
theorem bl_more {p k n : Nat} (h : p ≤ k) (z : n >>> p = 0) : bl k n = bl p n := by
  induction k with
  | zero => have : p = 0 := by omega
            subst this; rfl
  | succ k ih =>
    by_cases e : p = k + 1
    · subst e; rfl
    · rw [bl_snoc, ih (by omega)]
      have : n.testBit k = false := by
        have a : (n >>> p).testBit (k - p) = n.testBit (p + (k - p)) := Nat.testBit_shiftRight ..
        rw [z, Nat.zero_testBit] at a
        rw [show p + (k - p) = k by omega] at a
        exact a.symm
      simp [this]
theorem testBit_big {n k j : Nat} (h : n < 2 ^ k) (hj : k ≤ j) : n.testBit j = false := Nat.testBit_lt_two_pow (Nat.lt_of_lt_of_le h (Nat.pow_le_pow_right (by decide) hj))
section
variable {κ α : Type} [DecidableEq κ] [KeyT κ]
theorem valT_app {m : List (κ × α)} {j i : κ} {x : α} (h : hasT m j = false) : valT (m ++ [(j, x)]) i = if j = i then some x else valT m i := by
  induction m with
  | nil => show valT [(j, x)] i = _; rw [valT_cons]
  | cons q m ih =>
    have h' : q.1 ≠ j ∧ hasT m j = false := by
      unfold hasT at h ⊢
      rw [valT_cons] at h
      by_cases e : q.1 = j
      · rw [if_pos e] at h; cases h
      · rw [if_neg e] at h; exact ⟨e, h⟩
    rw [List.cons_append, valT_cons, valT_cons, ih h'.2]
    by_cases e : q.1 = i
    · rw [if_pos e, if_pos e, if_neg]
      intro z; exact h'.1 (e.trans z.symm)
    · rw [if_neg e, if_neg e]
theorem valT_map {m : List (κ × α)} {j i : κ} {x : α} : valT (m.map fun q => if q.1 = j then (q.1, x) else q) i = if j = i ∧ hasT m j = true then some x else valT m i := by
  induction m with
  | nil => show none = _; rw [if_neg (fun z => by cases z.2)]; rfl
  | cons q m ih =>
    rw [List.map_cons, valT_cons, valT_cons, ih]
    have hh : hasT (q :: m) j = if q.1 = j then true else hasT m j := by
      unfold hasT; rw [valT_cons]
      by_cases e : q.1 = j
      · rw [if_pos e, if_pos e]; rfl
      · rw [if_neg e, if_neg e]
    rw [hh]
    by_cases e : q.1 = j
    · rw [if_pos e, if_pos e]
      by_cases f : q.1 = i
      · rw [if_pos f, if_pos ⟨e.symm.trans f, rfl⟩]
      · rw [if_neg f, if_neg (fun z => f (e.trans z.1)), if_neg (fun z => f (e.trans z.1)), if_neg f]
    · rw [if_neg e, if_neg e]
      by_cases f : q.1 = i
      · rw [if_pos f, if_neg (fun z => e (f.trans z.1.symm))]
        rw [if_pos f]
      · rw [if_neg f, if_neg f]
theorem valT_putT {m : List (κ × α)} {j i : κ} {x : α} : valT (putT m j x) i = if j = i then some x else valT m i := by
  unfold putT
  cases h : hasT m j with
  | true =>
    rw [if_pos rfl, valT_map]
    by_cases e : j = i
    · rw [if_pos ⟨e, h⟩, if_pos e]
    · rw [if_neg (fun z => e z.1), if_neg e]
  | false => rw [if_neg (by simp), valT_app h]
theorem hasT_putT {m : List (κ × α)} {j i : κ} {x : α} : hasT (putT m j x) i = (decide (j = i) || hasT m i) := by
  unfold hasT; rw [valT_putT]
  by_cases e : j = i
  · rw [if_pos e, decide_eq_true e]; rfl
  · rw [if_neg e, decide_eq_false e]; rfl
theorem hasT_iff {m : List (κ × α)} {j : κ} : hasT m j = true ↔ j ∈ m.map (·.1) := by
  induction m with
  | nil => exact ⟨fun h => (by cases h), fun h => (by cases h)⟩
  | cons q m ih =>
    unfold hasT at ih ⊢
    rw [valT_cons, List.map_cons, List.mem_cons]
    by_cases e : q.1 = j
    · rw [if_pos e]; exact ⟨fun _ => .inl e.symm, fun _ => rfl⟩
    · rw [if_neg e, ih]; exact ⟨.inr, fun h => h.resolve_left fun z => e z.symm⟩
theorem putT_len {m : List (κ × α)} {j : κ} {x : α} : (putT m j x).length ≤ m.length + 1 := by
  unfold putT
  by_cases h : hasT m j = true
  · rw [if_pos h, List.length_map]; omega
  · rw [if_neg h, List.length_append]; exact Nat.le_refl _
end
theorem NDiv_pow {k : Nat} (h : k < 9000) : NDiv (2 ^ k) := ⟨Nat.two_pow_pos k, by rw [Nat.log2_two_pow]; exact h⟩
end Wk
namespace Wk
theorem bits_zero : bits 0 = 0 := rfl
theorem bits_le {n k : Nat} : bits n ≤ k ↔ n < 2 ^ k := by
  unfold bits
  by_cases h : n = 0
  · subst h; simp [Nat.two_pow_pos]
  · rw [if_neg h]
    exact ⟨fun z => (Nat.log2_lt h).mp (Nat.lt_of_succ_le z), fun z => Nat.succ_le_of_lt ((Nat.log2_lt h).mpr z)⟩
theorem lt_bits (n : Nat) : n < 2 ^ bits n := bits_le.mp (Nat.le_refl _)
theorem bits_pos {n : Nat} (h : n ≠ 0) : 0 < bits n := by unfold bits; rw [if_neg h]; exact Nat.succ_pos _
theorem bits_eq_zero {n : Nat} : bits n = 0 ↔ n = 0 := ⟨fun h => by
  by_cases e : n = 0
  · exact e
  · have := bits_pos e; omega, fun h => by subst h; rfl⟩
theorem bits_ge {n k : Nat} (h : n.testBit k = true) : k < bits n := by
  refine Nat.lt_of_not_le fun z => ?_
  rw [testBit_big (bits_le.mp z) (Nat.le_refl _)] at h; cases h
theorem bits_bit {n : Nat} (h : n ≠ 0) : n.testBit (bits n - 1) = true := by
  have hp := bits_pos h
  have h1 : n < 2 ^ (bits n - 1 + 1) := by rw [Nat.sub_add_cancel hp]; exact lt_bits n
  have h2 : 2 ^ (bits n - 1) ≤ n := by
    refine Nat.le_of_not_lt fun z => ?_
    have := bits_le.mpr z
    omega
  rw [Nat.testBit_eq_decide_div_mod_eq, decide_eq_true_iff]
  have h3 : n / 2 ^ (bits n - 1) = 1 := by
    refine Nat.le_antisymm ?_ ?_
    · refine Nat.le_of_lt_succ (Nat.div_lt_of_lt_mul ?_)
      rw [Nat.pow_succ] at h1; exact h1
    · exact (Nat.one_le_div_iff (Nat.two_pow_pos _)).mpr h2
  rw [h3]
theorem bits_of_bit {n k : Nat} (h : n.testBit k = true) (h2 : n < 2 ^ (k + 1)) : bits n = k + 1 := Nat.le_antisymm (bits_le.mpr h2) (bits_ge h)
theorem bits_xor_ne {u l : Nat} (h : bits u < bits l) : bits (u ^^^ l) = bits l := by
  have hl : l ≠ 0 := fun z => by subst z; rw [bits_zero] at h; omega
  have hp := bits_pos hl
  have e : bits l - 1 + 1 = bits l := Nat.sub_add_cancel hp
  rw [← e]
  refine bits_of_bit ?_ ?_
  · rw [Nat.testBit_xor, bits_bit hl, testBit_big (lt_bits u) (by omega)]; rfl
  · rw [e]; exact Nat.xor_lt_two_pow (Nat.lt_trans (lt_bits u) (Nat.pow_lt_pow_right (by decide) h)) (lt_bits l)
theorem bits_xor_max {u l : Nat} (h : bits u ≠ bits l) : bits (u ^^^ l) = max (bits u) (bits l) := by
  rcases Nat.lt_or_gt_of_ne h with q | q
  · rw [bits_xor_ne q, Nat.max_eq_right (Nat.le_of_lt q)]
  · rw [Nat.xor_comm, bits_xor_ne q, Nat.max_eq_left (Nat.le_of_lt q)]
theorem bits_xor_eq {u l : Nat} (h : bits u = bits l) (hu : u ≠ 0) : bits (u ^^^ l) < bits u := by
  have hl : l ≠ 0 := fun z => by subst z; rw [bits_zero] at h; exact hu (bits_eq_zero.mp h)
  have hp := bits_pos hu
  refine Nat.lt_of_le_of_ne (bits_le.mpr (Nat.xor_lt_two_pow (lt_bits u) (by rw [h]; exact lt_bits l))) fun z => ?_
  have n0 : u ^^^ l ≠ 0 := fun q => by rw [q, bits_zero] at z; omega
  have := bits_bit n0
  rw [z, Nat.testBit_xor, bits_bit hu, h, bits_bit hl] at this
  cases this
theorem xor0 {a b : Nat} (h : a ^^^ b = 0) : a = b := by
  have e : (a ^^^ b) ^^^ b = b := by rw [h, Nat.zero_xor]
  rw [Nat.xor_assoc, Nat.xor_self, Nat.xor_zero] at e; exact e
def comb : List Nat → Nat → Nat
  | [], _ => 0
  | r :: rs, S => (if S.testBit 0 = true then r else 0) ^^^ comb rs (S / 2)
theorem comb_xor : ∀ (rs : List Nat) (S T : Nat), comb rs (S ^^^ T) = comb rs S ^^^ comb rs T
  | [], _, _ => by simp [comb]
  | r :: rs, S, T => by
    show (if (S ^^^ T).testBit 0 = true then r else 0) ^^^ comb rs ((S ^^^ T) / 2) = _
    rw [half_xor, comb_xor rs, Nat.testBit_xor]
    show _ = ((if S.testBit 0 = true then r else 0) ^^^ comb rs (S / 2)) ^^^ ((if T.testBit 0 = true then r else 0) ^^^ comb rs (T / 2))
    generalize comb rs (S / 2) = a
    generalize comb rs (T / 2) = b
    cases S.testBit 0 <;> cases T.testBit 0
    · simp
    · simp only [Bool.false_xor, if_true, Bool.false_eq_true, if_false, Nat.zero_xor]
      rw [← Nat.xor_assoc, ← Nat.xor_assoc, Nat.xor_comm a r]
    · simp only [Bool.xor_false, if_true, Bool.false_eq_true, if_false, Nat.zero_xor]
      rw [Nat.xor_assoc]
    · simp only [Bool.xor_self, if_true, Bool.false_eq_true, if_false, Nat.zero_xor]
      rw [Nat.xor_comm r b, ← Nat.xor_assoc, Nat.xor_assoc (r ^^^ a), ]
      rw [Nat.xor_comm r a, Nat.xor_assoc a r, ← Nat.xor_assoc r b r, Nat.xor_comm r b, Nat.xor_assoc b r r, Nat.xor_self, Nat.xor_zero]
theorem comb_zero : ∀ rs : List Nat, comb rs 0 = 0
  | [] => rfl
  | r :: rs => by show (if Nat.testBit 0 0 = true then r else 0) ^^^ comb rs (0 / 2) = 0; rw [Nat.zero_div, comb_zero rs]; simp
theorem comb_ext : ∀ {rs : List Nat} {S T : Nat}, (∀ j, j < rs.length → S.testBit j = T.testBit j) → comb rs S = comb rs T
  | [], _, _, _ => rfl
  | r :: rs, S, T, h => by
    show (if S.testBit 0 = true then r else 0) ^^^ comb rs (S / 2) = (if T.testBit 0 = true then r else 0) ^^^ comb rs (T / 2)
    rw [h 0 (by simp), comb_ext (rs := rs) (S := S / 2) (T := T / 2) fun j hj => by
      rw [halfBit, halfBit]; exact h (j + 1) (by simpa using hj)]
theorem comb_snoc : ∀ (rs : List Nat) (r S : Nat), comb (rs ++ [r]) S = comb rs S ^^^ if S.testBit rs.length = true then r else 0
  | [], r, S => by simp [comb]
  | q :: rs, r, S => by
    show (if S.testBit 0 = true then q else 0) ^^^ comb (rs ++ [r]) (S / 2) = _
    rw [comb_snoc rs, halfBit]
    show _ = ((if S.testBit 0 = true then q else 0) ^^^ comb rs (S / 2)) ^^^ _
    rw [← Nat.xor_assoc]; rfl
theorem comb_lt : ∀ {rs : List Nat} {S k : Nat}, (∀ r ∈ rs, r < 2 ^ k) → comb rs S < 2 ^ k
  | [], _, _, _ => Nat.two_pow_pos _
  | r :: rs, S, k, h => by
    refine Nat.xor_lt_two_pow ?_ (comb_lt fun x hx => h x (List.mem_cons_of_mem _ hx))
    by_cases q : S.testBit 0 = true
    · rw [if_pos q]; exact h r (List.mem_cons_self ..)
    · rw [if_neg q]; exact Nat.two_pow_pos _
theorem comb_pow_len (rs : List Nat) : comb rs (2 ^ rs.length) = 0 := by
  rw [← comb_zero rs]
  refine comb_ext fun j hj => ?_
  rw [Nat.testBit_two_pow, Nat.zero_testBit, decide_eq_false (by omega)]
theorem comb_map (f : Nat → Nat) (h0 : f 0 = 0) (hf : ∀ a b, f (a ^^^ b) = f a ^^^ f b) : ∀ (vs : List Nat) (S : Nat), comb (vs.map f) S = f (comb vs S)
  | [], _ => h0.symm
  | v :: vs, S => by
    show (if S.testBit 0 = true then f v else 0) ^^^ comb (vs.map f) (S / 2) = f ((if S.testBit 0 = true then v else 0) ^^^ comb vs (S / 2))
    rw [comb_map f h0 hf vs, hf]
    by_cases q : S.testBit 0 = true
    · rw [if_pos q, if_pos q]
    · rw [if_neg q, if_neg q, h0]
/-- the sums of the rows -/
def Span (vs : List Nat) (v : Nat) : Prop := ∃ S, comb vs S = v
theorem Span.zero (vs : List Nat) : Span vs 0 := ⟨0, comb_zero vs⟩
theorem Span.xor {vs : List Nat} {u v : Nat} : Span vs u → Span vs v → Span vs (u ^^^ v) := fun ⟨S, a⟩ ⟨T, b⟩ => ⟨S ^^^ T, by rw [comb_xor, a, b]⟩
theorem Span.low {vs : List Nat} {v : Nat} : Span vs v → ∃ S, S < 2 ^ vs.length ∧ comb vs S = v := fun ⟨S, a⟩ => ⟨S % 2 ^ vs.length, Nat.mod_lt _ (Nat.two_pow_pos _), by
  rw [← a]
  refine comb_ext fun j hj => ?_
  rw [Nat.testBit_mod_two_pow, decide_eq_true hj, Bool.true_and]⟩
theorem Span.snoc {vs : List Nat} {r v : Nat} : Span (vs ++ [r]) v ↔ Span vs v ∨ Span vs (v ^^^ r) := by
  constructor
  · rintro ⟨S, h⟩
    rw [comb_snoc] at h
    by_cases q : S.testBit vs.length = true
    · rw [if_pos q] at h
      exact .inr ⟨S, by rw [← h, Nat.xor_assoc, Nat.xor_self, Nat.xor_zero]⟩
    · rw [if_neg q, Nat.xor_zero] at h
      exact .inl ⟨S, h⟩
  · rintro (h | h)
    · obtain ⟨S, hl, e⟩ := h.low
      exact ⟨S, by rw [comb_snoc, testBit_big hl (Nat.le_refl _), e]; simp⟩
    · obtain ⟨S, hl, e⟩ := h.low
      refine ⟨S ^^^ 2 ^ vs.length, ?_⟩
      rw [comb_snoc, comb_xor, comb_pow_len, e, Nat.testBit_xor, testBit_big hl (Nat.le_refl _), Nat.testBit_two_pow, decide_eq_true rfl]
      simp [Nat.xor_assoc]
theorem Span.nil {v : Nat} : Span [] v ↔ v = 0 := ⟨fun ⟨_, h⟩ => h.symm, fun h => by subst h; exact Span.zero _⟩
theorem Span.inj {vs : List Nat} {k : Nat} (f : Nat → Nat) (h0 : f 0 = 0) (hf : ∀ a b, f (a ^^^ b) = f a ^^^ f b) (hi : ∀ a, a < 2 ^ k → f a = 0 → a = 0) (hv : ∀ v ∈ vs, v < 2 ^ k) {v : Nat} (hk : v < 2 ^ k) : Span (vs.map f) (f v) ↔ Span vs v := by
  constructor
  · rintro ⟨S, h⟩
    rw [comb_map f h0 hf] at h
    refine ⟨S, ?_⟩
    have : comb vs S ^^^ v = 0 := hi _ (Nat.xor_lt_two_pow (comb_lt hv) hk) (by rw [hf, h, Nat.xor_self])
    exact xor0 this
  · rintro ⟨S, h⟩
    exact ⟨S, by rw [comb_map f h0 hf, h]⟩
/-- masks with unlike highest bits, rising -/
def Incr (ws : List Nat) : Prop := ws.Pairwise (fun a b => bits a < bits b) ∧ ∀ w ∈ ws, w ≠ 0
theorem Incr.snoc {ws : List Nat} {w : Nat} (h : Incr ws) (hb : ∀ x ∈ ws, bits x < bits w) (h0 : w ≠ 0) : Incr (ws ++ [w]) := ⟨List.pairwise_append.mpr ⟨h.1, List.pairwise_singleton _ _, fun a ha b hb' => by rw [List.mem_singleton.mp hb']; exact hb a ha⟩, fun x hx => by
  rcases List.mem_append.mp hx with q | q
  · exact h.2 x q
  · rw [List.mem_singleton.mp q]; exact h0⟩
theorem comb_snoc_bits {ws : List Nat} {w S : Nat} (hb : ∀ x ∈ ws, bits x < bits w) : bits (comb ws S) < bits w ∨ w = 0 := by
  by_cases h : w = 0
  · exact .inr h
  · left
    have hp := bits_pos h
    refine Nat.lt_of_le_of_lt (bits_le.mpr (comb_lt (k := bits w - 1) fun x hx => ?_)) (by omega)
    have := hb x hx
    exact bits_le.mp (by omega)
theorem Incr.inj : ∀ {ws : List Nat} {S : Nat}, Incr ws → S < 2 ^ ws.length → comb ws S = 0 → S = 0 := by
  intro ws
  induction hn : ws.length generalizing ws with
  | zero => intro S _ hS _; simpa using hS
  | succ n ih =>
    intro S hI hS h
    obtain ⟨us, w, rfl⟩ : ∃ us w, ws = us ++ [w] := ⟨ws.dropLast, ws.getLast (by intro z; subst z; cases hn), (List.dropLast_concat_getLast _).symm⟩
    have hl : us.length = n := by rw [List.length_append] at hn; simpa using hn
    obtain ⟨hp, h0⟩ := hI
    rw [List.pairwise_append] at hp
    have hw : w ≠ 0 := h0 w (List.mem_append_right _ (List.mem_singleton_self _))
    have hb : ∀ x ∈ us, bits x < bits w := fun x hx => hp.2.2 x hx w (List.mem_singleton_self _)
    rw [comb_snoc, hl] at h
    by_cases q : S.testBit n = true
    · rw [if_pos q] at h
      have e := xor0 h
      rcases comb_snoc_bits (S := S) hb with z | z
      · rw [e] at z; exact absurd z (Nat.lt_irrefl _)
      · exact absurd z hw
    · rw [if_neg q, Nat.xor_zero] at h
      have hS' : S < 2 ^ n := by
        refine Nat.lt_pow_two_of_testBit _ fun j hj => ?_
        by_cases e : j = n
        · subst e; simpa using q
        · exact testBit_big hS (by omega)
      exact ih (ws := us) hl ⟨hp.1, fun x hx => h0 x (List.mem_append_left _ hx)⟩ hS' h
/-- the places of rows that are no sums of rows ahead -/
noncomputable def fndP (rs : List Nat) : List Nat := open Classical in (List.range rs.length).filter fun j => decide (¬ Span (rs.take j) (rs.getD j 0))
theorem fndP_snoc (rs : List Nat) (r : Nat) : fndP (rs ++ [r]) = fndP rs ++ open Classical in if Span rs r then [] else [rs.length] := by
  classical
  unfold fndP
  rw [List.length_append, List.length_singleton, List.range_succ, List.filter_append]
  congr 1
  · refine List.filter_congr fun j hj => ?_
    have hj' := List.mem_range.mp hj
    rw [List.take_append_of_le_length (Nat.le_of_lt hj'), List.getD_eq_getElem?_getD, List.getD_eq_getElem?_getD, List.getElem?_append_left hj']
  · have e1 : (rs ++ [r]).take rs.length = rs := by rw [List.take_append_of_le_length (Nat.le_refl _), List.take_length]
    have e2 : (rs ++ [r]).getD rs.length 0 = r := by rw [List.getD_eq_getElem?_getD, List.getElem?_append_right (Nat.le_refl _), Nat.sub_self]; rfl
    by_cases q : Span rs r
    · rw [if_pos q, List.filter_cons_of_neg (by rw [e1, e2]; simpa using q)]; rfl
    · rw [if_neg q, List.filter_cons_of_pos (by rw [e1, e2]; simpa using q)]; rfl
/-- numbers below k, none twice: at most k of them -/
theorem nodup_len : ∀ {k : Nat} {l : List Nat}, l.Nodup → (∀ x ∈ l, x < k) → l.length ≤ k
  | 0, l, _, h => by cases l with
    | nil => exact Nat.le_refl _
    | cons x l => exact absurd (h x (List.mem_cons_self ..)) (Nat.not_lt_zero _)
  | k + 1, l, hn, h => by
    have h1 : (l.erase k).length ≤ k := nodup_len (hn.erase k) fun x hx => by
      have hm := List.mem_of_mem_erase hx
      have := h x hm
      have hk : x ≠ k := fun z => by subst z; exact (List.Nodup.not_mem_erase hn) hx
      omega
    have h2 : l.length ≤ (l.erase k).length + 1 := by
      by_cases q : k ∈ l
      · rw [List.length_erase_of_mem q]; omega
      · rw [List.erase_of_not_mem q]; omega
    omega
end Wk
namespace Wk
def pm (a b : Nat) : Nat := if h : b = 0 then 0 else (if b.testBit 0 = true then a else 0) ^^^ pm (2 * a) (b / 2)
termination_by b
decreasing_by omega
theorem pm_zero (a : Nat) : pm a 0 = 0 := by rw [pm]; simp
theorem pm_step (a b : Nat) : pm a b = (if b.testBit 0 = true then a else 0) ^^^ pm (2 * a) (b / 2) := by
  by_cases h : b = 0
  · subst h; simp [pm_zero]
  · rw [pm, dif_neg h]
theorem two_xor (a b : Nat) : 2 * (a ^^^ b) = 2 * a ^^^ 2 * b := Nat.eq_of_testBit_eq fun i => by
  rw [Nat.testBit_xor]
  cases i with
  | zero => simp [Nat.testBit_zero]
  | succ i => rw [Nat.testBit_add_one, Nat.testBit_add_one, Nat.testBit_add_one]; simp [Nat.testBit_xor]
theorem ifx {c : Bool} {a b : Nat} : (if c = true then a ^^^ b else 0) = (if c = true then a else 0) ^^^ (if c = true then b else 0) := by cases c <;> simp
theorem xor_swap (a b c d : Nat) : (a ^^^ b) ^^^ (c ^^^ d) = (a ^^^ c) ^^^ (b ^^^ d) := by
  rw [Nat.xor_assoc, ← Nat.xor_assoc b c d, Nat.xor_comm b c, Nat.xor_assoc c b d, ← Nat.xor_assoc]
theorem pm_xor_r (b : Nat) : ∀ a c : Nat, pm a (b ^^^ c) = pm a b ^^^ pm a c := by
  induction b using Nat.strongRecOn with
  | ind b ih =>
    intro a c
    by_cases h : b = 0
    · subst h; rw [Nat.zero_xor, pm_zero, Nat.zero_xor]
    · rw [pm_step a (b ^^^ c), pm_step a b, pm_step a c, half_xor, ih (b / 2) (by omega), Nat.testBit_xor, xor_swap]
      congr 1
      cases b.testBit 0 <;> cases c.testBit 0 <;> simp
theorem pm_xor_l (c : Nat) : ∀ a b : Nat, pm (a ^^^ b) c = pm a c ^^^ pm b c := by
  induction c using Nat.strongRecOn with
  | ind c ih =>
    intro a b
    by_cases h : c = 0
    · subst h; simp [pm_zero]
    · rw [pm_step (a ^^^ b), pm_step a c, pm_step b c, two_xor, ih (c / 2) (by omega), ifx, xor_swap]
theorem pm_dbl (b : Nat) : ∀ a, pm (2 * a) b = 2 * pm a b := by
  induction b using Nat.strongRecOn with
  | ind b ih =>
    intro a
    by_cases h : b = 0
    · subst h; simp [pm_zero]
    · rw [pm_step (2 * a), pm_step a, ih (b / 2) (by omega), two_xor]
      congr 1
      cases b.testBit 0 <;> simp
theorem pm_half (a b : Nat) : pm a b = (if b.testBit 0 = true then a else 0) ^^^ 2 * pm a (b / 2) := by rw [pm_step, pm_dbl]
theorem pm_zero_l (b : Nat) : pm 0 b = 0 := by
  induction b using Nat.strongRecOn with
  | ind b ih =>
    by_cases h : b = 0
    · subst h; exact pm_zero 0
    · rw [pm_half, ih (b / 2) (by omega)]; simp
theorem pm_one_l (b : Nat) : pm 1 b = b := by
  induction b using Nat.strongRecOn with
  | ind b ih =>
    by_cases h : b = 0
    · subst h; exact pm_zero 1
    · rw [pm_half, ih (b / 2) (by omega), Nat.testBit_zero]
      rcases Nat.mod_two_eq_zero_or_one b with e | e
      · rw [if_neg (by simp [e]), Nat.zero_xor]; omega
      · rw [if_pos (by simp [e])]
        have : 1 ^^^ 2 * (b / 2) = 2 * (b / 2) + 1 := Nat.eq_of_testBit_eq fun i => by
          rw [Nat.testBit_xor]
          cases i with
          | zero => simp [Nat.testBit_zero]
          | succ i =>
            rw [Nat.testBit_add_one, Nat.testBit_add_one, Nat.testBit_add_one]
            have a : (2 * (b / 2) + 1) / 2 = 2 * (b / 2) / 2 := by omega
            rw [a]; simp
        rw [this]; omega
theorem dbl_half (b : Nat) : b = (if b.testBit 0 = true then 1 else 0) ^^^ 2 * (b / 2) := by
  have := pm_half 1 b
  rw [pm_one_l, pm_one_l] at this; exact this
theorem pm_comm (b : Nat) : ∀ a, pm a b = pm b a := by
  induction b using Nat.strongRecOn with
  | ind b ih =>
    intro a
    by_cases h : b = 0
    · subst h; rw [pm_zero, pm_zero_l]
    · rw [pm_half a b, ih (b / 2) (by omega)]
      conv => rhs; rw [dbl_half b]
      rw [pm_xor_l, pm_dbl]
      congr 1
      cases b.testBit 0 <;> simp [pm_one_l, pm_zero_l]
theorem pm_assoc (c : Nat) : ∀ a b, pm (pm a b) c = pm a (pm b c) := by
  induction c using Nat.strongRecOn with
  | ind c ih =>
    intro a b
    by_cases h : c = 0
    · subst h; simp [pm_zero]
    · rw [pm_half (pm a b) c, pm_half b c, pm_xor_r, ih (c / 2) (by omega)]
      congr 1
      · cases c.testBit 0 <;> simp [pm_zero]
      · rw [pm_comm (2 * pm b (c / 2)), pm_dbl, pm_comm a]
theorem pm_pow (a k : Nat) : pm a (2 ^ k) = a <<< k := by
  induction k with
  | zero => rw [Nat.pow_zero, pm_comm, pm_one_l, Nat.shiftLeft_zero]
  | succ k ih =>
    rw [pm_half, Nat.testBit_two_pow, decide_eq_false (by omega), Nat.pow_succ, Nat.mul_div_cancel _ (by decide), ih]
    simp [Nat.shiftLeft_eq, Nat.pow_succ, Nat.mul_comm, Nat.mul_left_comm]
theorem bits_shl {a : Nat} (h : a ≠ 0) (k : Nat) : bits (a <<< k) = bits a + k := by
  have hp := bits_pos h
  have e : bits a + k = (bits a - 1 + k) + 1 := by omega
  rw [e]
  refine bits_of_bit ?_ ?_
  · rw [Nat.testBit_shiftLeft, decide_eq_true (by omega), Bool.true_and, show bits a - 1 + k - k = bits a - 1 by omega]
    exact bits_bit h
  · rw [Nat.shiftLeft_eq, show bits a - 1 + k + 1 = bits a + k by omega, Nat.pow_add]
    exact Nat.mul_lt_mul_of_pos_right (lt_bits a) (Nat.two_pow_pos k)
theorem bits_pm (b : Nat) : ∀ a, a ≠ 0 → b ≠ 0 → bits (pm a b) + 1 = bits a + bits b := by
  induction b using Nat.strongRecOn with
  | ind b ih =>
    intro a ha hb
    have hp := bits_pos hb
    have hpa := bits_pos ha
    generalize hk : bits b - 1 = k
    have tb : b.testBit k = true := by rw [← hk]; exact bits_bit hb
    have e : b = (b ^^^ 2 ^ k) ^^^ 2 ^ k := by rw [Nat.xor_assoc, Nat.xor_self, Nat.xor_zero]
    have bp : bits (2 ^ k) = k + 1 := bits_of_bit (by rw [Nat.testBit_two_pow]; simp) (Nat.pow_lt_pow_right (by decide) (Nat.lt_succ_self _))
    have lt : bits (b ^^^ 2 ^ k) < bits b := bits_xor_eq (by rw [bp]; omega) hb
    have ltn : b ^^^ 2 ^ k < b := by
      have h1 : b ^^^ 2 ^ k < 2 ^ k := bits_le.mp (by omega)
      have h2 : 2 ^ k ≤ b := by
        refine Nat.le_of_not_lt fun z => ?_
        have := bits_le.mpr z
        omega
      omega
    have e1 : pm a b = pm a (b ^^^ 2 ^ k) ^^^ a <<< k := by
      conv => lhs; rw [e]
      rw [pm_xor_r, pm_pow]
    have s := bits_shl ha k
    have l2 : bits (pm a (b ^^^ 2 ^ k)) < bits (a <<< k) := by
      by_cases z : b ^^^ 2 ^ k = 0
      · rw [z, pm_zero, bits_zero, s]; omega
      · have := ih _ ltn a ha z
        rw [s]; omega
    rw [e1, bits_xor_ne l2, s]; omega
/-- d goes into a -/
def Dv (d a : Nat) : Prop := ∃ q, pm q d = a
theorem Dv.zero (d : Nat) : Dv d 0 := ⟨0, pm_zero_l d⟩
theorem Dv.xor {d a b : Nat} : Dv d a → Dv d b → Dv d (a ^^^ b) := fun ⟨q, h⟩ ⟨r, k⟩ => ⟨q ^^^ r, by rw [pm_xor_l, h, k]⟩
theorem Dv.tr {a b c : Nat} : Dv a b → Dv b c → Dv a c := fun ⟨q, h⟩ ⟨r, k⟩ => ⟨pm r q, by rw [pm_assoc, h, k]⟩
theorem Dv.le {d a : Nat} (h : Dv d a) (ha : a ≠ 0) : bits d ≤ bits a ∧ d ≠ 0 := by
  obtain ⟨q, rfl⟩ := h
  have hq : q ≠ 0 := fun z => ha (by rw [z, pm_zero_l])
  have hd : d ≠ 0 := fun z => ha (by rw [z, pm_zero])
  have := bits_pm d q hq hd
  have := bits_pos hq
  exact ⟨by omega, hd⟩
end Wk
namespace Wk
open PySem L2
section
variable {α β S : Type} {K : PySem.W.Frag} {σ : L2.St} {F0 H0 F F' H H' : Hp} {te tl ta tb to : TE} {tt tc : TT} {tA : TA} {Q : VK} {v w u : V} {xs ys : List α} {x y : α} {D : Ends} {tu : TS} {p q : Addr} {n : Nat} {i : Int} {g : TG} {J : It} {e : Rep α} {b : Rep β} {zs : List β} {o : HO}
def kFor (g : TG) (tu : TS) (D : Ends) (σ : L2.St) (J : It) (H : Hp) : Prop := ∃ W : Nat → Nat → L2.St → Hp → Prop, (∃ m, W 0 m σ H) ∧ ∀ i m σ H, W i m σ H →
  (J.stop i H ∧ D.nx σ H) ∨ (J.go i H ∧ ∃ N : L2.St → Hp → Prop, (∀ σ' H', N σ' H' → ∃ m', m' < m ∧ W (i + 1) m' σ' H') ∧ ∀ x H', J.yld i H x H' → g x σ H' fun σ2 H2 => tu { D with nx := N, ct := N, bk := D.nx } σ2 H2)
def kCp (g : TG) (tc : TT) (te : TE) (vs : List Nat) (σ : L2.St) (Q : VK) (J : It) (H : Hp) : Prop := ∀ D, H D = none → ∃ W : Nat → Nat → Hp → Prop, (∃ m, W 0 m (upd H D (.lst []))) ∧ ∀ i m H, W i m H →
  (J.stop i H ∧ Q (.ref D) H) ∨ (J.go i H ∧ ∃ Nx : Hp → Prop, (∀ H', Nx H' → ∃ m', m' < m ∧ W (i + 1) m' H') ∧ ∀ x H', J.yld i H x H' → g x (wipe σ vs) H' fun σ2 H2 => wipe σ2 vs = wipe σ vs ∧ tc σ2 H2 fun b H3 =>
    if b = true then te σ2 H3 fun y H4 => ∃ acc, H4 D = some (.lst acc) ∧ acc.length < sizeLine ∧ Nx (upd H4 D (.lst (acc ++ [y]))) else Nx H3)
/-- a walk over frozen things: its turns give the items of zs -/
def TWk (J : It) (F : Hp) (b : Rep β) (zs : List β) : Prop := ∃ G Y, Walk J zs.length G Y ∧ (∀ F' H', Ex F F' → Ex F' H' → G H') ∧
  ∀ i H x H' F', i < zs.length → Ex F F' → Ex F' H → Y i H x H' → ∃ z F1, zs[i]? = some z ∧ Wf F' H F1 H' ∧ b.r F1 x z
theorem f_J {wi : TI} (h : wi σ H (kFor g tu D σ)) : tFor wi g tu D σ H := h
theorem c_J {wi : TI} {vs : List Nat} (h : wi σ H (kCp g tc te vs σ Q)) : tLc wi g tc te vs σ H Q := h
theorem w_forG {s0 : S} {k : S → Prop} {body : β → S → (S → Prop) → (S → Prop) → Prop} (T : TWk J F b zs) (Inv : S → L2.St → Hp → Hp → Prop) (hW : forW zs s0 body k) (h0 : Inv s0 σ F H)
    (ex : ∀ s σ' F' H', Inv s σ' F' H' → Ex F F' ∧ Ex F' H') (f : Ex F H)
    (turn : ∀ (N Bk : L2.St → Hp → Prop) x u s σ' F' H' F1 H1 (nx bk : S → Prop), Inv s σ' F' H' → x ∈ zs → Wf F' H' F1 H1 → b.r F1 u x → body x s nx bk → (∀ s' σ2 F2 H2, Inv s' σ2 F2 H2 → nx s' → N σ2 H2) → (∀ s' σ2 F2 H2, Inv s' σ2 F2 H2 → bk s' → Bk σ2 H2) →
      g u σ' H1 fun σ2 H2 => tu { D with nx := N, ct := N, bk := Bk } σ2 H2)
    (done : ∀ s σ' F' H', Inv s σ' F' H' → k s → D.nx σ' H') : kFor g tu D σ J H := by
  obtain ⟨G, Y, wk, hG, hY⟩ := T
  refine for_it wk (fun i σ' H' => ∃ s F', Inv s σ' F' H' ∧ forW (zs.drop i) s body k) ⟨s0, F, h0, hW⟩ (fun i σ' H' _ ⟨s, F', hI, _⟩ => hG F' H' (ex _ _ _ _ hI).1 (ex _ _ _ _ hI).2) ?_ ?_
  · rintro i u σ' H' H1 hi ⟨s, F', hI, hw⟩ hy
    obtain ⟨x, F1, hx, q, rx⟩ := hY i H' u H1 F' hi (ex _ _ _ _ hI).1 (ex _ _ _ _ hI).2 hy
    have e : zs.drop i = x :: zs.drop (i + 1) := by
      obtain ⟨h1, h2⟩ := List.getElem?_eq_some_iff.mp hx
      rw [← h2]; exact List.drop_eq_getElem_cons h1
    rw [e] at hw
    exact turn _ _ x u s σ' F' H' F1 H1 _ _ hI (List.mem_of_getElem? hx) q rx hw (fun s' σ2 F2 H2 q n => ⟨s', F2, q, n⟩) (fun s' σ2 F2 H2 q n => done s' σ2 F2 H2 q n)
  · rintro σ' H' ⟨s, F', hI, hw⟩
    rw [List.drop_of_length_le (Nat.le_refl _)] at hw
    exact done _ _ _ _ hI hw
theorem w_compG {vs : List Nat} {bd : β → (Option α → Prop) → Prop} {kk : List α → Prop} (T : TWk J F b zs) (w : Wf F0 H0 F H) (hn : zs.length < 1000000) (hW : compW zs bd kk)
    (turn : ∀ (Qy : V → Hp → Prop) (Qn : Hp → Prop) x u F1 H1 (R : Option α → Prop), Wf F H F1 H1 → x ∈ zs → b.r F1 u x → bd x R → (∀ y z F2 H2, Wf F1 H1 F2 H2 → e.r F2 y z → R (some z) → Qy y H2) → (∀ F2 H2, Wf F1 H1 F2 H2 → R none → Qn H2) →
      g u (wipe σ vs) H1 fun σ2 H2 => wipe σ2 vs = wipe σ vs ∧ tc σ2 H2 fun b H3 => if b = true then te σ2 H3 Qy else Qn H3)
    (done : ∀ p ys F' H', H p = none → Wf F H F' H' → XL e H0 F' H' p ys → kk ys → Q (.ref p) H') : kCp g tc te vs σ Q J H := by
  obtain ⟨G, Y, wk, hG, hY⟩ := T
  intro D hD
  refine lc_it wk (fun i H' => ∃ F' ac ys, Wf F H F' H' ∧ Xc H F' H' D (.lst ac) ∧ All e F' ac ys ∧ ys.length ≤ i ∧ compG (zs.drop i) ys bd kk)
    ⟨F, [], [], Wf.newX w.f hD, Xc.mk' (Wf.id w.f) hD, trivial, Nat.le_refl _, hW⟩ (fun i H' _ ⟨F', ac, ys, q, _⟩ => hG F' H' q.g q.f) ?_ ?_
  · rintro i u H' H1 hi ⟨F', ac, ys, q, xc, al, hl, hw⟩ hy
    obtain ⟨x, F1, hx, q1, rx⟩ := hY i H' u H1 F' hi q.g q.f hy
    have e' : zs.drop i = x :: zs.drop (i + 1) := by
      obtain ⟨h1, h2⟩ := List.getElem?_eq_some_iff.mp hx
      rw [← h2]; exact List.drop_eq_getElem_cons h1
    rw [e'] at hw
    have xc1 := xc.step q1
    have al1 := al.mono q1.g
    refine turn _ _ x u F1 H1 _ (q.tr q1) (List.mem_of_getElem? hx) rx hw (fun y z F2 H2 s ry hR => ?_) (fun F2 H2 s hR => ?_)
    · have xc2 := xc1.step s
      exact ⟨ac, xc2.h, by rw [al.len]; exact small_len (by omega), F2, ac ++ [y], ys ++ [z], ((q.tr q1).tr s).set xc2, xc2.set, (al1.mono s.g).snoc ry, by rw [List.length_append]; exact Nat.succ_le_succ hl, hR⟩
    · exact ⟨F2, ac, ys, (q.tr q1).tr s, xc1.step s, al1.mono s.g, Nat.le_succ_of_le hl, by simpa using hR⟩
  · rintro H' ⟨F', ac, ys, q, xc, al, hl, hw⟩
    rw [List.drop_of_length_le (Nat.le_refl _)] at hw
    exact done D ys F' H' hD q ⟨ac, ⟨w.h.non hD, xc.n, xc.h⟩, al⟩ hw
theorem TWk.pairs {γ δ : Type} {c : Rep γ} {d : Rep δ} {G : Hp → Prop} {X Y : Nat → Option V} {us : List (γ × δ)} (wk : Walk J us.length G (YPair X Y)) (hG : ∀ F' H', Ex F F' → Ex F' H' → G H')
    (hx : ∀ i F' x, Ex F F' → i < us.length → X i = some x → ∃ z, (us[i]?.map Prod.fst) = some z ∧ c.r F' x z) (hy : ∀ i F' x, Ex F F' → i < us.length → Y i = some x → ∃ z, (us[i]?.map Prod.snd) = some z ∧ d.r F' x z) : TWk J F (pT2 c d) us := by
  refine ⟨G, _, wk, hG, fun i H v H' F' hi f g hy' => ?_⟩
  obtain ⟨T, x, y, rfl, hT, rfl, h1, h2⟩ := hy'
  obtain ⟨z1, e1, r1⟩ := hx i F' x f hi h1
  obtain ⟨z2, e2, r2⟩ := hy i F' y f hi h2
  have e : us[i]? = some (z1, z2) := by
    cases q : us[i]? with
    | none => rw [q] at e1; cases e1
    | some t =>
      rw [q] at e1 e2
      have a : t.1 = z1 := Option.some.inj e1
      have b : t.2 = z2 := Option.some.inj e2
      rw [← a, ← b]
  exact ⟨(z1, z2), _, e, Wf.new g hT, ⟨T, x, y, rfl, upd_same, c.mono (Ex.new (g.non hT)) r1, d.mono (Ex.new (g.non hT)) r2⟩⟩
def enumT (xs : List α) : List (Nat × α) := (List.range xs.length).zip xs
theorem enumT_len (xs : List α) : (enumT xs).length = xs.length := by unfold enumT; rw [List.length_zip, List.length_range]; exact Nat.min_self _
theorem enumT_get (xs : List α) (i : Nat) : (enumT xs)[i]? = xs[i]?.map fun x => (i, x) := by
  show ((List.range xs.length).zip xs)[i]? = _
  by_cases h : i < xs.length
  · have h2 : i < ((List.range xs.length).zip xs).length := by rw [List.length_zip, List.length_range]; omega
    rw [List.getElem?_eq_getElem h2, List.getElem?_eq_getElem h, List.getElem_zip, List.getElem_range]; rfl
  · rw [List.getElem?_eq_none (by rw [List.length_zip, List.length_range]; omega), List.getElem?_eq_none (by omega)]; rfl
/-- enumerate(xs) -/
theorem src_enum {R : It → Hp → Prop} (r : (pL e).r F v xs) (f : Ex F H) (k : ∀ a, TWk (Ite K a) F (pT2 pN e) (enumT xs) → R (Ite K a) H) : ∃ a ws, [v] = [V.ref a] ∧ SqL K H a ws ∧ R (Ite K a) H := by
  obtain ⟨p, vs, rfl, hp, a⟩ := r
  refine ⟨p, vs, rfl, SqL.of (f _ _ hp), k p ?_⟩
  refine TWk.pairs (G := fun H => SqL K H p vs) (X := fun i => some (.int (i : Nat))) (Y := fun i => vs[i]?) (by rw [enumT_len, ← a.len]; exact walk_enum) (fun F' H' h1 h2 => SqL.of (h2 _ _ (h1 _ _ hp))) ?_ ?_
  · intro i F' x _ hi hx
    rw [enumT_len] at hi
    rw [enumT_get, List.getElem?_eq_getElem hi]
    exact ⟨i, rfl, (Option.some.inj hx).symm⟩
  · intro i F' x h1 hi hx
    obtain ⟨z, hz, rz⟩ := a.got hx
    rw [enumT_get, hz]
    exact ⟨z, rfl, e.mono h1 rz⟩
/-- zip(xs, ys) -/
theorem src_zip {γ : Type} {c : Rep γ} {us : List γ} {R : It → Hp → Prop} (r : (pL e).r F v xs) (s : (pL c).r F w us) (f : Ex F H) (k : ∀ a b, TWk (Itz K a b) F (pT2 e c) (xs.zip us) → R (Itz K a b) H) : ∃ a b ws us, [v, w] = [V.ref a, V.ref b] ∧ SqL K H a ws ∧ SqL K H b us ∧ R (Itz K a b) H := by
  obtain ⟨p, vs, rfl, hp, a⟩ := r
  obtain ⟨q, ws, rfl, hq, b⟩ := s
  refine ⟨p, q, vs, ws, rfl, SqL.of (f _ _ hp), SqL.of (f _ _ hq), k p q ?_⟩
  refine TWk.pairs (G := fun H => SqL K H p vs ∧ SqL K H q ws) (X := fun i => vs[i]?) (Y := fun i => ws[i]?) (walk_zip (by rw [List.length_zip, a.len, b.len])) (fun F' H' h1 h2 => ⟨SqL.of (h2 _ _ (h1 _ _ hp)), SqL.of (h2 _ _ (h1 _ _ hq))⟩) ?_ ?_
  · intro i F' x h1 hi hx
    obtain ⟨z, hz, rz⟩ := a.got hx
    obtain ⟨u, hu⟩ : ∃ u, us[i]? = some u := ⟨_, List.getElem?_eq_getElem (by rw [List.length_zip] at hi; omega)⟩
    exact ⟨z, by rw [(List.getElem?_zip_eq_some (z := (z, u))).mpr ⟨hz, hu⟩]; rfl, e.mono h1 rz⟩
  · intro i F' x h1 hi hx
    obtain ⟨u, hu, ru⟩ := b.got hx
    obtain ⟨z, hz⟩ : ∃ z, xs[i]? = some z := ⟨_, List.getElem?_eq_getElem (by rw [List.length_zip] at hi; omega)⟩
    exact ⟨u, by rw [(List.getElem?_zip_eq_some (z := (z, u))).mpr ⟨hz, hu⟩]; rfl, c.mono h1 ru⟩
theorem lk_ne {k g : Str} {v : V} {r : List (Str × V)} (h : (k == g) = false) : List.lookup k ((g, v) :: r) = List.lookup k r := by simp only [List.lookup, h]
theorem lk_eq {k : Str} {v : V} {r : List (Str × V)} : List.lookup k ((k, v) :: r) = some v := by
  have e : (k == k) = true := beq_self_eq_true k
  simp only [List.lookup, e]
/-- an instance of C that stays as it is: its fields, all told by Fs -/
def pOb (C : Addr) (Fs : Hp → List (Str × V) → α → Prop) (mono : ∀ {F F' : Hp} {fs : List (Str × V)} {x : α}, Ex F F' → Fs F fs x → Fs F' fs x) : Rep α :=
  ⟨fun F v x => ∃ p dx fs, v = .ref p ∧ F p = some (.ins C dx fs) ∧ Fs F fs x, fun h ⟨p, dx, fs, a, b, c⟩ => ⟨p, dx, fs, a, h _ _ b, mono h c⟩⟩
def F1s {α : Type} (n : Str) (e : Rep α) (F : Hp) (fs : List (Str × V)) (x : α) : Prop := ∃ u, fs = [(n, u)] ∧ e.r F u x
def F2s {α β : Type} (n m : Str) (e : Rep α) (f : Rep β) (F : Hp) (fs : List (Str × V)) (x : α × β) : Prop := ∃ u w, fs = [(n, u), (m, w)] ∧ e.r F u x.1 ∧ f.r F w x.2
def F3s {α β γ : Type} (n m l : Str) (e : Rep α) (f : Rep β) (g : Rep γ) (F : Hp) (fs : List (Str × V)) (x : α × β × γ) : Prop := ∃ u w y, fs = [(n, u), (m, w), (l, y)] ∧ e.r F u x.1 ∧ f.r F w x.2.1 ∧ g.r F y x.2.2
theorem F1s.mono {α : Type} {n : Str} {e : Rep α} {F F' : Hp} {fs : List (Str × V)} {x : α} (h : Ex F F') : F1s n e F fs x → F1s n e F' fs x := fun ⟨u, a, b⟩ => ⟨u, a, e.mono h b⟩
theorem F2s.mono {α β : Type} {n m : Str} {e : Rep α} {f : Rep β} {F F' : Hp} {fs : List (Str × V)} {x : α × β} (h : Ex F F') : F2s n m e f F fs x → F2s n m e f F' fs x := fun ⟨u, w, a, b, c⟩ => ⟨u, w, a, e.mono h b, f.mono h c⟩
theorem F3s.mono {α β γ : Type} {n m l : Str} {e : Rep α} {f : Rep β} {g : Rep γ} {F F' : Hp} {fs : List (Str × V)} {x : α × β × γ} (h : Ex F F') : F3s n m l e f g F fs x → F3s n m l e f g F' fs x := fun ⟨u, w, y, a, b, c, d⟩ => ⟨u, w, y, a, e.mono h b, f.mono h c, g.mono h d⟩
def pO2 {α β : Type} (C : Addr) (n m : Str) (e : Rep α) (f : Rep β) : Rep (α × β) := pOb C (F2s n m e f) F2s.mono
def pO3 {α β γ : Type} (C : Addr) (n m l : Str) (e : Rep α) (f : Rep β) (g : Rep γ) : Rep (α × β × γ) := pOb C (F3s n m l e f g) F3s.mono
section
variable {γ : Type} {C : Addr} {a b c : Str} {f : Rep β} {g' : Rep γ} {s : α} {t : α × β} {z : α × β × γ}
theorem fl_31 (cl : Cls K C) (na : NoAttr K C a) (r : (pO3 C a b c e f g').r F v z) (h : Ex F H) : ∃ w, e.r F w z.1 ∧ ∀ ⦃σ ta⦄, Val ta σ H v → Val (tFld K ta a) σ H w := by
  obtain ⟨p, dx, fs, rfl, hp, u, w, y, rfl, r1, r2, r3⟩ := r
  exact ⟨u, r1, fun _ _ ha Q k => ha _ ⟨p, C, dx, _, u, rfl, h _ _ hp, cl, na, lk_eq, k⟩⟩
theorem fl_32 (cl : Cls K C) (na : NoAttr K C b) (r : (pO3 C a b c e f g').r F v z) (h : Ex F H) (h1 : (b == a) = false := by decide +kernel) : ∃ w, f.r F w z.2.1 ∧ ∀ ⦃σ ta⦄, Val ta σ H v → Val (tFld K ta b) σ H w := by
  obtain ⟨p, dx, fs, rfl, hp, u, w, y, rfl, r1, r2, r3⟩ := r
  exact ⟨w, r2, fun _ _ ha Q k => ha _ ⟨p, C, dx, _, w, rfl, h _ _ hp, cl, na, (lk_ne h1).trans lk_eq, k⟩⟩
theorem fl_33 (cl : Cls K C) (na : NoAttr K C c) (r : (pO3 C a b c e f g').r F v z) (h : Ex F H) (h1 : (c == a) = false := by decide +kernel) (h2 : (c == b) = false := by decide +kernel) : ∃ w, g'.r F w z.2.2 ∧ ∀ ⦃σ ta⦄, Val ta σ H v → Val (tFld K ta c) σ H w := by
  obtain ⟨p, dx, fs, rfl, hp, u, w, y, rfl, r1, r2, r3⟩ := r
  exact ⟨y, r3, fun _ _ ha Q k => ha _ ⟨p, C, dx, _, y, rfl, h _ _ hp, cl, na, (lk_ne h1).trans ((lk_ne h2).trans lk_eq), k⟩⟩
theorem me_3 {m : Str} (r : (pO3 C a b c e f g').r F v z) (h : Ex F H) (h1 : (m == a) = false := by decide +kernel) (h2 : (m == b) = false := by decide +kernel) (h3 : (m == c) = false := by decide +kernel) : ∃ p dx fs, v = .ref p ∧ H p = some (.ins C dx fs) ∧ fs.lookup m = none := by
  obtain ⟨p, dx, fs, rfl, hp, u, w, y, rfl, _⟩ := r
  exact ⟨p, dx, _, rfl, h _ _ hp, (lk_ne h1).trans ((lk_ne h2).trans ((lk_ne h3).trans rfl))⟩
end
/-- the heap without p -/
def wo (H : Hp) (p : Addr) : Hp := fun a => if a = p then none else H a
theorem wo_same {H : Hp} {p : Addr} : wo H p p = none := if_pos rfl
theorem wo_ne {H : Hp} {p q : Addr} (h : q ≠ p) : wo H p q = H q := if_neg h
theorem Wf.start (f : Ex F H) (n : F p = none) : Wf F (wo H p) F H := ⟨fun a o h => by
    by_cases q : a = p
    · subst q; rw [wo_same] at h; cases h
    · rw [wo_ne q] at h; exact h, f, Ex.rfl', fun a o h h0 => by rw [h] at h0; cases h0⟩
theorem Xc.start (n : F p = none) (h : H p = some o) : Xc (wo H p) F H p o := ⟨wo_same, n, h⟩
/-- behind the making of x -/
theorem Wf.made {x dx : Addr} {o u : HO} (nx : H x = none) (nd : H dx = none) (w : Wf F (wo (upd (upd H dx o) x u) x) F' H') : Wf F H F' H' := by
  have e : Ex H (wo (upd (upd H dx o) x u) x) := fun a v h => by
    have h1 : a ≠ x := ne_of_none h nx
    have h2 : a ≠ dx := ne_of_none h nd
    rw [wo_ne h1, upd_ne h1, upd_ne h2]; exact h
  exact ⟨e.tr w.h, w.f, w.g, fun a o h h0 => e.non (w.n a o h h0)⟩
theorem Ex.made {x dx : Addr} {o u : HO} (f : Ex F H) (nx : H x = none) (nd : H dx = none) : Ex F (upd (upd H dx o) x u) := fun a v h => by
  have h' := f a v h
  rw [upd_ne (ne_of_none h' nx), upd_ne (ne_of_none h' nd)]; exact h'
theorem Xc.frzO {u : HO} (x : Xc H0 F H q u) (h : Fz F F' p) (hq : q ≠ p) (g : Ex F F') : Xc H0 F' H q u := ⟨x.z, h _ hq x.n, x.h⟩
/-- self.f = v -/
theorem a_fld {C dx : Addr} {fs : List (Str × V)} {a : Str} (cl : Cls K C) (na : NoAttr K C a) (x : Xc H0 F H p (.ins C dx fs)) (w : Wf F0 H0 F H) (hl : fs.length < 1000) (ho : Val to σ H (.ref p))
    (k : ∀ H', Wf F0 H0 F H' → Xc H0 F H' p (.ins C dx (putF a v fs)) → (∀ q o, H q = some o → q ≠ p → H' q = some o) → D.nx σ H') :
    (fun y H1 => to σ H1 fun x H2 => ∃ a' C' dx' fs', x = .ref a' ∧ H2 a' = some (.ins C' dx' fs') ∧ Cls K C' ∧ NoAttr K C' a ∧ fs'.length < 1000 ∧ D.nx σ (upd H2 a' (.ins C' dx' (putF a y fs')))) v H :=
  ho _ ⟨p, C, dx, fs, rfl, x.h, cl, na, hl, k _ (w.set x) x.set fun q o h hq => by rw [upd_ne hq]; exact h⟩
theorem e_fld {tv : TE} {a : Str} (h : tv σ H fun y H1 => to σ H1 fun x H2 => ∃ a' C' dx' fs', x = .ref a' ∧ H2 a' = some (.ins C' dx' fs') ∧ Cls K C' ∧ NoAttr K C' a ∧ fs'.length < 1000 ∧ D.nx σ (upd H2 a' (.ins C' dx' (putF a y fs')))) : sFld K to tv a D σ H := h
/-- reading a field of one's own object -/
theorem fl_X {C dx : Addr} {fs : List (Str × V)} {a : Str} (cl : Cls K C) (na : NoAttr K C a) (x : Xc H0 F H p (.ins C dx fs)) (hl : fs.lookup a = some u) (ho : Val to σ H (.ref p)) : Val (tFld K to a) σ H u :=
  fun Q k => ho _ ⟨p, C, dx, fs, u, rfl, x.h, cl, na, hl, k⟩
/-- it is made: it changes no more -/
theorem Xc.frzE {o : HO} (x : Xc H0 F H p o) (w : Wf F0 H0 F H) : ∃ F', Wf F0 H0 F' H ∧ Ex F F' ∧ F' p = some o := ⟨_, w.freeze x, Ex.new x.n, upd_same⟩
structure BL {α : Type} (e : Rep α) (F H : Hp) (p : Addr) (xs : List α) : Prop where
  x : ∃ vs, H p = some (.lst vs) ∧ All e F vs xs
structure BD {κ α : Type} [KeyT κ] (e : Rep α) (F H : Hp) (p : Addr) (m : List (κ × α)) : Prop where
  x : ∃ kvs, H p = some (.dK kvs) ∧ DA e F kvs m
theorem BL.step (x : BL e F H p xs) (w : Wf F H F' H') : BL e F' H' p xs := let ⟨vs, a, b⟩ := x.x; ⟨vs, w.h _ _ a, b.mono w.g⟩
theorem BL.ne (x : BL e F H p xs) (h : H q = none) : p ≠ q := let ⟨_, a, _⟩ := x.x; ne_of_none a h
theorem BL.frzO {X : Prop} (x : BL e F H q xs) (h : X) (hq : q ≠ p) (g : Ex F F') : BL e F' H q xs := let ⟨vs, a, b⟩ := x.x; ⟨vs, a, b.mono g⟩
theorem BL.kept (x : BL e F H q xs) (h : ∀ q o, H q = some o → q ≠ p → H' q = some o) (hq : q ≠ p) : BL e F H' q xs := let ⟨vs, a, b⟩ := x.x; ⟨vs, h _ _ a hq, b⟩
theorem XL.bw (x : XL e H0 F H p xs) : BL e F H p xs := let ⟨vs, a, b⟩ := x.x; ⟨vs, a.h, b⟩
end
section
variable {κ α : Type} [DecidableEq κ] [KeyT κ] {e : Rep α} {K : PySem.W.Frag} {σ : L2.St} {F0 H0 F F' H H' : Hp} {te td ty tx tv : TE} {Q : VK} {v w y z : V} {m : List (κ × α)} {p q : Addr} {j : κ} {x : α} {D : Ends}
omit [DecidableEq κ] in
theorem BD.step (x : BD e F H p m) (w : Wf F H F' H') : BD e F' H' p m := let ⟨vs, a, b⟩ := x.x; ⟨vs, w.h _ _ a, b.mono w.g⟩
omit [DecidableEq κ] in
theorem BD.ne (x : BD e F H p m) (h : H q = none) : p ≠ q := let ⟨_, a, _⟩ := x.x; ne_of_none a h
omit [DecidableEq κ] in
theorem BD.frzO {X : Prop} (x : BD e F H q m) (h : X) (hq : q ≠ p) (g : Ex F F') : BD e F' H q m := let ⟨vs, a, b⟩ := x.x; ⟨vs, a, b.mono g⟩
omit [DecidableEq κ] in
theorem BD.kept (x : BD e F H q m) (h : ∀ q o, H q = some o → q ≠ p → H' q = some o) (hq : q ≠ p) : BD e F H' q m := let ⟨vs, a, b⟩ := x.x; ⟨vs, h _ _ a hq, b⟩
omit [DecidableEq κ] in
theorem XD.bw (x : XD e H0 F H p m) : BD e F H p m := let ⟨vs, a, b⟩ := x.x; ⟨vs, a.h, b⟩
omit [DecidableEq κ] in
theorem D_bw (r : (pD e).r F v m) (f : Ex F H) : ∃ p, v = .ref p ∧ BD e F H p m := let ⟨p, vs, a, b, c⟩ := r; ⟨p, a, ⟨vs, f _ _ b, c⟩⟩
theorem in_BD (r : BD e F H p m) (hy : Val ty σ H (kV (KeyT.k j))) (hd : Val td σ H (.ref p)) : Val (tDIn ty td) σ H (.bl (hasT m j)) := by
  obtain ⟨kvs, hp, a⟩ := r.x
  exact fun Q k => hy _ (hd _ ⟨p, _, rfl, DGet.k hp, by rw [a.has j]; exact k⟩)
theorem ix_BD (r : BD e F H p m) (hx : valT m j = some x) : ∃ w, e.r F w x ∧ ∀ ⦃σ td ty⦄, Val td σ H (.ref p) → Val ty σ H (kV (KeyT.k j)) → Val (tDGet td ty) σ H w := by
  obtain ⟨kvs, hp, a⟩ := r.x
  obtain ⟨w, h1, h2⟩ := (a.get j).1 x hx
  exact ⟨w, h2, fun _ _ _ hd hy Q k => hd _ (hy _ ⟨p, w, rfl, by rw [← h1]; exact DGet.k hp, k⟩)⟩
/-- list(d) -/
def keyC (κ : Type) [KeyT κ] (b : Rep κ) : Prop := ∀ (F : Hp) (k : κ), b.r F (kV (KeyT.k k)) k
omit [DecidableEq κ] in
theorem DA.keys {b : Rep κ} (hb : keyC κ b) : ∀ {kvs : List (Key × V)} {m : List (κ × α)}, DA e F kvs m → All b F (kvs.map fun kv => kV kv.1) (m.map (·.1))
  | [], [], _ => trivial
  | p :: r, q :: s, ⟨a, _, c⟩ => ⟨by show b.r F (kV p.1) q.1; rw [a]; exact hb F q.1, DA.keys hb c⟩
  | [], _ :: _, q => q.elim
  | _ :: _, [], q => q.elim
end
/-- a method that may be called -/
structure Md (P : Program) (w : World) (K : PySem.W.Frag) (mg : Str → Option Value) (base : Heap) (CX : CXT) (k : Nat) (C : Addr) (m : Str) (ps : List Str) (sp : Sp) : Prop where
  ex : ∃ f fd, FnOk P w K mg base CX k f fd ps sp ∧ Meth K C m f ∧ Binds K fd ps []
/-- a class that makes -/
structure Nw (P : Program) (w : World) (K : PySem.W.Frag) (mg : Str → Option Value) (base : Heap) (CX : CXT) (k : Nat) (C : Addr) (x : Str) (ps : List Str) (sp : Sp) : Prop where
  ex : ∃ f fd, FnOk P w K mg base CX k f fd ps sp ∧ Mk K C f ∧ mg x = some (.ref C) ∧ Binds K fd ps []
section
variable {X : Cx} {k : Nat} {C : Addr} {x m : Str} {ps : List Str} {sp : Sp} {o e : Expr} {es : List Expr} {p pos apos : Pos} {ta : TE} {t : TA} {pl : Sem Bool}
theorem pe_md (M : Md X.prog X.w X.K X.mg X.base CX0 k C m ps sp) (cl : Cls X.K C) (hr : Room k X.A) (he : PE X o ta) (ha : PA X (e :: es) t)
    (hst : starEach (e :: es) X.env = (false, eval e X.env) :: starEach es X.env := by rfl) (hpl : (backTo pos (starEach es X.env)).any (·.1) = false := by rfl)
    (ht : eval (.Call (.Attribute o m apos) (e :: es) [] pos) X.env = (do
      let ov ← eval o X.env
      standAt apos.atName
      let (f, first) ← holding [ov] (getMethod ov m pl)
      callWith pos f first (backTo pos (starEach (e :: es) X.env)) (backToKw pos (keywordEach [] X.env))) := by rfl) :
    PE X (.Call (.Attribute o m apos) (e :: es) [] pos) (tMeth C m sp [] E0 ta t) := by
  obtain ⟨f, fd, F, hm, hb⟩ := M.ex
  exact pe_meth he cl hm F hr hb .nil pass0 ha hst hpl ht
theorem pe_md0 (M : Md X.prog X.w X.K X.mg X.base CX0 k C m ps sp) (cl : Cls X.K C) (hr : Room k X.A) (he : PE X o ta)
    (ht : eval (.Call (.Attribute o m apos) [] [] pos) X.env = (do
      let ov ← eval o X.env
      standAt apos.atName
      let (f, first) ← holding [ov] (getMethod ov m pl)
      callWith pos f first (backTo pos (starEach [] X.env)) (backToKw pos (keywordEach [] X.env))) := by rfl) :
    PE X (.Call (.Attribute o m apos) [] [] pos) (tMeth C m sp [] E0 ta tNil) := by
  obtain ⟨f, fd, F, hm, hb⟩ := M.ex
  exact pe_meth0 he cl hm F hr hb .nil pass0 ht
theorem pe_nw (M : Nw X.prog X.w X.K X.mg X.base CX0 k C x ps sp) (hr : Room (k + 1) X.A) (hg : Gl X x) (ha : PA X (e :: es) t) (hdb : (x == ("__debug__" : Str)) = false := by decide)
    (he : starEach (e :: es) X.env = (false, eval e X.env) :: starEach es X.env := by rfl) (hpl : (backTo pos (starEach es X.env)).any (·.1) = false := by rfl) : PE X (.Call (.Name x p) (e :: es) [] pos) (tMake C sp [] E0 t) := by
  obtain ⟨f, fd, F, hk, hm, hb⟩ := M.ex
  exact pe_make hk F hr hg hm hb .nil pass0 ha hdb he hpl
end
section
variable {σ : L2.St} {H : Hp} {C : Addr} {m : Str} {sp : Sp} {E : XK} {ta : TE} {t : TA} {Q : VK} {v : V} {p dx : Addr} {fs : List (Str × V)} {vs : List V}
theorem e_md (h : ta σ H fun x H1 => ∃ a dx fs, x = .ref a ∧ H1 a = some (.ins C dx fs) ∧ fs.lookup m = none ∧ t σ H1 fun vs H2 => sp (x :: vs) H2 Q E) : tMeth C m sp [] E ta t σ H Q := by
  show ta σ H fun x H1 => ∃ a dx fs, x = .ref a ∧ H1 a = some (.ins C dx fs) ∧ fs.lookup m = none ∧ t σ H1 fun vs H2 => sp (x :: (vs ++ [])) H2 Q E
  simpa only [List.append_nil] using h
theorem e_nw (h : t σ H fun vs H1 => ∀ x dx, H1 x = none → H1 dx = none → dx ≠ x → sp (.ref x :: vs) (upd (upd H1 dx (.own x)) x (.ins C dx [])) (fun v H2 => v = .non ∧ Q (.ref x) H2) E) : tMake C sp [] E t σ H Q := by
  show t σ H fun vs H1 => ∀ x dx, H1 x = none → H1 dx = none → dx ≠ x → sp (.ref x :: (vs ++ [])) (upd (upd H1 dx (.own x)) x (.ins C dx [])) (fun v H2 => v = .non ∧ Q (.ref x) H2) E
  simpa only [List.append_nil] using h
end
/-- an object of which only the fields are read -/
structure BO (C : Addr) (F H : Hp) (p dx : Addr) (fs : List (Str × V)) : Prop where
  h : H p = some (.ins C dx fs)
section
variable {α β γ : Type} {K : PySem.W.Frag} {σ : L2.St} {C p q dx : Addr} {fs : List (Str × V)} {H0 F F' H H' : Hp} {to ta : TE} {Q : VK} {a b c m : Str} {u v : V} {o : HO}
theorem BO.step (x : BO C F H p dx fs) (w : Wf F H F' H') : BO C F' H' p dx fs := ⟨w.h _ _ x.h⟩
theorem BO.ne (x : BO C F H p dx fs) (h : H q = none) : p ≠ q := ne_of_none x.h h
theorem BO.frzO {X : Prop} (x : BO C F H q dx fs) (h : X) (hq : q ≠ p) (g : Ex F F') : BO C F' H q dx fs := ⟨x.h⟩
theorem BO.kept (x : BO C F H q dx fs) (h : ∀ q o, H q = some o → q ≠ p → H' q = some o) (hq : q ≠ p) : BO C F H' q dx fs := ⟨h _ _ x.h hq⟩
theorem fl_B (na : NoAttr K C a) (cl : Cls K C) (x : BO C F H p dx fs) (hl : fs.lookup a = some u) (ho : Val to σ H (.ref p)) : Val (tFld K to a) σ H u :=
  fun Q k => ho _ ⟨p, C, dx, fs, u, rfl, x.h, cl, na, hl, k⟩
theorem put_ne {f g : Str} {v x : V} {r : List (Str × V)} (h : ¬ g = f) : putF f v ((g, x) :: r) = (g, x) :: putF f v r := if_neg h
theorem Xc.cast {fs' : List (Str × V)} (x : Xc H0 F H p (.ins C dx fs)) (e : fs = fs') : Xc H0 F H p (.ins C dx fs') := e ▸ x
/-- the first field, a dict, as it is borrowed -/
theorem st_bw {κ : Type} [KeyT κ] {e : Rep α} {f : Rep β} {g : Rep γ} {z : List (κ × α) × β × γ} (r : (pO3 C a b c (pD e) f g).r F v z) (h : Ex F H) (h1 : (m == a) = false := by decide +kernel) (h2 : (m == b) = false := by decide +kernel) (h3 : (m == c) = false := by decide +kernel) :
    ∃ p dx fs d, v = .ref p ∧ H p = some (.ins C dx fs) ∧ fs.lookup a = some (.ref d) ∧ BD e F H d z.1 ∧ fs.lookup m = none := by
  obtain ⟨p, dx, fs, rfl, hp, u, w, y, rfl, r1, r2, r3⟩ := r
  obtain ⟨d, rfl, bd⟩ := D_bw r1 h
  exact ⟨p, dx, _, d, rfl, h _ _ hp, lk_eq, bd, (lk_ne h1).trans ((lk_ne h2).trans ((lk_ne h3).trans rfl))⟩
end
section
variable {κ α : Type} [KeyT κ] {e : Rep α} {σ : L2.St} {F0 H0 F H : Hp} {tk tv : TE} {Q : VK} {v : V} {j : κ} {x : α}
/-- {k: v} -/
theorem n_disp1 (hk : ∀ H, Val tk σ H (kV (KeyT.k j))) (hv : ∀ H, Val tv σ H v) (r : e.r F v x) (w : Wf F0 H0 F H) (k : ∀ p H', H p = none → Wf F H F H' → XD e H0 F H' p [(j, x)] → Q (.ref p) H') : tDisp [(tk, tv)] σ H Q := fun p hp => by
  refine hk _ _ (hv _ _ ⟨upd_same, [(KeyT.k j, v)], rfl, (show 1 ≤ 15 by decide), ?_⟩)
  rw [upd_upd]
  exact k p _ hp (Wf.newX w.f hp) ⟨[(KeyT.k j, v)], Xc.mk' w hp, rfl, r, trivial⟩
end
end Wk
namespace Wk
open PySem L2
section
variable {K : PySem.W.Frag} {σ : L2.St} {F0 H0 F H H' : Hp} {ta to : TE} {Q : VK} {v : V} {xs : List Nat} {p q : Addr} {x : Nat}
theorem DA.nkeys {α : Type} {e : Rep α} {F : Hp} : ∀ {kvs : List (Key × V)} {m : List (Nat × α)}, DA e F kvs m → kvs.map (·.1) = ((m.map (·.1)).map Int.ofNat).map Sum.inl
  | [], [], _ => rfl
  | p :: r, q :: s, ⟨a, _, c⟩ => by rw [List.map_cons, List.map_cons, List.map_cons, List.map_cons, DA.nkeys c, a]; rfl
  | [], _ :: _, q => q.elim
  | _ :: _, [], q => q.elim
end
end Wk
namespace Wk
open PySem L2
/-- one of two kinds -/
def pAlt {α β : Type} (e : Rep α) (f : Rep β) : Rep (Sum α β) := ⟨fun F v x => match x with | .inl a => e.r F v a | .inr b => f.r F v b, fun {_ _ _ x} h q => by cases x with | inl a => exact e.mono h q | inr b => exact f.mono h q⟩
theorem alt_n {α : Type} {e : Rep α} {F : Hp} {v : V} {x : Sum α Nat} {y : Nat} (r : (pAlt e pN).r F v x) (h : x = Sum.inr y) : v = .int ((y : Nat) : Int) := by subst h; exact r
theorem alt_l {α β : Type} {e : Rep α} {f : Rep β} {F : Hp} {v : V} {x : Sum α β} {y : α} (r : (pAlt e f).r F v x) (h : x = Sum.inl y) : e.r F v y := by subst h; exact r
end Wk
namespace Wk
open PySem PySem.Spec PyProof.Rows L2
/-- sorted(d), any number of keys -/
def rSortedDX : List V → Hp → VK → Prop := fun xs H Q => ∃ (a : Addr) (kvs : List (Key × V)) (ks : List Int), xs = [.ref a] ∧ Rd H a (.dK kvs) ∧ kvs.map (·.1) = ks.map Sum.inl ∧ ks.length < 1000000 ∧ ∀ (ys : List Int) (p : Addr), ys.Perm ks → ys.Pairwise (· ≤ ·) → H p = none → Q (.ref p) (upd H p (.lst (ys.map V.int)))
section
variable {X : Cx}
theorem call_sortedDX (hcalm : X.calm = true) : CallR X (.builtin "sorted") rSortedDX := by
  intro pins s σ H xs us Q Iv rr qq
  obtain ⟨da, kvs, ks, ex, hd, hks, hbig, qq⟩ := qq
  subst ex
  obtain ⟨u1, eu, rx⟩ := vals1 rr
  subst eu
  cases rx
  obtain ⟨zz, lo, vs, rel, dd⟩ := dk_rd Iv.hok hd
  obtain ⟨ep, hat⟩ := dd.dictAt
  have hks2 : vs.map (·.1) = ks.map Sum.inl := rel.keys.symm.trans hks
  have hln : vs.length = ks.length := by
    have el := congrArg List.length hks2
    rw [List.length_map, List.length_map] at el; exact el
  have hsz : ks.length ≤ sizeLine := by rw [sizeLine_eq]; omega
  refine Calls.call_function_entry kind_sorted plain_sorted entry_sorted (args_sorted1 _) ?_
  unfold Builtin.«sorted»
  refine wpAny_bind (m := checkCount "sorted" 1 1 _) (wpAny_pure ?_)
  refine wpAny_bind (PySem.W.kdu_collect (A := X.A.in1) (PySem.W.kdl_dict (knd := mixKind X.prog X.w) (kvs := vs) (ep := ep) lo) (Iv.ok.hd hcalm) hat (by rw [hln]; exact hsz) fun hp2 tk2 ac hkp hac => ?_)
  have hal2 : ac.toList.length = ks.length := by rw [Array.length_toList, hac.1, hln]
  have hInt : IntsAre ac.toList ks := ints_each hal2 fun j v e => by
    obtain ⟨key, x, e1, e2⟩ := hac.2 j v (by rw [← Array.getElem?_toList]; exact e)
    have e3 : (vs.map (·.1))[j]? = some key := by rw [List.getElem?_map, e1]; rfl
    rw [hks2, List.getElem?_map] at e3
    cases e4 : ks[j]? with
    | none => rw [e4] at e3; cases e3
    | some y =>
      rw [e4] at e3
      have e5 : Sum.inl y = key := Option.some.inj e3
      subst e5
      rcases keyIs_shape (show keyIs (Sum.inl y) v = true from e2) with ⟨i, t, ek, ev⟩ | ⟨z, t, ek, ev⟩
      · cases ek; exact ⟨y, t, rfl, ev⟩
      · cases ek
  have Iv2 : Inv X pins σ H { s with heap := hp2, toks := tk2 } := Iv.kept hkp
  refine wpAny_bind (wpAny_newList ?_ (by rw [hal2]; exact hsz))
  have hob2 : (hp2.push (seqObj "list" ac.toList.toArray 0)).get? hp2.objs.size = some (seqObj "list" ac.toList.toArray 0) := Heap.get?_push_size _ rfl
  show wpAny _ _ _ _ _ { s with heap := hp2.push (seqObj "list" ac.toList.toArray 0), toks := tk2 }
  refine wpAny_bind (wpAny_holding (wpAny_call_entry slot_list_sort ⟨_, hob2, rfl⟩ entry_list_sort
    (SrtO.list_sort_ord (s := { s with heap := hp2.push (seqObj "list" ac.toList.toArray 0), toks := tk2 }) SrtO.swo_int hob2 (by rw [hal2]; exact hsz) (fun h2 => SrtO.ints_sortable hInt h2) fun out g1 g2 => ⟨_, rfl, ?_⟩) (args_list_sort _)))
  obtain ⟨k1, k2, k3⟩ := SrtO.ints_out hInt g1 g2
  obtain ⟨ep2, hep2⟩ := sortedHeap_at (vs := ac.toList) (out := out.toArray) hob2
  have hlen2 : ((out.map SrtO.iv).map V.int).length ≤ sizeLine := by rw [List.length_map, k2.length_eq]; exact hsz
  refine wpAny_pure ⟨_, rfl, .ref hp2.objs.size, upd H hp2.objs.size (.lst ((out.map SrtO.iv).map V.int)), Iv2.laid (t' := tk2) (fun b u e => ?_) (Nat.le_refl _)
    (show ObjOk X.prog X.w _ _ _ (.lst ((out.map SrtO.iv).map V.int)) from ⟨hlen2, out, ep2, vals_of_ints k1, hep2⟩), rfl, qq _ _ k2 k3 (Iv2.hok.fresh (Nat.le_refl _))⟩
  have hbl : b < hp2.objs.size := Heap.lt_size e
  rw [sortedHeap_old (Nat.ne_of_lt hbl) (by rw [size_push']; exact Nat.lt_succ_of_lt hbl)]
  exact Heap.get?_push_of_some _ e
end
section
variable {K : PySem.W.Frag} {F0 H0 F H H' : Hp} {Q : VK} {v : V}
theorem n_sortDX {α : Type} {e : Rep α} {m : List (Nat × α)} (r : (pD e).r F v m) (w : Wf F0 H0 F H) (hl : m.length < 1000000) (k : ∀ (ys : List Nat) p H', ys.Perm (m.map (·.1)) → ys.Pairwise (· ≤ ·) → H p = none → Wf F H F H' → XL pN H0 F H' p ys → Q (.ref p) H') : rSortedDX [v] H Q := by
  obtain ⟨p, kvs, rfl, hp, a⟩ := r
  refine ⟨p, kvs, (m.map (·.1)).map Int.ofNat, rfl, .inl (w.f _ _ hp), a.nkeys, by rw [List.length_map, List.length_map]; exact hl, fun ys q hperm hs hq => ?_⟩
  have e1 : ys = (ys.map Int.toNat).map Int.ofNat := by
    rw [List.map_map]
    have : ys.map (Int.ofNat ∘ Int.toNat) = ys.map id := List.map_congr_left fun y hy => by
      obtain ⟨n, _, rfl⟩ := List.mem_map.mp (hperm.mem_iff.mp hy)
      rfl
    rw [this, List.map_id]
  have e2 : (ys.map Int.toNat).Perm (m.map (·.1)) := by
    have := hperm.map Int.toNat
    rw [List.map_map (l := m.map (·.1))] at this
    have z : (m.map (·.1)).map (Int.toNat ∘ Int.ofNat) = (m.map (·.1)).map id := List.map_congr_left fun y _ => rfl
    rw [z, List.map_id] at this
    exact this
  have e3 : (ys.map Int.toNat).Pairwise (· ≤ ·) := List.pairwise_map.mpr (hs.imp fun h => Int.toNat_le_toNat h)
  have go : ∀ zs : List Nat, All pN F ((zs.map Int.ofNat).map V.int) zs := by
    intro zs
    induction zs with
    | nil => trivial
    | cons y zs ih => exact ⟨rfl, ih⟩
  have a2 := go (ys.map Int.toNat)
  rw [← e1] at a2
  exact k _ q _ e2 e3 hq (Wf.newX w.f hq) ⟨_, Xc.mk' w hq, a2⟩
end
end Wk
namespace Wk
open PySem L2
/-- raise, in short -/
def tRaise (W : WX) (C : Addr) : TS := fun _ σ H => W (.ref C) none σ H
theorem e_callS {sp : Sp} {E : L2.St → XK} {tA : TA} {σ : L2.St} {H : Hp} {Q : VK} (h : tA σ H fun vs H1 => sp vs H1 Q (E σ)) : tCallS sp E tA σ H Q := h
/-- what the walk asks of an exception's class -/
structure XC (K : PySem.W.Frag) (mg : Str → Option Value) (n : Str) (C : Addr) : Prop where
  x : PySem.W.excIn K C [.type "ValueError", .type "Exception", .type "BaseException", .type "object"] "ValueError.__new__" = true
  g : mg n = some (.ref C)
  k : PySem.W.keepIn K (.ref C) = true
  b : PySem.W.subIn K (.ref C) (.type "BaseException") = some true
  t : PySem.W.typeIn K (.ref C) = some (.type "type")
section
variable {X : Cx} {k : Nat} {C : Addr} {x m : Str} {ps : List Str} {sp : Sp} {W : WX} {o e : Expr} {es : List Expr} {p pos apos : Pos} {ta : TE} {t : TA} {pl : Sem Bool}
theorem pe_fnL (F : Fn X.prog X.w X.K X.mg X.base (L2.CX X.prog X.w) k x ps sp) (hr : Room k X.A) (hg : Gl X x) (ha : PA X (e :: es) t) (hdb : (x == ("__debug__" : Str)) = false := by decide)
    (he : starEach (e :: es) X.env = (false, eval e X.env) :: starEach es X.env := by rfl) (hpl : (backTo pos (starEach es X.env)).any (·.1) = false := by rfl) : PE X (.Call (.Name x p) (e :: es) [] pos) (tCall sp [] E0 t) := by
  obtain ⟨f, fd, F, hm, hk, hb⟩ := F.ex
  exact pe_call F hr hg hm hk hb .nil passL ha hdb he hpl
theorem pe_fnS (F : Fn X.prog X.w X.K X.mg X.base (L2.CX X.prog X.w) k x ps sp) (tk : Takes X W) (hr : Room k X.A) (hg : Gl X x) (ha : PA X (e :: es) t) (hdb : (x == ("__debug__" : Str)) = false := by decide)
    (he : starEach (e :: es) X.env = (false, eval e X.env) :: starEach es X.env := by rfl) (hpl : (backTo pos (starEach es X.env)).any (·.1) = false := by rfl) : PE X (.Call (.Name x p) (e :: es) [] pos) (tCallS sp (WE W) t) := by
  obtain ⟨f, fd, F, hm, hk, hb⟩ := F.ex
  exact pe_callS F hr hg hm hk hb (fun σ => passAt tk σ) ha hdb he hpl
/-- methods -/
theorem pe_mdL (M : Md X.prog X.w X.K X.mg X.base (L2.CX X.prog X.w) k C m ps sp) (cl : Cls X.K C) (hr : Room k X.A) (he : PE X o ta) (ha : PA X (e :: es) t)
    (hst : starEach (e :: es) X.env = (false, eval e X.env) :: starEach es X.env := by rfl) (hpl : (backTo pos (starEach es X.env)).any (·.1) = false := by rfl)
    (ht : eval (.Call (.Attribute o m apos) (e :: es) [] pos) X.env = (do
      let ov ← eval o X.env
      standAt apos.atName
      let (f, first) ← holding [ov] (getMethod ov m pl)
      callWith pos f first (backTo pos (starEach (e :: es) X.env)) (backToKw pos (keywordEach [] X.env))) := by rfl) :
    PE X (.Call (.Attribute o m apos) (e :: es) [] pos) (tMeth C m sp [] E0 ta t) := by
  obtain ⟨f, fd, F, hm, hb⟩ := M.ex
  exact pe_meth he cl hm F hr hb .nil passL ha hst hpl ht
def tMdS (C : Addr) (m : Str) (sp : Sp) (E : L2.St → XK) (ta : TE) (t : TA) : TE := fun σ H Q => ta σ H fun x H1 => ∃ a dx fs, x = .ref a ∧ H1 a = some (.ins C dx fs) ∧ fs.lookup m = none ∧ t σ H1 fun vs H2 => sp (x :: vs) H2 Q (E σ)
theorem e_mdS {E : L2.St → XK} {σ : L2.St} {H : Hp} {Q : VK} (h : ta σ H fun x H1 => ∃ a dx fs, x = .ref a ∧ H1 a = some (.ins C dx fs) ∧ fs.lookup m = none ∧ t σ H1 fun vs H2 => sp (x :: vs) H2 Q (E σ)) : tMdS C m sp E ta t σ H Q := h
theorem pe_mdS (M : Md X.prog X.w X.K X.mg X.base (L2.CX X.prog X.w) k C m ps sp) (tk : Takes X W) (cl : Cls X.K C) (hr : Room k X.A) (he : PE X o ta) (ha : PA X (e :: es) t)
    (hst : starEach (e :: es) X.env = (false, eval e X.env) :: starEach es X.env := by rfl) (hpl : (backTo pos (starEach es X.env)).any (·.1) = false := by rfl)
    (ht : eval (.Call (.Attribute o m apos) (e :: es) [] pos) X.env = (do
      let ov ← eval o X.env
      standAt apos.atName
      let (f, first) ← holding [ov] (getMethod ov m pl)
      callWith pos f first (backTo pos (starEach (e :: es) X.env)) (backToKw pos (keywordEach [] X.env))) := by rfl) :
    PE X (.Call (.Attribute o m apos) (e :: es) [] pos) (tMdS C m sp (WE W) ta t) := by
  obtain ⟨f, fd, F, hm, hb⟩ := M.ex
  refine ⟨fun pins s σ H Q Iv hh => ?_⟩
  refine PySem.W.methodCall_KW (pl := pl) (thn (he.run pins s σ H _ Iv hh) fun u s1 ⟨x, H1, Iv1, rx, a, dx, fs, ex, ea, lk, qq⟩ => ?_) ht
  subst ex
  obtain rfl : u = Value.ref a := rx
  refine getmeth_ok Iv1 ea cl hm lk ?_
  refine PySem.W.callWith_K (first := [.ref a]) (h₀ := X.base) Iv1.ok.mod.kin hm.kp (thn (ha.run pos pins s1 σ H1 _ Iv1 qq) fun us s2 ⟨vs, H2, Iv2, rv, q2⟩ => ⟨Iv2.kIn, ?_⟩) hst hpl
  exact run_fnS (us := .ref a :: us) (vs := .ref a :: vs) F hr hb (passAt tk σ) Iv2 (.cons rfl rv) q2
end
theorem a_raise {W : WX} {C : Addr} {D : Ends} {σ : L2.St} {H : Hp} (h : W (.ref C) none σ H) : tRaise W C D σ H := h
end Wk
namespace Wk
open PySem L2
/-- a thing: a whole number, a truth, None, a text, or another one of a kind that is told -/
inductive An where
  | i (n : Int)
  | b (b : Bool)
  | n
  | s (x : Str)
  | o (T : String)
  | l (xs : List An)
  | t (xs : List An)
mutual
def anR (F : Hp) : An → V → Prop
  | .i n, v => v = .int n
  | .b b, v => v = .bl b
  | .n, v => v = .non
  | .s x, v => v = .str x
  | .o T, v => ∃ p, v = .ref p ∧ ((T = "list" ∧ ∃ vs, F p = some (.lst vs)) ∨ (T = "tuple" ∧ ∃ vs, F p = some (.tup vs)) ∨ (T = "dict" ∧ ∃ kvs, F p = some (.dK kvs)))
  | .l xs, v => ∃ p vs, v = .ref p ∧ F p = some (.lst vs) ∧ anRs F xs vs
  | .t xs, v => ∃ p vs, v = .ref p ∧ F p = some (.tup vs) ∧ anRs F xs vs
def anRs (F : Hp) : List An → List V → Prop
  | [], [] => True
  | x :: xs, v :: vs => anR F x v ∧ anRs F xs vs
  | _, _ => False
end
mutual
theorem anR_mono {F F' : Hp} (h : Ex F F') : ∀ {x : An} {v : V}, anR F x v → anR F' x v
  | .i _, _, r => r
  | .b _, _, r => r
  | .n, _, r => r
  | .s _, _, r => r
  | .o T, v, r => by
    obtain ⟨p, e, q⟩ := (show ∃ p, v = .ref p ∧ _ from r)
    refine ⟨p, e, ?_⟩
    rcases q with ⟨t, vs, q⟩ | ⟨t, vs, q⟩ | ⟨t, vs, q⟩
    · exact .inl ⟨t, vs, h _ _ q⟩
    · exact .inr (.inl ⟨t, vs, h _ _ q⟩)
    · exact .inr (.inr ⟨t, vs, h _ _ q⟩)
  | .l _, _, ⟨p, vs, a, b, c⟩ => ⟨p, vs, a, h _ _ b, anRs_mono h c⟩
  | .t _, _, ⟨p, vs, a, b, c⟩ => ⟨p, vs, a, h _ _ b, anRs_mono h c⟩
theorem anRs_mono {F F' : Hp} (h : Ex F F') : ∀ {xs : List An} {vs : List V}, anRs F xs vs → anRs F' xs vs
  | [], [], _ => trivial
  | _ :: _, _ :: _, ⟨a, b⟩ => ⟨anR_mono h a, anRs_mono h b⟩
  | [], _ :: _, r => r.elim
  | _ :: _, [], r => r.elim
end
def pA : Rep An := ⟨fun F v x => anR F x v, fun h r => anR_mono h r⟩
theorem anRs_all {F : Hp} : ∀ {xs : List An} {vs : List V}, anRs F xs vs ↔ All pA F vs xs
  | [], [] => Iff.rfl
  | x :: xs, v :: vs => ⟨fun ⟨a, b⟩ => ⟨a, anRs_all.mp b⟩, fun ⟨a, b⟩ => ⟨a, anRs_all.mpr b⟩⟩
  | [], _ :: _ => ⟨fun q => q.elim, fun q => q.elim⟩
  | _ :: _, [] => ⟨fun q => q.elim, fun q => q.elim⟩
theorem an_l {F : Hp} {v : V} {xs : List An} : pA.r F v (.l xs) ↔ (pL pA).r F v xs :=
  ⟨fun r => let ⟨p, vs, a, b, c⟩ := (show ∃ p vs, v = .ref p ∧ F p = some (.lst vs) ∧ anRs F xs vs from r); ⟨p, vs, a, b, anRs_all.mp c⟩, fun ⟨p, vs, a, b, c⟩ => (show ∃ p vs, v = .ref p ∧ F p = some (.lst vs) ∧ anRs F xs vs from ⟨p, vs, a, b, anRs_all.mpr c⟩)⟩
theorem an_t {F : Hp} {v : V} {xs : List An} : pA.r F v (.t xs) ↔ (pTL pA).r F v xs :=
  ⟨fun r => let ⟨p, vs, a, b, c⟩ := (show ∃ p vs, v = .ref p ∧ F p = some (.tup vs) ∧ anRs F xs vs from r); ⟨p, vs, a, b, anRs_all.mp c⟩, fun ⟨p, vs, a, b, c⟩ => (show ∃ p vs, v = .ref p ∧ F p = some (.tup vs) ∧ anRs F xs vs from ⟨p, vs, a, b, anRs_all.mpr c⟩)⟩
def An.ty : An → String
  | .i _ => "int"
  | .b _ => "bool"
  | .n => "NoneType"
  | .s _ => "str"
  | .o T => T
  | .l _ => "list"
  | .t _ => "tuple"
/-- isinstance(x, T) for a built-in T -/
def isA (T : String) (x : An) : Bool := x.ty == T || (T == "int" && x.ty == "bool")
section
variable {α β : Type} {e : Rep α} {f : Rep β} {K : PySem.W.Frag} {σ : L2.St} {F F' H : Hp} {ta : TE} {v : V} {x : An} {xs : List α} {y : α × β}
theorem an_ty (r : pA.r F v x) (h : Ex F H) : TyX K H v (.type x.ty) := by
  cases x with
  | i n => cases (show v = V.int n from r); exact .base (.int _)
  | b b => cases (show v = V.bl b from r); exact .base (.bl _)
  | n => cases (show v = V.non from r); exact .base .non
  | s x => cases (show v = V.str x from r); exact .base (.str _)
  | o T =>
    obtain ⟨p, rfl, q⟩ := (show ∃ p, v = .ref p ∧ _ from r)
    rcases q with ⟨rfl, vs, q⟩ | ⟨rfl, vs, q⟩ | ⟨rfl, vs, q⟩
    · exact .base (.lst (h _ _ q))
    · exact .base (.tup (h _ _ q))
    · exact .base (.dK (h _ _ q))
  | l xs =>
    obtain ⟨p, vs, rfl, q, _⟩ := an_l.mp r
    exact .base (.lst (h _ _ q))
  | t xs =>
    obtain ⟨p, vs, rfl, q, _⟩ := an_t.mp r
    exact .base (.tup (h _ _ q))
theorem kit_isA (T : String) (r : pA.r F v x) (hT : ∀ u ∈ ["int", "bool", "NoneType", "str", "list", "tuple", "dict"], kitB u T = some (u == T || (T == "int" && u == "bool"))) : kitB x.ty T = some (isA T x) := by
  unfold isA
  cases x with
  | i n => exact hT "int" (by simp)
  | b b => exact hT "bool" (by simp)
  | n => exact hT "NoneType" (by simp)
  | s x => exact hT "str" (by simp)
  | o T' =>
    obtain ⟨p, _, q⟩ := (show ∃ p, v = .ref p ∧ _ from r)
    rcases q with ⟨e, _⟩ | ⟨e, _⟩ | ⟨e, _⟩ <;> subst e
    · exact hT "list" (by simp)
    · exact hT "tuple" (by simp)
    · exact hT "dict" (by simp)
  | l xs => exact hT "list" (by simp)
  | t xs => exact hT "tuple" (by simp)
theorem v_isiA (T : String) (ha : Val ta σ H v) (r : pA.r F v x) (h : Ex F H) (hT : ∀ u ∈ ["int", "bool", "NoneType", "str", "list", "tuple", "dict"], kitB u T = some (u == T || (T == "int" && u == "bool")) := by decide +kernel) : Val (tCB (rIsi K) (tCons ta (tCons (tC (.ty T)) tNil))) σ H (.bl (isA T x)) :=
  v_isi ha (an_ty r h) (kit_isA T r hT)
theorem an_i {n : Int} (r : pA.r F v x) (h : x = An.i n) : v = .int n := by subst h; exact r
end
/-- a constant of the module -/
theorem pe_globE {X : Cx} {x : Str} {v : V} {pos : Pos} (h : ∃ u, X.mg x = some u ∧ RelV v u) (hg : Gl X x) (hd : (x == ("__debug__" : Str)) = false := by decide) : PE X (.Name x pos) (tC v) := by
  obtain ⟨u, h1, h2⟩ := h
  exact pe_glob hg h1 h2 hd
end Wk
namespace PySem
open Sem (wp)
open AutoSeq1 (wpAny_loadPart')
theorem enumT_meets (tt : Addr) (o : Obj) (items : Array Value) (n : Nat) (hcls : o.cls = .type "tuple") (hdat : o.data = .seq items n) :
    Meets (Builtin.«enumerate.__new__» ⟨[.type "enumerate", .ref tt], []⟩) (fun _ R s => s.heap.get? tt = some o ∧
      R (.ok (.ret (.ref (s.heap.push { cls := .type "tuple_iterator", data := .fields #[.ref tt, .int 0 0] }).objs.size)))
        { s with heap := (s.heap.push { cls := .type "tuple_iterator", data := .fields #[.ref tt, .int 0 0] }).push { cls := .type "enumerate", data := .fields #[.none, .bool false, .ref s.heap.objs.size, rawInt 0, .none, .none] } }) :=
  .of_wp fun prog w A R s h => by
    obtain ⟨hp, g, d, tk, os⟩ := s
    obtain ⟨hl, h⟩ := h
    have hsub := sub_enumerate
    obtain ⟨oc, od, odt, osl⟩ := o
    replace hcls : oc = .type "tuple" := hcls
    replace hdat : odt = .seq items n := hdat
    subst hcls hdat
    have hT : Heap.IsTuple (Shared.heap ⟨hp, g, d, tk, os⟩) tt items := ⟨_, hl, rfl, n, rfl⟩
    wp_walk using wpAny_loadPart' hl
    refine wpAny_stack_any fun st => wpAny_pure ?_
    split
    · rename_i c _ _ _ _ _
      cases (c == Value.type "enumerate")
      · (wp_walk using wpAny_loadPart' hl, wpAny_pyIter_tuple hT); exact ⟨_, rfl, h⟩
      · (wp_walk using wpAny_loadPart' hl, wpAny_pyIter_tuple hT); exact ⟨_, rfl, h⟩
    · (wp_walk using wpAny_loadPart' hl, wpAny_pyIter_tuple hT); exact ⟨_, rfl, h⟩
section
variable {prog : Program} {w : World} {A : Around} {E : Value → Shared → Prop} {s : Shared}
theorem call_enumT {tt : Addr} {items : Array Value} {Q : Value → Shared → Prop} (hL : s.heap.IsTuple tt items)
    (h : ∀ h', IsEnum h' (s.heap.objs.size + 1) s.heap.objs.size 0 .none → h'.IsTupleIter s.heap.objs.size tt 0 → h'.objs.size = s.heap.objs.size + 2 → (∀ b o, s.heap.get? b = some o → h'.get? b = some o) → Q (.ref (s.heap.objs.size + 1)) { s with heap := h' }) :
    wpAny (model prog w) A (call (.type "enumerate") [.ref tt]) Q E s := by
  obtain ⟨ob, hl, hcl, n, hda⟩ := hL
  refine callType_new F.called_enumerate (by decide) (F.typeCall_enumerate_1 _) (F.newCall_enumerate_1 _) (fun obj => F.args_object_init_2 obj _) F.entry_enumerate_new (enumT_meets tt ob items n hcl hda) ⟨hl, ?_⟩
  have hsz : (s.heap.push { cls := .type "tuple_iterator", data := .fields #[.ref tt, .int 0 0] }).objs.size = s.heap.objs.size + 1 := Heap.size_push ..
  show _ ∧ _
  rw [hsz]
  have hen : IsEnum ((s.heap.push { cls := .type "tuple_iterator", data := .fields #[.ref tt, .int 0 0] }).push { cls := .type "enumerate", data := .fields #[.none, .bool false, .ref s.heap.objs.size, rawInt 0, .none, .none] }) (s.heap.objs.size + 1) s.heap.objs.size 0 .none := by
    have q := Heap.get?_push_size (s.heap.push { cls := .type "tuple_iterator", data := .fields #[.ref tt, .int 0 0] }) (o := { cls := .type "enumerate", data := .fields #[.none, .bool false, .ref s.heap.objs.size, rawInt 0, .none, .none] }) rfl
    rw [hsz] at q; exact q
  exact ⟨⟨_, hen, rfl⟩, h _ hen ⟨_, Heap.get?_push_of_some _ (Heap.get?_push_size _ rfl), rfl, rfl⟩ (by rw [Heap.size_push, hsz]) fun b o x => Heap.get?_push_of_some _ (Heap.get?_push_of_some _ x)⟩
end
end PySem
namespace Wk
open PySem PySem.Spec PyProof.Rows L2
/-- the tuple at a as it stands at each turn, each item in a new pair -/
def IteT (K : PySem.W.Frag) (a : Addr) : It :=
  ⟨fun i H => ∃ (xs : List V) (x : V), SqT K H a xs ∧ xs[i]? = some x, fun i H v H' => ∃ T x, v = .ref T ∧ H T = none ∧ H' = upd H T (.tup [.int (i : Nat), x]) ∧ ∀ xs, SqT K H a xs → xs[i]? = some x, fun i H => ∃ xs : List V, SqT K H a xs ∧ xs.length ≤ i⟩
theorem enumT_end {prog : Program} {w : World} {A : Around} {E : Value → Shared → Prop} {s : Shared} {en iw tt : Addr} {c : Int} {i : Nat} {items : Array Value} {old : Value} {Q : Option Value → Shared → Prop} (hh : A.handled = none)
    (hen : IsEnum s.heap en iw c old) (hit : s.heap.IsTupleIter iw tt i) (ht : s.heap.IsTuple tt items) (hx : items[i]? = none) (hQ : ∀ h', Heap.ExtBut iw s.heap h' → Q none { s with heap := h' }) : wpAny (model prog w) A (pyNext (.ref en)) Q E s := by
  have hTy2 : s.TypeIs (.ref en) "enumerate" := ⟨_, hen, rfl⟩
  unfold pyNext
  refine wpAny_bind (wpAny_attempt (wpAny_callSpecial?_slot (name := Str.ofString "__next__") hTy2 F.slot_enumerate_next (wpAny_call_entry F.slot_enumerate_next hTy2 F.entry_enumerate_next ?_ (F.args_enumerate_next_1 _))))
  show wpAny _ _ (field (.ref en) 2 >>= _) _ _ _
  refine wpAny_bind (wpAny_field hen rfl (x := .ref iw) rfl ?_)
  refine wpAny_bind (wpAny_nextOf_tuple_end hh hit ht hx fun h' x2 hx1 hx2 => ?_)
  obtain ⟨ob, ho, hcl⟩ := hx2
  refine wpAny_bind (wpAny_isInstance (T := "StopIteration") (b := true) ⟨ob, ho, hcl⟩ isSubtype_stop ?_)
  exact wpAny_pure (hQ _ hx1)
theorem turn_enumT {P : Program} {w : World} {K : PySem.W.Frag} {elts : List Expr} {kk : Nat} {tpos : Pos} (a en iw : Addr) :
    Turn P w K (.Tuple elts kk tpos) (IteT K a) [en, iw] en (fun i h => (∃ old, IsEnum h en iw ((i : Nat) : Int) old) ∧ h.IsTupleIter iw a i ∧ en ≠ iw ∧ a ≠ iw ∧ en ≠ a) where
  mem := by simp
  obj := fun i h stt b hb => by
    obtain ⟨⟨old, hen⟩, ⟨o, ho, hc, hd⟩, _⟩ := stt
    have e' : b = en ∨ b = iw := by simpa using hb
    rcases e' with z | z
    · rw [z]; exact ⟨_, hen, fun v q => nomatch q⟩
    · rw [z]; exact ⟨o, ho, fun v q => by rw [hd] at q; cases q⟩
  keep := fun i h h' stt k => let ⟨⟨old, hen⟩, hi, hne⟩ := stt; ⟨⟨old, k en (by simp) _ hen⟩, hi.at fun o q => k iw (by simp) o q, hne⟩
  item := by
    intro X hP hw hK hc i pins s σ H E Iv hff stt hg
    subst hP hw hK
    obtain ⟨⟨old, hen⟩, hit, hne, hai, hea⟩ := stt
    obtain ⟨xs, x, hq, hx⟩ := hg
    obtain ⟨its, rv, pt, hz⟩ := Iv.tuple hq
    obtain ⟨u, hu, ru⟩ := rv.get hx
    have hT0 : s.heap.IsTuple a its.toArray := pt
    have hel : en < s.heap.objs.size := Heap.lt_size hen
    have hil : iw < s.heap.objs.size := by obtain ⟨_, q, _⟩ := hit; exact Heap.lt_size q
    have hlt : i < its.toArray.size := by rw [List.size_toArray]; exact (List.getElem?_eq_some_iff.mp hu).1
    refine wpAny_pyNext_enum_itemD (Draws.tuple (A := X.A.in1) (Iv.ok.hd hc) iw a hai its.toArray) hen ⟨hit, hT0⟩ hlt hne (by simp [hne, hea]) fun x2 h' tk hP ho hstt' hT hsz hkp => ?_
    obtain rfl : x2 = u := by
      have h1 : its[i]? = some x2 := by simpa using hP
      rw [hu] at h1; exact (Option.some.inj h1).symm
    refine ⟨_, rfl, wpAny_letOwnedTupleGo_enum (s := { s with heap := h', toks := tk + 1 }) ho fun h'' he' sb => ?_⟩
    have hT2 : h''.get? s.heap.objs.size = some { cls := .type "tuple", data := .seq #[.int i tk, x2] } := (sb.2 _ (Nat.ne_of_gt hel)).trans hT
    have newt : ObjOk X.prog X.w (upd H s.heap.objs.size (.tup [.int (i : Nat), x])) h'' s.heap.objs.size (.tup [.int (i : Nat), x]) :=
      ⟨by show 2 ≤ sizeLine; decide, [.int i tk, x2], .cons ⟨_, rfl⟩ (.cons ru .nil), ⟨_, hT2, rfl, _, rfl⟩⟩
    have Iv1 : Inv X pins σ (upd H s.heap.objs.size (.tup [.int (i : Nat), x])) { s with heap := h'', toks := tk + 1 } :=
      Iv.turnedNew (ch := [en, iw]) (fun b ob hb q => (sb.2 b (fun z => hb (by simp [z]))).trans (hkp b ob (fun z => hb (by simp [z])) (fun z => hb (by simp [z])) q)) hff (Nat.le_refl _) newt
    refine ⟨.ref s.heap.objs.size, _, Iv1, rfl, ⟨_, x, rfl, Iv.hok.fresh (Nat.le_refl _), rfl, fun ys hy => by rw [Iv.tuple_inj hy hq]; exact hx⟩, ⟨⟨x2, ?_⟩, hstt'.1.at fun o q => (sb.2 iw (Ne.symm hne)).trans q, hne, hai, hea⟩, fun b hb => ?_⟩
    · have e1 : ((i + 1 : Nat) : Int) = (i : Int) + 1 := by omega
      rw [e1]; exact he'
    · have hb' : b < s.heap.objs.size := by
        have e' : b = en ∨ b = iw := by simpa using hb
        rcases e' with z | z <;> rw [z] <;> assumption
      rw [upd_ne (Nat.ne_of_lt hb')]
      exact (hff b hb).1
  done := by
    intro X hP hw hK hc i pins s σ H E Iv hff stt hg
    subst hP hw hK
    obtain ⟨⟨old, hen⟩, hit, hne, hai, hea⟩ := stt
    obtain ⟨xs, hq, hx⟩ := hg
    obtain ⟨its, rv, pt, hz⟩ := Iv.tuple hq
    obtain ⟨f0, f1, f2, f3, f4, f5⟩ := hff iw (by simp)
    have hlen := rv.length
    have hT0 : s.heap.IsTuple a its.toArray := pt
    exact enumT_end (Iv.ok.hd hc) hen hit hT0 (by simp; omega) fun h' eb => ⟨rfl, Iv.turned (t' := s.toks) (fun b o hb q => eb b o hb q) f0 f1 f3 f4 f5⟩
  self := fun A i s Q E stt h => let ⟨⟨_, hen⟩, _⟩ := stt; wpAny_pyIter_enum hen h
def iEnumT (K : PySem.W.Frag) (ta : TA) : TI := fun σ H R => ta σ H fun vs H1 => ∃ a xs, vs = [.ref a] ∧ SqT K H1 a xs ∧ R (IteT K a) H1
theorem pi_enumT {X : Cx} {e : Expr} {ta : TA} {p pos tpos : Pos} {elts : List Expr} {kk : Nat} (hg : Gl X "enumerate") (hm : X.mg "enumerate" = none) (ha : PA X [e] ta) (hs : starEach [e] X.env = [(false, eval e X.env)] := by rfl) :
    PI X (.Tuple elts kk tpos) (.Call (.Name "enumerate" p) [e] [] pos) (iEnumT X.K ta) := by
  refine ⟨fun pins s σ H R Iv h => ?_⟩
  refine Call_ (ld_blt Iv hg hm boot_enumerate (PyProof.Rows.callWith_type1 (thn (ha.run pos pins s σ H _ Iv h) fun us s1 ⟨vs, H1, Iv1, r1, q1⟩ => ?_) hs rfl))
  obtain ⟨a, xs, ex, hq, qq⟩ := q1
  subst ex
  cases r1 with
  | cons r rr =>
    cases rr
    cases r
    obtain ⟨its, rv, pt, hz⟩ := Iv1.tuple hq
    have hT0 : s1.heap.IsTuple a its.toArray := pt
    have hal : a < s1.heap.objs.size := by obtain ⟨o, ho, _⟩ := hT0; exact Heap.lt_size ho
    refine call_enumT hT0 fun h' hen hit hsz hkp => wpAny_pyIter_enum hen ?_
    have Iv2 : Inv X pins σ H1 { s1 with heap := h' } := Iv1.kept (t' := s1.toks) hkp
    refine ⟨s1.heap.objs.size + 1, [s1.heap.objs.size + 1, s1.heap.objs.size], _, _, H1, rfl, Iv2, turn_enumT a (s1.heap.objs.size + 1) s1.heap.objs.size, ⟨⟨.none, hen⟩, hit, Nat.succ_ne_self _, Nat.ne_of_lt hal, Nat.ne_of_gt (Nat.lt_succ_of_lt hal)⟩, fun b hb => ?_, qq⟩
    have hle2 : s1.heap.objs.size ≤ b := by
      have z : b = s1.heap.objs.size + 1 ∨ b = s1.heap.objs.size := by simpa using hb
      rcases z with z | z
      · rw [z]; exact Nat.le_succ _
      · rw [z]; exact Nat.le_refl _
    exact Iv1.fpOk hle2 (Iv1.hok.fresh hle2)
section
variable {α : Type} {e : Rep α} {K : PySem.W.Frag} {F H : Hp} {v : V} {xs : List α}
theorem src_enumT {R : It → Hp → Prop} (r : (pTL e).r F v xs) (f : Ex F H) (k : ∀ a, TWk (IteT K a) F (pT2 pN e) (enumT xs) → R (IteT K a) H) : ∃ a ws, [v] = [V.ref a] ∧ SqT K H a ws ∧ R (IteT K a) H := by
  obtain ⟨p, vs, rfl, hp, a⟩ := r
  refine ⟨p, vs, rfl, SqT.of (f _ _ hp), k p ?_⟩
  refine TWk.pairs (G := fun H => SqT K H p vs) (X := fun i => some (.int (i : Nat))) (Y := fun i => vs[i]?) ?_ (fun F' H' h1 h2 => SqT.of (h2 _ _ (h1 _ _ hp))) ?_ ?_
  · rw [enumT_len, ← a.len]
    refine ⟨fun i _ hi q => ⟨vs, vs[i], q, by simp [hi]⟩, fun _ q => ⟨vs, q, Nat.le_refl _⟩, fun i H v H' _ q y => ?_⟩
    obtain ⟨T, x, h1, h2, h3, h4⟩ := y
    exact ⟨T, .int (i : Nat), x, h1, h2, h3, rfl, h4 vs q⟩
  · intro i F' x _ hi hx
    rw [enumT_len] at hi
    rw [enumT_get, List.getElem?_eq_getElem hi]
    exact ⟨i, rfl, (Option.some.inj hx).symm⟩
  · intro i F' x h1 hi hx
    obtain ⟨z, hz, rz⟩ := a.got hx
    rw [enumT_get, hz]
    exact ⟨z, rfl, e.mono h1 rz⟩
/-- tuple(a list) -/
def rTupOf (K : PySem.W.Frag) : List V → Hp → VK → Prop := fun xs H Q => ∃ p ys, xs = [.ref p] ∧ ((SqL K H p ys ∧ ∀ l, H l = none → Q (.ref l) (upd H l (.tup ys))) ∨ (SqT K H p ys ∧ Q (.ref p) H))
theorem n_tupOf {F0 H0 : Hp} {Q : VK} (r : (pL e).r F v xs) (w : Wf F0 H0 F H) (k : ∀ p F' H', Wf F H F' H' → (pTL e).r F' (.ref p) xs → Q (.ref p) H') : rTupOf K [v] H Q := by
  obtain ⟨p, vs, rfl, hp, a⟩ := r
  exact ⟨p, vs, rfl, .inl ⟨SqL.of (w.f _ _ hp), fun l hl => k l _ _ (Wf.new w.f hl) ⟨l, vs, rfl, upd_same, a.mono (Ex.new (w.f.non hl))⟩⟩⟩
end
end Wk
namespace Wk
open PySem PySem.Spec PyProof.Rows L2
end Wk
namespace Wk
open PySem L2
end Wk
namespace Wk
open PySem L2
end Wk
namespace Wk
/-- of n + 1 masks below 2 ** n one is a sum of those ahead -/
theorem some_sum {n : Nat} {vs : List Nat} (hl : vs.length = n + 1) (hv : ∀ v ∈ vs, v < 2 ^ n) : ∃ j, j ≤ n ∧ Span (vs.take j) (vs.getD j 0) := by
  refine Classical.byContradiction fun hno => ?_
  have inj : ∀ S, S < 2 ^ (n + 1) → comb vs S = 0 → S = 0 := by
    intro S hS h0
    refine Classical.byContradiction fun z => ?_
    have hp := bits_pos z
    generalize hk : bits S - 1 = k at *
    have kb : S.testBit k = true := by rw [← hk]; exact bits_bit z
    have kn : k ≤ n := by have := bits_le.mpr hS; omega
    refine hno ⟨k, kn, S, ?_⟩
    have e1 : comb vs S = comb (vs.take (k + 1)) S := by
      have : ∀ (vs : List Nat) (k S : Nat), bits S ≤ k → comb vs S = comb (vs.take k) S := by
        intro vs
        induction vs with
        | nil => intro k S _; rw [List.take_nil]
        | cons v vs ih =>
          intro k S hb
          cases k with
          | zero =>
            have : S = 0 := bits_eq_zero.mp (by omega)
            subst this; rw [comb_zero]; rfl
          | succ k =>
            show (if S.testBit 0 = true then v else 0) ^^^ comb vs (S / 2) = (if S.testBit 0 = true then v else 0) ^^^ comb (vs.take k) (S / 2)
            rw [ih k (S / 2) (bits_le.mpr (by have := bits_le.mp hb; rw [Nat.pow_succ] at this; omega))]
      exact this vs (k + 1) S (by omega)
    have lt : k < vs.length := by omega
    have e2 : vs.take (k + 1) = vs.take k ++ [vs[k]] := List.take_succ_eq_append_getElem lt
    rw [e1, e2, comb_snoc, show (vs.take k).length = k by rw [List.length_take]; omega, if_pos kb] at h0
    rw [List.getD_eq_getElem?_getD, List.getElem?_eq_getElem lt]
    exact xor0 h0
  have nd : ((List.range (2 ^ (n + 1))).map (comb vs)).Nodup := by
    refine List.pairwise_map.mpr (List.Pairwise.imp_of_mem (fun {a b} ha hb hne e => hne ?_) List.nodup_range)
    have ha' := List.mem_range.mp ha
    have hb' := List.mem_range.mp hb
    exact xor0 (inj _ (Nat.xor_lt_two_pow ha' hb') (by rw [comb_xor, e, Nat.xor_self]))
  have := nodup_len (k := 2 ^ n) nd fun x hx => by
    obtain ⟨S, _, rfl⟩ := List.mem_map.mp hx
    exact comb_lt hv
  rw [List.length_map, List.length_range, Nat.pow_succ] at this
  have := Nat.two_pow_pos n
  omega
end Wk
namespace Wk.LZ
open PySem PyProof.Rows L2
theorem zip_no_len : typeLookup (.type "zip") "__len__" = pure none := am_miss_of_fast (by decide +kernel)
theorem zip_no_hint : typeLookup (.type "zip") "__length_hint__" = pure none := am_miss_of_fast (by decide +kernel)
/-- the zip's own things at turn i; S: a list that is none of them -/
structure ZS (h : Heap) (z TI TO i1 i2 l1 l2 S : Addr) (i : Nat) (xs ys : Array Value) : Prop where
  ti : IsPair h TI (.ref i1) (.ref i2)
  to : ∃ x y, IsPair h TO x y
  h1 : h.IsListIter i1 l1 i
  h2 : h.IsListIter i2 l2 i
  a1 : h.IsList l1 xs
  a2 : h.IsList l2 ys
  zz : IsZip h z TI TO .none ∨ ∃ T f oT, IsZipHeld h z TI TO T f ∧ h.get? T = some oT ∧ T ≠ S ∧ T ≠ z ∧ T ≠ i1 ∧ T ≠ i2
section
variable {prog : Program} {w : World} {A : Around} {E : Value → Shared → Prop} {s : Shared} {z TI TO i1 i2 l1 l2 S : Addr} {i : Nat} {xs ys : Array Value}
theorem ZS.ty (h : ZS s.heap z TI TO i1 i2 l1 l2 S i xs ys) : s.TypeIs (.ref z) "zip" := by
  rcases h.zz with q | ⟨T, f, oT, q, _⟩
  · exact ⟨_, q, rfl⟩
  · exact ⟨_, q, rfl⟩
theorem ZS.frame {h h' : Heap} (q : ZS h z TI TO i1 i2 l1 l2 S i xs ys) (n : ∀ b ∈ [z, TI, TO, i1, i2, l1, l2], b ≠ S) (k : ∀ b o, b ≠ S → h.get? b = some o → h'.get? b = some o) : ZS h' z TI TO i1 i2 l1 l2 S i xs ys := by
  refine ⟨k _ _ (n _ (by simp)) q.ti, ?_, q.h1.at fun o e => k _ o (n _ (by simp)) e, q.h2.at fun o e => k _ o (n _ (by simp)) e, q.a1.at fun o e => k _ o (n _ (by simp)) e, q.a2.at fun o e => k _ o (n _ (by simp)) e, ?_⟩
  · obtain ⟨x, y, e⟩ := q.to; exact ⟨x, y, k _ _ (n _ (by simp)) e⟩
  · rcases q.zz with e | ⟨T, f, oT, e1, e2, e3⟩
    · exact .inl (k _ _ (n _ (by simp)) e)
    · exact .inr ⟨T, f, oT, k _ _ (n _ (by simp)) e1, k _ _ e3.1 e2, e3⟩
theorem next_item {Q : Option Value → Shared → Prop} {x y : Value} (D : ZipApart z TI TO i1 i2 l1 l2) (q : ZS s.heap z TI TO i1 i2 l1 l2 S i xs ys) (hS : S < s.heap.objs.size) (hx : xs[i]? = some x) (hy : ys[i]? = some y)
    (hQ : ∀ h', ZS h' z TI TO i1 i2 l1 l2 S (i + 1) xs ys → IsPair h' s.heap.objs.size x y → h'.objs.size = s.heap.objs.size + 1 →
      (∀ c o, c ≠ z → c ≠ TO → c ≠ i1 → c ≠ i2 → s.heap.get? c = some o → h'.get? c = some o) → Q (some (.ref s.heap.objs.size)) { s with heap := h' }) :
    wpAny (model prog w) A (pyNext (.ref z)) Q E s := by
  obtain ⟨ti, ⟨x0, y0, to⟩, h1, h2, a1, a2, zz⟩ := q
  rcases zz with e | ⟨T, f, oT, e1, e2, e3⟩
  · refine wpAny_pyNext_zip_item D e ti to h1 h2 a1 a2 hx hy fun h' z' TO' h1' h2' hT hsz hk => ?_
    exact hQ h' ⟨hk _ _ D.TIz D.TITO D.TIi1 D.TIi2 ti, ⟨_, _, TO'⟩, h1', h2', a1.at fun o e => hk _ o D.l1z D.l1TO D.l1i1 D.l1i2 e, a2.at fun o e => hk _ o D.l2z D.l2TO D.l2i1 D.l2i2 e, .inr ⟨_, false, _, z', hT, Nat.ne_of_gt hS, Nat.ne_of_gt (Heap.lt_size e), (by obtain ⟨_, q, _⟩ := h1; exact Nat.ne_of_gt (Heap.lt_size q)), (by obtain ⟨_, q, _⟩ := h2; exact Nat.ne_of_gt (Heap.lt_size q))⟩⟩ hT hsz hk
  · refine wpAny_pyNext_zip_item_held D e1 e2 ti h1 h2 a1 a2 hx hy fun h' z' h1' h2' hT hsz hk => ?_
    exact hQ h' ⟨hk _ _ D.TIz D.TIi1 D.TIi2 ti, ⟨_, _, hk _ _ D.TOz D.TOi1 D.TOi2 to⟩, h1', h2', a1.at fun o e => hk _ o D.l1z D.l1i1 D.l1i2 e, a2.at fun o e => hk _ o D.l2z D.l2i1 D.l2i2 e, .inr ⟨T, true, oT, z', hk _ _ e3.2.1 e3.2.2.1 e3.2.2.2 e2, e3⟩⟩ hT hsz fun c o c1 _ c3 c4 e => hk c o c1 c3 c4 e
theorem next_end {Q : Option Value → Shared → Prop} (hh : A.handled = none) (D : ZipApart z TI TO i1 i2 l1 l2) (q : ZS s.heap z TI TO i1 i2 l1 l2 S i xs ys) (he : xs[i]? = none ∨ ys[i]? = none)
    (hQ : ∀ h', (∀ c o, c ≠ z → c ≠ TO → c ≠ i1 → c ≠ i2 → s.heap.get? c = some o → h'.get? c = some o) → Q none { s with heap := h' }) : wpAny (model prog w) A (pyNext (.ref z)) Q E s := by
  obtain ⟨ti, ⟨x0, y0, to⟩, h1, h2, a1, a2, zz⟩ := q
  rcases zz with e | ⟨T, f, oT, e1, e2, e3⟩
  · exact wpAny_pyNext_zip_end hh D e ti to h1 h2 a1 a2 he fun h' hk => hQ h' fun c o c1 c2 c3 c4 e => hk c o c1 c2 c3 c4 e
  · exact wpAny_pyNext_zip_end_held hh D e1 e2 ti h1 h2 a1 a2 he fun h' hk => hQ h' fun c o c1 _ c3 c4 e => hk c o c1 c3 c4 e
end
/-- one tuple after the other is made -/
def NewT : Hp → List (V × V) → List V → Hp → Prop
  | H, [], ts, H' => ts = [] ∧ H' = H
  | H, (x, y) :: r, ts, H' => ∃ T ts', ts = .ref T :: ts' ∧ H T = none ∧ NewT (upd H T (.tup [x, y])) r ts' H'
theorem lst_get {S : Addr} {h : Heap} {acc : Array Value} {c : Nat} {f : Array Value → Array Value} (e : h.get? S = some { cls := .type "list", dict := none, data := .seq acc c, slots := #[] }) : ∃ c', (h.update S (Obj.mapSeq f)).get? S = some { cls := .type "list", dict := none, data := .seq (f acc) c', slots := #[] } :=
  ⟨_, Heap.get?_update_self (Obj.mapSeq f) e rfl⟩
section
variable {X : Cx} {pins : List (Addr × Obj)} {σ : L2.St} {z TI TO i1 i2 l1 l2 S : Addr} {vx vy : List V} {ix iy : List Value}
theorem loop {R : Result → Shared → Prop} {A : Around} (hh : A.handled = none) (D : ZipApart z TI TO i1 i2 l1 l2) (hS : ∀ b ∈ [z, TI, TO, i1, i2, l1, l2], b ≠ S) (rx : Vals vx ix) (ry : Vals vy iy) (hx : vx.length ≤ sizeLine) (res : Value) :
    ∀ (rest : List (V × V)) (i : Nat) (s : Shared) (H : Hp) (acc : Array Value) (c : Nat) (outs : List V), (vx.zip vy).drop i = rest → i ≤ (vx.zip vy).length → Inv X pins σ H s → (∀ b ∈ [S, z, TO, i1, i2], FpOk X pins H b) → ZS s.heap z TI TO i1 i2 l1 l2 S i ix.toArray iy.toArray →
    s.heap.get? S = some { cls := .type "list", dict := none, data := .seq acc c, slots := #[] } → Vals outs acc.toList → outs.length = i →
    (∀ s' H' acc' c' ts, Inv X pins σ H' s' → (∀ b ∈ [S, z, TO, i1, i2], FpOk X pins H' b) → s'.heap.get? S = some { cls := .type "list", dict := none, data := .seq acc' c', slots := #[] } → NewT H rest ts H' → Vals (outs ++ ts) acc'.toList → R (.ok (.ret res)) s') →
    codeAny (model X.prog X.w) A (.builtin "list.extend.loop" ⟨[.ref S, .ref z, res], []⟩) R s := by
  intro rest
  induction rest with
  | nil =>
    intro i s H acc c outs hd hi I hf q hL r hl hR
    have hin : (vx.zip vy).length ≤ i := List.drop_eq_nil_iff.mp hd
    rw [List.length_zip] at hin
    have he : ix.toArray[i]? = none ∨ iy.toArray[i]? = none := by
      have l1 := rx.length
      have l2 := ry.length
      rcases Nat.le_total vx.length vy.length with h | h
      · rw [Nat.min_eq_left h] at hin; exact .inl (by simp; omega)
      · rw [Nat.min_eq_right h] at hin; exact .inr (by simp; omega)
    refine codeAny_builtin F.entry_extend_loop ?_
    rw [Around.under_plainId F.plain_extend_loop _]
    show wpAny _ A.in1 (pyNext (.ref z) >>= _) _ _ s
    refine wpAny_bind (next_end hh D q he fun h' hk => ?_)
    have I' : Inv X pins σ H { s with heap := h' } := I.turnedL (t' := s.toks) (ch := [S, z, TO, i1, i2]) (fun b o hb e => hk b o (fun q => hb (by simp [q])) (fun q => hb (by simp [q])) (fun q => hb (by simp [q])) (fun q => hb (by simp [q])) e) hf
    exact wpAny_pure (hR _ H acc c [] I' hf (hk S _ (hS _ (by simp)).symm (hS _ (by simp)).symm (hS _ (by simp)).symm (hS _ (by simp)).symm hL) ⟨rfl, rfl⟩ (by rw [List.append_nil]; exact r))
  | cons p rest ih =>
    obtain ⟨x, y⟩ := p
    intro i s H acc c outs hd hi I hf q hL r hl hR
    have hget : (vx.zip vy)[i]? = some (x, y) := by
      have e : ((vx.zip vy).drop i)[0]? = some (x, y) := by rw [hd]; rfl
      rw [List.getElem?_drop] at e; exact e
    have hlt : i < (vx.zip vy).length := (List.getElem?_eq_some_iff.mp hget).1
    obtain ⟨ex, ey⟩ := List.getElem?_zip_eq_some.mp hget
    obtain ⟨u, hu, ru⟩ := rx.get ex
    obtain ⟨u2, hu2, ru2⟩ := ry.get ey
    have hmin : (vx.zip vy).length ≤ vx.length := by rw [List.length_zip]; exact Nat.min_le_left _ _
    have hacc : acc.size = i := by rw [← Array.length_toList, ← r.length]; exact hl
    refine codeAny_builtin F.entry_extend_loop ?_
    rw [Around.under_plainId F.plain_extend_loop _]
    show wpAny _ A.in1 (pyNext (.ref z) >>= _) _ _ s
    have hSl : S < s.heap.objs.size := Heap.lt_size hL
    refine wpAny_bind (next_item D q hSl (x := u) (y := u2) (by simpa using hu) (by simpa using hu2) fun h' q' hT hsz hk => ?_)
    have new : ObjOk X.prog X.w (upd H s.heap.objs.size (.tup [x, y])) h' s.heap.objs.size (.tup [x, y]) :=
      ⟨by show 2 ≤ sizeLine; decide, [u, u2], .cons ru (.cons ru2 .nil), ⟨_, hT, rfl, _, rfl⟩⟩
    have hfr : H s.heap.objs.size = none := I.hok.fresh (Nat.le_refl _)
    have I1 : Inv X pins σ (upd H s.heap.objs.size (.tup [x, y])) { s with heap := h' } :=
      I.turnedNew (t' := s.toks) (ch := [S, z, TO, i1, i2]) (fun b o hb e => hk b o (fun q => hb (by simp [q])) (fun q => hb (by simp [q])) (fun q => hb (by simp [q])) (fun q => hb (by simp [q])) e) hf (Nat.le_refl _) new
    have hlts : ∀ b ∈ [S, z, TO, i1, i2], b < s.heap.objs.size := by
      intro b hb
      have e' : b = S ∨ b = z ∨ b = TO ∨ b = i1 ∨ b = i2 := by simpa using hb
      rcases e' with e | e | e | e | e
      · rw [e]; exact hSl
      · rw [e]; rcases q.zz with e1 | ⟨_, _, _, e1, _⟩
        · exact Heap.lt_size e1
        · exact Heap.lt_size e1
      · rw [e]; obtain ⟨_, _, e1⟩ := q.to; exact Heap.lt_size e1
      · rw [e]; obtain ⟨_, e1, _⟩ := q.h1; exact Heap.lt_size e1
      · rw [e]; obtain ⟨_, e1, _⟩ := q.h2; exact Heap.lt_size e1
    have hf1 : ∀ b ∈ [S, z, TO, i1, i2], FpOk X pins (upd H s.heap.objs.size (.tup [x, y])) b := fun b hb => by
      obtain ⟨n1, rest⟩ := hf b hb
      exact ⟨by rw [upd_ne (Nat.ne_of_lt (hlts b hb))]; exact n1, rest⟩
    have hL' := hk S _ (hS _ (by simp)).symm (hS _ (by simp)).symm (hS _ (by simp)).symm (hS _ (by simp)).symm hL
    show wpAny _ A.in1 (updateSeq S (·.push (.ref s.heap.objs.size)) >>= _) _ _ _
    refine wpAny_bind ?_
    refine wpAny_updateSeq hL' rfl (wpAny_pure ⟨plainId_quiet F.plain_extend_loop _, ?_⟩) (by rw [hacc]; omega) (by show (acc.push _).size ≤ sizeLine + 1; rw [Array.size_push, hacc]; omega)
    obtain ⟨c2, hL2⟩ := lst_get (f := (·.push (.ref s.heap.objs.size))) hL'
    have oth : ∀ b o, b ≠ S → h'.get? b = some o → (h'.update S (Obj.mapSeq (·.push (.ref s.heap.objs.size)))).get? b = some o := fun b o hb e => (Heap.get?_update_other _ _ (Ne.symm hb)).trans e
    have I2 : Inv X pins σ (upd H s.heap.objs.size (.tup [x, y])) { s with heap := h'.update S (Obj.mapSeq (·.push (.ref s.heap.objs.size))) } :=
      Inv.turnedL (s := { s with heap := h' }) I1 (t' := s.toks) (ch := [S]) (fun b o hb e => oth b o (fun q => hb (by simp [q])) e) (fun b hb => hf1 b (by rw [List.mem_singleton.mp hb]; simp))
    refine ih (i + 1) _ _ (acc.push (.ref s.heap.objs.size)) c2 (outs ++ [.ref s.heap.objs.size]) (by rw [← List.drop_drop, hd]; rfl) hlt I2 hf1 (q'.frame hS oth) hL2 (by rw [Array.toList_push]; exact r.append (.cons rfl .nil)) (by rw [List.length_append, hl]; rfl) fun s' H' acc' c' ts I' hf' hL' hn hv => ?_
    exact hR s' H' acc' c' (.ref s.heap.objs.size :: ts) I' hf' hL' ⟨_, _, rfl, hfr, hn⟩ (by rw [List.append_assoc] at hv; exact hv)
end
section
variable {X : Cx} {pins : List (Addr × Obj)} {σ : L2.St} {z TI TO i1 i2 l1 l2 : Addr} {vx vy : List V} {ix iy : List Value}
/-- extend by a zip -/
theorem extend_zip {R : Result → Shared → Prop} {A : Around} {s : Shared} {H : Hp} {S : Addr} {c₀ : Nat} (hh : A.handled = none) (D : ZipApart z TI TO i1 i2 l1 l2) (hS : ∀ b ∈ [z, TI, TO, i1, i2, l1, l2], b ≠ S) (rx : Vals vx ix) (ry : Vals vy iy) (hx : vx.length ≤ sizeLine) (res : Value)
    (I : Inv X pins σ H s) (hf : ∀ b ∈ [S, z, TO, i1, i2], FpOk X pins H b) (q : ZS s.heap z TI TO i1 i2 l1 l2 S 0 ix.toArray iy.toArray) (hL : s.heap.get? S = some { cls := .type "list", data := .seq #[] c₀ })
    (hR : ∀ s' H' acc' c' ts, Inv X pins σ H' s' → (∀ b ∈ [S, z, TO, i1, i2], FpOk X pins H' b) → s'.heap.get? S = some { cls := .type "list", dict := none, data := .seq acc' c', slots := #[] } → NewT H (vx.zip vy) ts H' → Vals ts acc'.toList → R (.ok (.ret res)) s') :
    wpAny (model X.prog X.w) A.in1 (Builtin.List.listExtendWith (.ref S) (.ref z) res)
      (fun fin s' => match fin with | .done f => R (.ok f) s' | .again c' => c'.quiet = true ∧ codeAny (model X.prog X.w) A c' R s') (fun e s' => R (.error e) s') s := by
  have hSz : S ≠ z := (hS z (by simp)).symm
  have h1 : Builtin.List.listSameRef (.ref S) (.ref z) = false := by simp [Builtin.List.listSameRef, hSz]
  have h2 : (Value.type "zip" == Value.type "list") = false := by decide
  have h3 : (Value.type "zip" == Value.type "tuple") = false := by decide
  unfold Builtin.List.listExtendWith
  refine wpAny_bind (wpAny_typeOf q.ty ?_)
  simp only [h1, h2, h3, Bool.or_false, Bool.false_eq_true, if_false]
  have hit : ∀ {Q : Value → Shared → Prop} {E : Value → Shared → Prop}, Q (.ref z) s → wpAny (model X.prog X.w) A.in1 (pyIter (.ref z)) Q E s := fun h => by
    rcases q.zz with e | ⟨T, f, oT, e, _⟩
    · exact wpAny_pyIter_zip e h
    · have hT : s.TypeIs (.ref z) "zip" := ⟨_, e, rfl⟩
      refine wpAny_pyIter_slot hT F.slot_zip_iter (wpAny_call_entry F.slot_zip_iter hT F.entry_zip_iter ?_ (F.args_zip_iter_1 _))
      show wpAny _ _ (ret (.ref z)) _ _ s
      exact wpAny_pure ⟨_, rfl, "zip", _, hT, F.slot_zip_next.lookup, h⟩
  refine wpAny_bind (hit ?_)
  refine wpAny_bind (wpAny_holding ?_)
  unfold Builtin.List.listLengthHint
  refine wpAny_bind (wpAny_specialOf q.ty zip_no_len ?_)
  show wpAny _ A.in1 (specialOf (Value.ref z) (Str.ofString "__length_hint__") >>= _) _ _ _
  refine wpAny_bind (wpAny_specialOf q.ty zip_no_hint ?_)
  refine wpAny_pure ?_
  show wpAny _ A.in1 (rule "list.extend.makes-room" >>= fun _ => Builtin.List.listTouch (.ref S) >>= fun _ =>
    again (.builtin "list.extend.loop" ⟨[.ref S, .ref z, res], []⟩)) _ _ _
  refine wpAny_bind (wpAny_rule ?_)
  refine wpAny_bind ?_
  show wpAny _ A.in1 (updateSeq S (·.push .none) >>= fun _ => updateSeq S (·.pop)) _ _ _
  refine wpAny_bind (wpAny_updateSeq hL rfl ?_)
  obtain ⟨c1, hL1⟩ := lst_get (f := (·.push Value.none)) hL
  refine wpAny_updateSeq hL1 rfl ?_
  obtain ⟨c2, hL2⟩ := lst_get (f := (·.pop)) hL1
  have oth : ∀ b o, b ≠ S → s.heap.get? b = some o → ((s.heap.update S (Obj.mapSeq (·.push Value.none))).update S (Obj.mapSeq (·.pop))).get? b = some o :=
    fun b o hb e => (Heap.get?_update_other _ _ (Ne.symm hb)).trans ((Heap.get?_update_other _ _ (Ne.symm hb)).trans e)
  have I2 : Inv X pins σ H { s with heap := (s.heap.update S (Obj.mapSeq (·.push Value.none))).update S (Obj.mapSeq (·.pop)) } :=
    I.turnedL (t' := s.toks) (ch := [S]) (fun b o hb e => oth b o (fun q => hb (by simp [q])) e) (fun b hb => hf b (by rw [List.mem_singleton.mp hb]; simp))
  refine wpAny_pure ⟨plainId_quiet F.plain_extend_loop _, loop hh D hS rx ry hx res (vx.zip vy) 0 _ H #[] c2 [] rfl (Nat.zero_le _) I2 hf (q.frame hS oth) hL2 .nil rfl fun s' H' acc' c' ts I' hf' hL' hn hv => ?_⟩
  exact hR s' H' acc' c' ts I' hf' hL' hn hv
end
end Wk.LZ
namespace Wk
open PySem L2 PyProof.Rows
def rLstZip (K : PySem.W.Frag) (Q : VK) (vs : List V) (H1 : Hp) : Prop := ∃ (a b : Addr) (xs ys : List V), vs = [.ref a, .ref b] ∧ SqL K H1 a xs ∧ SqL K H1 b ys ∧ ∀ ts H2, LZ.NewT H1 (xs.zip ys) ts H2 → ∀ q, H2 q = none → Q (.ref q) (upd H2 q (.lst ts))
def tLstZip (K : PySem.W.Frag) (ta : TA) : TE := fun σ H Q => ta σ H (rLstZip K Q)
theorem e_lzip {K : PySem.W.Frag} {ta : TA} {σ : L2.St} {H : Hp} {Q : VK} (h : ta σ H (rLstZip K Q)) : tLstZip K ta σ H Q := h
theorem LZ.len : ∀ {r : List (V × V)} {H : Hp} {ts : List V} {H2 : Hp}, LZ.NewT H r ts H2 → ts.length = r.length
  | [], _, _, _, ⟨a, _⟩ => by rw [a]; rfl
  | (x, y) :: r, _, _, _, ⟨T, ts', a, _, c⟩ => by rw [a, List.length_cons, List.length_cons, LZ.len c]
section
variable {X : Cx}
theorem pe_lstZip {e e2 : Expr} {ta : TA} {p p2 pos pos2 : Pos} (hc : X.calm = true) (hg : Gl X "list") (hm : X.mg "list" = none) (hg2 : Gl X "zip") (hm2 : X.mg "zip" = none) (ha : PA X [e, e2] ta)
    (hs : starEach [e, e2] X.env = (false, eval e X.env) :: starEach [e2] X.env := by rfl) (hpl : (backTo pos2 (starEach [e2] X.env)).any (·.1) = false := by rfl)
    (hs2 : starEach [.Call (.Name "zip" p2) [e, e2] [] pos2] X.env = (false, eval (.Call (.Name "zip" p2) [e, e2] [] pos2) X.env) :: starEach [] X.env := by rfl) :
    PE X (.Call (.Name "list" p) [.Call (.Name "zip" p2) [e, e2] [] pos2] [] pos) (tLstZip X.K ta) := by
  refine ⟨fun pins s σ H Q I h => ?_⟩
  refine Call_ (ld_blt I hg hm PyProof.Rows.boot_list (PyProof.Rows.callWith_type1 (args_cons (Call_ (ld_blt I hg2 hm2 PyProof.Rows.boot_zip (PyProof.Rows.callWith_type1 (thn (ha.run pos2 pins s σ H _ I h) fun us s1 ⟨vs, H1, I1, r1, q1⟩ => ?_) hs hpl))) hs2) hs2 rfl))
  obtain ⟨a, b, xs, ys, ex, hqx, hqy, q⟩ := q1
  subst ex
  cases r1 with
  | cons r rr =>
    cases rr with
    | cons r' rr =>
      cases rr
      cases r
      cases r'
      obtain ⟨its, rv, p1, hz1⟩ := I1.list hqx
      obtain ⟨its2, rv2, p2', _⟩ := I1.list hqy
      have la : a < s1.heap.objs.size := p1.lt
      have lb : b < s1.heap.objs.size := p2'.lt
      refine call_zip_2 p1.isList p2'.isList fun h' hz hTI hTO h1 h2 hsz hk => args_nil ?_
      have D := PySem.W.ktu_apart s1.heap.objs.size a b la lb
      have I2 : Inv X pins σ H1 { s1 with heap := h' } := I1.kept (t' := s1.toks) hk
      -- the list
      refine callType_codes (Q₁ := fun obj s₁ => obj = .ref h'.objs.size ∧ s₁ = { s1 with heap := h'.push { cls := .type "list", data := .seq #[] } }) F.called_list (F.typeCall_list_1 _) F.entry_list_init
        (code_list_new _ ⟨rfl, rfl⟩) fun obj s₁ h₁ => ?_
      obtain ⟨rfl, rfl⟩ := h₁
      have hS : (h'.push { cls := .type "list", data := .seq #[] }).get? h'.objs.size = some { cls := .type "list", data := .seq #[] } := Heap.get?_push_size _ rfl
      refine ⟨⟨_, hS, rfl⟩, F.args_list_init_2 _ _, ?_⟩
      show wpAny _ _ (do let old ← Builtin.List.listItems (.ref h'.objs.size); Builtin.List.listUpdate (.ref h'.objs.size) (fun _ => #[]); letGo old.toList.reverse; Builtin.List.listExtendWith (.ref h'.objs.size) (.ref (s1.heap.objs.size + 4)) .none) _ _ _
      refine wpAny_bind ?_
      unfold Builtin.List.listItems
      refine wpAny_bind (wpAny_seqItems hS rfl (wpAny_pure ?_))
      show wpAny _ _ (updateSeq h'.objs.size (fun _ => #[]) >>= fun _ => letGo (#[] : Array Value).toList.reverse >>= fun _ => Builtin.List.listExtendWith (.ref h'.objs.size) (.ref (s1.heap.objs.size + 4)) .none) _ _ _
      refine wpAny_bind (wpAny_updateSeq hS rfl ?_)
      obtain ⟨c₂, hS₂⟩ : ∃ c, ((h'.push { cls := .type "list", data := .seq #[] }).update h'.objs.size (Obj.mapSeq (fun _ => (#[] : Array Value)))).get? h'.objs.size = some { cls := .type "list", data := .seq #[] c } := ⟨_, Heap.get?_update_self (Obj.mapSeq (fun _ => (#[] : Array Value))) hS rfl⟩
      have oth : ∀ b o, h'.get? b = some o → ((h'.push { cls := .type "list", data := .seq #[] }).update h'.objs.size (Obj.mapSeq (fun _ => (#[] : Array Value)))).get? b = some o :=
        fun b o e => (Heap.get?_update_other _ _ (Nat.ne_of_gt (Heap.lt_size e))).trans (Heap.get?_push_of_some _ e)
      refine wpAny_bind (wpAny_letGo ?_)
      have I3 : Inv X pins σ H1 { s1 with heap := (h'.push { cls := .type "list", data := .seq #[] }).update h'.objs.size (Obj.mapSeq (fun _ => (#[] : Array Value))) } := I1.kept (t' := s1.toks) fun b u e => oth b u (hk b u e)
      have hlt : ∀ {b o}, h'.get? b = some o → b ≠ h'.objs.size := fun e => Nat.ne_of_lt (Heap.lt_size e)
      have hSs : ∀ c ∈ [s1.heap.objs.size + 4, s1.heap.objs.size + 2, s1.heap.objs.size + 3, s1.heap.objs.size, s1.heap.objs.size + 1, a, b], c ≠ h'.objs.size := by
        intro c hc
        rw [hsz]
        have e' : c = s1.heap.objs.size + 4 ∨ c = s1.heap.objs.size + 2 ∨ c = s1.heap.objs.size + 3 ∨ c = s1.heap.objs.size ∨ c = s1.heap.objs.size + 1 ∨ c = a ∨ c = b := by simpa using hc
        refine Nat.ne_of_lt ?_
        rcases e' with e | e | e | e | e | e | e
        · rw [e]; exact Nat.lt_succ_self _
        · rw [e]; exact Nat.add_lt_add_left (by decide) _
        · rw [e]; exact Nat.add_lt_add_left (by decide) _
        · rw [e]; exact Nat.lt_add_of_pos_right (by decide)
        · rw [e]; exact Nat.add_lt_add_left (by decide) _
        · rw [e]; exact Nat.lt_of_lt_of_le la (Nat.le_add_right _ _)
        · rw [e]; exact Nat.lt_of_lt_of_le lb (Nat.le_add_right _ _)
      have hf : ∀ c ∈ [h'.objs.size, s1.heap.objs.size + 4, s1.heap.objs.size + 3, s1.heap.objs.size, s1.heap.objs.size + 1], FpOk X pins H1 c := by
        intro c hc
        have e' : c = h'.objs.size ∨ c = s1.heap.objs.size + 4 ∨ c = s1.heap.objs.size + 3 ∨ c = s1.heap.objs.size ∨ c = s1.heap.objs.size + 1 := by simpa using hc
        have hle : s1.heap.objs.size ≤ c := by
          rw [hsz] at e'
          rcases e' with e | e | e | e | e
          · rw [e]; exact Nat.le_add_right _ _
          · rw [e]; exact Nat.le_add_right _ _
          · rw [e]; exact Nat.le_add_right _ _
          · rw [e]; exact Nat.le_refl _
          · rw [e]; exact Nat.le_add_right _ _
        exact I1.fpOk hle (I1.hok.fresh hle)
      refine LZ.extend_zip (X := X) (pins := pins) (σ := σ) (H := H1) (A := X.A.in1) (R := wants (fun r s₂ => r = Value.none ∧ _) _) (I1.ok.hd hc) D hSs rv rv2 hz1 .none I3 hf ⟨oth _ _ hTI, ⟨_, _, oth _ _ hTO⟩, h1.at fun o e => oth _ o e, h2.at fun o e => oth _ o e, (p1.isList.at fun o e => oth _ o (hk _ o e)), (p2'.isList.at fun o e => oth _ o (hk _ o e)), .inl (oth _ _ hz)⟩ hS₂ fun s' H' acc' c' ts I' hf' hL' hn hv => ?_
      refine ⟨rfl, ?_⟩
      have hl : ts.length ≤ sizeLine := by rw [LZ.len hn, List.length_zip]; exact Nat.le_trans (Nat.min_le_left _ _) hz1
      have hnew : ObjOk X.prog X.w (upd H' h'.objs.size (.lst ts)) s'.heap h'.objs.size (.lst ts) := ⟨hl, acc'.toList, c', hv, by rw [Array.toArray_toList]; exact hL'⟩
      have hfS := hf' h'.objs.size (by simp)
      exact ⟨.ref h'.objs.size, upd H' h'.objs.size (.lst ts), I'.take (t' := s'.toks) (fun _ _ _ e => e) hfS hnew, rfl, q ts H' hn _ hfS.1⟩
end
section
variable {α β : Type} {e : Rep α} {f : Rep β} {K : PySem.W.Frag} {F0 H0 F H H2 : Hp} {p q : Addr} {xs : List α} {ys : List β} {Q : VK}
/-- the new tuples -/
theorem newT_all : ∀ {us vs : List V} {xs : List α} {ys : List β} {F H : Hp} {ts : List V}, Ex F H → All e F us xs → All f F vs ys → LZ.NewT H (us.zip vs) ts H2 →
    ∃ F2, Wf F H F2 H2 ∧ All (pT2 e f) F2 ts (xs.zip ys)
  | [], _, [], _, F, H, ts, hf, _, _, ⟨a, b⟩ => by subst a b; exact ⟨F, Wf.id hf, trivial⟩
  | _ :: _, [], _ :: _, [], F, H, ts, hf, _, _, ⟨a, b⟩ => by subst a b; exact ⟨F, Wf.id hf, trivial⟩
  | u :: us, v :: vs, x :: xs, y :: ys, F, H, ts, hf, ⟨a1, a2⟩, ⟨b1, b2⟩, ⟨T, ts', hts, hT, hn⟩ => by
    subst hts
    have w := Wf.new (o := .tup [u, v]) hf hT
    have g := w.g
    obtain ⟨F2, w2, a⟩ := newT_all w.f (a2.mono g) (b2.mono g) hn
    refine ⟨F2, w.tr w2, ⟨⟨T, u, v, rfl, w2.g _ _ upd_same, e.mono w2.g (e.mono g a1), f.mono w2.g (f.mono g b1)⟩, a⟩⟩
  | [], _, _ :: _, _, _, _, _, _, q, _, _ => q.elim
  | _ :: _, _, [], _, _, _, _, _, q, _, _ => q.elim
  | _ :: _, [], _ :: _, _ :: _, _, _, _, _, _, q, _ => q.elim
  | _ :: _, _ :: _, _ :: _, [], _, _, _, _, _, q, _ => q.elim
theorem n_lzip {v1 v2 : V} (r1 : (pL e).r F v1 xs) (r2 : (pL f).r F v2 ys) (w : Wf F0 H0 F H) (k : ∀ p F' H', H p = none → Wf F H F' H' → XL (pT2 e f) H0 F' H' p (xs.zip ys) → Q (.ref p) H') : rLstZip K Q [v1, v2] H := by
  obtain ⟨p1, us, rfl, h1, a1⟩ := r1
  obtain ⟨p2, vs, rfl, h2, a2⟩ := r2
  refine ⟨p1, p2, us, vs, rfl, SqL.of (w.f _ _ h1), SqL.of (w.f _ _ h2), fun ts H2 hn l hl => ?_⟩
  obtain ⟨F2, w2, a⟩ := newT_all w.f a1 a2 hn
  exact k l F2 _ (w2.h.non hl) (w2.tr (Wf.newX w2.f hl)) ⟨ts, Xc.mk' (w.tr w2) hl, a⟩
end
end Wk
namespace Wk
open PySem L2
/-- a raw value -/
def pV : Rep V := ⟨fun _ v x => v = x, fun _ h => h⟩
abbrev anN (n : Nat) : An := .i (n : Int)
section
variable {α : Type} {e : Rep α} {F : Hp} {v : V} {xs : List Nat} {ys : List Int}
theorem all_any : ∀ {vs : List V} {xs : List Nat}, All pN F vs xs → All pA F vs (xs.map anN)
  | [], [], _ => trivial
  | _ :: _, _ :: _, ⟨a, b⟩ => ⟨a, all_any b⟩
  | [], _ :: _, q => q.elim
  | _ :: _, [], q => q.elim
theorem L_any (r : (pL pN).r F v xs) : (pL pA).r F v (xs.map anN) := let ⟨p, vs, a, b, c⟩ := r; ⟨p, vs, a, b, all_any c⟩
end
section
variable {α β γ : Type} {e : Rep α} {f : Rep β} {g : Rep γ} {K : PySem.W.Frag} {F H : Hp} {v : V} {x : α × β × γ}
theorem ix_3b (r : (pT3 e f g).r F v x) (h : Ex F H) : ∃ w, f.r F w x.2.1 ∧ ∀ ⦃σ ta tb⦄, Val ta σ H v → Val tb σ H (.int 1) → Val (tOp (rIxT K) ta tb) σ H w := by
  obtain ⟨p, u, w, y, rfl, hp, a, b, c⟩ := r
  exact ⟨w, b, fun _ _ _ ha hb => v2 ha hb fun Q k => ⟨p, _, _, w, rfl, rfl, SqT.of (h _ _ hp), rfl, k⟩⟩
theorem ix_3c (r : (pT3 e f g).r F v x) (h : Ex F H) : ∃ w, g.r F w x.2.2 ∧ ∀ ⦃σ ta tb⦄, Val ta σ H v → Val tb σ H (.int 2) → Val (tOp (rIxT K) ta tb) σ H w := by
  obtain ⟨p, u, w, y, rfl, hp, a, b, c⟩ := r
  exact ⟨y, c, fun _ _ _ ha hb => v2 ha hb fun Q k => ⟨p, _, _, y, rfl, rfl, SqT.of (h _ _ hp), rfl, k⟩⟩
theorem ix_3a (r : (pT3 e f g).r F v x) (h : Ex F H) : ∃ w, e.r F w x.1 ∧ ∀ ⦃σ ta tb⦄, Val ta σ H v → Val tb σ H (.int 0) → Val (tOp (rIxT K) ta tb) σ H w := by
  obtain ⟨p, u, w, y, rfl, hp, a, b, c⟩ := r
  exact ⟨u, a, fun _ _ _ ha hb => v2 ha hb fun Q k => ⟨p, _, _, u, rfl, rfl, SqT.of (h _ _ hp), rfl, k⟩⟩
instance {n m k : Nat} [Dat e n] [Dat f m] [Dat g k] : Dat (pT3 e f g) (max n (max m k) + 1) := ⟨fun x => .tuple [Dat.d e x.1, Dat.d f x.2.1, Dat.d g x.2.2], fun {K F v x} h => by
    obtain ⟨p, u, w, y, rfl, hp, a, b, c⟩ := h
    exact .tup (SqT.of hp) (.cons (Dat.dp a) (.cons (Dat.dp b) (.cons (Dat.dp c) .nil))), fun x => by
    show (PyData.canLay0 (Dat.d e x.1) && (PyData.canLay0 (Dat.d f x.2.1) && (PyData.canLay0 (Dat.d g x.2.2) && PyData.canLayAll0 []))) = true
    rw [Dat.lay, Dat.lay, Dat.lay]; rfl, fun x => by
    have a := Dat.dep (e := e) x.1
    have b := Dat.dep (e := f) x.2.1
    have c := Dat.dep (e := g) x.2.2
    simp only [PyData.depth, PyData.depthAll]
    omega, fun x y => by
    show (PyData.eqv (Dat.d e x.1) (Dat.d e y.1) && (PyData.eqv (Dat.d f x.2.1) (Dat.d f y.2.1) && (PyData.eqv (Dat.d g x.2.2) (Dat.d g y.2.2) && PyData.eqvAll [] []))) = true ↔ _
    have z : PyData.eqvAll [] [] = true := rfl
    rw [z, Bool.and_true, Bool.and_eq_true, Bool.and_eq_true, Dat.inj, Dat.inj, Dat.inj, Prod.ext_iff, Prod.ext_iff]⟩
end
/-- a method with a default -/
structure MdD (P : Program) (w : World) (K : PySem.W.Frag) (mg : Str → Option Value) (base : Heap) (CX : CXT) (k : Nat) (C : Addr) (m : Str) (ps : List Str) (sp : Sp) (dvs : List V) : Prop where
  ex : ∃ f fd, FnOk P w K mg base CX k f fd ps sp ∧ Meth K C m f ∧ Binds K fd ps [] ∧ ∃ ds, Vals dvs ds ∧ Binds K fd ps ds
theorem MdD.full {P : Program} {w : World} {K : PySem.W.Frag} {mg : Str → Option Value} {base : Heap} {CX : CXT} {k : Nat} {C : Addr} {m : Str} {ps : List Str} {sp : Sp} {dvs : List V} (M : MdD P w K mg base CX k C m ps sp dvs) : Md P w K mg base CX k C m ps sp :=
  let ⟨f, fd, a, b, c, _⟩ := M.ex; ⟨f, fd, a, b, c⟩
theorem funD_mk {K : PySem.W.Frag} {x qual : Str} {st : Stmt} {f T : Addr} {oc aT : Value} {od an bT : Option Addr} {osl sT : Array (Option Value)} {kV doc pm cdv ct : Value} {its : Array Value} {n : Nat} {dvs : List V}
    (l : K.lookup f = some ⟨oc, od, .func (PySem.W.fnOf x qual (defArgs st) (defBody st) (defScope st) (.ref T) kV doc pm an cdv ct), osl⟩) (c : PySem.W.codeIn K cdv qual = true) (k : PySem.W.keepIn K (.ref f) = true)
    (lT : K.lookup T = some ⟨aT, bT, .seq its n, sT⟩) (r : Vals dvs its.toList) (hne : dvs ≠ []) : FunD K x qual (defArgs st) (defBody st) (defScope st) dvs [] f (PySem.W.fnOf x qual (defArgs st) (defBody st) (defScope st) (.ref T) kV doc pm an cdv ct) :=
  ⟨⟨oc, od, _, kV, doc, pm, an, cdv, ct, osl, rfl, l, c, .inr ⟨hne, T, _, its.toList, n, rfl, lT, by rw [Array.toArray_toList], r⟩, .inl rfl⟩, k⟩
theorem FunD.full {K : PySem.W.Frag} {x qual : Str} {params : Arguments} {body : List Stmt} {scope : Scope} {dvs : List V} {f : Addr} {fd : FuncData} {ps : List Str} (F : FunD K x qual params body scope dvs [] f fd) (hd : dvs ≠ [])
    (h : ∀ (T : Addr) (kV doc pm : Value) (an : Option Addr) (cdv ct : Value) (us its : List Value), us.length = ps.length → its.length = dvs.length →
      ∃ k, bindArgs (PySem.W.fnOf x qual params body scope (.ref T) kV doc pm an cdv ct) ⟨us, []⟩ = seqItems? (.ref T) >>= k ∧ k (some its.toArray) = pure (ps.zip (us ++ its.drop dvs.length))) : Binds K fd ps [] := by
  obtain ⟨ds, r, b⟩ := F.binds1 (ps := ps) ps.length dvs.length hd (by rw [Nat.sub_self]; rfl) h
  rw [List.drop_length] at r
  cases r
  exact b
section
variable {X : Cx} {k : Nat} {C : Addr} {x m : Str} {ps : List Str} {sp : Sp} {W : WX} {o e : Expr} {es : List Expr} {p pos apos : Pos} {ta : TE} {t : TA} {pl : Sem Bool} {dvs : List V}
theorem run_fnSD {CX : CXT} {f : Addr} {fd : FuncData} {ds : List Value} {E : L2.St → XK} {pins : List (Addr × Obj)} {σ : L2.St} {H : Hp} {s : Shared} {Q : VK} {us : List Value} {vs : List V} (F : FnOk X.prog X.w X.K X.mg X.base CX k f fd ps sp) (hr : Room k X.A) (hb : Binds X.K fd ps ds) (hd : Vals dvs ds) (hx : PassesAt CX X σ (E σ))
    (I : Inv X pins σ H s) (r : Vals vs us) (h : sp (vs ++ dvs) H Q (E σ)) : wpAny (model X.prog X.w) X.A (call (.ref f) us) (EP X pins σ Q) X.xe s := by
  have r2 : Vals (vs ++ dvs) (us ++ ds) := r.append hd
  have hl : (us ++ ds).length = ps.length := by rw [← r2.length]; exact F.len _ _ _ _ h
  refine wpAny_call (codeAny_mono (F.run X.A X.stack s H ⟨us, []⟩ (us ++ ds) (vs ++ dvs) Q (E σ) hr I.env0 (hb s us I.kIn hl) r2 h) fun r s' hq => ?_)
  cases r with
  | error e => exact hx pins H s e s' I hq
  | ok fl =>
    cases fl with
    | ret u => exact I.after hq
    | next => exact False.elim hq
    | brk => exact False.elim hq
    | cont => exact False.elim hq
def tMdD (C : Addr) (m : Str) (sp : Sp) (dvs : List V) (E : L2.St → XK) (ta : TE) (t : TA) : TE := fun σ H Q => ta σ H fun x H1 => ∃ a dx fs, x = .ref a ∧ H1 a = some (.ins C dx fs) ∧ fs.lookup m = none ∧ t σ H1 fun vs H2 => sp (x :: (vs ++ dvs)) H2 Q (E σ)
theorem e_mdD {E : L2.St → XK} {σ : L2.St} {H : Hp} {Q : VK} (h : ta σ H fun x H1 => ∃ a dx fs, x = .ref a ∧ H1 a = some (.ins C dx fs) ∧ fs.lookup m = none ∧ t σ H1 fun vs H2 => sp (x :: (vs ++ dvs)) H2 Q (E σ)) : tMdD C m sp dvs E ta t σ H Q := h
theorem pe_mdD {E : L2.St → XK} (M : MdD X.prog X.w X.K X.mg X.base (L2.CX X.prog X.w) k C m ps sp dvs) (hx : ∀ σ, PassesAt (L2.CX X.prog X.w) X σ (E σ)) (cl : Cls X.K C) (hr : Room k X.A) (he : PE X o ta) (ha : PA X (e :: es) t)
    (hst : starEach (e :: es) X.env = (false, eval e X.env) :: starEach es X.env := by rfl) (hpl : (backTo pos (starEach es X.env)).any (·.1) = false := by rfl)
    (ht : eval (.Call (.Attribute o m apos) (e :: es) [] pos) X.env = (do
      let ov ← eval o X.env
      standAt apos.atName
      let (f, first) ← holding [ov] (getMethod ov m pl)
      callWith pos f first (backTo pos (starEach (e :: es) X.env)) (backToKw pos (keywordEach [] X.env))) := by rfl) :
    PE X (.Call (.Attribute o m apos) (e :: es) [] pos) (tMdD C m sp dvs E ta t) := by
  obtain ⟨f, fd, F, hm, _, ds, hd, hb⟩ := M.ex
  refine ⟨fun pins s σ H Q Iv hh => ?_⟩
  refine PySem.W.methodCall_KW (pl := pl) (thn (he.run pins s σ H _ Iv hh) fun u s1 ⟨x, H1, Iv1, rx, a, dx, fs, ex, ea, lk, qq⟩ => ?_) ht
  subst ex
  obtain rfl : u = Value.ref a := rx
  refine getmeth_ok Iv1 ea cl hm lk ?_
  refine PySem.W.callWith_K (first := [.ref a]) (h₀ := X.base) Iv1.ok.mod.kin hm.kp (thn (ha.run pos pins s1 σ H1 _ Iv1 qq) fun us s2 ⟨vs, H2, Iv2, rv, q2⟩ => ⟨Iv2.kIn, ?_⟩) hst hpl
  exact run_fnSD (us := .ref a :: us) (vs := .ref a :: vs) F hr hb hd (hx σ) Iv2 (.cons rfl rv) q2
end
theorem passAtL {X : Cx} (σ : L2.St) : PassesAt (L2.CX X.prog X.w) X σ E0 := fun pins H s e s' I h => passL pins σ H s e s' I h
def nw (H F : Hp) : Hp := fun a => if H a = none then F a else none
theorem nw_ex {H F F' : Hp} (h : Ex F F') : Ex (nw H F) (nw H F') := fun a o e => by
  unfold nw at e ⊢
  by_cases q : H a = none
  · rw [if_pos q] at e ⊢; exact h a o e
  · rw [if_neg q] at e; cases e
theorem nw_sub {H F : Hp} : Ex (nw H F) F := fun a o e => by
  unfold nw at e
  by_cases q : H a = none
  · rw [if_pos q] at e; exact e
  · rw [if_neg q] at e; cases e
theorem nw_at {H F : Hp} {a : Addr} {o : HO} (h : H a = none) (e : F a = some o) : nw H F a = some o := by unfold nw; rw [if_pos h]; exact e
def Fre {α : Type} (H : Hp) (e : Rep α) (F : Hp) (v : V) (x : α) : Prop := e.r (nw H F) v x
section
variable {α β : Type} {e : Rep α} {f : Rep β} {F0 H0 F F' Fl H H2 F2 : Hp} {v u : V} {x : α} {y : β} {p : Addr} {Q : VK}
theorem Fre.r (h : Fre H e F v x) : e.r F v x := e.mono nw_sub h
theorem Fre.mono (g : Ex F F') (h : Fre H e F v x) : Fre H e F' v x := e.mono (nw_ex g) h
/-- behind a call to which one's own list was lent -/
theorem Fre.back (ex : Ex F H) (hx : Ex F Fl) (s : Wf Fl H F2 H2) (h : Fre H e F2 v x) : ∃ F3, Wf F H F3 H2 ∧ e.r F3 v x := by
  refine ⟨fun a => match nw H F2 a with | some o => some o | none => F a, ⟨s.h, fun a o q => ?_, fun a o q => ?_, fun a o q q0 => ?_⟩, e.mono (fun a o q => ?_) h⟩
  · cases z : nw H F2 a with
    | some o' =>
      have q' : (match nw H F2 a with | some o => some o | none => F a) = some o := q
      rw [z] at q'; cases q'
      exact s.f a _ (nw_sub a _ z)
    | none =>
      have q' : (match nw H F2 a with | some o => some o | none => F a) = some o := q
      rw [z] at q'
      exact s.h a o (ex a o q')
  · show (match nw H F2 a with | some o => some o | none => F a) = some o
    have : nw H F2 a = none := by unfold nw; rw [if_neg (by rw [ex a o q]; simp)]
    rw [this]; exact q
  · cases z : nw H F2 a with
    | some o' =>
      unfold nw at z
      by_cases c : H a = none
      · exact c
      · rw [if_neg c] at z; cases z
    | none =>
      have q' : (match nw H F2 a with | some o => some o | none => F a) = some o := q
      rw [z] at q'
      have q2 : F a = some o := q'
      rw [q0] at q2; cases q2
  · show (match nw H F2 a with | some o => some o | none => F a) = some o
    rw [q]
theorem all_sc {xs : List Nat} {F G : Hp} : ∀ {vs : List V} {xs : List Nat}, All pN F vs xs → All pN G vs xs
  | [], [], _ => trivial
  | _ :: _, _ :: _, ⟨a, b⟩ => ⟨a, all_sc (xs := xs) b⟩
  | [], _ :: _, q => q.elim
  | _ :: _, [], q => q.elim
/-- one's own list of numbers is changed no more, and is new -/
theorem XL.frzN {xs : List Nat} (x : XL pN H0 F H p xs) (w : Wf F0 H0 F H) : ∃ F', Wf F0 H0 F' H ∧ Ex F F' ∧ Fre H0 (pL pN) F' (.ref p) xs ∧ Fz F F' p := by
  obtain ⟨vs, a, b⟩ := x.x
  exact ⟨_, w.freeze a, Ex.new a.n, ⟨p, vs, rfl, nw_at a.z upd_same, all_sc (xs := xs) b⟩, fun q h z => by rw [upd_ne h]; exact z⟩
theorem n_fre2 (w : Wf F0 H0 F H) (a : Fre H0 e F v x) (b : Fre H0 f F u y) (k : ∀ p F' H', Wf F H F' H' → Fre H0 (pT2 e f) F' (.ref p) (x, y) → Q (.ref p) H') : kTup Q [v, u] H :=
  ⟨Nat.le_of_lt (small_len (n := 2) (by decide)), fun p hp => k p _ _ (Wf.new w.f hp) ⟨p, v, u, rfl, nw_at (w.h.non hp) upd_same, Fre.mono (Ex.new (w.f.non hp)) a, Fre.mono (Ex.new (w.f.non hp)) b⟩⟩
end
end Wk
namespace Wk
/-- the mask of a row of bits -/
def maskB : List Bool → Nat
  | [] => 0
  | b :: bs => b.toNat + 2 * maskB bs
theorem maskB_lt : ∀ bs : List Bool, maskB bs < 2 ^ bs.length
  | [] => by decide
  | b :: bs => by
    have := maskB_lt bs
    have hb : b.toNat ≤ 1 := by cases b <;> decide
    show b.toNat + 2 * maskB bs < 2 ^ (bs.length + 1)
    rw [Nat.pow_succ]; omega
theorem maskB_bit : ∀ (bs : List Bool) (j : Nat), (maskB bs).testBit j = bs.getD j false
  | [], j => by show (0 : Nat).testBit j = _; rw [Nat.zero_testBit]; rfl
  | b :: bs, 0 => by
    show (b.toNat + 2 * maskB bs).testBit 0 = b
    rw [Nat.testBit_zero]
    cases b
    · exact decide_eq_false (by show ¬ (0 + 2 * maskB bs) % 2 = 1; omega)
    · exact decide_eq_true (by show (1 + 2 * maskB bs) % 2 = 1; omega)
  | b :: bs, j + 1 => by
    show (b.toNat + 2 * maskB bs).testBit (j + 1) = bs.getD j false
    have e : (b.toNat + 2 * maskB bs) / 2 = maskB bs := by
      have hb : b.toNat ≤ 1 := by cases b <;> decide
      omega
    rw [← halfBit, e, maskB_bit bs j]
theorem maskB_snoc : ∀ (bs : List Bool) (b : Bool), maskB (bs ++ [b]) = maskB bs + b.toNat <<< bs.length
  | [], b => by show b.toNat + 2 * 0 = 0 + b.toNat <<< 0; rw [Nat.shiftLeft_eq]; omega
  | a :: bs, b => by
    show a.toNat + 2 * maskB (bs ++ [b]) = a.toNat + 2 * maskB bs + b.toNat <<< (bs.length + 1)
    rw [maskB_snoc bs b, Nat.shiftLeft_eq, Nat.shiftLeft_eq, Nat.pow_succ, ← Nat.mul_assoc]; omega
theorem NShl_bit {b : Bool} {k : Nat} (h : k < 1000000) : NShl b.toNat k := by
  unfold NShl
  have : b.toNat.log2 = 0 := by cases b <;> decide
  omega
abbrev Mach := Nat × List (Nat × Nat) × List (Nat × Nat)
def bitf (p : Nat × Nat) (s r : Nat) : Bool := xor (par (p.1 &&& s)) (par (p.2 &&& r))
def bitsV (ps : List (Nat × Nat)) (s r : Nat) : Nat := maskB (ps.map fun p => bitf p s r)
theorem bitsV_lt (ps : List (Nat × Nat)) (s r : Nat) : bitsV ps s r < 2 ^ ps.length := by
  have := maskB_lt (ps.map fun p => bitf p s r)
  rwa [List.length_map] at this
theorem bitsV_bit (ps : List (Nat × Nat)) (s r j : Nat) : (bitsV ps s r).testBit j = (decide (j < ps.length) && bitf (ps.getD j (0, 0)) s r) := by
  unfold bitsV
  rw [maskB_bit, List.getD_eq_getElem?_getD, List.getD_eq_getElem?_getD, List.getElem?_map]
  by_cases h : j < ps.length
  · rw [List.getElem?_eq_getElem h, decide_eq_true h]; simp
  · rw [List.getElem?_eq_none (by omega), decide_eq_false h]; rfl
structure MOk (M : Mach) : Prop where
  i : M.1 ≤ 6
  n : M.2.1.length ≤ 120
  o : M.2.2.length ≤ 6
  mn : ∀ p ∈ M.2.1, p.1 < 2 ^ M.2.1.length ∧ p.2 < 2 ^ M.1
  mo : ∀ p ∈ M.2.2, p.1 < 2 ^ M.2.1.length ∧ p.2 < 2 ^ M.1
def nextV (M : Mach) (s r : Nat) : Nat := bitsV M.2.1 s r
def outV (M : Mach) (s r : Nat) : Nat := bitsV M.2.2 s r
def walkV (M : Mach) (rows : List Nat) (s : Nat) : List Nat × Nat := rows.foldl (fun t r => (t.1 ++ [outV M t.2 r], nextV M t.2 r)) ([], s)
theorem walkF_len (M : Mach) : ∀ (rows : List Nat) (t : List Nat × Nat), (rows.foldl (fun t r => (t.1 ++ [outV M t.2 r], nextV M t.2 r)) t).1.length = t.1.length + rows.length
  | [], t => rfl
  | r :: rows, t => by
    rw [List.foldl_cons, walkF_len M rows, List.length_append]
    show t.1.length + 1 + rows.length = t.1.length + (rows.length + 1)
    omega
theorem walkV_len (M : Mach) (rows : List Nat) (s : Nat) : (walkV M rows s).1.length = rows.length := by
  unfold walkV; rw [walkF_len]; exact Nat.zero_add _
theorem walkF_lt {M : Mach} : ∀ (rows : List Nat) (t : List Nat × Nat), t.2 < 2 ^ M.2.1.length → (rows.foldl (fun t r => (t.1 ++ [outV M t.2 r], nextV M t.2 r)) t).2 < 2 ^ M.2.1.length
  | [], t, h => h
  | r :: rows, t, h => walkF_lt rows _ (bitsV_lt ..)
theorem walkV_lt {M : Mach} {rows : List Nat} {s : Nat} (h : s < 2 ^ M.2.1.length) : (walkV M rows s).2 < 2 ^ M.2.1.length := walkF_lt rows ([], s) h
theorem walkV_snoc (M : Mach) (rows : List Nat) (r s : Nat) : walkV M (rows ++ [r]) s = ((walkV M rows s).1 ++ [outV M (walkV M rows s).2 r], nextV M (walkV M rows s).2 r) := by
  unfold walkV; rw [List.foldl_append]; rfl
def okA (x : An) (w : Nat) : Prop := ∃ n : Nat, x = An.i (n : Int) ∧ n < 2 ^ w
def fineA : An → Prop
  | .o T => T ≠ "int" ∧ T ≠ "bool"
  | _ => True
theorem isA_int (x : An) (h : fineA x) : (isA "int" x = true ∧ ¬ isA "bool" x = true) ↔ ∃ z : Int, x = An.i z := by
  cases x with
  | i z => exact ⟨fun _ => ⟨z, rfl⟩, fun _ => by simp [isA, An.ty]⟩
  | b b => exact ⟨fun q => absurd (by simp [isA, An.ty]) q.2, fun ⟨z, e⟩ => by cases e⟩
  | n => exact ⟨fun q => absurd q.1 (by simp [isA, An.ty]), fun ⟨z, e⟩ => by cases e⟩
  | s t => exact ⟨fun q => absurd q.1 (by simp [isA, An.ty]), fun ⟨z, e⟩ => by cases e⟩
  | l t => exact ⟨fun q => absurd q.1 (by simp [isA, An.ty]), fun ⟨z, e⟩ => by cases e⟩
  | t t => exact ⟨fun q => absurd q.1 (by simp [isA, An.ty]), fun ⟨z, e⟩ => by cases e⟩
  | o T =>
    refine ⟨fun q => absurd q.1 ?_, fun ⟨z, e⟩ => by cases e⟩
    obtain ⟨h1, h2⟩ := h
    unfold isA An.ty
    simp [h1, h2]
section
variable {α : Type}
theorem enumT_snd (xs : List α) : (enumT xs).map (·.2) = xs := by
  unfold enumT
  exact List.map_snd_zip (by rw [List.length_range]; exact Nat.le_refl _)
theorem enumT_split {xs : List α} {pre post : List (Nat × α)} {x : Nat × α} (h : enumT xs = pre ++ x :: post) : x.1 = pre.length ∧ xs = pre.map (·.2) ++ x.2 :: post.map (·.2) := by
  constructor
  · have e := enumT_get xs pre.length
    rw [h, List.getElem?_append_right (Nat.le_refl _), Nat.sub_self] at e
    have e' : some x = xs[pre.length]?.map fun y => (pre.length, y) := e
    cases q : xs[pre.length]? with
    | none => rw [q] at e'; cases e'
    | some y => rw [q] at e'; cases e'; rfl
  · have e := enumT_snd xs
    rw [h, List.map_append, List.map_cons] at e
    exact e.symm
theorem w_bits {ps : List α} {body : Nat × α → Nat → (Nat → Prop) → (Nat → Prop) → Prop} {k : Nat → Prop} (f : α → Bool) (hb : ∀ pre p post nx bk, ps = pre ++ p :: post → nx (maskB ((pre ++ [p]).map f)) → body (pre.length, p) (maskB (pre.map f)) nx bk) (hk : k (maskB (ps.map f))) : forW (enumT ps) 0 body k := by
  refine forW_ind (fun pre s => s = maskB ((pre.map (·.2)).map f)) rfl (fun pre x post s nx bk e hs hn _ => ?_) fun s hs => ?_
  · obtain ⟨e1, e2⟩ := enumT_split e
    obtain ⟨i, p⟩ := x
    have e1' : i = pre.length := e1
    subst hs e1'
    have := hb (pre.map (·.2)) p (post.map (·.2)) nx bk e2 (hn _ (by rw [List.map_append, List.map_append, List.map_append]; rfl))
    rwa [List.length_map] at this
  · rw [hs, enumT_snd]; exact hk
theorem forW_enum {S : Type} {ps : List α} {s : S} {body : Nat × α → S → (S → Prop) → (S → Prop) → Prop} {k : S → Prop} (P : List α → S → Prop) (h0 : P [] s)
    (hb : ∀ pre p post s nx bk, ps = pre ++ p :: post → P pre s → (∀ s', P (pre ++ [p]) s' → nx s') → body (pre.length, p) s nx bk) (hk : ∀ s, P ps s → k s) : forW (enumT ps) s body k := by
  refine forW_ind (fun pre s => P (pre.map (·.2)) s) h0 (fun pre x post s nx bk e hs hn _ => ?_) fun s hs => ?_
  · obtain ⟨e1, e2⟩ := enumT_split e
    obtain ⟨i, p⟩ := x
    have e1' : i = pre.length := e1
    subst e1'
    have := hb (pre.map (·.2)) p (post.map (·.2)) s nx bk e2 hs (fun s' h => hn s' (by rw [List.map_append]; exact h))
    rwa [List.length_map] at this
  · rw [enumT_snd] at hs; exact hk s hs
end
def fsts (ps : List (Nat × Nat)) : List Nat := ps.map (·.1)
def snds (ps : List (Nat × Nat)) : List Nat := ps.map (·.2)
def backV (M : Mach) (m : Nat) : Nat × Nat := (comb (fsts M.2.1) m, comb (snds M.2.1) m)
theorem back_lt {M : Mach} (h : MOk M) (m : Nat) : (backV M m).1 < 2 ^ M.2.1.length ∧ (backV M m).2 < 2 ^ M.1 := by
  constructor
  · refine comb_lt fun r hr => ?_
    obtain ⟨p, hp, e⟩ := List.mem_map.mp (show r ∈ List.map _ _ from hr)
    rw [← e]; exact (h.mn p hp).1
  · refine comb_lt fun r hr => ?_
    obtain ⟨p, hp, e⟩ := List.mem_map.mp (show r ∈ List.map _ _ from hr)
    rw [← e]; exact (h.mn p hp).2
theorem back_fold (ps : List (Nat × Nat)) (m : Nat) : ∀ k, k ≤ ps.length → (bl k m).foldl (fun (t : Nat × Nat) p => (t.1 ^^^ (ps.getD p (0, 0)).1, t.2 ^^^ (ps.getD p (0, 0)).2)) (0, 0) = (comb (fsts (ps.take k)) m, comb (snds (ps.take k)) m)
  | 0, _ => rfl
  | k + 1, hk => by
    have e2 : ps.take (k + 1) = ps.take k ++ [ps[k]'(by omega)] := List.take_succ_eq_append_getElem (by omega)
    have eg : ps.getD k (0, 0) = ps[k]'(by omega) := by rw [List.getD_eq_getElem?_getD, List.getElem?_eq_getElem (by omega)]; rfl
    have el : (ps.take k).length = k := by rw [List.length_take]; omega
    have f1 : fsts (ps.take (k + 1)) = fsts (ps.take k) ++ [(ps[k]'(by omega)).1] := by unfold fsts; rw [e2, List.map_append]; rfl
    have f2 : snds (ps.take (k + 1)) = snds (ps.take k) ++ [(ps[k]'(by omega)).2] := by unfold snds; rw [e2, List.map_append]; rfl
    have n1 : (fsts (ps.take k)).length = k := by unfold fsts; rw [List.length_map, el]
    have n2 : (snds (ps.take k)).length = k := by unfold snds; rw [List.length_map, el]
    rw [bl_snoc, List.foldl_append, back_fold ps m k (by omega), f1, f2, comb_snoc, comb_snoc, n1, n2]
    by_cases q : m.testBit k = true
    · rw [if_pos q, if_pos q, if_pos q, ← eg]; rfl
    · rw [if_neg q, if_neg q, if_neg q, Nat.xor_zero, Nat.xor_zero]; rfl
end Wk
namespace Wk
/-- v behind i turns -/
def itV (f : Nat → Nat) (v : Nat) : Nat → Nat
  | 0 => v
  | i + 1 => f (itV f v i)
theorem itV_add (f : Nat → Nat) (v a : Nat) : ∀ b, itV f v (a + b) = itV f (itV f v a) b
  | 0 => rfl
  | b + 1 => by show f (itV f v (a + b)) = f (itV f (itV f v a) b); rw [itV_add f v a b]
theorem itV_succ (f : Nat → Nat) (v : Nat) (b : Nat) : itV f v (b + 1) = itV f (f v) b := by rw [Nat.add_comm, itV_add]; rfl
structure Lin (f : Nat → Nat) : Prop where
  z : f 0 = 0
  x : ∀ a b, f (a ^^^ b) = f a ^^^ f b
theorem Lin.it {f : Nat → Nat} (h : Lin f) (i : Nat) : Lin (fun v => itV f v i) := by
  induction i with
  | zero => exact ⟨rfl, fun _ _ => rfl⟩
  | succ i ih => exact ⟨by show f (itV f 0 i) = 0; rw [show itV f 0 i = 0 from ih.z, h.z], fun a b => by show f (itV f (a ^^^ b) i) = f (itV f a i) ^^^ f (itV f b i); rw [show itV f (a ^^^ b) i = itV f a i ^^^ itV f b i from ih.x a b, h.x]⟩
/-- a polynomial of the turn, at v -/
def pa (f : Nat → Nat) (v q : Nat) : Nat := if h : q = 0 then 0 else (if q.testBit 0 = true then v else 0) ^^^ pa f (f v) (q / 2)
termination_by q
decreasing_by omega
section
variable {f : Nat → Nat}
/-- the states one behind another -/
def orb (f : Nat → Nat) (v k : Nat) : List Nat := (List.range k).map (itV f v)
theorem orb_len (v k : Nat) : (orb f v k).length = k := by unfold orb; rw [List.length_map, List.length_range]
theorem orb_take (v : Nat) {j k : Nat} (h : j ≤ k) : (orb f v k).take j = orb f v j := by
  unfold orb
  rw [← List.map_take, List.take_range, Nat.min_eq_left h]
theorem orb_getD (v : Nat) {j k : Nat} (h : j < k) : (orb f v k).getD j 0 = itV f v j := by
  unfold orb
  rw [List.getD_eq_getElem?_getD, List.getElem?_map, List.getElem?_range h]; rfl
theorem split_top {k q : Nat} (h : q < 2 ^ (k + 1)) : q = (q % 2 ^ k) ^^^ (if q.testBit k = true then 2 ^ k else 0) := Nat.eq_of_testBit_eq fun i => by
  rw [Nat.testBit_xor, Nat.testBit_mod_two_pow]
  by_cases c : q.testBit k = true
  · rw [if_pos c, Nat.testBit_two_pow]
    by_cases o : i = k
    · subst o; rw [c]; simp
    · by_cases o2 : i < k
      · rw [decide_eq_true o2, decide_eq_false (fun z => o z.symm)]; simp
      · rw [decide_eq_false o2, decide_eq_false (fun z => o z.symm), testBit_big h (by omega)]; rfl
  · rw [if_neg c, Nat.zero_testBit]
    by_cases o2 : i < k
    · rw [decide_eq_true o2]; simp
    · rw [decide_eq_false o2]
      by_cases o : i = k
      · subst o; simpa using c
      · rw [testBit_big h (by omega)]; rfl
end
theorem two_pow_range {n : Nat} {g : Nat → Nat} (hg : Lin g) : ∀ {x : Nat}, x < 2 ^ n → comb ((List.range n).map fun k => g (2 ^ k)) x = g x := by
  induction n with
  | zero =>
    intro x h
    have : x = 0 := by simpa using h
    subst this; rw [comb_zero, hg.z]
  | succ n ih =>
    intro x h
    have hl : x % 2 ^ n < 2 ^ n := Nat.mod_lt _ (Nat.two_pow_pos n)
    rw [List.range_succ, List.map_append]
    show comb (_ ++ [g (2 ^ n)]) x = _
    rw [comb_snoc, List.length_map, List.length_range]
    have e1 : comb ((List.range n).map fun k => g (2 ^ k)) x = comb ((List.range n).map fun k => g (2 ^ k)) (x % 2 ^ n) := comb_ext fun j hj => by
      rw [List.length_map, List.length_range] at hj
      rw [Nat.testBit_mod_two_pow, decide_eq_true hj, Bool.true_and]
    rw [e1, ih hl]
    conv => rhs; rw [split_top h]
    rw [hg.x]
    congr 1
    by_cases c : x.testBit n = true
    · rw [if_pos c, if_pos c]
    · rw [if_neg c, if_neg c, hg.z]
/-- the turn with rows 0 -/
theorem lin_bits (ps : List (Nat × Nat)) : Lin (fun s => bitsV ps s 0) := by
  have b0 : ∀ p s, bitf p s 0 = par (p.1 &&& s) := fun p s => by unfold bitf; rw [Nat.and_zero, par_zero]; simp
  constructor
  · refine Nat.eq_of_testBit_eq fun j => ?_
    rw [bitsV_bit, b0, Nat.and_zero, par_zero, Nat.zero_testBit]; simp
  · intro a b
    refine Nat.eq_of_testBit_eq fun j => ?_
    have ax : ∀ c a b : Nat, c &&& (a ^^^ b) = (c &&& a) ^^^ (c &&& b) := fun c a b => Nat.eq_of_testBit_eq fun i => by
      rw [Nat.testBit_and, Nat.testBit_xor, Nat.testBit_xor, Nat.testBit_and, Nat.testBit_and]
      cases a.testBit i <;> cases b.testBit i <;> cases c.testBit i <;> rfl
    rw [Nat.testBit_xor, bitsV_bit, bitsV_bit, bitsV_bit, b0, b0, b0, ax, par_xor]
    cases decide (j < ps.length) <;> simp
theorem itV_lt {f : Nat → Nat} {n : Nat} (hf : ∀ s, f s < 2 ^ n) {v : Nat} (hv : v < 2 ^ n) : ∀ i, itV f v i < 2 ^ n
  | 0 => hv
  | i + 1 => hf _
end Wk
namespace Wk
open PySem L2
end Wk
namespace Wk
open PySem L2
/-- a text of one sign -/
def sg (c : Nat) : Str := ⟨#[c]⟩
end Wk
namespace Wk
open PySem L2
/-- what a call has made -/
def NLst (o : HO) : Prop := ∀ vs, o ≠ .lst vs
/-- what stands in a region is new and not in F, or is in F and no list -/
abbrev NewOr (H0 F G : Hp) : Prop := ∀ a o, G a = some o → (H0 a = none ∧ F a = none) ∨ (F a = some o ∧ NLst o)
structure RG (H0 F H G : Hp) : Prop where
  z : NewOr H0 F G
  h : Ex G H
/-- the same, its lists changed: each has grown by at most k -/
structure RD (H0 F H G : Hp) (k : Nat) : Prop where
  z : NewOr H0 F G
  c : ∀ a o, G a = some o → ∃ o', H a = some o'
  l : ∀ a vs, G a = some (.lst vs) → ∃ ws, H a = some (.lst ws) ∧ ws.length ≤ vs.length + k
/-- but for its lists -/
def nl (G : Hp) : Hp := fun a => match G a with | some (.lst _) => none | o => o
section
variable {α β γ : Type} {e : Rep α} {f : Rep β} {k3 : Rep γ} {K : PySem.W.Frag} {σ : L2.St} {F0 H0 F F' F2 H H' H2 G : Hp} {p q : Addr} {v u : V} {x : α} {xs : List α} {Q : VK} {to : TE} {tA : TA} {vs : List V} {o : HO} {k : Nat}
theorem NewOr.lst (z : NewOr H0 F G) {vs : List V} (e : G p = some (.lst vs)) : H0 p = none ∧ F p = none := (z p _ e).resolve_right fun q => q.2 vs rfl
theorem NewOr.step (z : NewOr H0 F G) (c : ∀ a o, G a = some o → ∃ o', H a = some o') (w : Wf F H F' H') : NewOr H0 F' G := fun a o e => by
  rcases z a o e with ⟨h0, hn⟩ | ⟨h1, h2⟩
  · refine .inl ⟨h0, ?_⟩
    cases q : F' a with
    | none => rfl
    | some u =>
      obtain ⟨o', h⟩ := c a o e
      have := w.n a u q hn
      rw [h] at this
      cases this
  · exact .inr ⟨w.g _ _ h1, h2⟩
theorem NewOr.frzO (z : NewOr H0 F G) (fz : Fz F F' p) (hq : G p = none) (g : Ex F F') : NewOr H0 F' G := fun a o e => by
  rcases z a o e with ⟨h0, hn⟩ | ⟨h1, h2⟩
  · exact .inl ⟨h0, fz a (ne_of_none e hq) hn⟩
  · exact .inr ⟨g _ _ h1, h2⟩
theorem RG.step (g : RG H0 F H G) (w : Wf F H F' H') : RG H0 F' H' G := ⟨g.z.step (fun a o e => ⟨o, g.h a o e⟩) w, g.h.tr w.h⟩
theorem RG.ne (g : RG H0 F H G) (h : H q = none) : G q = none := g.h.non h
theorem RG.frzO (g : RG H0 F H G) (fz : Fz F F' p) (hq : G p = none) (x : Ex F F') : RG H0 F' H G := ⟨g.z.frzO fz hq x, g.h⟩
theorem RG.kept (g : RG H0 F H G) (h : ∀ q o, H q = some o → q ≠ p → H' q = some o) (hq : G p = none) : RG H0 F H' G := ⟨g.z, fun a o e => h a o (g.h a o e) (ne_of_none e hq)⟩
theorem RD.step (g : RD H0 F H G k) (w : Wf F H F' H') : RD H0 F' H' G k := by
  refine ⟨g.z.step g.c w, fun a o e => ?_, fun a vs e => ?_⟩
  · obtain ⟨o', h⟩ := g.c a o e
    exact ⟨o', w.h _ _ h⟩
  · obtain ⟨ws, h1, h2⟩ := g.l a vs e
    exact ⟨ws, w.h _ _ h1, h2⟩
theorem RD.ne (g : RD H0 F H G k) (h : H q = none) : G q = none := by
  cases e : G q with
  | none => rfl
  | some o => obtain ⟨o', z⟩ := g.c q o e; rw [h] at z; cases z
theorem RD.frzO (g : RD H0 F H G k) (fz : Fz F F' p) (hq : G p = none) (x : Ex F F') : RD H0 F' H G k := ⟨g.z.frzO fz hq x, g.c, g.l⟩
theorem RD.kept (g : RD H0 F H G k) (h : ∀ q o, H q = some o → q ≠ p → H' q = some o) (hq : G p = none) : RD H0 F H' G k := by
  refine ⟨g.z, fun a o e => ?_, fun a vs e => ?_⟩
  · obtain ⟨o', z⟩ := g.c a o e
    exact ⟨o', h a o' z (ne_of_none e hq)⟩
  · obtain ⟨ws, h1, h2⟩ := g.l a vs e
    exact ⟨ws, h _ _ h1 (ne_of_none e hq), h2⟩
theorem RG.rd (g : RG H0 F H G) : RD H0 F H G 0 := ⟨g.z, fun a o e => ⟨o, g.h a o e⟩, fun a vs e => ⟨vs, g.h a _ e, Nat.le_refl _⟩⟩
/-- both heaps together -/
def un (F G : Hp) : Hp := fun a => match F a with | some o => some o | none => G a
theorem un_l {F G : Hp} : Ex F (un F G) := fun a o e => by unfold un; rw [e]
theorem RG.un_r (g : RG H0 F H G) : Ex G (un F G) := fun a o e => by
  unfold un
  rcases g.z a o e with ⟨_, hn⟩ | ⟨h1, _⟩
  · rw [hn]; exact e
  · rw [h1]
theorem RG.frz (g : RG H0 F H G) (w : Wf F0 H0 F H) : Wf F0 H0 (un F G) H := ⟨w.h, fun a o e => by
    unfold un at e
    cases q : F a with
    | some u => rw [q] at e; cases e; exact w.f a _ q
    | none => rw [q] at e; exact g.h a o e, w.g.tr un_l, fun a o e e0 => by
    unfold un at e
    cases q : F a with
    | some u => exact w.n a u q e0
    | none => rw [q] at e; exact (g.z a o e).elim (fun y => y.1) fun y => by rw [y.1] at q; cases q⟩
theorem RG.frzE (g : RG H0 F H G) (w : Wf F0 H0 F H) : ∃ F', Wf F0 H0 F' H ∧ Ex F F' ∧ Ex G F' ∧ (∀ q, G q = none → F q = none → F' q = none) :=
  ⟨_, g.frz w, un_l, g.un_r, fun q h x => by unfold un; rw [x]; exact h⟩
theorem RG.lend (g : RG H0 F H G) (w : Wf F0 H0 F H) : ∃ Fl, Ex Fl H ∧ Ex F Fl ∧ Ex G Fl := ⟨_, (g.frz w).f, un_l, g.un_r⟩
/-- behind a call -/
theorem RG.of (w : Wf F0 H0 F H) (sf : Ex F2 H2) : RG H0 F H2 (nw H F2) := by
  have key : ∀ a o, nw H F2 a = some o → H a = none := fun a o e => by
    unfold nw at e
    by_cases c : H a = none
    · exact c
    · rw [if_neg c] at e; cases e
  exact ⟨fun a o e => .inl ⟨w.h.non (key a o e), w.f.non (key a o e)⟩, fun a o e => sf a o (nw_sub a o e)⟩
def NoL {α : Type} (e : Rep α) : Prop := ∀ {F : Hp} {v : V} {x : α}, e.r F v x → e.r (Wk.nl F) v x
theorem NoL.N : NoL pN := fun r => r
theorem NoL.all (h : NoL e) : ∀ {vs : List V} {xs : List α}, All e F vs xs → All e (Wk.nl F) vs xs
  | [], [], _ => trivial
  | _ :: _, _ :: _, ⟨a, b⟩ => ⟨h a, NoL.all h b⟩
  | [], _ :: _, q => q.elim
  | _ :: _, [], q => q.elim
def rMin2 : List V → Hp → VK → Prop := fun xs H Q => ∃ i j, xs = [.int i, .int j] ∧ Q (.int (if j < i then j else i)) H
theorem vn_min2 {a b : Nat} {ta tb : TE} (ha : Val ta σ H (.int (a : Int))) (hb : Val tb σ H (.int (b : Int))) : Val (tCB rMin2 (tCons ta (tCons tb tNil))) σ H (.int ((min a b : Nat) : Int)) := fun Q k =>
  ha _ (hb _ ⟨_, _, rfl, by
    have e : (if (b : Int) < (a : Int) then (b : Int) else (a : Int)) = ((min a b : Nat) : Int) := by
      by_cases h : b < a
      · rw [if_pos (by omega)]; omega
      · rw [if_neg (by omega)]; omega
    rw [e]; exact k⟩)
def rDivmod : List V → Hp → VK → Prop := fun xs H Q => ∃ i j, xs = [.int i, .int j] ∧ CDivP i j ∧ ∀ p, H p = none → Q (.ref p) (upd H p (.tup [.int (i / j), .int (i % j)]))
theorem nDivmod {a b : Nat} (hs : NDiv b) (w : Wf F0 H0 F H) (k : ∀ v F' H', Wf F H F' H' → (pT2 pN pN).r F' v (a / b, a % b) → Q v H') : rDivmod [.int (a : Int), .int (b : Int)] H Q :=
  ⟨a, b, rfl, ⟨by have := hs.1; omega, PyProof.noPylong_of_log2 hs.2⟩, fun p hp => k _ _ _ (Wf.new w.f hp) ⟨p, _, _, rfl, upd_same, show V.int _ = V.int _ from rfl, show V.int _ = V.int _ from rfl⟩⟩
theorem get_list {X : Cx} : PGet X (rIxL X.K) := by
  intro pins s σ H o i ov iv Q I ro ri h
  obtain ⟨p, xs, i, z, rfl, rfl, hq, he, q⟩ := h
  cases ro
  obtain ⟨t, rfl⟩ := ri
  obtain ⟨its, r, pl, hz⟩ := I.list hq
  obtain ⟨j, h1, h2, h3, h4, h5⟩ := atI_get he
  obtain ⟨w, ew, rw'⟩ := r.get h2
  have hl := r.length
  have hn := line63
  have fin : EP X pins σ Q w s := ⟨z, H, I, rw', q⟩
  by_cases h0 : 0 ≤ i
  · have hj : i.toNat = j := by
      rw [seqIndex_of h0 h5] at h1
      exact Option.some.inj h1
    exact wpAny_getItem_list pl.isList h0 (by omega) (by rw [hj]; simpa using ew) fin
  · have hj : (i + (its.toArray.size : Int)).toNat = j := by
      rw [seqIndex_neg (by omega) h4] at h1
      rw [List.size_toArray, ← hl]
      exact Option.some.inj h1
    exact wpAny_getItem_list_neg pl.isList (by omega) (by rw [List.size_toArray] <;> omega) (by omega) (by rw [hj]; simpa using ew) fin
/-- xs[i] op= y, of numbers -/
theorem a_laug {D : Ends} {ti tb : TE} {tip : TIp} {xs : List Nat} {i y b z : Nat} (x : XL pN H0 F H p xs) (w : Wf F0 H0 F H) (hx : xs[i]? = some y) (ho : Val to σ H (.ref p)) (hi : Val ti σ H (.int (i : Int))) (hb : Val tb σ H (.int (b : Int)))
    (hz : ∀ Q : VK, Q (.int (z : Int)) H → tip (.int (y : Int)) (.int (b : Int)) H Q)
    (kk : ∀ H', Wf F0 H0 F H' → XL pN H0 F H' p (xs.set i z) → (∀ q o, H q = some o → q ≠ p → H' q = some o) → D.nx σ H') : tAugS to ti tb (rIxL K) tip rSetL D σ H := by
  obtain ⟨vs, a, al⟩ := x.x
  obtain ⟨u, h1, h2⟩ := al.get hx
  have h2' : u = .int (y : Int) := h2
  subst h2'
  have hlt : i < vs.length := by
    rcases Nat.lt_or_ge i vs.length with q | q
    · exact q
    · rw [List.getElem?_eq_none q] at h1; cases h1
  refine ho _ (hi _ ⟨p, vs, _, _, rfl, rfl, SqL.of a.h, atI_nat h1, hb _ (hz _ ⟨p, vs, _, i, rfl, rfl, a.h, ?_, ?_⟩)⟩)
  · unfold ixN
    rw [if_pos (by omega), if_pos (by omega)]; rfl
  · exact kk _ (w.set a) ⟨_, a.set, al.set i (show pN.r F (.int (z : Int)) z from rfl)⟩ fun q o h hq => by rw [upd_ne hq]; exact h
end
class Dao {α : Type} (e : Rep α) (lv : outParam Nat) where
  ok : α → Prop
  d : α → PyData
  dp : ∀ {K : PySem.W.Frag} {F : Hp} {v : V} {x : α}, e.r F v x → Dp K F v (d x)
  lay : ∀ x, ok x → (d x).canLay0 = true
  dep : ∀ x, (d x).depth ≤ lv
  inj : ∀ x y, PyData.eqv (d x) (d y) = true ↔ x = y
def okS (x : Str) : Prop := PyData.canLay0 (.str x) = true
instance : Dao pI 0 := ⟨fun _ => True, Dat.d pI, Dat.dp, fun x _ => Dat.lay (e := pI) x, Dat.dep, Dat.inj⟩
instance : Dao pN 0 := ⟨fun _ => True, Dat.d pN, Dat.dp, fun x _ => Dat.lay (e := pN) x, Dat.dep, Dat.inj⟩
instance : Dao pB 0 := ⟨fun _ => True, Dat.d pB, Dat.dp, fun x _ => Dat.lay (e := pB) x, Dat.dep, Dat.inj⟩
instance : Dao pS 0 := ⟨okS, .str, fun h => by cases (show _ = V.str _ from h); exact .str _, fun _ h => h, fun _ => Nat.le_refl _, fun x y => by
  show ((x == y) = true) ↔ _
  exact beq_iff_eq⟩
theorem lay_allO {α : Type} {d : α → PyData} {ok : α → Prop} (h : ∀ x, ok x → (d x).canLay0 = true) : ∀ xs : List α, (∀ x ∈ xs, ok x) → PyData.canLayAll0 (xs.map d) = true
  | [], _ => rfl
  | x :: xs, q => by
    show (PyData.canLay0 (d x) && PyData.canLayAll0 (xs.map d)) = true
    rw [h x (q x (List.mem_cons_self ..)), lay_allO h xs fun y hy => q y (List.mem_cons_of_mem _ hy)]; rfl
theorem dp_allO {α : Type} {e : Rep α} {lv : Nat} [Dao e lv] {K : PySem.W.Frag} {F : Hp} : ∀ {vs : List V} {xs : List α}, All e F vs xs → DpAll K F vs (xs.map (Dao.d e))
  | [], [], _ => .nil
  | _ :: _, _ :: _, ⟨a, b⟩ => .cons (Dao.dp a) (dp_allO b)
  | [], _ :: _, q => q.elim
  | _ :: _, [], q => q.elim
instance {α : Type} {e : Rep α} {n : Nat} [Dao e n] : Dao (pL e) (n + 1) := ⟨fun xs => ∀ x ∈ xs, Dao.ok e x, fun xs => .list (xs.map (Dao.d e)), fun {K F v xs} h => by
    obtain ⟨p, vs, rfl, hp, a⟩ := h
    exact .lst (SqL.of hp) (dp_allO a), fun xs => lay_allO (Dao.lay (e := e)) xs, fun xs => by
    have := dep_all (Dao.dep (e := e)) xs
    simp only [PyData.depth]
    omega, fun xs ys => by
    show PyData.eqvAll (xs.map (Dao.d e)) (ys.map (Dao.d e)) = true ↔ _
    exact eqv_all (Dao.inj (e := e)) xs ys⟩
instance {α : Type} {e : Rep α} {n : Nat} [Dao e n] : Dao (pTL e) (n + 1) := ⟨fun xs => ∀ x ∈ xs, Dao.ok e x, fun xs => .tuple (xs.map (Dao.d e)), fun {K F v xs} h => by
    obtain ⟨p, vs, rfl, hp, a⟩ := h
    exact .tup (SqT.of hp) (dp_allO a), fun xs => lay_allO (Dao.lay (e := e)) xs, fun xs => by
    have := dep_all (Dao.dep (e := e)) xs
    simp only [PyData.depth]
    omega, fun xs ys => by
    show PyData.eqvAll (xs.map (Dao.d e)) (ys.map (Dao.d e)) = true ↔ _
    exact eqv_all (Dao.inj (e := e)) xs ys⟩
instance {α β : Type} {e : Rep α} {f : Rep β} {n m : Nat} [Dao e n] [Dao f m] : Dao (pT2 e f) (max n m + 1) := ⟨fun x => Dao.ok e x.1 ∧ Dao.ok f x.2, fun x => .tuple [Dao.d e x.1, Dao.d f x.2], fun {K F v x} h => by
    obtain ⟨p, u, w, rfl, hp, a, b⟩ := h
    exact .tup (SqT.of hp) (.cons (Dao.dp a) (.cons (Dao.dp b) .nil)), fun x h => by
    show (PyData.canLay0 (Dao.d e x.1) && (PyData.canLay0 (Dao.d f x.2) && PyData.canLayAll0 [])) = true
    rw [Dao.lay _ h.1, Dao.lay _ h.2]; rfl, fun x => by
    have a := Dao.dep (e := e) x.1
    have b := Dao.dep (e := f) x.2
    simp only [PyData.depth, PyData.depthAll]
    omega, fun x y => by
    show (PyData.eqv (Dao.d e x.1) (Dao.d e y.1) && (PyData.eqv (Dao.d f x.2) (Dao.d f y.2) && PyData.eqvAll [] [])) = true ↔ _
    have z : PyData.eqvAll [] [] = true := rfl
    rw [z, Bool.and_true, Bool.and_eq_true, Dao.inj, Dao.inj, Prod.ext_iff]⟩
instance {α β γ : Type} {e : Rep α} {f : Rep β} {g : Rep γ} {n m k : Nat} [Dao e n] [Dao f m] [Dao g k] : Dao (pT3 e f g) (max n (max m k) + 1) := ⟨fun x => Dao.ok e x.1 ∧ Dao.ok f x.2.1 ∧ Dao.ok g x.2.2, fun x => .tuple [Dao.d e x.1, Dao.d f x.2.1, Dao.d g x.2.2], fun {K F v x} h => by
    obtain ⟨p, u, w, y, rfl, hp, a, b, c⟩ := h
    exact .tup (SqT.of hp) (.cons (Dao.dp a) (.cons (Dao.dp b) (.cons (Dao.dp c) .nil))), fun x h => by
    show (PyData.canLay0 (Dao.d e x.1) && (PyData.canLay0 (Dao.d f x.2.1) && (PyData.canLay0 (Dao.d g x.2.2) && PyData.canLayAll0 []))) = true
    rw [Dao.lay _ h.1, Dao.lay _ h.2.1, Dao.lay _ h.2.2]; rfl, fun x => by
    have a := Dao.dep (e := e) x.1
    have b := Dao.dep (e := f) x.2.1
    have c := Dao.dep (e := g) x.2.2
    simp only [PyData.depth, PyData.depthAll]
    omega, fun x y => by
    show (PyData.eqv (Dao.d e x.1) (Dao.d e y.1) && (PyData.eqv (Dao.d f x.2.1) (Dao.d f y.2.1) && (PyData.eqv (Dao.d g x.2.2) (Dao.d g y.2.2) && PyData.eqvAll [] []))) = true ↔ _
    have z : PyData.eqvAll [] [] = true := rfl
    rw [z, Bool.and_true, Bool.and_eq_true, Bool.and_eq_true, Dao.inj, Dao.inj, Dao.inj, Prod.ext_iff, Prod.ext_iff]⟩
instance {α : Type} {e : Rep α} {n : Nat} [Dao e n] : Dao (pAlt (pL e) pN) (n + 1) := ⟨fun x => match x with | .inl xs => ∀ y ∈ xs, Dao.ok e y | .inr _ => True, fun x => match x with | .inl xs => .list (xs.map (Dao.d e)) | .inr m => .int (m : Int), fun {K F v x} h => by
    cases x with
    | inl xs =>
      obtain ⟨p, vs, rfl, hp, a⟩ := (show (pL e).r F v xs from h)
      exact .lst (SqL.of hp) (dp_allO a)
    | inr m => cases (show v = V.int _ from h); exact .int _, fun x h => by
    cases x with
    | inl xs => exact lay_allO (Dao.lay (e := e)) xs h
    | inr m => rfl, fun x => by
    cases x with
    | inl xs =>
      have := dep_all (Dao.dep (e := e)) xs
      simp only [PyData.depth]
      omega
    | inr m => simp only [PyData.depth]; omega, fun x y => by
    cases x with
    | inl xs =>
      cases y with
      | inl ys =>
        show PyData.eqvAll (xs.map (Dao.d e)) (ys.map (Dao.d e)) = true ↔ _
        rw [eqv_all (Dao.inj (e := e)) xs ys]
        exact ⟨fun h => by rw [h], fun h => Sum.inl.inj h⟩
      | inr m => exact ⟨fun h => absurd (show false = true from h) (by decide), fun h => nomatch h⟩
    | inr m =>
      cases y with
      | inl ys => exact ⟨fun h => absurd (show false = true from h) (by decide), fun h => nomatch h⟩
      | inr k =>
        show (((m : Int) == (k : Int)) = true) ↔ _
        rw [beq_iff_eq]
        exact ⟨fun h => by rw [show m = k by omega], fun h => by rw [Sum.inr.inj h]⟩⟩
end Wk
namespace Wk
class Ctx (C : Type) where
  Out : Type
  at_ : Out → C → Prop
instance {α : Type} : Ctx (α → Prop) := ⟨α, fun z c => c z⟩
instance {C E : Type} [Ctx C] [Ctx E] : Ctx (C × E) := ⟨Sum (Ctx.Out C) (Ctx.Out E), fun o d => match o with | .inl o => Ctx.at_ o d.1 | .inr o => Ctx.at_ o d.2⟩
def Det {C : Type} [Ctx C] (W : C → Prop) : Prop := ∀ c, W c → (∀ c', W c') ∨ ∃ o : Ctx.Out C, Ctx.at_ o c ∧ ∀ c', Ctx.at_ o c' → W c'
theorem Det.lf0a {S : Type} (z : S) : Det (fun d : (S → Prop) => d z) := fun d h => .inr ⟨z, h, fun _ q => q⟩
theorem Det.lf0r {C S : Type} [Ctx C] (z : S) : Det (fun d : (C × (S → Prop)) => d.2 z) := fun d h => .inr ⟨Sum.inr z, h, fun _ q => q⟩
theorem Det.lf0rl {C S T : Type} [Ctx C] [Ctx T] (z : S) : Det (fun d : (C × ((S → Prop) × T)) => d.2.1 z) := fun d h => .inr ⟨Sum.inr (Sum.inl z), h, fun _ q => q⟩
section
variable {C α S β : Type} [Ctx C]
theorem Det.and {p : Prop} {W : C → Prop} (h : p → Det W) : Det (fun c => p ∧ W c) := fun c ⟨a, b⟩ => (h a c b).imp (fun q c' => ⟨a, q c'⟩) fun ⟨o, x, y⟩ => ⟨o, x, fun c' q => ⟨a, y c' q⟩⟩
theorem Det.ex {W : α → C → Prop} (h : ∀ x, Det (W x)) : Det (fun c => ∃ x, W x c) := fun c ⟨a, b⟩ => (h a c b).imp (fun q c' => ⟨a, q c'⟩) fun ⟨o, x, y⟩ => ⟨o, x, fun c' q => ⟨a, y c' q⟩⟩
theorem Det.alleq {t : α} {W : α → C → Prop} (h : Det (W t)) : Det (fun c => ∀ x, x = t → W x c) := fun c k => (h c (k t rfl)).imp (fun q c' x e => by subst e; exact q c') fun ⟨o, a, b⟩ => ⟨o, a, fun c' q x e => by subst e; exact b c' q⟩
theorem Det.ite {p : Prop} [Decidable p] {A B : C → Prop} (ha : Det A) (hb : Det B) : Det (fun c => if p then A c else B c) := by
  by_cases h : p
  · intro c k
    have k' : A c := by have := k; simp only [if_pos h] at this; exact this
    exact (ha c k').imp (fun q c' => by show if p then _ else _; rw [if_pos h]; exact q c') fun ⟨o, a, b⟩ => ⟨o, a, fun c' q => by show if p then _ else _; rw [if_pos h]; exact b c' q⟩
  · intro c k
    have k' : B c := by have := k; simp only [if_neg h] at this; exact this
    exact (hb c k').imp (fun q c' => by show if p then _ else _; rw [if_neg h]; exact q c') fun ⟨o, a, b⟩ => ⟨o, a, fun c' q => by show if p then _ else _; rw [if_neg h]; exact b c' q⟩
theorem Det.jn {A : C → (S → Prop) → Prop} {K : S → C → Prop} (hA : Det (fun d : C × (S → Prop) => A d.1 d.2)) (hK : ∀ x, Det (K x)) : Det (fun c => Wk.jn (fun kk => A c kk) (fun x => K x c)) := fun c h => by
  rcases hA (c, fun x => K x c) h with h1 | ⟨o, h2, h3⟩
  · exact .inl fun c' => h1 (c', _)
  · cases o with
    | inl o => exact .inr ⟨o, h2, fun c' q => h3 (c', _) q⟩
    | inr x =>
      rcases hK x c h2 with a | ⟨o, a, b⟩
      · exact .inl fun c' => h3 (c', fun x => K x c') (a c')
      · exact .inr ⟨o, a, fun c' q => h3 (c', fun x => K x c') (b c' q)⟩
/-- a call -/
theorem Det.call {W : (S → Prop) → Prop} {K : S → C → Prop} (hW : Det W) (hK : ∀ x, Det (K x)) : Det (fun c => W (fun x => K x c)) := fun c h => by
  rcases hW (fun x => K x c) h with h1 | ⟨x, h2, h3⟩
  · exact .inl fun c' => h1 _
  · rcases hK x c h2 with a | ⟨o, a, b⟩
    · exact .inl fun c' => h3 (fun x => K x c') (a c')
    · exact .inr ⟨o, a, fun c' q => h3 (fun x => K x c') (b c' q)⟩
theorem Det.for_ {B : C → α → S → (S → Prop) → (S → Prop) → Prop} {K : S → C → Prop} (hB : ∀ x s, Det (fun d : C × ((S → Prop) × (S → Prop)) => B d.1 x s d.2.1 d.2.2)) (hK : ∀ s, Det (K s)) :
    ∀ (xs : List α) (s : S), Det (fun c => forW xs s (fun x s nx bk => B c x s nx bk) (fun s => K s c))
  | [], s => hK s
  | x :: xs, s => fun c h => by
    rcases hB x s (c, (fun s' => forW xs s' (fun x s nx bk => B c x s nx bk) (fun s => K s c)), (fun s => K s c)) h with h1 | ⟨o, h2, h3⟩
    · exact .inl fun c' => h1 (c', _, _)
    · cases o with
      | inl o => exact .inr ⟨o, h2, fun c' q => h3 (c', _, _) q⟩
      | inr o =>
        cases o with
        | inl s' =>
          rcases Det.for_ hB hK xs s' c h2 with a | ⟨o, a, b⟩
          · exact .inl fun c' => h3 (c', _, _) (a c')
          · exact .inr ⟨o, a, fun c' q => h3 (c', _, _) (b c' q)⟩
        | inr s' =>
          rcases hK s' c h2 with a | ⟨o, a, b⟩
          · exact .inl fun c' => h3 (c', _, fun s => K s c') (a c')
          · exact .inr ⟨o, a, fun c' q => h3 (c', _, fun s => K s c') (b c' q)⟩
theorem Det.mono {W : C → Prop} (h : Det W) {c c' : C} (hc : ∀ o : Ctx.Out C, Ctx.at_ o c → Ctx.at_ o c') (hw : W c) : W c' := by
  rcases h c hw with a | ⟨o, a, b⟩
  · exact a c'
  · exact b c' (hc o a)
/-- the way out of a loop goes on with K -/
theorem Det.sub {B : C → (S → Prop) → (S → Prop) → Prop} {K : S → C → Prop} (hB : Det (fun d : C × ((S → Prop) × (S → Prop)) => B d.1 d.2.1 d.2.2)) (hK : ∀ s, Det (K s)) : Det (fun d : C × (S → Prop) => B d.1 d.2 (fun s => K s d.1)) := fun d h => by
  rcases hB (d.1, d.2, fun s => K s d.1) h with h1 | ⟨o, h2, h3⟩
  · exact .inl fun d' => h1 (d'.1, d'.2, _)
  · cases o with
    | inl o => exact .inr ⟨.inl o, h2, fun d' q => h3 (d'.1, d'.2, _) q⟩
    | inr o =>
      cases o with
      | inl s' => exact .inr ⟨.inr s', h2, fun d' q => h3 (d'.1, d'.2, _) q⟩
      | inr s' =>
        rcases hK s' d.1 h2 with a | ⟨o, a, b⟩
        · exact .inl fun d' => h3 (d'.1, d'.2, fun s => K s d'.1) (a d'.1)
        · exact .inr ⟨.inl o, a, fun d' q => h3 (d'.1, d'.2, fun s => K s d'.1) (b d'.1 q)⟩
theorem Det.fst {E : Type} [Ctx E] {W : C → Prop} (h : Det W) : Det (fun d : C × E => W d.1) := fun d k => by
  rcases h d.1 k with a | ⟨o, a, b⟩
  · exact .inl fun d' => a d'.1
  · exact .inr ⟨.inl o, a, fun d' q => b d'.1 q⟩
/-- a while: its test tells by one outcome, too -/
theorem Det.while_ {T : S → (Bool → Prop) → Prop} {B : C → S → (S → Prop) → (S → Prop) → Prop} {K : S → C → Prop} (hT : ∀ s, Det (T s)) (hB : ∀ s, Det (fun d : C × ((S → Prop) × (S → Prop)) => B d.1 s d.2.1 d.2.2)) (hK : ∀ s, Det (K s)) (s : S) :
    Det (fun c => whileW (fun s t => T s t) (fun s nx bk => B c s nx bk) s (fun s => K s c)) := by
  have turn : ∀ u, Det (fun d : C × (S → Prop) => T u fun b => if b = true then B d.1 u d.2 (fun s => K s d.1) else K u d.1) := fun u =>
    Det.call (K := fun b (d : C × (S → Prop)) => if b = true then B d.1 u d.2 (fun s => K s d.1) else K u d.1) (hT u) fun b => Det.ite (Det.sub (B := fun c N k => B c u N k) (hB u) hK) (Det.fst (hK u))
  intro c ⟨I, ⟨m, hm⟩, hI⟩
  suffices go : ∀ m s, I m s → (∀ c', whileW (fun s t => T s t) (fun s nx bk => B c' s nx bk) s (fun s => K s c')) ∨ ∃ o : Ctx.Out C, Ctx.at_ o c ∧ ∀ c', Ctx.at_ o c' → whileW (fun s t => T s t) (fun s nx bk => B c' s nx bk) s (fun s => K s c') from go m s hm
  intro m
  induction m using Nat.strongRecOn with
  | ind m ih =>
    intro s hs
    have now : ∀ c', (∀ N : S → Prop, T s fun b => if b = true then B c' s N (fun s => K s c') else K s c') → whileW (fun s t => T s t) (fun s nx bk => B c' s nx bk) s (fun s => K s c') := fun c' h =>
      ⟨fun _ u => u = s, ⟨0, rfl⟩, fun n u e => by subst e; exact h _⟩
    rcases turn s (c, fun s' => ∃ m', m' < m ∧ I m' s') (hI m s hs) with h1 | ⟨o, h2, h3⟩
    · exact .inl fun c' => now c' fun N => h1 (c', N)
    · cases o with
      | inl o => exact .inr ⟨o, h2, fun c' q => now c' fun N => h3 (c', N) q⟩
      | inr s1 =>
        obtain ⟨m1, hlt, hs1⟩ := h2
        have step : ∀ c', whileW (fun s t => T s t) (fun s nx bk => B c' s nx bk) s1 (fun s => K s c') → whileW (fun s t => T s t) (fun s nx bk => B c' s nx bk) s (fun s => K s c') := fun c' ⟨J, ⟨n1, hn1⟩, hJ⟩ => by
          refine ⟨fun n u => J n u ∨ (u = s ∧ n = n1 + 1), ⟨n1 + 1, .inr ⟨rfl, rfl⟩⟩, fun n u hu => ?_⟩
          rcases hu with hu | ⟨rfl, rfl⟩
          · refine Det.mono (turn u) (c := (c', fun s' => ∃ m', m' < n ∧ J m' s')) (c' := (c', fun s' => ∃ m', m' < n ∧ (J m' s' ∨ (s' = s ∧ m' = n1 + 1)))) (fun o q => ?_) (hJ n u hu)
            cases o with
            | inl o => exact q
            | inr x => obtain ⟨m', a, b⟩ := q; exact ⟨m', a, .inl b⟩
          · exact h3 (c', fun s' => ∃ m', m' < n1 + 1 ∧ (J m' s' ∨ (s' = u ∧ m' = n1 + 1))) ⟨n1, Nat.lt_succ_self _, .inl hn1⟩
        rcases ih m1 hlt s1 hs1 with a | ⟨o, a, b⟩
        · exact .inl fun c' => step c' (a c')
        · exact .inr ⟨o, a, fun c' q => step c' (b c' q)⟩
/-- sorted keys -/
theorem sorted_unique {ys zs : List Nat} (p : ys.Perm zs) (hy : ys.Pairwise (· ≤ ·)) (hz : zs.Pairwise (· ≤ ·)) : ys = zs := p.eq_of_pairwise (fun a b _ _ => Nat.le_antisymm) hy hz
theorem Det.sorted {l : List Nat} {W : List Nat → C → Prop} (h : ∀ ys, Det (W ys)) : Det (fun c => ∀ ys : List Nat, ys.Perm l → ys.Pairwise (· ≤ ·) → W ys c) := by
  have ex : ∃ ys : List Nat, ys.Perm l ∧ ys.Pairwise (· ≤ ·) := ⟨l.mergeSort (fun a b => decide (a ≤ b)), List.mergeSort_perm _ _, by
    have := List.pairwise_mergeSort (le := fun a b => decide (a ≤ b)) (fun a b c h1 h2 => by simp at h1 h2 ⊢; omega) (fun a b => by simp; omega) l
    exact this.imp fun h => by simpa using h⟩
  obtain ⟨ys, hp, hs⟩ := ex
  intro c k
  have un : ∀ zs : List Nat, zs.Perm l → zs.Pairwise (· ≤ ·) → zs = ys := fun zs p s => sorted_unique (p.trans hp.symm) s hs
  rcases h ys c (k ys hp hs) with a | ⟨o, a, b⟩
  · exact .inl fun c' zs p s => by rw [un zs p s]; exact a c'
  · exact .inr ⟨o, a, fun c' q zs p s => by rw [un zs p s]; exact b c' q⟩
theorem Det.tells' {W : (α → Prop) → Prop} (h : Det W) {P : α → Prop} (hp : ∀ R : α → Prop, (∀ z, P z → R z) → W R) : (∀ R, W R) ∨ ∃ z, P z ∧ ∀ R : α → Prop, R z → W R := by
  rcases h P (hp P fun _ q => q) with a | ⟨o, a, b⟩
  · exact .inl a
  · exact .inr ⟨o, a, fun R q => b R q⟩
end
end Wk
namespace Wk
open PySem L2
end Wk
namespace Wk
open PySem L2 ClX
abbrev WireV := Sum (Str × Nat) (Sum (Str × List Str) (Str × Str × Nat))
def pW (I S T : Addr) : Rep WireV := pAlt (pO2 I "name" "number" pS pN) (pAlt (pO2 S "name" "wires" pS (pTL pS)) (pO3 T "name" "wire" "number" pS pS pN))
theorem Md.mono {P : Program} {w : World} {K : PySem.W.Frag} {mg : Str → Option Value} {base : Heap} {CX : CXT} {j k : Nat} {C : Addr} {m : Str} {ps : List Str} {sp : Sp} (M : Md P w K mg base CX j C m ps sp) (h : j ≤ k) : Md P w K mg base CX k C m ps sp := let ⟨f, fd, F, a, b⟩ := M.ex; ⟨f, fd, F.mono h, a, b⟩
def pT4 {α β γ δ : Type} (e : Rep α) (f : Rep β) (g : Rep γ) (h : Rep δ) : Rep (α × β × γ × δ) := ⟨fun F v x => ∃ p u w y z, v = .ref p ∧ F p = some (.tup [u, w, y, z]) ∧ e.r F u x.1 ∧ f.r F w x.2.1 ∧ g.r F y x.2.2.1 ∧ h.r F z x.2.2.2, fun ex ⟨p, u, w, y, z, a, b, c, d, k, l⟩ => ⟨p, u, w, y, z, a, ex _ _ b, e.mono ex c, f.mono ex d, g.mono ex k, h.mono ex l⟩⟩
end Wk
namespace Wk
open PySem L2
section
variable {α : Type} {e : Rep α} {K : PySem.W.Frag} {σ : L2.St} {F0 H0 F H F' H' : Hp} {v : V} {xs : List α} {p q : Addr} {Q : VK} {ta : TE}
theorem BL.made (b : BL e F H p xs) {x dx : Addr} {o o' : HO} (nx : H x = none) (nd : H dx = none) : BL e F (upd (upd H dx o) x o') p xs := by
  obtain ⟨vs, hp, a⟩ := b.x
  exact ⟨vs, by rw [upd_ne (ne_of_none hp nx), upd_ne (ne_of_none hp nd)]; exact hp, a⟩
end
end Wk
namespace Wk
open PySem L2
/-- the heap without some places -/
def woL (H : Hp) (L : List Addr) : Hp := fun a => if a ∈ L then none else H a
section
variable {α β κ : Type} [KeyT κ] {e : Rep α} {F0 H0 F F' H H' : Hp} {L : List Addr} {p d : Addr} {o : HO} {xs : List α} {m : List (κ × α)} {C dx : Addr} {fs : List (Str × V)}
theorem woL_in (h : d ∈ L) : woL H L d = none := if_pos h
theorem woL_out (h : d ∉ L) : woL H L d = H d := if_neg h
theorem woL_sub : Ex (woL H L) H := fun a u q => by
  by_cases c : a ∈ L
  · rw [woL_in c] at q; cases q
  · rw [woL_out c] at q; exact q
theorem Wf.startL (f : Ex F H) (n : ∀ d ∈ L, F d = none) : Wf F (woL H L) F H := ⟨woL_sub, f, Ex.rfl', fun a u h h0 => by rw [h] at h0; cases h0⟩
theorem Xc.toL (x : Xc H0 F H p o) (hp : p ∈ L) : Xc (woL H L) F H p o := ⟨woL_in hp, x.n, x.h⟩
theorem XL.toL (x : XL e H0 F H p xs) (hp : p ∈ L) : XL e (woL H L) F H p xs := let ⟨vs, a, b⟩ := x.x; ⟨vs, a.toL hp, b⟩
theorem XD.toL (x : XD e H0 F H p m) (hp : p ∈ L) : XD e (woL H L) F H p m := let ⟨vs, a, b⟩ := x.x; ⟨vs, a.toL hp, b⟩
theorem Xc.fromL {H1 : Hp} (x : Xc H1 F' H' p o) (z : H0 p = none) : Xc H0 F' H' p o := ⟨z, x.n, x.h⟩
theorem XL.fromL {H1 : Hp} (x : XL e H1 F' H' p xs) (z : H0 p = none) : XL e H0 F' H' p xs := let ⟨vs, a, b⟩ := x.x; ⟨vs, a.fromL z, b⟩
theorem XD.fromL {H1 : Hp} (x : XD e H1 F' H' p m) (z : H0 p = none) : XD e H0 F' H' p m := let ⟨vs, a, b⟩ := x.x; ⟨vs, a.fromL z, b⟩
theorem XL.nF (x : XL e H0 F H p xs) : F p = none := let ⟨_, a, _⟩ := x.x; a.n
theorem XD.nF (x : XD e H0 F H p m) : F p = none := let ⟨_, a, _⟩ := x.x; a.n
/-- behind a method that has changed what stands at L -/
theorem Wf.mcall (w : Wf F0 H0 F H) (hz : ∀ d ∈ L, H0 d = none) (s : Wf F (woL H L) F' H') (hn : ∀ d ∈ L, F' d = none) : Wf F0 H0 F' H' := by
  refine ⟨fun a u h => ?_, s.f, w.g.tr s.g, fun a u h h0 => ?_⟩
  · have hL : a ∉ L := fun q => by rw [hz a q] at h; cases h
    exact s.h a u (by rw [woL_out hL]; exact w.h a u h)
  · cases q : F a with
    | some y => exact w.n a y q h0
    | none =>
      have hL : a ∉ L := fun z => by rw [hn a z] at h; cases h
      have := s.n a u h q
      rw [woL_out hL] at this
      exact w.h.non this
theorem away_h (hp : p ∉ L) (s : Wf F (woL H L) F' H') (h : H p = some o) : H' p = some o := s.h p o (by rw [woL_out hp]; exact h)
theorem Xc.away (x : Xc H0 F H p o) (hp : p ∉ L) (s : Wf F (woL H L) F' H') : Xc H0 F' H' p o := by
  refine ⟨x.z, ?_, away_h hp s x.h⟩
  cases q : F' p with
  | none => rfl
  | some y =>
    have := s.n p y q x.n
    rw [woL_out hp, x.h] at this; cases this
theorem XL.away (x : XL e H0 F H p xs) (hp : p ∉ L) (s : Wf F (woL H L) F' H') : XL e H0 F' H' p xs := let ⟨vs, a, b⟩ := x.x; ⟨vs, a.away hp s, b.mono s.g⟩
theorem XD.away (x : XD e H0 F H p m) (hp : p ∉ L) (s : Wf F (woL H L) F' H') : XD e H0 F' H' p m := let ⟨vs, a, b⟩ := x.x; ⟨vs, a.away hp s, b.mono s.g⟩
theorem BL.away (x : BL e F H p xs) (hp : p ∉ L) (s : Wf F (woL H L) F' H') : BL e F' H' p xs := let ⟨vs, a, b⟩ := x.x; ⟨vs, away_h hp s a, b.mono s.g⟩
theorem BD.away (x : BD e F H p m) (hp : p ∉ L) (s : Wf F (woL H L) F' H') : BD e F' H' p m := let ⟨vs, a, b⟩ := x.x; ⟨vs, away_h hp s a, b.mono s.g⟩
theorem BO.away (x : BO C F H p dx fs) (hp : p ∉ L) (s : Wf F (woL H L) F' H') : BO C F' H' p dx fs := ⟨away_h hp s x.h⟩
theorem nin1 (h : p ≠ d) : p ∉ [d] := fun q => h (List.mem_singleton.mp q)
theorem allL1 {P : Addr → Prop} (h : P d) : ∀ x ∈ [d], P x := fun x hx => by rw [List.mem_singleton.mp hx]; exact h
theorem allL2 {P : Addr → Prop} {d2 : Addr} (h : P d) (h2 : P d2) : ∀ x ∈ [d, d2], P x := fun x hx => (List.mem_cons.mp hx).elim (fun z => by rw [z]; exact h) fun z => by rw [List.mem_singleton.mp z]; exact h2
end
section
variable {α β κ : Type} [DecidableEq κ] [KeyT κ] {e : Rep α} {b : Rep β} {K : PySem.W.Frag} {σ : L2.St} {F0 H0 F H : Hp} {d ob C dx : Addr} {fs : List (Str × V)} {m : List (κ × β)} {Q : VK} {g : TG} {te to : TE} {tc : TT} {vs : List Nat}
theorem DA.got : ∀ {kvs : List (Key × V)} {m : List (κ × β)} {i : Nat} {k : Key} {v : V}, DA b F kvs m → kvs[i]? = some (k, v) → ∃ q, m[i]? = some q ∧ b.r F v q.2
  | [], [], _, _, _, _, h => by simp at h
  | p :: r, q :: s, 0, k, v, ⟨_, c, _⟩, h => by
    simp at h
    subst h
    exact ⟨q, rfl, c⟩
  | p :: r, q :: s, i + 1, k, v, ⟨_, _, c⟩, h => by
    obtain ⟨z, h1, h2⟩ := DA.got (i := i) c (by simpa using h)
    exact ⟨z, by simpa using h1, h2⟩
  | [], _ :: _, _, _, _, q, _ => q.elim
  | _ :: _, [], _, _, _, q, _ => q.elim
/-- things that hold nothing but objects and tuples -/
def NoD {α : Type} (e : Rep α) : Prop := ∀ (F G : Hp) (d : Addr) (v : V) (x : α), (∀ a o, a ≠ d → F a = some o → G a = some o) → (∀ C dx fs, F d ≠ some (.ins C dx fs)) → (∀ us, F d ≠ some (.tup us)) → e.r F v x → e.r G v x
theorem NoD.S : NoD pS := fun _ _ _ _ _ _ _ _ h => h
theorem NoD.N : NoD pN := fun _ _ _ _ _ _ _ _ h => h
theorem NoD.all (n : NoD e) {F G : Hp} {d : Addr} (h : ∀ a o, a ≠ d → F a = some o → G a = some o) (h1 : ∀ C dx fs, F d ≠ some (.ins C dx fs)) (h2 : ∀ us, F d ≠ some (.tup us)) : ∀ {us : List V} {xs : List α}, All e F us xs → All e G us xs
  | [], [], _ => trivial
  | _ :: _, _ :: _, ⟨a, c⟩ => ⟨n F G d _ _ h h1 h2 a, NoD.all n h h1 h2 c⟩
  | [], _ :: _, q => q.elim
  | _ :: _, [], q => q.elim
theorem NoD.TL (n : NoD e) : NoD (pTL e) := fun F G d v x h h1 h2 ⟨p, us, a, b, c⟩ => ⟨p, us, a, h p _ (fun z => h2 us (by rw [← z]; exact b)) b, n.all h h1 h2 c⟩
theorem NoD.O2 {γ : Type} {f : Rep γ} {C : Addr} {a c : Str} (n : NoD e) (k : NoD f) : NoD (pO2 C a c e f) := fun F G d v x h h1 h2 ⟨p, dx, fs, a, b, u, w, q, r1, r2⟩ => ⟨p, dx, fs, a, h p _ (fun z => h1 C dx fs (by rw [← z]; exact b)) b, u, w, q, n F G d _ _ h h1 h2 r1, k F G d _ _ h h1 h2 r2⟩
theorem NoD.O3 {γ δ : Type} {f : Rep γ} {i : Rep δ} {C : Addr} {a c l : Str} (n : NoD e) (k : NoD f) (j : NoD i) : NoD (pO3 C a c l e f i) := fun F G d v x h h1 h2 ⟨p, dx, fs, a, b, u, w, y, q, r1, r2, r3⟩ => ⟨p, dx, fs, a, h p _ (fun z => h1 C dx fs (by rw [← z]; exact b)) b, u, w, y, q, n F G d _ _ h h1 h2 r1, k F G d _ _ h h1 h2 r2, j F G d _ _ h h1 h2 r3⟩
theorem NoD.W {I S T : Addr} : NoD (pW I S T) := fun F G d v x h h1 h2 r => match x, r with
  | .inl _, r => NoD.O2 NoD.S NoD.N F G d v _ h h1 h2 r
  | .inr (.inl _), r => NoD.O2 NoD.S (NoD.TL NoD.S) F G d v _ h h1 h2 r
  | .inr (.inr _), r => NoD.O3 NoD.S NoD.S NoD.N F G d v _ h h1 h2 r
end
def F4s {α β γ δ : Type} (n m l k : Str) (e : Rep α) (f : Rep β) (g : Rep γ) (i : Rep δ) (F : Hp) (fs : List (Str × V)) (x : α × β × γ × δ) : Prop := ∃ u w y t, fs = [(n, u), (m, w), (l, y), (k, t)] ∧ e.r F u x.1 ∧ f.r F w x.2.1 ∧ g.r F y x.2.2.1 ∧ i.r F t x.2.2.2
theorem F4s.mono {α β γ δ : Type} {n m l k : Str} {e : Rep α} {f : Rep β} {g : Rep γ} {i : Rep δ} {F F' : Hp} {fs : List (Str × V)} {x : α × β × γ × δ} (h : Ex F F') : F4s n m l k e f g i F fs x → F4s n m l k e f g i F' fs x := fun ⟨u, w, y, t, a, b, c, d, j⟩ => ⟨u, w, y, t, a, e.mono h b, f.mono h c, g.mono h d, i.mono h j⟩
end Wk
namespace Wk
open PySem L2
section
variable {α : Type} {e : Rep α} {F0 H0 F F' H H' : Hp} {x dx d : Addr} {o u : HO} {xs : List α}
theorem XL.made (r : XL e (wo (upd (upd H dx o) x u) x) F' H' d xs) (hne : d ≠ x) (w : Wf F0 H0 F H) : XL e H0 F' H' d xs ∧ H d = none := by
  have z := r.zero
  rw [wo_ne hne, upd_ne hne] at z
  have hd : d ≠ dx := fun q => by rw [q, upd_same] at z; cases z
  rw [upd_ne hd] at z
  exact ⟨r.fromL (w.h.non z), z⟩
end
end Wk
namespace Wk
open PySem L2
end Wk
namespace Wk
open PySem L2
section
variable {K : PySem.W.Frag} {α : Type} {e : Rep α} {F0 H0 F H : Hp} {v : V} {x : α} {xs : List α} {vs : List V} {p : Addr}
theorem All.gl (a : All e F vs xs) (hx : xs.getLast? = some x) : ∃ w ys, vs = ys ++ [w] ∧ e.r F w x := by
  rw [List.getLast?_eq_getElem?] at hx
  obtain ⟨w, h1, h2⟩ := a.get hx
  rw [← a.len, ← List.getLast?_eq_getElem?] at h1
  obtain ⟨ys, hy⟩ := List.getLast?_eq_some_iff.mp h1
  exact ⟨w, ys, hy, h2⟩
theorem ix_Xm (r : XL e H0 F H p xs) (hx : xs.getLast? = some x) : ∃ w, e.r F w x ∧ ∀ ⦃σ ta tb⦄, Val ta σ H (.ref p) → Val tb σ H (.int (-1)) → Val (tOp (rIxL K) ta tb) σ H w := by
  obtain ⟨vs, hp, a⟩ := r.rd
  obtain ⟨w, ys, rfl, h2⟩ := a.gl hx
  exact ⟨w, h2, fun _ _ _ ha hb => v2 ha hb fun Q k => ⟨p, _, _, w, rfl, rfl, SqL.of hp, atI_last ys w, k⟩⟩
end
end Wk
namespace Wk
open PySem L2
instance {α β γ δ : Type} {e : Rep α} {f : Rep β} {g : Rep γ} {i : Rep δ} {n m k l : Nat} [Dao e n] [Dao f m] [Dao g k] [Dao i l] : Dao (pT4 e f g i) (max n (max m (max k l)) + 1) := ⟨fun x => Dao.ok e x.1 ∧ Dao.ok f x.2.1 ∧ Dao.ok g x.2.2.1 ∧ Dao.ok i x.2.2.2, fun x => .tuple [Dao.d e x.1, Dao.d f x.2.1, Dao.d g x.2.2.1, Dao.d i x.2.2.2], fun {K F v x} h => by
    obtain ⟨p, u, w, y, z, rfl, hp, a, b, c, d⟩ := h
    exact .tup (SqT.of hp) (.cons (Dao.dp a) (.cons (Dao.dp b) (.cons (Dao.dp c) (.cons (Dao.dp d) .nil)))), fun x h => by
    show (PyData.canLay0 (Dao.d e x.1) && (PyData.canLay0 (Dao.d f x.2.1) && (PyData.canLay0 (Dao.d g x.2.2.1) && (PyData.canLay0 (Dao.d i x.2.2.2) && PyData.canLayAll0 [])))) = true
    rw [Dao.lay _ h.1, Dao.lay _ h.2.1, Dao.lay _ h.2.2.1, Dao.lay _ h.2.2.2]; rfl, fun x => by
    have a := Dao.dep (e := e) x.1
    have b := Dao.dep (e := f) x.2.1
    have c := Dao.dep (e := g) x.2.2.1
    have d := Dao.dep (e := i) x.2.2.2
    simp only [PyData.depth, PyData.depthAll]
    omega, fun x y => by
    show (PyData.eqv (Dao.d e x.1) (Dao.d e y.1) && (PyData.eqv (Dao.d f x.2.1) (Dao.d f y.2.1) && (PyData.eqv (Dao.d g x.2.2.1) (Dao.d g y.2.2.1) && (PyData.eqv (Dao.d i x.2.2.2) (Dao.d i y.2.2.2) && PyData.eqvAll [] [])))) = true ↔ _
    have z : PyData.eqvAll [] [] = true := rfl
    rw [z, Bool.and_true, Bool.and_eq_true, Bool.and_eq_true, Bool.and_eq_true, Dao.inj, Dao.inj, Dao.inj, Dao.inj, Prod.ext_iff, Prod.ext_iff, Prod.ext_iff]⟩
end Wk
namespace Wk
open PySem L2
/-- things that are never None -/
def NN {α : Type} (e : Rep α) : Prop := ∀ F v x, e.r F v x → v ≠ .non
section
variable {α β γ δ : Type} {e : Rep α} {f : Rep β} {g : Rep γ} {i : Rep δ}
theorem NN.N : NN pN := fun F v x hv h => by rw [show v = .int (x : Int) from hv] at h; cases h
variable {K : PySem.W.Frag} {σ : L2.St} {F F' H H0 F0 : Hp} {ta tb : TE} {v : V} {z : Option α} {y : α} {Q : VK}
end
end Wk
namespace Wk
open PySem L2
section
variable {α κ : Type} [DecidableEq κ] [KeyT κ] {e : Rep α} {K : PySem.W.Frag} {σ : L2.St} {F0 H0 F H F' H' : Hp} {d p : Addr} {od : Obj} {kvs : List (Key × V)} {m : List (κ × α)} {td ty : TE} {g : TG} {tb : TS} {D : Ends} {v : V} {x : α} {j : κ}
/-- a dict that is locked -/
def pDz (od : Obj) (kvs : List (Key × V)) (e : Rep α) : Rep (List (κ × α)) := ⟨fun F v m => ∃ p, v = .ref p ∧ F p = some (.frz od (.dK kvs)) ∧ DA e F kvs m, fun h ⟨p, a, b, c⟩ => ⟨p, a, h _ _ b, c.mono h⟩⟩
abbrev lk1 (F : Hp) (d : Addr) (od : Obj) (kvs : List (Key × V)) : Hp := upd F d (.frz od (.dK kvs))
theorem lk_ex (f : Ex F H) : Ex (lk1 F d od kvs) (lk1 H d od kvs) := fun a u h => by
  unfold lk1 at *
  by_cases c : a = d
  · subst c; rw [upd_same] at h ⊢; exact h
  · rw [upd_ne c] at h ⊢; exact f a u h
theorem lk_dz (hF : F d = none) (a : DA e F kvs m) : (pDz od kvs e).r (lk1 F d od kvs) (.ref d) m := ⟨d, rfl, upd_same, a.mono (Ex.new hF)⟩
theorem lk_at (w : Wf F0 H0 F' H') (g : Ex (lk1 F d od kvs) F') : H' d = some (.frz od (.dK kvs)) := w.f _ _ (g _ _ upd_same)
/-- for k in d: -/
theorem f_lockK (hd : ∀ H, Val td σ H (.ref d)) (b : BD e F H d m) (k : ∀ (od : Obj) (kvs : List (Key × V)), H d = some (.dK kvs) → DA e F kvs m → kFor g tb ⟨fun σ' H' => H' d = some (.frz od (.dK kvs)) ∧ D.nx σ' (upd H' d (.dK kvs)), fun v H' => H' d = some (.frz od (.dK kvs)) ∧ D.rt v (upd H' d (.dK kvs)), fun σ' H' => H' d = some (.frz od (.dK kvs)) ∧ D.bk σ' (upd H' d (.dK kvs)), fun σ' H' => H' d = some (.frz od (.dK kvs)) ∧ D.ct σ' (upd H' d (.dK kvs))⟩ σ (Itk d od kvs) (lk1 H d od kvs)) : tLock (tFor (iKeys td) g tb) D σ H := by
  obtain ⟨kvs, h, a⟩ := b.x
  exact ⟨d, .dK kvs, h, trivial, fun od => hd _ _ ⟨d, od, rfl, .inl ⟨kvs, upd_same, k od kvs h a⟩⟩⟩
theorem DA.gotK : ∀ {kvs : List (Key × V)} {m : List (κ × α)} {i : Nat} {k : Key} {v : V}, DA e F kvs m → kvs[i]? = some (k, v) → ∃ q, m[i]? = some q ∧ k = KeyT.k q.1
  | [], [], _, _, _, _, h => by simp at h
  | p :: r, q :: s, 0, k, v, ⟨a, _, _⟩, h => by
    simp at h
    subst h
    exact ⟨q, rfl, a⟩
  | p :: r, q :: s, i + 1, k, v, ⟨_, _, c⟩, h => by
    obtain ⟨z, h1, h2⟩ := DA.gotK (i := i) c (by simpa using h)
    exact ⟨z, by simpa using h1, h2⟩
  | [], _ :: _, _, _, _, q, _ => q.elim
  | _ :: _, [], _, _, _, q, _ => q.elim
theorem twk_keys {b : Rep κ} (hk : ∀ F j, b.r F (kV (KeyT.k j)) j) (a : DA e F kvs m) : TWk (Itk d od kvs) (lk1 F d od kvs) b (m.map (·.1)) := by
  have len := a.len
  refine ⟨fun H' => H' d = some (.frz od (.dK kvs)), _, by rw [List.length_map, ← len]; exact walk_keys, fun F' H' h1 h2 => h2 _ _ (h1 _ _ upd_same), fun i H1 v H2 F' hi h1 h2 hy => ?_⟩
  obtain ⟨rfl, k, v, hk2, rfl⟩ := hy
  obtain ⟨q, hq, rq⟩ := a.gotK hk2
  refine ⟨q.1, F', by rw [List.getElem?_map, hq]; rfl, Wf.id h2, ?_⟩
  rw [rq]; exact hk _ _
end
end Wk
namespace Wk
open PySem L2
theorem BL.lend {α : Type} {e : Rep α} {F0 H0 F H : Hp} {p : Addr} {xs : List α} (b : BL e F H p xs) (w : Wf F0 H0 F H) : ∃ Fl, Ex Fl H ∧ Ex F Fl ∧ (pL e).r Fl (.ref p) xs := by
  obtain ⟨vs, h, a⟩ := b.x
  have g : Ex F (upd F p (.lst vs)) := fun q u hq => by
    by_cases c : q = p
    · subst c
      have := w.f _ _ hq
      rw [h] at this; cases this; exact upd_same
    · rw [upd_ne c]; exact hq
  exact ⟨upd F p (.lst vs), fun q u hq => by
    by_cases c : q = p
    · subst c; rw [upd_same] at hq; cases hq; exact h
    · rw [upd_ne c] at hq; exact w.f q u hq, g, p, vs, rfl, upd_same, a.mono g⟩
end Wk
namespace Wk
open PySem L2
end Wk
namespace Wk
open PySem L2 ClX
end Wk
namespace Wk
open PySem L2 ClX
end Wk
namespace Wk
open PySem L2 ClX
/-- the dict of an exception with one field -/
def pXd {α : Type} (f : Str) (e : Rep α) : Rep α := ⟨fun F v z => ∃ d w, v = .ref d ∧ F d = some (.xd [(f, w)]) ∧ e.r F w z, fun h q => by
  obtain ⟨d, w, rfl, hd, r⟩ := q
  exact ⟨d, w, rfl, h _ _ hd, e.mono h r⟩⟩
section
variable {α : Type} {f : Str} {e : Rep α} {F H : Hp} {d a C : Addr} {v w : V} {z : α} {K : PySem.W.Frag} {i : Nat} {σ : L2.St}
theorem pXd.get (r : (pXd f e).r F (.ref d) z) : ∃ w, F d = some (.xd [(f, w)]) ∧ e.r F w z := by
  obtain ⟨d', w, q, hd, r⟩ := r
  cases q
  exact ⟨w, hd, r⟩
theorem pXd.mk (hf : Ex F H) (n : H d = none) (r : e.r F v z) : (pXd f e).r (upd F d (.xd [(f, v)])) (.ref d) z :=
  ⟨d, v, rfl, upd_same, e.mono (Wf.new hf n).g r⟩
end
end Wk
namespace Wk
open PySem PySem.Spec PySem.Calls PyProof.Rows L2 PySem.W
end Wk
namespace Wk
open PySem PySem.Spec PyProof.Rows L2
end Wk
namespace Wk
open PySem L2 ClX
end Wk
namespace Wk
open PySem L2
end Wk
namespace Wk
open PySem L2
/-- a list of two, of three things of unlike kinds -/
def pH2 {α β : Type} (e : Rep α) (f : Rep β) : Rep (α × β) := ⟨fun F v x => ∃ p u w, v = .ref p ∧ F p = some (.lst [u, w]) ∧ e.r F u x.1 ∧ f.r F w x.2, fun h ⟨p, u, w, a, b, c, d⟩ => ⟨p, u, w, a, h _ _ b, e.mono h c, f.mono h d⟩⟩
def pH3 {α β γ : Type} (e : Rep α) (f : Rep β) (g : Rep γ) : Rep (α × β × γ) := ⟨fun F v x => ∃ p u w y, v = .ref p ∧ F p = some (.lst [u, w, y]) ∧ e.r F u x.1 ∧ f.r F w x.2.1 ∧ g.r F y x.2.2, fun h ⟨p, u, w, y, a, b, c, d, k⟩ => ⟨p, u, w, y, a, h _ _ b, e.mono h c, f.mono h d, g.mono h k⟩⟩
section
variable {α β γ : Type} {e : Rep α} {f : Rep β} {g : Rep γ} {K : PySem.W.Frag} {F0 H0 F H : Hp} {v w u : V} {x : α} {y : β} {z : γ} {Q : VK} {n m k : Nat}
instance [Dat e n] [Dat f m] : Dat (pH2 e f) (max n m + 1) := ⟨fun x => .list [Dat.d e x.1, Dat.d f x.2], fun {K F v x} h => by
    obtain ⟨p, u, w, rfl, hp, a, b⟩ := h
    exact .lst (SqL.of hp) (.cons (Dat.dp a) (.cons (Dat.dp b) .nil)), fun x => by
    show (PyData.canLay0 (Dat.d e x.1) && (PyData.canLay0 (Dat.d f x.2) && PyData.canLayAll0 [])) = true
    rw [Dat.lay, Dat.lay]; rfl, fun x => by
    have a := Dat.dep (e := e) x.1
    have b := Dat.dep (e := f) x.2
    simp only [PyData.depth, PyData.depthAll]
    omega, fun x y => by
    show (PyData.eqv (Dat.d e x.1) (Dat.d e y.1) && (PyData.eqv (Dat.d f x.2) (Dat.d f y.2) && PyData.eqvAll [] [])) = true ↔ _
    have z : PyData.eqvAll [] [] = true := rfl
    rw [z, Bool.and_true, Bool.and_eq_true, Dat.inj, Dat.inj, Prod.ext_iff]⟩
instance [Dat e n] [Dat f m] [Dat g k] : Dat (pH3 e f g) (max n (max m k) + 1) := ⟨fun x => .list [Dat.d e x.1, Dat.d f x.2.1, Dat.d g x.2.2], fun {K F v x} h => by
    obtain ⟨p, u, w, y, rfl, hp, a, b, c⟩ := h
    exact .lst (SqL.of hp) (.cons (Dat.dp a) (.cons (Dat.dp b) (.cons (Dat.dp c) .nil))), fun x => by
    show (PyData.canLay0 (Dat.d e x.1) && (PyData.canLay0 (Dat.d f x.2.1) && (PyData.canLay0 (Dat.d g x.2.2) && PyData.canLayAll0 []))) = true
    rw [Dat.lay, Dat.lay, Dat.lay]; rfl, fun x => by
    have a := Dat.dep (e := e) x.1
    have b := Dat.dep (e := f) x.2.1
    have c := Dat.dep (e := g) x.2.2
    simp only [PyData.depth, PyData.depthAll]
    omega, fun x y => by
    show (PyData.eqv (Dat.d e x.1) (Dat.d e y.1) && (PyData.eqv (Dat.d f x.2.1) (Dat.d f y.2.1) && (PyData.eqv (Dat.d g x.2.2) (Dat.d g y.2.2) && PyData.eqvAll [] []))) = true ↔ _
    have z : PyData.eqvAll [] [] = true := rfl
    rw [z, Bool.and_true, Bool.and_eq_true, Bool.and_eq_true, Dat.inj, Dat.inj, Dat.inj, Prod.ext_iff, Prod.ext_iff]⟩
end
end Wk
namespace Wk
open PySem L2
end Wk
namespace Wk
open PySem L2
section
variable {α β γ : Type} {e : Rep α} {f : Rep β} {g : Rep γ} {K : PySem.W.Frag} {F H : Hp} {v : V} {k : Int}
/-- x[k] of a tuple of one of two kinds -/
theorem ix_alt {x : Sum α β} {pa : α → γ} {pb : β → γ} (r : (pAlt e f).r F v x)
    (ga : ∀ a, e.r F v a → ∃ w, g.r F w (pa a) ∧ ∀ ⦃σ ta tb⦄, Val ta σ H v → Val tb σ H (.int k) → Val (tOp (rIxT K) ta tb) σ H w)
    (gb : ∀ b, f.r F v b → ∃ w, g.r F w (pb b) ∧ ∀ ⦃σ ta tb⦄, Val ta σ H v → Val tb σ H (.int k) → Val (tOp (rIxT K) ta tb) σ H w) :
    ∃ w, g.r F w (Sum.elim pa pb x) ∧ ∀ ⦃σ ta tb⦄, Val ta σ H v → Val tb σ H (.int k) → Val (tOp (rIxT K) ta tb) σ H w := by
  cases x with
  | inl a => exact ga a r
  | inr b => exact gb b r
end
end Wk
namespace Wk
open PySem L2
end Wk
namespace Wk
open PySem PySem.Spec PyProof.Rows L2
end Wk
namespace Wk
open PySem PySem.Spec PyProof.Rows L2
/-- reversed(x), the next place i -/
def IsRv (h : Heap) (a : Addr) (x : Str) (t : Tok) (i : Int) : Prop := ∃ ob, h.get? a = some ob ∧ ob.cls = .type "reversed" ∧ ob.data = .fields #[.str x t, rawInt i]
section
variable {prog : Program} {w : World} {A : Around} {E : Value → Shared → Prop} {s : Shared}
theorem IsRv.ty {a : Addr} {x : Str} {t : Tok} {i : Int} (q : IsRv s.heap a x t i) : s.TypeIs (.ref a) "reversed" := let ⟨ob, ho, hc, _⟩ := q; ⟨ob, ho, hc⟩
end
end Wk
namespace Wk
open PySem PySem.Spec PyProof.Rows L2
theorem kit_ty {K : PySem.W.Frag} {S : Addr} {T : String} {b : Bool} (hT : PySem.W.kitMeta T = true) (h : PySem.W.subIn K (.ref S) (.type T) = some b) : PySem.W.kitOne K (.ref S) (.type T) = some b := by
  show (if ((Value.ref S == Value.type T) = true) then some true else (if PySem.W.kitMeta T = true then PySem.W.subIn K (.ref S) (.type T) else none)) = some b
  rw [if_neg (by intro z; cases beq_iff_eq.mp z), if_pos hT]; exact h
end Wk
namespace Wk
open PySem PySem.Spec PyProof.Rows L2
end Wk
namespace Wk
open PySem L2
end Wk
namespace Wk
open PySem PySem.Spec PyProof.Rows L2
end Wk
namespace Wk
open PySem L2
instance {α β γ δ : Type} {e : Rep α} {f : Rep β} {g : Rep γ} {i : Rep δ} {n m k l : Nat} [Dao e n] [Dao f m] [Dao g k] [Dao i l] : Dao (pT4 e f g i) (max n (max m (max k l)) + 1) := ⟨fun x => Dao.ok e x.1 ∧ Dao.ok f x.2.1 ∧ Dao.ok g x.2.2.1 ∧ Dao.ok i x.2.2.2, fun x => .tuple [Dao.d e x.1, Dao.d f x.2.1, Dao.d g x.2.2.1, Dao.d i x.2.2.2], fun {K F v x} h => by
    obtain ⟨p, u, w, y, z, rfl, hp, a, b, c, d⟩ := h
    exact .tup (SqT.of hp) (.cons (Dao.dp a) (.cons (Dao.dp b) (.cons (Dao.dp c) (.cons (Dao.dp d) .nil)))), fun x h => by
    show (PyData.canLay0 (Dao.d e x.1) && (PyData.canLay0 (Dao.d f x.2.1) && (PyData.canLay0 (Dao.d g x.2.2.1) && (PyData.canLay0 (Dao.d i x.2.2.2) && PyData.canLayAll0 [])))) = true
    rw [Dao.lay _ h.1, Dao.lay _ h.2.1, Dao.lay _ h.2.2.1, Dao.lay _ h.2.2.2]; rfl, fun x => by
    have a := Dao.dep (e := e) x.1
    have b := Dao.dep (e := f) x.2.1
    have c := Dao.dep (e := g) x.2.2.1
    have d := Dao.dep (e := i) x.2.2.2
    simp only [PyData.depth, PyData.depthAll]
    omega, fun x y => by
    show (PyData.eqv (Dao.d e x.1) (Dao.d e y.1) && (PyData.eqv (Dao.d f x.2.1) (Dao.d f y.2.1) && (PyData.eqv (Dao.d g x.2.2.1) (Dao.d g y.2.2.1) && (PyData.eqv (Dao.d i x.2.2.2) (Dao.d i y.2.2.2) && PyData.eqvAll [] [])))) = true ↔ _
    have z : PyData.eqvAll [] [] = true := rfl
    rw [z, Bool.and_true, Bool.and_eq_true, Bool.and_eq_true, Bool.and_eq_true, Dao.inj, Dao.inj, Dao.inj, Dao.inj, Prod.ext_iff, Prod.ext_iff, Prod.ext_iff]⟩
instance decSum {α β : Type} [DecidableEq α] [DecidableEq β] : DecidableEq (Sum α β) := instDecidableEqSum
/-- never alike -/
class Dsj {α β : Type} (e : Rep α) (f : Rep β) (n m : outParam Nat) [Dao e n] [Dao f m] : Prop where
  l : ∀ x y, PyData.eqv (Dao.d e x) (Dao.d f y) = false
  r : ∀ x y, PyData.eqv (Dao.d f y) (Dao.d e x) = false
instance {α β γ α' β' γ' δ' : Type} {e : Rep α} {f : Rep β} {g : Rep γ} {e' : Rep α'} {f' : Rep β'} {g' : Rep γ'} {i' : Rep δ'} {n m k n' m' k' l' : Nat} [Dao e n] [Dao f m] [Dao g k] [Dao e' n'] [Dao f' m'] [Dao g' k'] [Dao i' l'] :
    Dsj (pT3 e f g) (pT4 e' f' g' i') (max n (max m k) + 1) (max n' (max m' (max k' l')) + 1) := ⟨fun x y => by
    show (PyData.eqv _ _ && (PyData.eqv _ _ && (PyData.eqv _ _ && false))) = false
    rw [Bool.and_false, Bool.and_false, Bool.and_false], fun x y => by
    show (PyData.eqv _ _ && (PyData.eqv _ _ && (PyData.eqv _ _ && false))) = false
    rw [Bool.and_false, Bool.and_false, Bool.and_false]⟩
instance {α β : Type} {e : Rep α} {f : Rep β} {n m : Nat} [Dao e n] [Dao f m] [D : Dsj e f n m] : Dao (pAlt e f) (max n m) := ⟨fun x => match x with | .inl y => Dao.ok e y | .inr y => Dao.ok f y, fun x => match x with | .inl y => Dao.d e y | .inr y => Dao.d f y, fun {K F v x} h => match x, h with
    | .inl y, h => Dao.dp (e := e) h
    | .inr y, h => Dao.dp (e := f) h, fun x h => match x, h with
    | .inl y, h => Dao.lay (e := e) y h
    | .inr y, h => Dao.lay (e := f) y h, fun x => match x with
    | .inl y => Nat.le_trans (Dao.dep (e := e) y) (Nat.le_max_left ..)
    | .inr y => Nat.le_trans (Dao.dep (e := f) y) (Nat.le_max_right ..), fun x y => match x, y with
    | .inl a, .inl b => (Dao.inj (e := e) a b).trans ⟨fun h => by rw [h], fun h => Sum.inl.inj h⟩
    | .inr a, .inr b => (Dao.inj (e := f) a b).trans ⟨fun h => by rw [h], fun h => Sum.inr.inj h⟩
    | .inl a, .inr b => ⟨fun h => absurd ((D.l a b).symm.trans h) (by decide), fun h => nomatch h⟩
    | .inr a, .inl b => ⟨fun h => absurd ((D.r b a).symm.trans h) (by decide), fun h => nomatch h⟩⟩
end Wk
namespace Wk
open PySem L2
end Wk
namespace Wk
open PySem PySem.Spec PyProof.Rows L2 LamX
section
variable {X : Cx} {pins : List (Addr × Obj)} {σ : L2.St} {H : Hp} {s : Shared}
/-- what one sees of the table at P behind the making: c is the lambda's code object -/
structure Made (P : Addr) (q : Str) (ps : Array Value) (H H1 : Hp) (c : Addr) : Prop where
  keep : ∀ r o, H r = some o → r ≠ P → H1 r = some o
  tab : ∃ qs : Array Value, H1 P = some (.tbl qs) ∧ TriplesOk qs.toList ∧ ∀ x u, codeAmong x qs.toList = some u → codeAmong x ps.toList = some u ∨ u = .ref c
  new : H c = none ∨ ∃ x, codeAmong x ps.toList = some (.ref c)
  code : H1 c = some (CodeO c q)
abbrev lamQ (X : Cx) : Str := X.env.qual ++ "<lambda>"
abbrev lamO (X : Cx) (a : Arguments) (b : Expr) (sc : Scope) (pm : Value) (c : Addr) (ct : Value) : Obj := PySem.W.kla_obj "<lambda>" (lamQ X) a b sc (cloFrom X.env.cells sc.names []) pm c ct
theorem lam1_mk {m P : Addr} {a : Arguments} {b : Expr} {sc : Scope} {pos : Pos} {E Q : Value → Shared → Prop} {ps : Array Value}
    (I : Inv X pins σ H s) (B : TabB X.base X.mg m P) (cd : X.env.code = .ref m)
    (hP : H P = some (.tbl ps)) (tr : TriplesOk ps.toList) (am : ∀ x u, codeAmong x ps.toList = some u → ∃ c, u = .ref c ∧ H c = some (CodeO c (lamQ X)))
    (df : defaultsOf a X.env = ([], [])) (fr : ∀ y ∈ sc.names, y.2 = .free → ∃ c, X.env.cells.lookup y.1 = some c)
    (k : ∀ (f c : Addr) (pm ct : Value) (H1 : Hp) (s1 : Shared), Inv X pins σ H1 s1 → Made P (lamQ X) ps H H1 c → s1.heap.get? f = some (lamO X a b sc pm c ct) → H1 f = none → f ∉ frs X.stack → Q (.ref f) s1) :
    wpAny (model X.prog X.w) X.A (eval (.Lambda a b sc pos) X.env) Q E s := by
  have hb : s.heap.BuiltinsAt X.mg P := B.bm.keeps I.bk
  have hO : s.heap.get? P = some { cls := .none, data := .fields ps } := I.hok P _ hP
  have out : ∀ f, s.heap.objs.size ≤ f → f ∉ frs X.stack := fun f le hf =>
    (List.mem_cons.mp (I.stkSub f hf)).elim (fun e => absurd I.lt (Nat.not_lt.mpr (e ▸ le))) (I.nofs le)
  apply PySem.W.kla_eval df
  cases ca : codeAmong pos ps.toList with
  | some u =>
    obtain ⟨c, rfl, hc⟩ := am pos u ca
    apply PySem.W.kla_makeFunctionHit (mg := X.mg) (c := m) (P := P) (ps := ps) (closure_ok fr) I.ok.glob (I.mod.glob.keeps I.bk) cd (B.code.keeps I.bk) hO tr ca hb
    intro ct h1 tk up sz
    refine k h1.objs.size c ((X.mg "__name__").getD .none) ct H _ (I.kept fun r o e => Heap.get?_push_of_some _ (up r o e)) ⟨fun _ _ e _ => e, ⟨ps, hP, tr, fun _ _ e => .inl e⟩, .inr ⟨pos, ca⟩, hc⟩ (Heap.get?_push_size _ rfl) (I.hok.fresh sz) (out _ sz)
  | none =>
    apply PySem.W.kla_makeFunction (mg := X.mg) (c := m) (P := P) (ps := ps) (closure_ok fr) I.ok.glob (I.mod.glob.keeps I.bk) cd (B.code.keeps I.bk) hO tr ca B.gP hb
    intro c ct h1 tk up ge lt rec_ tb
    obtain ⟨c2, oc, vs, t, e2, g1, g2, g3⟩ := rec_
    cases e2
    have sz : s.heap.objs.size ≤ h1.objs.size := Nat.le_trans ge (Nat.le_of_lt lt)
    have nc : H c = none := I.hok.fresh ge
    have nP : P ≠ c := ne_of_none hP nc
    have J := inv_table (q := lamQ X) (t' := tk) (more := #[rawInt pos.line, rawInt pos.col, .ref c]) (h' := h1.push (lamO X a b sc ((X.mg "__name__").getD .none) c ct)) I hP
      (fun r o ne e => Heap.get?_push_of_some _ (up r o ne e)) (Heap.get?_push_of_some _ tb) ge ⟨oc, vs, t, Heap.get?_push_of_some _ g1, g2, g3⟩
    have lE : (ps ++ #[rawInt pos.line, rawInt pos.col, .ref c]).toList = ps.toList ++ [rawInt pos.line, rawInt pos.col, .ref c] := by simp
    refine k h1.objs.size c ((X.mg "__name__").getD .none) ct _ _ J ⟨fun r o e ne => ?_, ⟨_, (upd_ne nP).trans upd_same, ?_, fun x u e => ?_⟩, .inl nc, upd_same⟩ (Heap.get?_push_size _ rfl) ?_ (out _ sz)
    · rw [upd_ne (ne_of_none e nc), upd_ne ne]; exact e
    · rw [lE]; exact PySem.TriplesOk_snoc _ _ _ _ tr
    · rw [lE] at e; exact among_app _ tr e
    · rw [upd_ne (Nat.ne_of_gt lt), upd_ne (Nat.ne_of_gt (Nat.lt_of_lt_of_le (Heap.lt_size hO) sz))]
      exact I.hok.fresh sz
end
structure LamS1 (sc scope : Scope) (a : Str) : Prop where
  kind : scope.kind = .function
  co : scope.isCoroutine = false
  gen : scope.isGenerator = false
  par : scope.names.lookup a = some .local
  own : ∀ y ∈ scope.names, y.2 = .local → y.1 = a
  cel : ∀ y ∈ scope.names, y.2 ≠ .cell
  free : ∀ y ∈ scope.names, y.2 = .free → sc.names.lookup y.1 = some .cell ∨ sc.names.lookup y.1 = some .free
def lamS1B (sc scope : Scope) (a : Str) : Bool :=
  decide (scope.kind = .function) && !scope.isCoroutine && !scope.isGenerator && decide (scope.names.lookup a = some .local) && scope.names.all fun y => (!decide (y.2 = .local) || decide (y.1 = a)) && !decide (y.2 = .cell) && (!decide (y.2 = .free) || decide (sc.names.lookup y.1 = some .cell) || decide (sc.names.lookup y.1 = some .free))
theorem lamS1_by {sc scope : Scope} {a : Str} (h : lamS1B sc scope a = true) : LamS1 sc scope a := by
  unfold lamS1B at h
  simp only [Bool.and_eq_true, Bool.or_eq_true, Bool.not_eq_true', decide_eq_true_eq, decide_eq_false_iff_not, List.all_eq_true] at h
  obtain ⟨⟨⟨⟨h1, h2⟩, h3⟩, h4⟩, h5⟩ := h
  refine ⟨h1, h2, h3, h4, fun y hy e => (h5 y hy).1.1.resolve_left fun z => z e, fun y hy => (h5 y hy).1.2, fun y hy e => ?_⟩
  rcases (h5 y hy).2 with (z | z) | z
  · exact absurd e z
  · exact .inl z
  · exact .inr z
theorem LamS1.has {X : Cx} {scope : Scope} {a : Str} (L : LamS1 X.env.scope scope a) (ok : X.Ok) : ∀ y ∈ scope.names, y.2 = .free → ∃ c, X.env.cells.lookup y.1 = some c := fun y hy e => (L.free y hy e).elim (fun k => ok.has _ (.inl k)) fun k => ok.has _ (.inr k)
/-- the body's context, entered at s from the frames outer; its names are N -/
def lcx (X : Cx) (N : List Str) (A : Around) (outer : List Env) (s : Shared) (H : Hp) (scope : Scope) (f c : Addr) : Cx where
  prog := X.prog
  w := X.w
  K := X.K
  mg := X.mg
  base := X.base
  A := A.deeper (lamEnv X scope s.heap.objs.size f c)
  N := N
  s_0 := s
  H_0 := H
  env := lamEnv X scope s.heap.objs.size f c
  outer := outer
  stack := lamEnv X scope s.heap.objs.size f c :: outer
  ex := []
  fn := fun _ => false
  calm := true
  pn := []
  xe := fun _ _ => False
/-- the slots of the captured names -/
def capS (σ : L2.St) (is_ : List Nat) : L2.St := is_.map fun i => (σ[i]?).getD none
section
variable {X : Cx} {pins : List (Addr × Obj)} {σ : L2.St} {H HZ : Hp} {s s1 : Shared}
theorem lam1_start {A : Around} {outer : List Env} {scope : Scope} {a : Str} {f c : Addr} {h1 : Heap} {tk : Nat} {is_ : List Nat} {cs : List Str} {va : V} {ua : Value} (I : Inv X pins σ H s) (L : LamS1 X.env.scope scope a)
    (hc : ∀ (j : Nat) (y : Str), cs[j]? = some y → ∃ i, is_[j]? = some i ∧ X.N[i]? = some y ∧ scope.names.lookup y = some .free) (hl : is_.length = cs.length)
    (e0 : Env0 X.prog X.w X.K X.mg X.base A outer s1 HZ) (hd : A.handled = none) (un : Un (frs X.stack) [] H HZ s.heap s1.heap) (rv : RelV va ua)
    (hns : h1.Ns s1.heap.objs.size fun y => [(a, ua)].reverse.lookup y) (kp : ∀ r o, s1.heap.get? r = some o → h1.get? r = some o) :
    Inv (lcx X (a :: cs) A outer s1 HZ scope f c) [] (some va :: capS σ is_) HZ { s1 with heap := h1, toks := tk } := by
  have hfree := L.has I.ok
  have cm : ∀ {y d}, (cloFrom X.env.cells scope.names []).lookup y = some d → X.env.cells.lookup y = some d := fun {y d} e => by
    rcases cloFrom_mem (PySem.mem_of_lookup e) with z | ⟨z1, z2⟩
    · exact nomatch z
    · obtain ⟨d1, e1⟩ := hfree _ z1 rfl
      have e1 : X.env.cells.lookup y = some d1 := e1
      rw [z2, e1] <;> rfl
  have lk : ∀ {y}, scope.names.lookup y = some .free → ∃ d, (cloFrom X.env.cells scope.names []).lookup y = some d := fun {y} e =>
    mem_lookup (cloFrom_has (cells := X.env.cells) (acc := []) (PySem.mem_of_lookup e))
  have cellK : ∀ {d : Addr} {v : Option Value}, H d = none → s.heap.IsCell d v → h1.IsCell d v := fun {d v} n ⟨o, ho, hdt⟩ => by
    obtain ⟨sl, q⟩ := un.any ho n (by simp)
    exact ⟨_, kp _ _ q, hdt⟩
  have nx : ∀ r : Addr, r ∉ (lcx X (a :: cs) A outer s1 HZ scope f c).ex := fun r z => nomatch (show r ∈ ([] : List Addr) from z)
  have OK : (lcx X (a :: cs) A outer s1 HZ scope f c).Ok := {
    mod := e0.mod
    kind := L.kind
    glob := rfl
    blt := rfl
    above := Nat.le_refl _
    inj := fun y z d e1 e2 => I.ok.inj y z d (cm e1) (cm e2)
    has := fun y hy => by
      have hy : scope.names.lookup y = some .cell ∨ scope.names.lookup y = some .free := hy
      exact hy.elim (fun q => absurd rfl (L.cel _ (PySem.mem_of_lookup q))) lk
    cab := fun y d z _ => nomatch (show false = true from z)
    hd := fun _ => hd
    frames := Around.frames_deeper e0.frames
    stk := .inr ⟨rfl, rfl⟩
    exf := fun r z => absurd z (nx r)
    bs := e0.bs
    bsz := e0.bsz
    noex := fun r _ _ => nx r
    exfs := fun r z => absurd z (nx r)
    funs := e0.funs
    frf := e0.frf }
  refine ⟨OK, rfl, e0.bare, Un.kept kp, ⟨_, hns, fun i y v n1 n2 n3 => ?_⟩, fun y d e => ?_, e0.hok.fresh (Nat.le_refl _), fun y d e => ?_, fun p hp => absurd (show p ∈ ([] : List (Addr × Obj)) ++ [] from hp) (by simp), e0.hok.kept kp, ?_⟩
  · cases i with
    | zero =>
      have ey : y = a := (Option.some.inj (show some a = some y from n1)).symm
      have ev : v = va := (Option.some.inj (Option.some.inj (show some (some va) = some (some v) from n2))).symm
      subst ey ev
      exact ⟨ua, rv, .inl ⟨L.par, by simp [List.lookup]⟩⟩
    | succ j =>
      have n1 : cs[j]? = some y := n1
      have n2 : (capS σ is_)[j]? = some (some v) := n2
      obtain ⟨i, i1, i2, i3⟩ := hc j y n1
      have e2 : σ[i]? = some (some v) := by
        unfold capS at n2
        rw [List.getElem?_map, i1] at n2
        have n2 : (σ[i]?).getD none = some v := Option.some.inj n2
        cases q : σ[i]? with
        | none => rw [q] at n2; cases n2
        | some u => rw [q] at n2; rw [show u = some v from n2]
      obtain ⟨m, hn, hv⟩ := I.loc
      obtain ⟨w', r, q⟩ := hv i y v i2 e2 ((L.free _ (PySem.mem_of_lookup i3) rfl).elim (fun z => .inr (.inl z)) fun z => .inr (.inr z))
      obtain ⟨d, hd2⟩ := lk i3
      refine ⟨w', r, .inr ⟨.inr i3, d, hd2, ?_⟩⟩
      rcases q with ⟨k1, _⟩ | ⟨_, d3, e3, z⟩
      · have k1 : X.env.scope.names.lookup y = some .local := k1
        rcases L.free _ (PySem.mem_of_lookup i3) rfl with k2 | k2
        · rw [show X.env.scope.names.lookup y = _ from k2] at k1; cases k1
        · rw [show X.env.scope.names.lookup y = _ from k2] at k1; cases k1
      · rw [cm hd2] at e3
        cases e3
        exact cellK (I.freeC y _ (cm hd2)) z
  · obtain ⟨w', z⟩ := I.cell y d (cm e)
    exact ⟨w', cellK (I.freeC y d (cm e)) z⟩
  · obtain ⟨v, o, ho, _⟩ := I.cell y d (cm e)
    exact un.free d o ho (I.freeC y d (cm e)) (by simp)
  · show (capS σ is_).length + 1 = cs.length + 1
    unfold capS
    rw [List.length_map, hl]
/-- the context of the def that got the lambda -/
abbrev gcx (X : Cx) (Ng : List Str) (x : Str) (sg : Scope) (g : Addr) (cdg : Value) (s : Shared) (H : Hp) : Cx := (cxOf CX0 X.prog X.w X.K X.mg X.base Ng x sg g cdg X.A X.stack s H E0).nox
/-- a(e), in that def -/
def tAct (j : Nat) (f c : Addr) (q : Str) (te : TE) (tl : V → Hp → VK → Prop) : TE := fun σ H Q => σ[j]? = some (some (.ref f)) ∧ te σ H fun v H2 => H2 c = some (CodeO c q) ∧ tl v H2 Q
theorem pe_act1 {Ng : List Str} {x : Str} {sg : Scope} {g f c : Addr} {cdg pm ct : Value} {params : Arguments} {body e : Expr} {scope : Scope} {k j : Nat} {a b : Str} {tb te : TE} {p1 p2 : Pos} {is_ : List Nat} {cs : List Str}
    (I : Inv X pins σ H s) (L : LamS1 X.env.scope scope b) (hc : ∀ (j : Nat) (y : Str), cs[j]? = some y → ∃ i, is_[j]? = some i ∧ X.N[i]? = some y ∧ scope.names.lookup y = some .free) (hl : is_.length = cs.length)
    (hf : s.heap.get? f = some (lamO X params body scope pm c ct)) (hfn : H f = none) (hfr : f ∉ frs X.stack)
    (hbind : ∀ u, bindArgs (PySem.W.kla_fn "<lambda>" (lamQ X) params body scope (cloFrom X.env.cells scope.names []) pm (.ref c) ct) ⟨[u], []⟩ = pure [(b, u)])
    (hr : Room (k + 1) (X.A.deeper (envOfC x sg s.heap.objs.size g cdg)))
    (hbody : ∀ (A : Around) (outer : List Env) (s : Shared) (H : Hp), Room k (A.deeper (lamEnv X scope s.heap.objs.size f c)) → PE (lcx X (b :: cs) A outer s H scope f c) body tb)
    (he : PE (gcx X Ng x sg g cdg s H) e te) (hN : Ng[j]? = some a) (hv : Vis sg a)
    (st : starEach [e] (gcx X Ng x sg g cdg s H).env = (false, eval e (gcx X Ng x sg g cdg s H).env) :: starEach [] (gcx X Ng x sg g cdg s H).env)
    (hd : (a == ("__debug__" : Str)) = false := by decide) (hcd : (a == ("__classdict__" : Str)) = false := by decide) :
    PE (gcx X Ng x sg g cdg s H) (.Call (.Name a p1) [e] [] p2) (tAct j f c (lamQ X) te fun v H' Q => tb (some v :: capS σ is_) H' Q) := by
  refine ⟨fun pz sz σz Hz Q Iz h => ?_⟩
  obtain ⟨h1, h2⟩ := h
  refine wpAny_Call_Name_kw (thn ((pe_var (pos := p1) (i := j) hN hv hd hcd).run pz sz σz Hz (fun v H1 => v = .ref f ∧ H1 = Hz) Iz ⟨.ref f, h1, rfl, rfl⟩) fun u s1 ⟨v, H1, I1, r1, q1⟩ => ?_)
  obtain ⟨ev, eH⟩ := q1
  subst ev
  rw [eH] at I1
  obtain rfl : u = Value.ref f := r1
  have kf : ∀ {σ2 : L2.St} {H2 : Hp} {s2 : Shared}, Inv (gcx X Ng x sg g cdg s H) pz σ2 H2 s2 → s2.heap.get? f = some (lamO X params body scope pm c ct) := fun J => J.base.keep f _ hf hfn hfr (fun z => nomatch (show f ∈ ([] : List Addr) from z))
  refine PySem.W.callWith_F (first := []) ⟨_, _, _, _, kf I1⟩ (thn ((pa_cons he pa_nil st).run p2 pz s1 σz Hz (fun vs H2 => match vs with | [v] => H2 c = some (CodeO c (lamQ X)) ∧ tb (some v :: capS σ is_) H2 Q | _ => False) I1 h2) fun us s2 ⟨vs, H2, I2, r2, q2⟩ => ⟨⟨_, _, _, _, kf I2⟩, ?_⟩) st rfl
  obtain ⟨va, ua, rfl, rfl, ra, hco, ht⟩ : ∃ (va : V) (ua : Value), vs = [va] ∧ us = [ua] ∧ L2.RelV va ua ∧ H2 c = some (CodeO c (lamQ X)) ∧ tb (some va :: capS σ is_) H2 Q := by
    cases r2 with
    | nil => exact q2.elim
    | cons ra rest =>
      cases rest with
      | nil => exact ⟨_, _, rfl, rfl, ra, q2⟩
      | cons _ _ => exact q2.elim
  obtain ⟨⟨oc, vc, t, g1, g2, g3⟩, _, _⟩ := I2.hok c _ hco
  have un : Un (frs X.stack) [] H H2 s.heap s2.heap := I2.base
  have rc : codeAny (model X.prog X.w) (X.A.deeper (envOfC x sg s.heap.objs.size g cdg)) (.call (.ref f) ⟨[ua], []⟩) (L2.CR CX0 (envOfC x sg s.heap.objs.size g cdg :: X.stack) X.prog X.w H2 s2 Q E0) s2 := by
    refine PySem.W.kla_callFunE hr.depth (kf I2) rfl L.co L.gen rfl ⟨c, oc, vc, t, rfl, g1, g2, g3⟩ ?_
    rw [hbind]
    refine wpAny_pure (wpAny_newFunctionEnv L.cel (fun y hy => by rw [List.mem_singleton.mp hy]; exact L.par) (fun h1 hns hsb => ⟨I2.nolimit.fresh _ hsb, ?_⟩) L.kind)
    show codeAny _ _ (.expr body (lamEnv X scope s2.heap.objs.size f c)) _ _
    have kp : ∀ r o, s2.heap.get? r = some o → h1.get? r = some o := fun r o e => hsb.extBut r o (Nat.ne_of_lt (Heap.lt_size e)) (Heap.get?_push_of_some _ e)
    have J : L2.Inv (lcx X (b :: cs) (X.A.deeper (envOfC x sg s.heap.objs.size g cdg)) (envOfC x sg s.heap.objs.size g cdg :: X.stack) s2 H2 scope f c) [] (some va :: capS σ is_) H2 { s2 with heap := h1, toks := s2.toks + [(b, ua)].length } :=
      lam1_start I L hc hl I2.env0 hr.hd un ra hns kp
    refine PySem.W.kla_codeExpr (wpAny_mono ((hbody _ _ s2 H2 (hr.deeper _)).run [] _ _ H2 Q J ht) (fun v s' hq => ?_) fun e s' hq => hq.elim)
    obtain ⟨w', H', J', rv, q⟩ := hq
    exact ⟨w', H', J'.os, J'.bare, J'.base, J'.hok, rv, q⟩
  refine wpAny_call (codeAny_mono rc fun r s' hq => ?_)
  cases r with
  | error e => exact (show False from hq).elim
  | ok fl =>
    cases fl with
    | ret u => exact I2.after hq
    | next => exact False.elim hq
    | brk => exact False.elim hq
    | cont => exact False.elim hq
end
/-- the context of a def that gets a lambda -/
abbrev gC (P : Program) (w : World) (K : PySem.W.Frag) (mg : Str → Option Value) (base : Heap) (A : Around) (stack : List Env) (N : List Str) (x : Str) (sg : Scope) (g : Addr) (cdg : Value) (s : Shared) (H : Hp) : Cx := (cxOf CX0 P w K mg base N x sg g cdg A stack s H E0).nox
/-- the def x of two parameters, the second one (a) the lambda; TT: what it makes of the lambda's reading and its first argument -/
structure Lm (P : Program) (w : World) (K : PySem.W.Frag) (mg : Str → Option Value) (base : Heap) (k : Nat) (x x0 a : Str) (TT : Str → (V → Hp → VK → Prop) → V → Addr → Hp → VK → Prop) : Prop where
  ex : ∃ (st : Stmt) (g : Addr) (fd : FuncData) (N : List Str), Fun K x x st g fd ∧ mg x = some (.ref g) ∧ Binds K fd [x0, a] [] ∧ FnScope N [x0, a] (defScope st) ∧ N[1]? = some a ∧ Vis (defScope st) a ∧
    ∀ (A : Around) (stack : List Env) (q : Str) (f c : Addr) (cdg : Value) (s : Shared) (H : Hp) (Q : VK) (v0 : V) (tl : V → Hp → VK → Prop), Room k (A.deeper (envOfC x (defScope st) s.heap.objs.size g cdg)) →
      (∀ (e : Expr) (te : TE) (p1 p2 : Pos), PE (gC P w K mg base A stack N x (defScope st) g cdg s H) e te → starEach [e] (gC P w K mg base A stack N x (defScope st) g cdg s H).env = (false, eval e (gC P w K mg base A stack N x (defScope st) g cdg s H).env) :: starEach [] (gC P w K mg base A stack N x (defScope st) g cdg s H).env →
        PE (gC P w K mg base A stack N x (defScope st) g cdg s H) (.Call (.Name a p1) [e] [] p2) (tAct 1 f c q te tl)) →
      TT q tl v0 c H Q → ∃ t, PSs (gC P w K mg base A stack N x (defScope st) g cdg s H) (defBody st) t ∧ t { nx := fun _ H' => Q .non H', rt := Q } (L2.start N [v0, .ref f]) H
def tLam1 (P : Addr) (q : Str) (TT : (V → Hp → VK → Prop) → V → Addr → Hp → VK → Prop) (te0 : TE) (tl : L2.St → V → Hp → VK → Prop) : TE := fun σ H Q => te0 σ H fun v0 H1 =>
  ∃ ps : Array Value, H1 P = some (.tbl ps) ∧ TriplesOk ps.toList ∧ (∀ x u, codeAmong x ps.toList = some u → ∃ c, u = .ref c ∧ H1 c = some (CodeO c q)) ∧ ∀ H2 c, Made P q ps H1 H2 c → TT (tl σ) v0 c H2 Q
theorem qual_nox {CX : CXT} {P : Program} {w : World} {K : PySem.W.Frag} {mg : Str → Option Value} {base : Heap} {N : List Str} {x : Str} {sg : Scope} {g : Addr} {cdg : Value} {A : Around} {st : List Env} {s : Shared} {H : Hp} {E : XK} :
    (cxOf CX P w K mg base N x sg g cdg A st s H E).nox.env.qual = x ++ ".<locals>." := rfl
/-- x(e0, lambda b: body) -/
theorem pe_lamcall1 {X : Cx} {q : Str} {k kl : Nat} {x x0 a b : Str} {TT : Str → (V → Hp → VK → Prop) → V → Addr → Hp → VK → Prop} {m P : Addr} {params : Arguments} {body e0 : Expr} {scope : Scope} {te0 tb : TE} {is_ : List Nat} {cs : List Str} {p lpos pos : Pos}
    (C : Lm X.prog X.w X.K X.mg X.base k x x0 a TT) (hr : Room (k + 1) X.A) (hg : Gl X x) (B : TabB X.base X.mg m P) (cd : X.env.code = .ref m) (L : LamS1 X.env.scope scope b)
    (hc : ∀ (j : Nat) (y : Str), cs[j]? = some y → ∃ i, is_[j]? = some i ∧ X.N[i]? = some y ∧ scope.names.lookup y = some .free) (hl : is_.length = cs.length) (df : defaultsOf params X.env = ([], []))
    (hbind : ∀ (q : Str) (cl : List (Str × Addr)) (pm cv ct u : Value), bindArgs (PySem.W.kla_fn "<lambda>" q params body scope cl pm cv ct) ⟨[u], []⟩ = pure [(b, u)])
    (he0 : PE X e0 te0) (hkl : kl + 1 ≤ k) (hbody : ∀ (A : Around) (outer : List Env) (s : Shared) (H : Hp) (f c : Addr), Room kl (A.deeper (lamEnv X scope s.heap.objs.size f c)) → PE (lcx X (b :: cs) A outer s H scope f c) body tb)
    (hst : starEach [e0, .Lambda params body scope lpos] X.env = (false, eval e0 X.env) :: starEach [.Lambda params body scope lpos] X.env)
    (hq : X.env.qual = q) (hdb : (x == ("__debug__" : Str)) = false := by decide) (hd : (a == ("__debug__" : Str)) = false := by decide) (hcd : (a == ("__classdict__" : Str)) = false := by decide) :
    PE X (.Call (.Name x p) [e0, .Lambda params body scope lpos] [] pos) (tLam1 P (q ++ "<lambda>") (TT (q ++ "<lambda>")) te0 fun σ v H Q => tb (some v :: capS σ is_) H Q) := by
  subst hq
  obtain ⟨st, g, fd, Ng, F, hm, hb, Sg, hNg, hva, hG⟩ := C.ex
  obtain ⟨oc, od, kV, doc, pm, an, cdv, ct, osl, rfl, lk, hcg⟩ := F.ex
  refine ⟨fun pins s σ H Q I h => ?_⟩
  refine wpAny_Call_Name_kw (ld_glob I hg hm ?_ hdb)
  refine PySem.W.callWith_K (h₀ := X.base) I.ok.mod.kin F.kp ?_ hst (by rfl)
  rw [hst]
  show wpAny _ _ (spliced ((false, eval e0 X.env) :: (false, eval (.Lambda params body scope lpos) X.env) :: backTo pos (starEach [] X.env))) _ _ s
  refine Calls.spliced_cons (thn (he0.run pins s σ H _ I h) fun u0 s0 ⟨v0, H1, I0, r0, ps, hP, tr, am, hT⟩ => ?_)
  refine Calls.spliced_cons (lam1_mk I0 B cd hP tr am df (L.has I.ok) fun f c pm' ctv H2 s2 I2 md hf hfn hfr => ?_)
  refine Calls.spliced_nil ⟨I2.kIn, ?_⟩
  have rc : codeAny (model X.prog X.w) X.A (.call (.ref g) ⟨[u0, .ref f], []⟩) (L2.CR CX0 X.stack X.prog X.w H2 s2 Q E0) s2 := by
    refine run_ofS (N := Ng) (ps := [x0, a]) (us := [u0, .ref f]) (vs := [v0, .ref f]) lk hcg Sg hr I2.env0 (hb s2 [u0, .ref f] I2.kIn rfl) (.cons r0 (.cons rfl .nil)) rfl fun hr' => ?_
    obtain ⟨t', ht', hq'⟩ := hG X.A X.stack (lamQ X) f c cdv s2 H2 Q v0 (fun v H' Q' => tb (some v :: capS σ is_) H' Q') hr'
      (fun e te p1 p2 he st' => pe_act1 (X := X) (k := kl) (j := 1) I2 L hc hl hf hfn hfr (fun u => hbind _ _ _ _ _ u) (hr'.mono hkl) (fun A outer s H hr2 => hbody A outer s H f c hr2) he hNg hva st' hd hcd) (hT H2 c md)
    exact ⟨t', ht'.nox, hq'⟩
  refine wpAny_call (codeAny_mono rc fun r s3 hq => ?_)
  cases r with
  | error e => exact (show False from hq).elim
  | ok fl =>
    cases fl with
    | ret u => exact I2.after hq
    | next => exact False.elim hq
    | brk => exact False.elim hq
    | cont => exact False.elim hq
structure XT (H0 F H : Hp) (P : Addr) (q : Str) : Prop where
  z : H0 P = none
  nF : F P = none
  t : ∃ ps : Array Value, H P = some (.tbl ps) ∧ TriplesOk ps.toList ∧ ∀ x u, codeAmong x ps.toList = some u → ∃ c, u = .ref c ∧ F c = some (CodeO c q)
section
variable {F0 H0 F H F' H' H1 : Hp} {P p : Addr} {q : Str} {L : List Addr} {o : HO}
theorem XT.zero (x : XT H0 F H P q) : H0 P = none := x.z
theorem XT.ne (x : XT H0 F H P q) (h : H p = none) : P ≠ p := let ⟨_, a, _⟩ := x.t; ne_of_none a h
theorem XT.step (x : XT H0 F H P q) (w : Wf F H F' H') : XT H0 F' H' P q := by
  obtain ⟨ps, a, b, c⟩ := x.t
  refine ⟨x.z, ?_, ps, w.h _ _ a, b, fun y u e => let ⟨d, e1, e2⟩ := c y u e; ⟨d, e1, w.g _ _ e2⟩⟩
  cases h : F' P with
  | none => rfl
  | some y => have := w.n P y h x.nF; rw [a] at this; cases this
theorem XT.kept (x : XT H0 F H P q) (h : ∀ r o, H r = some o → r ≠ p → H' r = some o) (hq : P ≠ p) : XT H0 F H' P q := let ⟨ps, a, b⟩ := x.t; ⟨x.z, x.nF, ps, h _ _ a hq, b⟩
theorem XT.frzO (x : XT H0 F H P q) (h : Fz F F' p) (hq : P ≠ p) (g : Ex F F') : XT H0 F' H P q := let ⟨ps, a, b, c⟩ := x.t; ⟨x.z, h _ hq x.nF, ps, a, b, fun y u e => let ⟨d, e1, e2⟩ := c y u e; ⟨d, e1, g _ _ e2⟩⟩
theorem XT.away (x : XT H0 F H P q) (hp : P ∉ L) (s : Wf F (woL H L) F' H') : XT H0 F' H' P q := by
  obtain ⟨ps, a, b, c⟩ := x.t
  refine ⟨x.z, ?_, ps, away_h hp s a, b, fun y u e => let ⟨d, e1, e2⟩ := c y u e; ⟨d, e1, s.g _ _ e2⟩⟩
  cases h : F' P with
  | none => rfl
  | some y => have := s.n P y h x.nF; rw [woL_out hp, a] at this; cases this
theorem XT.toL (x : XT H0 F H P q) (hp : P ∈ L) : XT (woL H L) F H P q := ⟨woL_in hp, x.nF, x.t⟩
theorem XT.fromL (x : XT H1 F H P q) (z : H0 P = none) : XT H0 F H P q := ⟨z, x.nF, x.t⟩
/-- the lambda is made: its code stays -/
theorem XT.made {ps : Array Value} {H2 : Hp} {c : Addr} (x : XT H0 F H P q) (w : Wf F0 H0 F H) (hP : H P = some (.tbl ps)) (m : Made P q ps H H2 c) : ∃ F2, Wf F (woL H [P]) F2 H2 ∧ XT (woL H [P]) F2 H2 P q ∧ F2 c = some (CodeO c q) := by
  obtain ⟨ps', a, b, d⟩ := x.t
  rw [hP] at a; cases a
  obtain ⟨qs, q1, q2, q3⟩ := m.tab
  have exH : Ex (woL H [P]) H2 := fun r o e => by
    by_cases h : r ∈ [P]
    · rw [woL_in h] at e; cases e
    · rw [woL_out h] at e; exact m.keep r o e fun z => h (List.mem_singleton.mpr z)
  have exF : Ex F H2 := fun r o e => m.keep r o (w.f r o e) fun z => by rw [z, x.nF] at e; cases e
  by_cases hc : F c = some (CodeO c q)
  · refine ⟨F, ⟨exH, exF, Ex.rfl', fun r o e e0 => by rw [e] at e0; cases e0⟩, ⟨woL_in (List.mem_singleton.mpr rfl), x.nF, qs, q1, q2, fun y u e => ?_⟩, hc⟩
    rcases q3 y u e with z | z
    · exact d y u z
    · exact ⟨c, z, hc⟩
  · have nc : H c = none := m.new.resolve_right fun ⟨y, z⟩ => let ⟨c2, e1, e2⟩ := d y _ z; hc (by cases e1; exact e2)
    have ncF : F c = none := w.f.non nc
    have cP : P ≠ c := ne_of_none hP nc
    refine ⟨upd F c (CodeO c q), ⟨exH, fun r o e => ?_, Ex.new ncF, fun r o e e0 => ?_⟩, ⟨woL_in (List.mem_singleton.mpr rfl), (upd_ne cP).trans x.nF, qs, q1, q2, fun y u e => ?_⟩, upd_same⟩
    · by_cases h : r = c
      · rw [h, upd_same] at e; cases e; rw [h]; exact m.code
      · rw [upd_ne h] at e; exact exF r o e
    · by_cases h : r = c
      · rw [h]; exact woL_sub.non nc
      · rw [upd_ne h, e0] at e; cases e
    · rcases q3 y u e with z | z
      · obtain ⟨c2, e1, e2⟩ := d y u z
        exact ⟨c2, e1, (Ex.new ncF) _ _ e2⟩
      · exact ⟨c, z, upd_same⟩
/-- x(e0, lambda ..): the walk -/
theorem t_lam1 {TT : (V → Hp → VK → Prop) → V → Addr → Hp → VK → Prop} {te0 : TE} {tl : L2.St → V → Hp → VK → Prop} {σ : L2.St} {v0 : V} {Q : VK} (x : XT H0 F H P q) (w : Wf F0 H0 F H) (h0 : Val te0 σ H v0)
    (k : ∀ c F2 H2, Wf F (woL H [P]) F2 H2 → XT (woL H [P]) F2 H2 P q → F2 c = some (CodeO c q) → TT (tl σ) v0 c H2 Q) : tLam1 P q TT te0 tl σ H Q := by
  refine h0 _ ?_
  obtain ⟨ps, a, b, c⟩ := x.t
  refine ⟨ps, a, b, fun y u e => let ⟨d, e1, e2⟩ := c y u e; ⟨d, e1, w.f _ _ e2⟩, fun H2 c m => ?_⟩
  obtain ⟨F2, s, x2, hc⟩ := x.made w a m
  exact k c F2 H2 s x2 hc
theorem e_act1 {f c : Addr} {te : TE} {tl : V → Hp → VK → Prop} {σ : L2.St} {Q : VK} {v : V} {j : Nat} (hσ : σ[j]? = some (some (.ref f))) (h : Val te σ H v) (hc : F c = some (CodeO c q)) (w : Ex F H) (k : tl v H Q) : tAct j f c q te tl σ H Q := ⟨hσ, h _ ⟨w _ _ hc, k⟩⟩
end
end Wk
namespace Wk
open PySem PySem.Spec PyProof.Rows L2 LamX
/-- as okC_X, for a def that lets nothing out -/
theorem okC_0 {P : Program} {w : World} {K : PySem.W.Frag} {mg : Str → Option Value} {base : Heap} {x qual : Str} {st : Stmt} {f m : Addr} {fd : FuncData} {N ps : List Str} {k : Nat} {sp : Sp} (F : Fun K x qual st f fd) (hc : fd.code = .ref m) (S : FnScope N ps (defScope st)) (len : ∀ vs H Q E, sp vs H Q E → vs.length = ps.length)
    (hbody : ∀ (cdv : Value) (A : Around) (outer : List Env) (s : Shared) (H : Hp) (vs : List V) (Q : VK) (E : XK), cdv = .ref m → Room k (A.deeper (envOfC qual (defScope st) s.heap.objs.size f cdv)) → sp vs H Q E →
      ∃ t, PSs (cxOf CX0 P w K mg base N qual (defScope st) f cdv A outer s H E).nox (defBody st) t ∧ t { nx := fun _ H' => Q .non H', rt := Q } (L2.start N vs) H) : FnOk P w K mg base CX0 (k + 1) f fd ps sp := by
  obtain ⟨oc, od, kV, doc, pm, an, cdv, ct, osl, rfl, lk, hcd⟩ := F.ex
  refine fn_of lk hcd S len fun A outer s H vs Q E hr hsp => ?_
  obtain ⟨t, h, q⟩ := hbody cdv A outer s H vs Q E hc hr hsp
  exact ⟨t, h.nox, q⟩
/-- captured names -/
def capsB (N : List Str) (sc : Scope) (is_ : List Nat) (cs : List Str) : Bool := decide (is_.length = cs.length) && (List.range cs.length).all fun j => match is_[j]?, cs[j]? with
  | some i, some y => decide (N[i]? = some y) && decide (sc.names.lookup y = some .free)
  | _, _ => false
theorem caps_by {N : List Str} {sc : Scope} {is_ : List Nat} {cs : List Str} (h : capsB N sc is_ cs = true) : ∀ (j : Nat) (y : Str), cs[j]? = some y → ∃ i, is_[j]? = some i ∧ N[i]? = some y ∧ sc.names.lookup y = some .free := fun j y e => by
  unfold capsB at h
  simp only [Bool.and_eq_true, decide_eq_true_eq, List.all_eq_true, List.mem_range] at h
  have hj : j < cs.length := (List.getElem?_eq_some_iff.mp e).1
  have q := h.2 j hj
  rw [e] at q
  have hi : j < is_.length := by rw [h.1]; exact hj
  rw [List.getElem?_eq_getElem hi] at q ⊢
  simp only [Bool.and_eq_true, decide_eq_true_eq] at q
  exact ⟨_, rfl, q.1, q.2⟩
section
variable {F0 H0 F H : Hp} {P : Addr} {q : Str} {L : List Addr} {K : PySem.W.Frag} {a : Addr} {vs : List V}
theorem SqL.wo (h : SqL K H a vs) (hL : ∀ d ∈ L, H d = some (.tbl #[])) : SqL K (woL H L) a vs := by
  rcases h with h | h
  · refine .inl ?_
    rcases h with h | ⟨o, h⟩
    · refine .inl ?_
      rw [woL_out (fun z => ?_)]; · exact h
      rw [hL a z] at h; cases h
    · refine .inr ⟨o, ?_⟩
      rw [woL_out (fun z => ?_)]; · exact h
      rw [hL a z] at h; cases h
  · exact .inr h
theorem XT.start (hP : H P = some (.tbl #[])) (hL : P ∈ L) : XT (woL H L) (woL H L) H P q := ⟨woL_in hL, woL_in hL, #[], hP, trivial, fun _ _ e => by cases e⟩
end
end Wk
namespace Wk
open PySem L2 LamX
section
variable {α κ : Type} [KeyT κ] {e : Rep α} {F0 H0 F H F' H' G H2 F3 H1 : Hp} {P p : Addr} {q : Str} {L : List Addr} {xs : List α} {k : Nat}
theorem NewOr.away (z : NewOr H0 F G) (c : ∀ a o, G a = some o → ∃ o', H a = some o') (hp : ∀ d ∈ L, G d = none) (w : Wf F (woL H L) F' H') : NewOr H0 F' G := fun a o e => by
  rcases z a o e with ⟨h0, hn⟩ | ⟨h1, h2⟩
  · refine .inl ⟨h0, ?_⟩
    cases q : F' a with
    | none => rfl
    | some u =>
      obtain ⟨o', h⟩ := c a o e
      have := w.n a u q hn
      rw [woL_out (fun z => by rw [hp a z] at e; cases e), h] at this
      cases this
  · exact .inr ⟨w.g _ _ h1, h2⟩
theorem RG.away (g : RG H0 F H G) (hp : ∀ d ∈ L, G d = none) (w : Wf F (woL H L) F' H') : RG H0 F' H' G :=
  ⟨g.z.away (fun a o e => ⟨o, g.h a o e⟩) hp w, fun a o e => w.h a o (by rw [woL_out (fun z => by rw [hp a z] at e; cases e)]; exact g.h a o e)⟩
theorem RD.away (g : RD H0 F H G k) (hp : ∀ d ∈ L, G d = none) (w : Wf F (woL H L) F' H') : RD H0 F' H' G k := by
  have out : ∀ {a o}, G a = some o → a ∉ L := fun e z => by rw [hp _ z] at e; cases e
  refine ⟨g.z.away g.c hp w, fun a o e => ?_, fun a vs e => ?_⟩
  · obtain ⟨o', h⟩ := g.c a o e
    exact ⟨o', w.h _ _ (by rw [woL_out (out e)]; exact h)⟩
  · obtain ⟨ws, h1, h2⟩ := g.l a vs e
    exact ⟨ws, w.h _ _ (by rw [woL_out (out e)]; exact h1), h2⟩
end
end Wk
namespace Wk
theorem allM2 {α : Type} {P : α → Prop} {d d2 : α} (h : P d) (h2 : P d2) : ∀ x ∈ [d, d2], P x := fun x hx => (List.mem_cons.mp hx).elim (fun z => by rw [z]; exact h) fun z => by rw [List.mem_singleton.mp z]; exact h2
theorem memM2a {α : Type} {d d2 : α} : d ∈ [d, d2] := List.mem_cons_self ..
theorem memM2b {α : Type} {d d2 : α} : d2 ∈ [d, d2] := List.mem_cons_of_mem _ (List.mem_cons_self ..)
end Wk
namespace Wk
open PySem L2
end Wk
namespace Wk
open PySem L2
end Wk
namespace Wk
open PySem L2
instance {α : Type} {e : Rep α} {n : Nat} [Dao e n] : Dsj pN (pL e) 0 (n + 1) := ⟨fun x y => rfl, fun x y => rfl⟩
end Wk
namespace Wk
open PySem L2
instance {α β γ α' β' γ' : Type} {e : Rep α} {f : Rep β} {g : Rep γ} {e' : Rep α'} {f' : Rep β'} {g' : Rep γ'} {n m k n' m' k' : Nat} [Dao e n] [Dao f m] [Dao g k] [Dao e' n'] [Dao f' m'] [Dao g' k'] [D : Dsj f f' m m'] :
    Dsj (pT3 e f g) (pT3 e' f' g') (max n (max m k) + 1) (max n' (max m' k') + 1) := ⟨fun x y => by
    show (PyData.eqv _ _ && (PyData.eqv _ _ && (PyData.eqv _ _ && PyData.eqvAll [] []))) = false
    rw [D.l, Bool.false_and, Bool.and_false], fun x y => by
    show (PyData.eqv _ _ && (PyData.eqv _ _ && (PyData.eqv _ _ && PyData.eqvAll [] []))) = false
    rw [D.r, Bool.false_and, Bool.and_false]⟩
end Wk
namespace Wk
open PySem L2
end Wk
namespace Wk
open PySem L2
def k2 (j : Nat × Nat) : List Key := [.inl (j.1 : Int), .inl (j.2 : Int)]
theorem k2_inj {a b : Nat × Nat} (h : k2 a = k2 b) : a = b := by
  unfold k2 at h
  have h1 := Sum.inl.inj (List.cons.inj h).1
  have h2 := Sum.inl.inj (List.cons.inj (List.cons.inj h).2).1
  refine Prod.ext ?_ ?_ <;> omega
/-- no key of the model: for the plain lemmas on pairs alone -/
instance : KeyT (Nat × Nat) := ⟨fun j => .inr ⟨#[j.1, j.2]⟩, fun {a b} h => by
  have h := congrArg Str.cps (Sum.inr.inj h)
  have h := congrArg Array.toList h
  have h : [a.1, a.2] = [b.1, b.2] := h
  exact Prod.ext (List.cons.inj h).1 (List.cons.inj (List.cons.inj h).2).1⟩
section
variable {α : Type} {e : Rep α} {F F' : Hp}
def DAT (e : Rep α) (F : Hp) : List (List Key × V) → List ((Nat × Nat) × α) → Prop
  | [], [] => True
  | p :: r, q :: s => p.1 = k2 q.1 ∧ e.r F p.2 q.2 ∧ DAT e F r s
  | _, _ => False
theorem DAT.mono (h : Ex F F') : ∀ {kvs : List (List Key × V)} {m : List ((Nat × Nat) × α)}, DAT e F kvs m → DAT e F' kvs m
  | [], [], _ => trivial
  | _ :: _, _ :: _, ⟨a, b, c⟩ => ⟨a, e.mono h b, DAT.mono h c⟩
  | [], _ :: _, q => q.elim
  | _ :: _, [], q => q.elim
theorem DAT.len : ∀ {kvs : List (List Key × V)} {m : List ((Nat × Nat) × α)}, DAT e F kvs m → kvs.length = m.length
  | [], [], _ => rfl
  | _ :: _, _ :: _, ⟨_, _, c⟩ => congrArg (· + 1) (DAT.len c)
  | [], _ :: _, q => q.elim
  | _ :: _, [], q => q.elim
theorem DAT.get : ∀ {kvs : List (List Key × V)} {m : List ((Nat × Nat) × α)} (j : Nat × Nat), DAT e F kvs m → (∀ x, valT m j = some x → ∃ v, valV kvs (k2 j) = some v ∧ e.r F v x) ∧ (valT m j = none → valV kvs (k2 j) = none)
  | [], [], _, _ => ⟨fun x h => (by cases h), fun _ => rfl⟩
  | p :: r, q :: s, j, ⟨a, b, c⟩ => by
    have ih := DAT.get j c
    rw [valT_cons]
    by_cases h : q.1 = j
    · subst h
      rw [if_pos rfl]
      exact ⟨fun x hx => ⟨p.2, valV_pos a, by cases hx; exact b⟩, fun z => (by cases z)⟩
    · rw [if_neg h, valV_neg fun z => h (k2_inj (a.symm.trans z))]
      exact ih
  | [], _ :: _, _, q => q.elim
  | _ :: _, [], _, q => q.elim
theorem DAT.has {kvs : List (List Key × V)} {m : List ((Nat × Nat) × α)} (j : Nat × Nat) (d : DAT e F kvs m) : (valV kvs (k2 j)).isSome = hasT m j := by
  have h := d.get j
  unfold hasT
  cases q : valT m j with
  | none => rw [h.2 q]; rfl
  | some x => obtain ⟨v, z, _⟩ := h.1 x q; rw [z]; rfl
theorem DAT.app : ∀ {kvs kvs' : List (List Key × V)} {m m' : List ((Nat × Nat) × α)}, DAT e F kvs m → DAT e F kvs' m' → DAT e F (kvs ++ kvs') (m ++ m')
  | [], _, [], _, _, h => h
  | _ :: _, _, _ :: _, _, ⟨a, b, c⟩, h => ⟨a, b, DAT.app c h⟩
  | [], _, _ :: _, _, q, _ => q.elim
  | _ :: _, _, [], _, q, _ => q.elim
theorem DAT.upd {v : V} {x : α} {j : Nat × Nat} (r : e.r F v x) : ∀ {kvs : List (List Key × V)} {m : List ((Nat × Nat) × α)}, DAT e F kvs m → DAT e F (kvs.map fun kv => if kv.1 = k2 j then (kv.1, v) else kv) (m.map fun q => if q.1 = j then (q.1, x) else q)
  | [], [], _ => trivial
  | p :: _, q :: _, ⟨a, b, c⟩ => by
    rw [List.map_cons, List.map_cons]
    by_cases h : q.1 = j
    · rw [if_pos h, if_pos (by rw [a, h])]; exact ⟨a, r, DAT.upd r c⟩
    · rw [if_neg h, if_neg (fun z => h (k2_inj (a.symm.trans z)))]; exact ⟨a, b, DAT.upd r c⟩
  | [], _ :: _, q => q.elim
  | _ :: _, [], q => q.elim
theorem DAT.put {v : V} {x : α} {j : Nat × Nat} {kvs : List (List Key × V)} {m : List ((Nat × Nat) × α)} (d : DAT e F kvs m) (r : e.r F v x) : DAT e F (putK kvs (k2 j) v) (putT m j x) := by
  unfold putK putT
  rw [valV_any, d.has j]
  by_cases h : hasT m j = true
  · rw [if_pos h, if_pos h]; exact d.upd r
  · rw [if_neg h, if_neg h]; exact d.app ⟨rfl, r, trivial⟩
end
def pDT {α : Type} (e : Rep α) : Rep (List ((Nat × Nat) × α)) := ⟨fun F v m => ∃ p kvs, v = .ref p ∧ F p = some (.dT kvs) ∧ DAT e F kvs m, fun h ⟨p, kvs, a, b, c⟩ => ⟨p, kvs, a, h _ _ b, c.mono h⟩⟩
structure XDT {α : Type} (e : Rep α) (H0 F H : Hp) (p : Addr) (m : List ((Nat × Nat) × α)) : Prop where
  x : ∃ kvs, Xc H0 F H p (.dT kvs) ∧ DAT e F kvs m
section
variable {α : Type} {e : Rep α} {K : PySem.W.Frag} {σ : L2.St} {F0 H0 F F' H H' G : Hp} {td ty tx tv : TE} {Q : VK} {v w y z : V} {m : List ((Nat × Nat) × α)} {p q : Addr} {j : Nat × Nat} {x : α} {D : Ends}
theorem XDT.step (x : XDT e H0 F H p m) (w : Wf F H F' H') : XDT e H0 F' H' p m := let ⟨vs, a, b⟩ := x.x; ⟨vs, a.step w, b.mono w.g⟩
theorem XDT.ne (x : XDT e H0 F H p m) (h : H q = none) : p ≠ q := let ⟨_, a, _⟩ := x.x; a.ne h
theorem XDT.zero (x : XDT e H0 F H p m) : H0 p = none := let ⟨_, a, _⟩ := x.x; a.z
theorem XDT.base (x : XDT e H F' H' p m) (w : Wf F0 H0 F H) : XDT e H0 F' H' p m := let ⟨vs, a, b⟩ := x.x; ⟨vs, ⟨w.h.non a.z, a.n, a.h⟩, b⟩
theorem XDT.kept (x : XDT e H0 F H q m) (h : ∀ q o, H q = some o → q ≠ p → H' q = some o) (hq : q ≠ p) : XDT e H0 F H' q m := let ⟨vs, a, b⟩ := x.x; ⟨vs, a.kept h hq, b⟩
theorem XDT.frzO (x : XDT e H0 F H q m) (h : Fz F F' p) (hq : q ≠ p) (g : Ex F F') : XDT e H0 F' H q m := let ⟨vs, a, b⟩ := x.x; ⟨vs, ⟨a.z, h _ hq a.n, a.h⟩, b.mono g⟩
theorem XDT.frzE (x : XDT e H0 F H p m) (w : Wf F0 H0 F H) : ∃ F', Wf F0 H0 F' H ∧ Ex F F' ∧ (pDT e).r F' (.ref p) m ∧ Fz F F' p := by
  obtain ⟨vs, a, b⟩ := x.x
  exact ⟨_, w.freeze a, Ex.new a.n, ⟨p, vs, rfl, upd_same, b.mono (Ex.new a.n)⟩, fun q h z => by rw [upd_ne h]; exact z⟩
theorem XDT.lend (x : XDT e H0 F H p m) (w : Wf F0 H0 F H) : ∃ F', Ex F' H ∧ Ex F F' ∧ (pDT e).r F' (.ref p) m := let ⟨F', a, b, c, _⟩ := x.frzE w; ⟨F', a.f, b, c⟩
theorem XDT.nF (x : XDT e H0 F H p m) : F p = none := let ⟨_, a, _⟩ := x.x; a.n
theorem n_dictP (w : Wf F0 H0 F H) (k : ∀ p H', H p = none → Wf F H F H' → XDT e H0 F H' p [] → Q (.ref p) H') : tDNewT σ H Q := fun p hp => k p _ hp (Wf.newX w.f hp) ⟨[], Xc.mk' w hp, trivial⟩
/-- a pair, as a key -/
theorem key_at (r : (pT2 pN pN).r F y j) (f : Ex F H) : ∃ b, y = .ref b ∧ H b = some (.tup ((k2 j).map kV)) := by
  obtain ⟨p, u, w, rfl, hp, a, b⟩ := r
  have a : u = V.int (j.1 : Int) := a
  have b : w = V.int (j.2 : Int) := b
  subst a b
  exact ⟨p, rfl, f _ _ hp⟩
theorem dget_XDT (r : XDT e H0 F H p m) (ky : (pT2 pN pN).r F y j) (f : Ex F H) : ∃ kvs, DGet H p y (valV kvs (k2 j)) ∧ DAT e F kvs m := by
  obtain ⟨kvs, a, b⟩ := r.x
  obtain ⟨q, rfl, hq⟩ := key_at ky f
  exact ⟨kvs, DGet.t a.h hq, b⟩
theorem dget_DT (r : (pDT e).r F v m) (ky : (pT2 pN pN).r F y j) (f : Ex F H) : ∃ p kvs, v = .ref p ∧ DGet H p y (valV kvs (k2 j)) ∧ DAT e F kvs m := by
  obtain ⟨p, kvs, rfl, hp, b⟩ := r
  obtain ⟨q, rfl, hq⟩ := key_at ky f
  exact ⟨p, kvs, rfl, DGet.t (f _ _ hp) hq, b⟩
def kDin (Q : VK) (y x : V) (H : Hp) : Prop := ∃ a o, x = .ref a ∧ DGet H a y o ∧ Q (.bl o.isSome) H
def kDnin (Q : VK) (y x : V) (H : Hp) : Prop := ∃ a o, x = .ref a ∧ DGet H a y o ∧ Q (.bl (!o.isSome)) H
def kDget (Q : VK) (x y : V) (H : Hp) : Prop := ∃ a v, x = .ref a ∧ DGet H a y (some v) ∧ Q v H
def kDget2 (Q : VK) (a : Addr) (y z : V) (H : Hp) : Prop := ∃ o, DGet H a y o ∧ Q (o.getD z) H
theorem e_dinP (h : ty σ H fun y H1 => td σ H1 fun x H2 => kDin Q y x H2) : tDIn ty td σ H Q := h
theorem e_dninP (h : ty σ H fun y H1 => td σ H1 fun x H2 => kDnin Q y x H2) : tDNotIn ty td σ H Q := h
theorem nin_XP (r : XDT e H0 F H p m) (ky : (pT2 pN pN).r F y j) (f : Ex F H) (q : Q (.bl (!hasT m j)) H) : kDnin Q y (.ref p) H := by
  obtain ⟨kvs, h1, h2⟩ := dget_XDT r ky f
  exact ⟨p, _, rfl, h1, by rw [h2.has j]; exact q⟩
theorem in_P (r : (pDT e).r F v m) (ky : (pT2 pN pN).r F y j) (f : Ex F H) (q : Q (.bl (hasT m j)) H) : kDin Q y v H := by
  obtain ⟨p, kvs, rfl, h1, h2⟩ := dget_DT r ky f
  exact ⟨p, _, rfl, h1, by rw [h2.has j]; exact q⟩
theorem e_dgetP (h : td σ H fun x H1 => ty σ H1 fun y H2 => kDget Q x y H2) : tDGet td ty σ H Q := h
theorem get_P {m : List ((Nat × Nat) × Nat)} {x : Nat} (r : (pDT pN).r F v m) (ky : (pT2 pN pN).r F y j) (f : Ex F H) (hx : valT m j = some x) (q : Q (.int (x : Int)) H) : kDget Q v y H := by
  obtain ⟨p, kvs, rfl, h1, h2⟩ := dget_DT r ky f
  obtain ⟨u, h3, h4⟩ := (h2.get j).1 x hx
  rw [h3] at h1
  have h4 : u = V.int (x : Int) := h4
  subst h4
  exact ⟨p, _, rfl, h1, q⟩
theorem e_dget2P (h : td σ H fun x H1 => ∃ a, x = .ref a ∧ IsD H1 a ∧ ty σ H1 fun y H2 => tx σ H2 fun z H3 => kDget2 Q a y z H3) : tDGet2 td ty tx σ H Q := h
theorem isd_P (r : (pDT e).r F v m) (f : Ex F H) : ∃ p, v = .ref p ∧ IsD H p := let ⟨p, kvs, a, b, _⟩ := r; ⟨p, a, .inr ⟨kvs, .inl (f _ _ b)⟩⟩
def getZ (o : Option Nat) (d : Int) : Int := match o with
  | some n => (n : Int)
  | none => d
theorem get2_P {m : List ((Nat × Nat) × Nat)} {d : Int} (r : (pDT pN).r F (.ref p) m) (ky : (pT2 pN pN).r F y j) (f : Ex F H) (q : Q (.int (getZ (valT m j) d)) H) : kDget2 Q p y (.int d) H := by
  obtain ⟨p', kvs, e, h1, h2⟩ := dget_DT r ky f
  cases e
  have h3 := h2.get j
  refine ⟨_, h1, ?_⟩
  cases z : valT m j with
  | none => rw [h3.2 z]; rw [z] at q; exact q
  | some x =>
    obtain ⟨u, h4, h5⟩ := h3.1 x z
    have h5 : u = V.int (x : Int) := h5
    subst h5
    rw [h4]; rw [z] at q; exact q
theorem d_putP (r : XDT e H0 F H p m) (w : Wf F0 H0 F H) (hl : m.length < 1000000) (ky : (pT2 pN pN).r F y j) (rv : e.r F v x) (k : ∀ H', Wf F0 H0 F H' → XDT e H0 F H' p (putT m j x) → (∀ q o, H q = some o → q ≠ p → H' q = some o) → D.nx σ H') :
    ∃ a H4, V.ref p = .ref a ∧ DPut H a y v H4 ∧ D.nx σ H4 := by
  obtain ⟨kvs, a, b⟩ := r.x
  obtain ⟨q, rfl, hq⟩ := key_at ky w.f
  exact ⟨p, _, rfl, DPut.t a.h hq (by rw [b.len]; exact small_len hl), k _ (w.set a) ⟨_, a.set, b.put rv⟩ fun q o h hq => by rw [upd_ne hq]; exact h⟩
theorem e_dputP (h : tv σ H fun v H1 => td σ H1 fun x H2 => ty σ H2 fun y H3 => ∃ a H4, x = .ref a ∧ DPut H3 a y v H4 ∧ D.nx σ H4) : sDPut td ty tv D σ H := h
end
end Wk
namespace Wk
open PySem L2
section
variable {α κ : Type} [DecidableEq κ] [KeyT κ] {e : Rep α} {F0 H0 F H F' H' : Hp} {d p : Addr} {od : Obj} {kvs : List (Key × V)} {m : List (κ × α)} {xs : List α}
theorem lko_w (w : Wf F0 H0 F H) (z : H0 d = none) (n : F d = none) : Wf F0 H0 (lk1 F d od kvs) (lk1 H d od kvs) := ⟨fun a o h => by
    unfold lk1; rw [upd_ne (ne_of_none h z)]; exact w.h a o h, lk_ex w.f, w.g.tr (Ex.new n), fun a o h h0 => by
    by_cases c : a = d
    · rw [c]; exact z
    · unfold lk1 at h; rw [upd_ne c] at h; exact w.n a o h h0⟩
theorem lko_end (w : Wf F0 H0 F H) (z : H0 d = none) (n : F d = none) (w' : Wf F0 H0 F' H') (g : Ex (lk1 F d od kvs) F') : Wf F0 H0 F (upd H' d (.dK kvs)) := ⟨fun a o h => by
    rw [upd_ne (ne_of_none h z)]; exact w'.h a o h, fun a o h => by
    rw [upd_ne (ne_of_none h n)]
    exact w'.f a o (g a o (by unfold lk1; rw [upd_ne (ne_of_none h n)]; exact h)), w.g, w.n⟩
theorem Xc.lko {o : HO} (x : Xc H0 F H p o) (ne : p ≠ d) : Xc H0 (lk1 F d od kvs) (lk1 H d od kvs) p o := ⟨x.z, by unfold lk1; rw [upd_ne ne]; exact x.n, by unfold lk1; rw [upd_ne ne]; exact x.h⟩
theorem Xc.lkoE {o : HO} (x : Xc H0 F' H' p o) (ne : p ≠ d) (n : F d = none) (g : Ex (lk1 F d od kvs) F') : Xc H0 F (upd H' d (.dK kvs)) p o := ⟨x.z, (by
    cases q : F p with
    | none => rfl
    | some u =>
      have := g p u (by unfold lk1; rw [upd_ne ne]; exact q)
      rw [x.n] at this; exact absurd this (by simp)), by rw [upd_ne ne]; exact x.h⟩
theorem XL.lko (x : XL e H0 F H p xs) (ne : p ≠ d) (n : F d = none) : XL e H0 (lk1 F d od kvs) (lk1 H d od kvs) p xs := let ⟨vs, a, b⟩ := x.x; ⟨vs, a.lko ne, b.mono (Ex.new n)⟩
theorem XD.lko {κ' : Type} [KeyT κ'] {β : Type} {f : Rep β} {m : List (κ' × β)} (x : XD f H0 F H p m) (ne : p ≠ d) (n : F d = none) : XD f H0 (lk1 F d od kvs) (lk1 H d od kvs) p m := let ⟨vs, a, b⟩ := x.x; ⟨vs, a.lko ne, b.mono (Ex.new n)⟩
/-- of what kind a thing is does not hang on the heap -/
def ScR {α : Type} (e : Rep α) : Prop := ∀ {F G : Hp} {v : V} {x : α}, e.r F v x → e.r G v x
theorem ScR.N : ScR pN := fun r => r
theorem ScR.B : ScR pB := fun r => r
theorem ScR.all {α : Type} {e : Rep α} (s : ScR e) {F G : Hp} : ∀ {vs : List V} {xs : List α}, All e F vs xs → All e G vs xs
  | [], [], _ => trivial
  | _ :: _, _ :: _, ⟨a, b⟩ => ⟨s a, ScR.all s b⟩
  | [], _ :: _, q => q.elim
  | _ :: _, [], q => q.elim
theorem ScR.da {α κ : Type} [KeyT κ] {e : Rep α} (s : ScR e) {F G : Hp} : ∀ {kvs : List (Key × V)} {m : List (κ × α)}, DA e F kvs m → DA e G kvs m
  | [], [], _ => trivial
  | _ :: _, _ :: _, ⟨a, b, c⟩ => ⟨a, s b, ScR.da s c⟩
  | [], _ :: _, q => q.elim
  | _ :: _, [], q => q.elim
theorem XL.lkoE (x : XL e H0 F' H' p xs) (ne : p ≠ d) (n : F d = none) (g : Ex (lk1 F d od kvs) F') (s : ScR e) : XL e H0 F (upd H' d (.dK kvs)) p xs := let ⟨vs, a, b⟩ := x.x; ⟨vs, a.lkoE ne n g, s.all b⟩
theorem XD.lkoE {κ' : Type} [KeyT κ'] {β : Type} {f : Rep β} {m : List (κ' × β)} (x : XD f H0 F' H' p m) (ne : p ≠ d) (n : F d = none) (g : Ex (lk1 F d od kvs) F') (s : ScR f) : XD f H0 F (upd H' d (.dK kvs)) p m := let ⟨vs, a, b⟩ := x.x; ⟨vs, a.lkoE ne n g, s.da b⟩
theorem XD.lkMe (x : XD e H0 F H d m) (hd : H d = some (.dK kvs)) (a : DA e F kvs m) {H' : Hp} : XD e H0 F (upd H' d (.dK kvs)) d m := let ⟨_, b, _⟩ := x.x; ⟨kvs, ⟨b.z, b.n, upd_same⟩, a⟩
end
end Wk
namespace Wk
open PySem L2
/-- list(range(n)) -/
theorem t_listRg {F0 H0 F H : Hp} {te : TE} {σ : L2.St} {Q : VK} {n : Nat} (w : Wf F0 H0 F H) (h0 : Val te σ H (.int (n : Nat))) (hn : n < 1000000) (k : ∀ p H', H p = none → Wf F H F H' → XL pN H0 F H' p (List.range n) → Q (.ref p) H') : tLstRg (tRg1 te) σ H Q := by
  refine h0 _ ⟨(n : Nat), rfl, RgOk.of_le (by omega) (by omega) (by omega) (by omega), fun q hq => k q _ hq (Wf.newX w.f hq) ⟨_, Xc.mk' w hq, ?_⟩⟩
  have all : ∀ l : List Nat, All pN F (l.map fun i => V.int (0 + (i : Nat))) l := fun l => by
    induction l with
    | nil => trivial
    | cons i l ih => exact ⟨by show V.int (0 + (i : Nat)) = V.int (i : Nat); rw [Int.zero_add], ih⟩
  have e : (((n : Nat) : Int) - 0).toNat = n := by rw [Int.sub_zero, Int.toNat_natCast]
  show All pN F ((List.range (((n : Nat) : Int) - 0).toNat).map _) _
  rw [e]
  exact all _
end Wk
namespace My
open PySem L2 Wk
def topS (i : Nat) : Stmt := PySem.Challenge.pw_sumwires_k55_whole_all_states_walked.main.body.getD i (.Pass ⟨0, 0, 0, 0⟩)
structure Cz where
  Machine : Addr
  Steps : Addr
  BadMask : Addr
  BadRow : Addr
  t_come_to : Addr
  t_told_apart : Addr
structure Tz (K : PySem.W.Frag) (mg : Str → Option Value) (cc : Cz) : Prop where
  cl_Machine : Cls K cc.Machine
  na_Machine_inputs : NoAttr K cc.Machine "inputs"
  na_Machine_nexts : NoAttr K cc.Machine "nexts"
  na_Machine_outs : NoAttr K cc.Machine "outs"
  cl_Steps : Cls K cc.Steps
  na_Steps_kept : NoAttr K cc.Steps "kept"
  na_Steps_found : NoAttr K cc.Steps "found"
  na_Steps_gone : NoAttr K cc.Steps "gone"
  xc_BadMask : XC K mg "BadMask" cc.BadMask
  xc_BadRow : XC K mg "BadRow" cc.BadRow
  gl_MOST_INPUTS : ∃ u, mg "MOST_INPUTS" = some u ∧ RelV (.int 6) u
  gl_MOST_OUTS : ∃ u, mg "MOST_OUTS" = some u ∧ RelV (.int 6) u
  gl_MOST_STORES : ∃ u, mg "MOST_STORES" = some u ∧ RelV (.int 120) u
  gl_MOST_TURNS : ∃ u, mg "MOST_TURNS" = some u ∧ RelV (.int 40) u
  ne_come_to_told_apart : cc.t_come_to ≠ cc.t_told_apart
abbrev s_is_whole : Stmt := topS 7
def W_is_whole (thing1 : An) (R : Bool → Prop) : Prop := R (decide (((isA "int" thing1) = true) ∧ (¬ ((isA "bool" thing1) = true))))
def sp_is_whole (K : PySem.W.Frag) (cc : Cz) : Sp := fun vs H Q _ => ∃ (F : Hp) (v1 : V) (thing1 : An) (R : Bool → Prop), vs = [v1] ∧ Ex F H ∧ pA.r F v1 thing1 ∧ W_is_whole thing1 R ∧ ∀ z, R z → ∀ F' H', Wf F H F' H' → Q (.bl (z)) H'
abbrev N_is_whole : List Str := ["thing"]
theorem sc_is_whole : FnScope N_is_whole ["thing"] (defScope s_is_whole) := ⟨rfl, rfl, rfl, by decide +kernel, rfl, by decide +kernel, by decide +kernel⟩
theorem ok_is_whole {P : Program} {w0 : World} {K : PySem.W.Frag} {mg : Str → Option Value} {base : Heap} {f : Addr} {fd : FuncData} {cc : Cz} (T : Tz K mg cc) (FU : Fun K "is_whole" "is_whole" s_is_whole f fd) (hm : mg "is_whole" = some (.ref f)) (hb : Binds K fd ["thing"] []) (n_bool : mg "bool" = none) (n_int : mg "int" = none) (n_isinstance : mg "isinstance" = none) : Fn P w0 K mg base CX0 1 "is_whole" ["thing"] (sp_is_whole K cc) := by
  refine ⟨f, fd, FU.ok sc_is_whole (fun vs H Q E h => ?_) (fun cdv A outer s H0 vs Q E hr h => ?_), hm, FU.kp, hb⟩
  · obtain ⟨_, _, _, _, rfl, _⟩ := h; rfl
  · obtain ⟨F0, v1, thing1, R, rfl, wf, r1, hW, hQ⟩ := h
    have nd := sc_is_whole.nd
    refine ⟨(tRet (tAndV (tCB (rIsi K) (tCons (tVar 0) (tCons (tC (.ty "int")) tNil))) (tNotV (tCB (rIsi K) (tCons (tVar 0) (tCons (tC (.ty "bool")) tNil)))))), (pss_one (ps_ret (pe_and (pe_callB call_isi (by rfl) n_isinstance PyProof.Rows.boot_isinstance (pa_cons (pv 0) (pa_cons (pe_bltn (v := .ty "int") (by rfl) n_int PyProof.Rows.boot_int rfl) pa_nil))) (pe_one (pe_not (pe_callB call_isi (by rfl) n_isinstance PyProof.Rows.boot_isinstance (pa_cons (pv 0) (pa_cons (pe_bltn (v := .ty "bool") (by rfl) n_bool PyProof.Rows.boot_bool rfl) pa_nil)))))))), ?_⟩
    have w := Wf.id wf
    refine a_ret (v := (.bl (decide (((isA "int" thing1) = true) ∧ (¬ ((isA "bool" thing1) = true)))))) (vt_and (vb_of (v_isiA "int" (val_var rfl) r1 w.f) dec_tt) (fun _ => (vt_not (vb_of (v_isiA "bool" (val_var rfl) r1 w.f) dec_tt)))) ?_
    exact hQ _ hW _ _ w
abbrev s_is_mask : Stmt := topS 8
def W_is_mask (thing1 : An) (width1 : Nat) (R : Bool → Prop) : Prop := jn (fun kk => W_is_whole thing1 fun z1 => if z1 = true then (∃ y1 : Int, thing1 = An.i y1 ∧ (width1 < 100000000) ∧ kk (decide (((0 : Nat) : Int) ≤ y1 ∧ y1 < ((2 ^ width1 : Nat) : Int)))) else (kk false)) fun b1 => R b1
def sp_is_mask (K : PySem.W.Frag) (cc : Cz) : Sp := fun vs H Q _ => ∃ (F : Hp) (v1 : V) (thing1 : An) (width1 : Nat) (R : Bool → Prop), vs = [v1, (.int ((width1 : Nat) : Int))] ∧ Ex F H ∧ pA.r F v1 thing1 ∧ W_is_mask thing1 width1 R ∧ ∀ z, R z → ∀ F' H', Wf F H F' H' → Q (.bl (z)) H'
abbrev N_is_mask : List Str := ["thing", "width"]
theorem sc_is_mask : FnScope N_is_mask ["thing", "width"] (defScope s_is_mask) := ⟨rfl, rfl, rfl, by decide +kernel, rfl, by decide +kernel, by decide +kernel⟩
theorem ok_is_mask {P : Program} {w0 : World} {K : PySem.W.Frag} {mg : Str → Option Value} {base : Heap} {f : Addr} {fd : FuncData} {cc : Cz} (T : Tz K mg cc) (FU : Fun K "is_mask" "is_mask" s_is_mask f fd) (hm : mg "is_mask" = some (.ref f)) (hb : Binds K fd ["thing", "width"] []) (c_is_whole : Fn P w0 K mg base CX0 1 "is_whole" ["thing"] (sp_is_whole K cc)) : Fn P w0 K mg base CX0 2 "is_mask" ["thing", "width"] (sp_is_mask K cc) := by
  refine ⟨f, fd, FU.ok sc_is_mask (fun vs H Q E h => ?_) (fun cdv A outer s H0 vs Q E hr h => ?_), hm, FU.kp, hb⟩
  · obtain ⟨_, _, _, _, _, rfl, _⟩ := h; rfl
  · obtain ⟨F0, v1, thing1, width1, R, rfl, wf, r1, hW, hQ⟩ := h
    have nd := sc_is_mask.nd
    refine ⟨(tRet (tAndV (tCall (sp_is_whole K cc) [] E0 (tCons (tVar 0) tNil)) (tChain kLe kLt (tC (.int 0)) (tVar 0) (tOp kShl (tC (.int 1)) (tVar 1))))), (pss_one (ps_ret (pe_and (pe_fn c_is_whole (hr.mono (by decide)) rfl (pa_cons (pv 0) pa_nil)) (pe_one (pe_chain op_le op_lt pe_int (pv 0) (pe_op op_shlW pe_int (pv 1))))))), ?_⟩
    have w := Wf.id wf
    refine a_retE ?_
    refine e_jnV hW (fun b F' H' => b = b ∧ Wf F0 H0 F' H' ∧ Ex F0 F') ?_ ?_
    · intro N1 hN1 hW
      have gx1 : Ex F0 F0 := Ex.rfl'
      refine e_AndV ?_
      refine e_call ?_
      refine a_val (v := v1) (val_var rfl) ?_
      refine a_nil ?_
      refine ⟨F0, (v1), (thing1), _, rfl, w.f, r1, hW, ?_⟩
      intro z1 hW F1 H1 s1
      replace r1 := Rep.mono _ s1.g r1
      replace w := w.tr s1
      replace gx1 := Ex.tr gx1 s1.g
      refine bl_if ?_
      refine bb_if (fun hc1 => ?_) (fun hc1 => ?_)
      · have hW := ifP hW hc1
        obtain ⟨y1, hy1, hW⟩ := hW
        have hv1 := an_i r1 hy1
        obtain ⟨c1, hW⟩ := hW
        refine e_val (v := .bl (decide (((0 : Nat) : Int) ≤ y1 ∧ y1 < ((2 ^ width1 : Nat) : Int)))) (vb_of (v_chain (b1 := decide (((0 : Nat) : Int) ≤ y1)) (b2 := decide (y1 < ((2 ^ width1 : Nat) : Int))) (x := (.int ((0 : Nat) : Int))) (y := (.int (y1))) (z := (.int ((2 ^ width1 : Nat) : Int))) val_c (v_eq (val_var rfl) hv1) (vn_one val_c (val_var rfl) c1) (fun Q k => rv2 (c_le val_c val_c) k) (fun Q k => rv2 (c_lt val_c val_c) k)) dec_and) ?_
        exact hN1 (decide (((0 : Nat) : Int) ≤ y1 ∧ y1 < ((2 ^ width1 : Nat) : Int))) _ _ ⟨rfl, w, gx1⟩ hW
      · have hW := ifN hW hc1
        exact hN1 false _ _ ⟨rfl, w, gx1⟩ hW
    intro b1 F2 H2 hI1 hW
    obtain ⟨_, w, gx2⟩ := hI1
    have r1 := Rep.mono _ gx2 r1
    exact hQ _ hW _ _ w
abbrev s_even : Stmt := topS 9
def W_even (number1 : Nat) (R : Bool → Prop) : Prop := whileW (fun (many1, number2) T => T (decide (0 < number2))) (fun (many1, number2) nx1 bk1 => ∀ many2 : Nat, many2 = many1 ^^^ (number2 &&& 1) → ∀ number3 : Nat, number3 = number2 >>> 1 → nx1 (many2, number3)) (0, number1) fun (many1, number2) => R (decide (many1 = 0))
def sp_even (K : PySem.W.Frag) (cc : Cz) : Sp := fun vs H Q _ => ∃ (F : Hp) (number1 : Nat) (R : Bool → Prop), vs = [(.int ((number1 : Nat) : Int))] ∧ Ex F H ∧ W_even number1 R ∧ ∀ z, R z → ∀ F' H', Wf F H F' H' → Q (.bl (z)) H'
abbrev N_even : List Str := ["number", "many"]
theorem sc_even : FnScope N_even ["number"] (defScope s_even) := ⟨rfl, rfl, rfl, by decide +kernel, rfl, by decide +kernel, by decide +kernel⟩
theorem ok_even {P : Program} {w0 : World} {K : PySem.W.Frag} {mg : Str → Option Value} {base : Heap} {f : Addr} {fd : FuncData} {cc : Cz} (T : Tz K mg cc) (FU : Fun K "even" "even" s_even f fd) (hm : mg "even" = some (.ref f)) (hb : Binds K fd ["number"] []) : Fn P w0 K mg base CX0 1 "even" ["number"] (sp_even K cc) := by
  refine ⟨f, fd, FU.ok sc_even (fun vs H Q E h => ?_) (fun cdv A outer s H0 vs Q E hr h => ?_), hm, FU.kp, hb⟩
  · obtain ⟨_, _, _, rfl, _⟩ := h; rfl
  · obtain ⟨F0, number1, R, rfl, wf, hW, hQ⟩ := h
    have nd := sc_even.nd
    refine ⟨(tSeq (tAsg (tC (.int 0)) (gName 1)) (tSeq (tWhile (tTest (tOp kGt (tVar 0) (tC (.int 0)))) (tSeq (tAug 1 (tOp kAnd (tVar 0) (tC (.int 1))) kXor) (tAug 0 (tC (.int 1)) kShr))) (tRet (tOp L2.rEq (tVar 1) (tC (.int 0)))))), (pss_cons (ps_set (i := 1) nd rfl (Or.inl rfl) pe_int) (pss_cons (ps_while PassesOwn.never (pt_cmpR op_gt (pv 0) pe_int (nomark _)) (pss_cons (ps_aug (i := 1) nd rfl (Or.inl rfl) (pe_op op_and (pv 0) pe_int) iop_xor) (pss_one (ps_aug (i := 0) nd rfl (Or.inl rfl) pe_int iop_shr)))) (pss_one (ps_ret (pe_cmpR op_eq (pv 1) pe_int (nomark _)))))), ?_⟩
    have w := Wf.id wf
    refine q_sq fun N1 hN1 => ?_
    refine a_asg (v := (.int ((0 : Nat) : Int))) val_c ?_
    refine hN1 _ _ ?_
    refine q_sq fun N2 hN2 => ?_
    refine w_while (S := Nat × Nat) (fun s σ' F' H' => match s with | (many1, number2) => Wf F0 H0 F' H' ∧ Ex F0 F' ∧ σ' = [some (.int ((number2 : Nat) : Int)), some (.int ((many1 : Nat) : Int))]) hW ⟨w, Ex.rfl', rfl⟩ ?_ ?_ ?_
    · intro s1 σ' F1 H1 T1 Qc1 hI1 hW hT1
      obtain ⟨many1, number2⟩ := s1
      obtain ⟨w, gx1, rfl⟩ := hI1
      refine e_ans (b := decide (0 < number2)) (t_of (vb_dec (c_gt (val_var rfl) val_c) n_lt)) ?_
      exact hT1 _ _ _ ⟨w, gx1, rfl⟩ hW
    · intro N3 Bk1 s2 σ' F2 H2 nx1 bk1 hI2 hW hN3 hB1
      obtain ⟨many1, number2⟩ := s2
      obtain ⟨w, gx2, rfl⟩ := hI2
      refine q_sq fun N4 hN4 => ?_
      obtain ⟨many2, emany1⟩ : ∃ many2 : Nat, many2 = many1 ^^^ (number2 &&& 1) := ⟨_, rfl⟩
      replace hW := hW many2 emany1
      refine a_augV (x := (.int ((many1 : Nat) : Int))) (y := (.int ((number2 &&& 1 : Nat) : Int))) (z := (.int ((many2 : Nat) : Int))) rfl (vn_and (val_var rfl) val_c) (v_eq (vn_xor val_c val_c) (by rw [emany1])) ?_
      refine hN4 _ _ ?_
      obtain ⟨number3, enumber1⟩ : ∃ number3 : Nat, number3 = number2 >>> 1 := ⟨_, rfl⟩
      replace hW := hW number3 enumber1
      refine a_augV (x := (.int ((number2 : Nat) : Int))) (y := (.int ((1 : Nat) : Int))) (z := (.int ((number3 : Nat) : Int))) rfl val_c (v_eq (vn_shr val_c val_c) (by rw [enumber1])) ?_
      exact hN3 (many2, number3) _ _ _ ⟨w, gx2, rfl⟩ hW
    · intro s3 σ' F3 H3 hI3 hW
      obtain ⟨many1, number2⟩ := s3
      obtain ⟨w, gx3, rfl⟩ := hI3
      refine hN2 _ _ ?_
      refine a_ret (v := (.bl (decide (many1 = 0)))) (vb_dec (c_eqI (val_var rfl) val_c) n_eq) ?_
      exact hQ _ hW _ _ w
abbrev s_bits_of : Stmt := topS 10
def W_bits_of (mask1 : Nat) (R : (List Nat) → Prop) : Prop := whileW (fun (found1, mask2, place1) T => T (decide (0 < mask2))) (fun (found1, mask2, place1) nx1 bk1 => jn (fun kk => if (mask2 &&& 1) = 1 then ((found1.length < 1000000) ∧ kk (found1 ++ [place1])) else (kk found1)) fun found2 => ∀ mask3 : Nat, mask3 = mask2 >>> 1 → ∀ place2 : Nat, place2 = place1 + 1 → nx1 (found2, mask3, place2)) (([] : List Nat), mask1, 0) fun (found1, mask2, place1) => R found1
def sp_bits_of (K : PySem.W.Frag) (cc : Cz) : Sp := fun vs H Q _ => ∃ (F : Hp) (mask1 : Nat) (R : (List Nat) → Prop), vs = [(.int ((mask1 : Nat) : Int))] ∧ Ex F H ∧ W_bits_of mask1 R ∧ ∀ z, R z → ∀ p F' H', Wf F H F' H' → XL pN H F' H' p z → Q (.ref p) H'
abbrev N_bits_of : List Str := ["mask", "found", "place"]
theorem sc_bits_of : FnScope N_bits_of ["mask"] (defScope s_bits_of) := ⟨rfl, rfl, rfl, by decide +kernel, rfl, by decide +kernel, by decide +kernel⟩
theorem ok_bits_of {P : Program} {w0 : World} {K : PySem.W.Frag} {mg : Str → Option Value} {base : Heap} {f : Addr} {fd : FuncData} {cc : Cz} (T : Tz K mg cc) (FU : Fun K "bits_of" "bits_of" s_bits_of f fd) (hm : mg "bits_of" = some (.ref f)) (hb : Binds K fd ["mask"] []) : Fn P w0 K mg base CX0 1 "bits_of" ["mask"] (sp_bits_of K cc) := by
  refine ⟨f, fd, FU.ok sc_bits_of (fun vs H Q E h => ?_) (fun cdv A outer s H0 vs Q E hr h => ?_), hm, FU.kp, hb⟩
  · obtain ⟨_, _, _, rfl, _⟩ := h; rfl
  · obtain ⟨F0, mask1, R, rfl, wf, hW, hQ⟩ := h
    have nd := sc_bits_of.nd
    refine ⟨(tSeq (tAsg (tLst tNil) (gName 1)) (tSeq (tAsg (tC (.int 0)) (gName 2)) (tSeq (tWhile (tTest (tOp kGt (tVar 0) (tC (.int 0)))) (tSeq (tIfS (tTest (tOp L2.rEq (tOp kAnd (tVar 0) (tC (.int 1))) (tC (.int 1)))) (tDrop (tBM K "list" rAppend (tVar 1) (tCons (tVar 2) tNil))) tNext) (tSeq (tAug 0 (tC (.int 1)) kShr) (tAug 2 (tC (.int 1)) kAdd)))) (tRet (tVar 1))))), (pss_cons (ps_set (i := 1) nd rfl (Or.inl rfl) (pe_lst pa_nil)) (pss_cons (ps_set (i := 2) nd rfl (Or.inl rfl) pe_int) (pss_cons (ps_while PassesOwn.never (pt_cmpR op_gt (pv 0) pe_int (nomark _)) (pss_cons (ps_if (pt_cmpR op_eq (pe_op op_and (pv 0) pe_int) pe_int (nomark _)) (pss_one (ps_expr (pe_bm PySem.F.plainAttrs_list PySem.F.slot_list_append PySem.F.type_list_append mt_append (pv 1) (pa_cons (pv 2) pa_nil)))) pss_nil) (pss_cons (ps_aug (i := 0) nd rfl (Or.inl rfl) pe_int iop_shr) (pss_one (ps_aug (i := 2) nd rfl (Or.inl rfl) pe_int iop_add))))) (pss_one (ps_ret (pv 1)))))), ?_⟩
    have w := Wf.id wf
    refine q_sq fun N1 hN1 => ?_
    refine a_asgE ?_
    refine e_lst ?_
    refine a_nil ?_
    refine n_lstX (e := pN) (xs := []) (vs := []) (show All pN _ [] [] from trivial) (show 0 < 1000000 from by decide) w ?_
    intro p1 H1 hp1 s1 x1
    replace w := w.tr s1
    refine hN1 _ _ ?_
    refine q_sq fun N2 hN2 => ?_
    refine a_asg (v := (.int ((0 : Nat) : Int))) val_c ?_
    refine hN2 _ _ ?_
    refine q_sq fun N3 hN3 => ?_
    refine w_while (S := List Nat × Nat × Nat) (fun s σ' F' H' => match s with | (found1, mask2, place1) => Wf F0 H0 F' H' ∧ Ex F0 F' ∧ σ' = [some (.int ((mask2 : Nat) : Int)), some ((.ref p1)), some (.int ((place1 : Nat) : Int))] ∧ XL pN H0 F' H' p1 found1) hW ⟨w, Ex.rfl', rfl, x1⟩ ?_ ?_ ?_
    · intro s2 σ' F1 H2 T1 Qc1 hI1 hW hT1
      obtain ⟨found1, mask2, place1⟩ := s2
      obtain ⟨w, gx1, rfl, x2⟩ := hI1
      refine e_ans (b := decide (0 < mask2)) (t_of (vb_dec (c_gt (val_var rfl) val_c) n_lt)) ?_
      exact hT1 _ _ _ ⟨w, gx1, rfl, x2⟩ hW
    · intro N4 Bk1 s3 σ' F2 H3 nx1 bk1 hI2 hW hN4 hB1
      obtain ⟨found1, mask2, place1⟩ := s3
      obtain ⟨w, gx2, rfl, x2⟩ := hI2
      refine q_jn (S := List Nat) hW (fun found2 σ' F' H' => Wf F0 H0 F' H' ∧ Ex F2 F' ∧ σ' = [some (.int ((mask2 : Nat) : Int)), some ((.ref p1)), some (.int ((place1 : Nat) : Int))] ∧ XL pN H0 F' H' p1 found2) ?_ ?_
      · intro N5 hN5 hW
        have gx3 : Ex F2 F2 := Ex.rfl'
        refine a_ifE ?_
        refine e_ans (b := decide ((mask2 &&& 1) = 1)) (t_of (vb_dec (c_eqI (vn_and (val_var rfl) val_c) val_c) n_eq)) ?_
        refine b_if (fun hc1 => ?_) (fun hc1 => ?_)
        · have hW := ifP hW hc1
          refine a_dropE ?_
          refine m_list x2 (val_var rfl) ?_
          refine a_val (v := (.int ((place1 : Nat) : Int))) (val_var rfl) ?_
          refine a_nil ?_
          obtain ⟨c1, hW⟩ := hW
          refine a_app x2 w c1 rfl (fun H4 w1 x4 kp1 => ?_)
          replace w := w1
          exact hN5 (found1 ++ [place1]) _ _ _ ⟨w, gx3, rfl, x4⟩ hW
        · have hW := ifN hW hc1
          exact hN5 found1 _ _ _ ⟨w, gx3, rfl, x2⟩ hW
      · intro found2 σ' F3 H5 hI3 hW
        obtain ⟨w, gx4, rfl, x3⟩ := hI3
        have gx2 := Ex.tr gx2 gx4
        refine q_sq fun N6 hN6 => ?_
        obtain ⟨mask3, emask1⟩ : ∃ mask3 : Nat, mask3 = mask2 >>> 1 := ⟨_, rfl⟩
        replace hW := hW mask3 emask1
        refine a_augV (x := (.int ((mask2 : Nat) : Int))) (y := (.int ((1 : Nat) : Int))) (z := (.int ((mask3 : Nat) : Int))) rfl val_c (v_eq (vn_shr val_c val_c) (by rw [emask1])) ?_
        refine hN6 _ _ ?_
        obtain ⟨place2, eplace1⟩ : ∃ place2 : Nat, place2 = place1 + 1 := ⟨_, rfl⟩
        replace hW := hW place2 eplace1
        refine a_augV (x := (.int ((place1 : Nat) : Int))) (y := (.int ((1 : Nat) : Int))) (z := (.int ((place2 : Nat) : Int))) rfl val_c (v_eq (vn_add val_c val_c) (by rw [eplace1])) ?_
        exact hN4 (found2, mask3, place2) _ _ _ ⟨w, gx2, rfl, x3⟩ hW
    · intro s5 σ' F4 H6 hI4 hW
      obtain ⟨found1, mask2, place1⟩ := s5
      obtain ⟨w, gx5, rfl, x2⟩ := hI4
      refine hN3 _ _ ?_
      refine a_ret (v := (.ref p1)) (val_var rfl) ?_
      exact hQ _ hW _ _ _ w x2
abbrev s_Steps_lowered : Stmt := inClass (topS 12) 1
def W_Steps_lowered (kept1 : List (Nat × (Nat × Nat))) (row1 : Nat) (places1 : Nat) (R : (Nat × Nat) → Prop) : Prop := whileW (fun (row2, places2) T => T (decide (hasT kept1 (bits row2) = true))) (fun (row2, places2) nx1 bk1 => ∃ x3, valT kept1 (bits row2) = some x3 ∧ ∀ row3 : Nat, row3 = row2 ^^^ x3.1 → ∀ places3 : Nat, places3 = places2 ^^^ x3.2 → nx1 (row3, places3)) (row1, places1) fun (row2, places2) => R (row2, places2)
def sp_Steps_lowered (K : PySem.W.Frag) (cc : Cz) : Sp := fun vs H Q _ => ∃ (F : Hp) (ob dx d : Addr) (fs : List (Str × V)) (kept1 : List (Nat × (Nat × Nat))) (row1 : Nat) (places1 : Nat) (R : (Nat × Nat) → Prop), vs = [(.ref ob), (.int ((row1 : Nat) : Int)), (.int ((places1 : Nat) : Int))] ∧ Ex F H ∧ H ob = some (.ins cc.Steps dx fs) ∧ fs.lookup ("kept" : Str) = some (V.ref d) ∧ BD (pT2 pN pN) F H d kept1 ∧ W_Steps_lowered kept1 row1 places1 R ∧ ∀ z, R z → ∀ v F' H', Wf F H F' H' → (pT2 pN pN).r F' v z → Q v H'
abbrev N_Steps_lowered : List Str := ["self", "row", "places", "other", "more"]
theorem sc_Steps_lowered : FnScope N_Steps_lowered ["self", "row", "places"] (defScope s_Steps_lowered) := ⟨rfl, rfl, rfl, by decide +kernel, rfl, by decide +kernel, by decide +kernel⟩
theorem ok_Steps_lowered {P : Program} {w0 : World} {K : PySem.W.Frag} {mg : Str → Option Value} {base : Heap} {f : Addr} {fd : FuncData} {cc : Cz} (T : Tz K mg cc) (FU : Fun K "lowered" "Steps.lowered" s_Steps_lowered f fd) (hm : Meth K cc.Steps "lowered" f) (hb : Binds K fd ["self", "row", "places"] []) : Md P w0 K mg base CX0 1 cc.Steps "lowered" ["self", "row", "places"] (sp_Steps_lowered K cc) := by
  refine ⟨f, fd, FU.ok sc_Steps_lowered (fun vs H Q E h => ?_) (fun cdv A outer s H0 vs Q E hr h => ?_), hm, hb⟩
  · obtain ⟨_, _, _, _, _, _, _, _, _, rfl, _⟩ := h; rfl
  · obtain ⟨F0, ob, dx, d, fs, kept1, row1, places1, R, rfl, wf, hob, lk_kept, bd, hW, hQ⟩ := h
    have nd := sc_Steps_lowered.nd
    refine ⟨(tSeq (tWhile (tB (tDIn (tBits (tVar 1)) (tFld K (tVar 0) "kept"))) (tSeq (tAsg (tDGet (tFld K (tVar 0) "kept") (tBits (tVar 1))) (gTup K 2 (gCons (gName 3) (gCons (gName 4) gNil)))) (tSeq (tAug 1 (tVar 3) kXor) (tAug 2 (tVar 4) kXor)))) (tRet (tTup (tCons (tVar 1) (tCons (tVar 2) tNil))))), (pss_cons (ps_while PassesOwn.never (pt_cmp (pc_din (hu_of hr) (pe_bits (pv 1)) (pe_fld (pv 0) rfl))) (pss_cons (ps_asg (pe_dget (hu_of hr) (pe_fld (pv 0) rfl) (pe_bits (pv 1)) (fun _ _ => rfl)) (pg_tup rfl (pgs_cons (pg_name (i := 3) nd rfl (Or.inl rfl)) (pgs_cons (pg_name (i := 4) nd rfl (Or.inl rfl)) pgs_nil)) (by rfl))) (pss_cons (ps_aug (i := 1) nd rfl (Or.inl rfl) (pv 3) iop_xor) (pss_one (ps_aug (i := 2) nd rfl (Or.inl rfl) (pv 4) iop_xor))))) (pss_one (ps_ret (pe_tup (pa_cons (pv 1) (pa_cons (pv 2) pa_nil)))))), ?_⟩
    have bo : BO cc.Steps F0 H0 ob dx fs := ⟨hob⟩
    have w := Wf.id wf
    refine q_sq fun N1 hN1 => ?_
    refine w_while (S := Nat × Nat) (fun s σ' F' H' => match s with | (row2, places2) => ∃ (o1 : Option V) (o2 : Option V), Wf F0 H0 F' H' ∧ Ex F0 F' ∧ σ' = [some (.ref ob), some (.int ((row2 : Nat) : Int)), some (.int ((places2 : Nat) : Int)), o1, o2] ∧ BO cc.Steps F' H' ob dx fs ∧ BD (pT2 pN pN) F' H' d kept1) hW ⟨_, _, w, Ex.rfl', rfl, bo, bd⟩ ?_ ?_ ?_
    · intro s1 σ' F1 H1 T1 Qc1 hI1 hW hT1
      obtain ⟨row2, places2⟩ := s1
      obtain ⟨o1, o2, w, gx1, rfl, x1, x2⟩ := hI1
      refine e_ans (b := decide (hasT kept1 (bits row2) = true)) (t_ofB (vb_of (in_BD (j := bits row2) x2 (vn_bitl (val_var rfl)) (fl_B (na := T.na_Steps_kept) T.cl_Steps x1 lk_kept (val_var rfl))) dec_tt)) ?_
      exact hT1 _ _ _ ⟨_, _, w, gx1, rfl, x1, x2⟩ hW
    · intro N2 Bk1 s2 σ' F2 H2 nx1 bk1 hI2 hW hN2 hB1
      obtain ⟨row2, places2⟩ := s2
      obtain ⟨o1, o2, w, gx2, rfl, x1, x2⟩ := hI2
      refine q_sq fun N3 hN3 => ?_
      refine a_asgG ?_
      obtain ⟨x3, hx1, hW⟩ := hW
      obtain ⟨v1, r1, ix1⟩ := ix_BD x2 hx1
      refine e_val (v := v1) (ix1 (fl_B (na := T.na_Steps_kept) T.cl_Steps x1 lk_kept (val_var rfl)) (vn_bitl (val_var rfl))) ?_
      obtain ⟨p1, u1, u2, rfl, h1, rfl, rfl⟩ := r1
      refine ⟨p1, _, rfl, SqT.of (w.f _ _ h1), rfl, _, _, rfl, _, _, rfl, rfl, ?_⟩
      refine hN3 _ _ ?_
      refine q_sq fun N4 hN4 => ?_
      obtain ⟨row3, erow1⟩ : ∃ row3 : Nat, row3 = row2 ^^^ x3.1 := ⟨_, rfl⟩
      replace hW := hW row3 erow1
      refine a_augV (x := (.int ((row2 : Nat) : Int))) (y := (.int ((x3.1 : Nat) : Int))) (z := (.int ((row3 : Nat) : Int))) rfl (val_var rfl) (v_eq (vn_xor val_c val_c) (by rw [erow1])) ?_
      refine hN4 _ _ ?_
      obtain ⟨places3, eplaces1⟩ : ∃ places3 : Nat, places3 = places2 ^^^ x3.2 := ⟨_, rfl⟩
      replace hW := hW places3 eplaces1
      refine a_augV (x := (.int ((places2 : Nat) : Int))) (y := (.int ((x3.2 : Nat) : Int))) (z := (.int ((places3 : Nat) : Int))) rfl (val_var rfl) (v_eq (vn_xor val_c val_c) (by rw [eplaces1])) ?_
      exact hN2 (row3, places3) _ _ _ ⟨_, _, w, gx2, rfl, x1, x2⟩ hW
    · intro s3 σ' F3 H3 hI3 hW
      obtain ⟨row2, places2⟩ := s3
      obtain ⟨o1, o2, w, gx3, rfl, x1, x2⟩ := hI3
      refine hN1 _ _ ?_
      refine a_retE ?_
      refine e_tup ?_
      refine a_val (v := (.int ((row2 : Nat) : Int))) (val_var rfl) ?_
      refine a_val (v := (.int ((places2 : Nat) : Int))) (val_var rfl) ?_
      refine a_nil ?_
      refine n_tup2 (e := pN) (f := pN) (x := row2) (y := places2) rfl rfl w ?_
      intro p2 F4 H4 s4 r2
      replace x1 := x1.step s4
      replace x2 := x2.step s4
      replace w := w.tr s4
      replace gx3 := Ex.tr gx3 s4.g
      exact hQ _ hW _ _ _ w r2
abbrev s_Steps_crossing : Stmt := inClass (topS 12) 2
def W_Steps_crossing (self1 : List (Nat × (Nat × Nat)) × List Nat × List Nat) (bit1 : Nat) (R : Nat → Prop) : Prop := (bit1 < 100000000) ∧ ∀ mask1 : Nat, mask1 = 2 ^ bit1 → (self1.1.length < 1000000) ∧ ∀ ys1 : List Nat, ys1.Perm (self1.1.map (·.1)) → ys1.Pairwise (· ≤ ·) → forW ys1 mask1 (fun top1 mask2 nx1 bk1 => ∃ x2, valT self1.1 top1 = some x2 ∧ ∃ x3, valT self1.1 top1 = some x3 ∧ ∀ row1 : Nat, row1 = x3.1 → W_even (row1 &&& mask2) fun z1 => if z1 = true then (nx1 mask2) else ((1 ≤ top1) ∧ (top1 - 1 < 100000000) ∧ ∀ mask3 : Nat, mask3 = mask2 ^^^ (2 ^ (top1 - 1)) → nx1 mask3)) fun mask2 => R mask2
def sp_Steps_crossing (K : PySem.W.Frag) (cc : Cz) : Sp := fun vs H Q _ => ∃ (F : Hp) (v1 : V) (self1 : List (Nat × (Nat × Nat)) × List Nat × List Nat) (bit1 : Nat) (R : Nat → Prop), vs = [v1, (.int ((bit1 : Nat) : Int))] ∧ Ex F H ∧ (pO3 cc.Steps "kept" "found" "gone" (pD (κ := Nat) (pT2 pN pN)) (pL pN) (pL pN)).r F v1 self1 ∧ W_Steps_crossing self1 bit1 R ∧ ∀ z, R z → ∀ F' H', Wf F H F' H' → Q (.int ((z : Nat) : Int)) H'
abbrev N_Steps_crossing : List Str := ["self", "bit", "mask", "top", "row"]
theorem sc_Steps_crossing : FnScope N_Steps_crossing ["self", "bit"] (defScope s_Steps_crossing) := ⟨rfl, rfl, rfl, by decide +kernel, rfl, by decide +kernel, by decide +kernel⟩
theorem ok_Steps_crossing {P : Program} {w0 : World} {K : PySem.W.Frag} {mg : Str → Option Value} {base : Heap} {f : Addr} {fd : FuncData} {cc : Cz} (T : Tz K mg cc) (FU : Fun K "crossing" "Steps.crossing" s_Steps_crossing f fd) (hm : Meth K cc.Steps "crossing" f) (hb : Binds K fd ["self", "bit"] []) (c_even : Fn P w0 K mg base CX0 1 "even" ["number"] (sp_even K cc)) (n_sorted : mg "sorted" = none) : Md P w0 K mg base CX0 2 cc.Steps "crossing" ["self", "bit"] (sp_Steps_crossing K cc) := by
  refine ⟨f, fd, FU.ok sc_Steps_crossing (fun vs H Q E h => ?_) (fun cdv A outer s H0 vs Q E hr h => ?_), hm, hb⟩
  · obtain ⟨_, _, _, _, _, rfl, _⟩ := h; rfl
  · obtain ⟨F0, v1, self1, bit1, R, rfl, wf, r1, hW, hQ⟩ := h
    have nd := sc_Steps_crossing.nd
    refine ⟨(tSeq (tAsg (tOp kShl (tC (.int 1)) (tVar 1)) (gName 2)) (tSeq (tFor (iList K (tCB rSortedDX (tCons (tFld K (tVar 0) "kept") tNil))) (gName 3) (tSeq (tAsg (tOp (L2.rIxT K) (tDGet (tFld K (tVar 0) "kept") (tVar 3)) (tC (.int 0))) (gName 4)) (tIfS (tNot (tB (tCall (sp_even K cc) [] E0 (tCons (tOp kAnd (tVar 4) (tVar 2)) tNil)))) (tAug 2 (tOp kShl (tC (.int 1)) (tOp kSub (tVar 3) (tC (.int 1)))) kXor) tNext))) (tRet (tVar 2)))), (pss_cons (ps_set (i := 2) nd rfl (Or.inl rfl) (pe_op op_shlW pe_int (pv 1))) (pss_cons (ps_for PassesOwn.never rfl (pi_list (pe_callB (call_sortedDX rfl) (by rfl) n_sorted PyProof.Rows.boot_sorted (pa_cons (pe_fld (pv 0) rfl) pa_nil))) (pg_name (i := 3) nd rfl (Or.inl rfl)) (pss_cons (ps_set (i := 4) nd rfl (Or.inl rfl) (pe_ix ix_tup (pe_dget (hu_of hr) (pe_fld (pv 0) rfl) (pv 3) (fun _ _ => rfl)) pe_int (fun _ _ => rfl))) (pss_one (ps_if (pt_not (pt_val (pe_fn c_even (hr.mono (by decide)) rfl (pa_cons (pe_op op_and (pv 4) (pv 2)) pa_nil)))) (pss_one (ps_aug (i := 2) nd rfl (Or.inl rfl) (pe_op op_shlW pe_int (pe_op op_sub (pv 3) pe_int)) iop_xor)) pss_nil)))) (pss_one (ps_ret (pv 2))))), ?_⟩
    have w := Wf.id wf
    refine q_sq fun N1 hN1 => ?_
    obtain ⟨c1, hW⟩ := hW
    obtain ⟨mask1, emask1⟩ : ∃ mask1 : Nat, mask1 = 2 ^ bit1 := ⟨_, rfl⟩
    replace hW := hW mask1 emask1
    refine a_asg (v := (.int ((mask1 : Nat) : Int))) (v_eq (vn_one val_c (val_var rfl) c1) (by rw [emask1])) ?_
    refine hN1 _ _ ?_
    refine q_sq fun N2 hN2 => ?_
    refine f_LE ?_
    refine e_cb ?_
    obtain ⟨v2, r2, fl1⟩ := fl_31 (K := K) T.cl_Steps T.na_Steps_kept r1 w.f
    refine a_val (v := v2) (fl1 (val_var rfl)) ?_
    refine a_nil ?_
    obtain ⟨c2, hW⟩ := hW
    refine n_sortDX r2 w c2 ?_
    intro ys1 p1 H1 h1 h2 hp1 s1 x1
    replace hW := hW ys1 h1 h2
    replace r1 := Rep.mono _ s1.g r1
    replace r2 := Rep.mono _ s1.g r2
    replace w := w.tr s1
    obtain ⟨F1, w1, g1, r3, fz1⟩ := x1.frzE w
    replace r1 := Rep.mono _ g1 r1
    replace r2 := Rep.mono _ g1 r2
    replace w := w1
    refine w_forL (S := Nat) (fun mask2 σ' F' H' => ∃ (o1 : Option V) (o2 : Option V), Wf F0 H0 F' H' ∧ Ex F1 F' ∧ σ' = [some v1, some (.int ((bit1 : Nat) : Int)), some (.int ((mask2 : Nat) : Int)), o1, o2]) r3 hW ⟨_, _, w, Ex.rfl', rfl⟩ (fun s σ' F' H' hI => by obtain ⟨_, _, w', gx', _⟩ := hI; exact ⟨gx', w'.f⟩) w.f ?_ ?_
    · intro N3 Bk1 top1 u1 mask2 σ' F2 H2 nx1 bk1 hI1 hx1 ru1 hW hN3 hB1
      obtain ⟨o1, o2, w, gx1, rfl⟩ := hI1
      have r1 := Rep.mono _ gx1 r1
      have r2 := Rep.mono _ gx1 r2
      have r3 := Rep.mono _ gx1 r3
      obtain rfl : u1 = (.int ((top1 : Nat) : Int)) := ru1
      refine g_name ?_
      refine q_sq fun N4 hN4 => ?_
      obtain ⟨v3, r4, fl2⟩ := fl_31 (K := K) T.cl_Steps T.na_Steps_kept r1 w.f
      obtain ⟨x2, hx2, hW⟩ := hW
      obtain ⟨v4, r5, ix1⟩ := ix_D r4 w.f hx2
      obtain ⟨v5, r6, fl3⟩ := fl_31 (K := K) T.cl_Steps T.na_Steps_kept r1 w.f
      obtain ⟨x3, hx3, hW⟩ := hW
      obtain ⟨v6, r7, ix2⟩ := ix_D r6 w.f hx3
      obtain ⟨_, rfl, ix3⟩ := ix_2a (K := K) r7 w.f
      obtain ⟨row1, erow1⟩ : ∃ row1 : Nat, row1 = x3.1 := ⟨_, rfl⟩
      replace hW := hW row1 erow1
      refine a_asg (v := (.int ((row1 : Nat) : Int))) (v_eq (ix3 (ix2 (fl3 (val_var rfl)) (val_var rfl)) val_c) (by rw [erow1])) ?_
      refine hN4 _ _ ?_
      refine a_ifE ?_
      refine e_tNot ?_
      refine e_tB ?_
      refine e_call ?_
      refine a_val (v := (.int ((row1 &&& mask2 : Nat) : Int))) (vn_and (val_var rfl) (val_var rfl)) ?_
      refine a_nil ?_
      refine ⟨F2, (row1 &&& mask2), _, rfl, w.f, hW, ?_⟩
      intro z1 hW F3 H3 s3
      replace r1 := Rep.mono _ s3.g r1
      replace w := w.tr s3
      replace gx1 := Ex.tr gx1 s3.g
      refine bl_v ?_
      refine bb_ifn (fun hc1 => ?_) (fun hc1 => ?_)
      · have hW := ifP hW hc1
        exact hN3 mask2 _ _ _ ⟨_, _, w, gx1, rfl⟩ hW
      · have hW := ifN hW hc1
        obtain ⟨c3, hW⟩ := hW
        obtain ⟨c4, hW⟩ := hW
        obtain ⟨mask3, emask2⟩ : ∃ mask3 : Nat, mask3 = mask2 ^^^ (2 ^ (top1 - 1)) := ⟨_, rfl⟩
        replace hW := hW mask3 emask2
        refine a_augV (x := (.int ((mask2 : Nat) : Int))) (y := (.int ((2 ^ (top1 - 1) : Nat) : Int))) (z := (.int ((mask3 : Nat) : Int))) rfl (vn_one val_c (vn_sub (val_var rfl) val_c c3) c4) (v_eq (vn_xor val_c val_c) (by rw [emask2])) ?_
        exact hN3 mask3 _ _ _ ⟨_, _, w, gx1, rfl⟩ hW
    · intro mask2 σ' F4 H4 hI2 hW
      obtain ⟨o1, o2, w, gx2, rfl⟩ := hI2
      have r1 := Rep.mono _ gx2 r1
      have r2 := Rep.mono _ gx2 r2
      have r3 := Rep.mono _ gx2 r3
      refine hN2 _ _ ?_
      refine a_ret (v := (.int ((mask2 : Nat) : Int))) (val_var rfl) ?_
      exact hQ _ hW _ _ w
abbrev s_Steps___init__ : Stmt := inClass (topS 12) 0
def W_Steps___init__ (rows1 : List Nat) (R : (List (Nat × (Nat × Nat)) × List Nat × List Nat) → Prop) : Prop := forW (enumT rows1) (([] : List Nat), ([] : List (Nat × (Nat × Nat))), ([] : List Nat)) (fun it1 (self_gone1, self_kept1, self_found1) nx1 bk1 => (it1.1 < 100000000) ∧ W_Steps_lowered self_kept1 it1.2 (2 ^ it1.1) fun z1 => if z1.1 = 0 then ((self_gone1.length < 1000000) ∧ nx1 (self_gone1 ++ [z1.2], self_kept1, self_found1)) else ((self_kept1.length < 1000000) ∧ (self_found1.length < 1000000) ∧ nx1 (self_gone1, putT self_kept1 (bits z1.1) (z1.1, z1.2), self_found1 ++ [it1.1]))) fun (self_gone1, self_kept1, self_found1) => R (self_kept1, self_found1, self_gone1)
def sp_Steps___init__ (K : PySem.W.Frag) (cc : Cz) : Sp := fun vs H Q _ => ∃ (F : Hp) (ob dx : Addr) (v1 : V) (rows1 : List Nat) (R : (List (Nat × (Nat × Nat)) × List Nat × List Nat) → Prop), vs = [(.ref ob), v1] ∧ H ob = some (.ins cc.Steps dx []) ∧ F ob = none ∧ Ex F H ∧ (pL pN).r F v1 rows1 ∧ W_Steps___init__ rows1 R ∧ ∀ z, R z → ∀ F' H', Wf F (wo H ob) F' H' → (pO3 cc.Steps "kept" "found" "gone" (pD (κ := Nat) (pT2 pN pN)) (pL pN) (pL pN)).r F' (.ref ob) z → Q .non H'
abbrev N_Steps___init__ : List Str := ["self", "rows", "place", "row", "left", "places"]
theorem sc_Steps___init__ : FnScope N_Steps___init__ ["self", "rows"] (defScope s_Steps___init__) := ⟨rfl, rfl, rfl, by decide +kernel, rfl, by decide +kernel, by decide +kernel⟩
theorem ok_Steps___init__ {P : Program} {w0 : World} {K : PySem.W.Frag} {mg : Str → Option Value} {base : Heap} {f : Addr} {fd : FuncData} {cc : Cz} (T : Tz K mg cc) (FU : Fun K "__init__" "Steps.__init__" s_Steps___init__ f fd) (hm : Mk K cc.Steps f) (hg : mg "Steps" = some (.ref cc.Steps)) (hb : Binds K fd ["self", "rows"] []) (c_Steps_lowered : Md P w0 K mg base CX0 1 cc.Steps "lowered" ["self", "row", "places"] (sp_Steps_lowered K cc)) (n_enumerate : mg "enumerate" = none) : Nw P w0 K mg base CX0 2 cc.Steps "Steps" ["self", "rows"] (sp_Steps___init__ K cc) := by
  refine ⟨f, fd, FU.ok sc_Steps___init__ (fun vs H Q E h => ?_) (fun cdv A outer s H0 vs Q E hr h => ?_), hm, hg, hb⟩
  · obtain ⟨_, _, _, _, _, _, rfl, _⟩ := h; rfl
  · obtain ⟨F0, ob, dx, v1, rows1, R, rfl, hob, nob, wf, r1, hW, hQ⟩ := h
    have nd := sc_Steps___init__.nd
    refine ⟨(tSeq (sFld K (tVar 0) tDNewK "kept") (tSeq (sFld K (tVar 0) (tLst tNil) "found") (tSeq (sFld K (tVar 0) (tLst tNil) "gone") (tFor (iEnum K (tCons (tVar 1) tNil)) (gTup K 2 (gCons (gName 2) (gCons (gName 3) gNil))) (tSeq (tAsg (tMeth cc.Steps "lowered" (sp_Steps_lowered K cc) [] E0 (tVar 0) (tCons (tVar 3) (tCons (tOp kShl (tC (.int 1)) (tVar 2)) tNil))) (gTup K 2 (gCons (gName 4) (gCons (gName 5) gNil)))) (tIfS (tTest (tOp L2.rEq (tVar 4) (tC (.int 0)))) (tDrop (tBM K "list" rAppend (tFld K (tVar 0) "gone") (tCons (tVar 5) tNil))) (tSeq (sDPut (tFld K (tVar 0) "kept") (tBits (tVar 4)) (tTup (tCons (tVar 4) (tCons (tVar 5) tNil)))) (tDrop (tBM K "list" rAppend (tFld K (tVar 0) "found") (tCons (tVar 2) tNil)))))))))), (pss_cons (ps_fld (pv 0) pe_dnewK rfl) (pss_cons (ps_fld (pv 0) (pe_lst pa_nil) rfl) (pss_cons (ps_fld (pv 0) (pe_lst pa_nil) rfl) (pss_one (ps_for PassesOwn.never rfl (pi_enum (by rfl) n_enumerate (pa_cons (pv 1) pa_nil)) (pg_tup rfl (pgs_cons (pg_name (i := 2) nd rfl (Or.inl rfl)) (pgs_cons (pg_name (i := 3) nd rfl (Or.inl rfl)) pgs_nil)) (by rfl)) (pss_cons (ps_asg (pe_md c_Steps_lowered T.cl_Steps (hr.mono (by decide)) (pv 0) (pa_cons (pv 3) (pa_cons (pe_op op_shlW pe_int (pv 2)) pa_nil))) (pg_tup rfl (pgs_cons (pg_name (i := 4) nd rfl (Or.inl rfl)) (pgs_cons (pg_name (i := 5) nd rfl (Or.inl rfl)) pgs_nil)) (by rfl))) (pss_one (ps_if (pt_cmpR op_eq (pv 4) pe_int (nomark _)) (pss_one (ps_expr (pe_bm PySem.F.plainAttrs_list PySem.F.slot_list_append PySem.F.type_list_append mt_append (pe_fld (pv 0) rfl) (pa_cons (pv 5) pa_nil)))) (pss_cons (ps_dput (hu_of hr) (pe_fld (pv 0) rfl) (pe_bits (pv 4)) (pe_tup (pa_cons (pv 4) (pa_cons (pv 5) pa_nil))) rfl) (pss_one (ps_expr (pe_bm PySem.F.plainAttrs_list PySem.F.slot_list_append PySem.F.type_list_append mt_append (pe_fld (pv 0) rfl) (pa_cons (pv 2) pa_nil))))))))))))), ?_⟩
    have xs := Xc.start nob hob
    have w := Wf.start wf nob
    generalize hH0 : wo H0 ob = Hb at xs w hQ
    refine q_sq fun N1 hN1 => ?_
    refine e_fld ?_
    refine n_dict (κ := Nat) (e := (pT2 pN pN)) w ?_
    intro p1 H1 hp1 s1 x1
    have ne1 := xs.ne hp1
    replace r1 := Rep.mono _ s1.g r1
    replace xs := xs.step s1
    replace w := w.tr s1
    refine a_fld T.cl_Steps T.na_Steps_kept xs w (show 0 < 1000 from by decide) (val_var rfl) (fun H2 w1 x2 kp1 => ?_)
    replace x1 := x1.kept kp1 (Ne.symm ne1)
    replace w := w1
    replace x2 : Xc Hb F0 H2 ob (.ins cc.Steps dx [("kept", (.ref p1))]) := Xc.cast x2 rfl
    refine hN1 _ _ ?_
    refine q_sq fun N2 hN2 => ?_
    refine e_fld ?_
    refine e_lst ?_
    refine a_nil ?_
    refine n_lstX (e := pN) (xs := []) (vs := []) (show All pN _ [] [] from trivial) (show 0 < 1000000 from by decide) w ?_
    intro p2 H3 hp2 s2 x3
    have ne2 := x2.ne hp2
    have ne3 := x1.ne hp2
    replace r1 := Rep.mono _ s2.g r1
    replace x2 := x2.step s2
    replace x1 := x1.step s2
    replace w := w.tr s2
    refine a_fld T.cl_Steps T.na_Steps_found x2 w (show 1 < 1000 from by decide) (val_var rfl) (fun H4 w2 x4 kp2 => ?_)
    replace x1 := x1.kept kp2 (Ne.symm ne1)
    replace x3 := x3.kept kp2 (Ne.symm ne2)
    replace w := w2
    replace x4 : Xc Hb F0 H4 ob (.ins cc.Steps dx [("kept", (.ref p1)), ("found", (.ref p2))]) := Xc.cast x4 ((put_ne (by decide +kernel)).trans (congrArg _ rfl))
    refine hN2 _ _ ?_
    refine q_sq fun N3 hN3 => ?_
    refine e_fld ?_
    refine e_lst ?_
    refine a_nil ?_
    refine n_lstX (e := pN) (xs := []) (vs := []) (show All pN _ [] [] from trivial) (show 0 < 1000000 from by decide) w ?_
    intro p3 H5 hp3 s3 x5
    have ne4 := x4.ne hp3
    have ne5 := x1.ne hp3
    have ne6 := x3.ne hp3
    replace r1 := Rep.mono _ s3.g r1
    replace x4 := x4.step s3
    replace x1 := x1.step s3
    replace x3 := x3.step s3
    replace w := w.tr s3
    refine a_fld T.cl_Steps T.na_Steps_gone x4 w (show 2 < 1000 from by decide) (val_var rfl) (fun H6 w3 x6 kp3 => ?_)
    replace x1 := x1.kept kp3 (Ne.symm ne1)
    replace x3 := x3.kept kp3 (Ne.symm ne2)
    replace x5 := x5.kept kp3 (Ne.symm ne4)
    replace w := w3
    replace x6 : Xc Hb F0 H6 ob (.ins cc.Steps dx [("kept", (.ref p1)), ("found", (.ref p2)), ("gone", (.ref p3))]) := Xc.cast x6 ((put_ne (by decide +kernel)).trans (congrArg _ ((put_ne (by decide +kernel)).trans (congrArg _ rfl))))
    refine hN3 _ _ ?_
    refine f_J ?_
    refine a_val (v := v1) (val_var rfl) ?_
    refine a_nil ?_
    refine src_enum r1 w.f (fun a1 T1 => ?_)
    refine w_forG (S := List Nat × (List (Nat × (Nat × Nat))) × List Nat) T1 (fun s σ' F' H' => match s with | (self_gone1, self_kept1, self_found1) => ∃ (o1 : Option V) (o2 : Option V) (o3 : Option V) (o4 : Option V), Wf F0 Hb F' H' ∧ Ex F0 F' ∧ σ' = [some (.ref ob), some v1, o1, o2, o3, o4] ∧ XL pN Hb F' H' p3 self_gone1 ∧ XD (pT2 pN pN) Hb F' H' p1 self_kept1 ∧ XL pN Hb F' H' p2 self_found1 ∧ Xc Hb F' H' ob (.ins cc.Steps dx [("kept", (.ref p1)), ("found", (.ref p2)), ("gone", (.ref p3))])) hW ⟨_, _, _, _, w, Ex.rfl', rfl, x5, x1, x3, x6⟩ (fun s σ' F' H' hI => by obtain ⟨self_gone1, self_kept1, self_found1⟩ := s; obtain ⟨_, _, _, _, w', gx', _⟩ := hI; exact ⟨gx', w'.f⟩) w.f ?_ ?_
    · intro N4 Bk1 it1 u1 s4 σ' F1 H7 F2 H8 nx1 bk1 hI1 hx1 s5 ru1 hW hN4 hB1
      obtain ⟨self_gone1, self_kept1, self_found1⟩ := s4
      obtain ⟨o1, o2, o3, o4, w, gx1, rfl, x7, x8, x9, x10⟩ := hI1
      have r1 := Rep.mono _ gx1 r1
      replace r1 := Rep.mono _ s5.g r1
      replace x10 := x10.step s5
      replace x8 := x8.step s5
      replace x9 := x9.step s5
      replace x7 := x7.step s5
      replace w := w.tr s5
      replace gx1 := Ex.tr gx1 s5.g
      obtain ⟨p4, u2, u3, rfl, h1, rfl, rfl⟩ := ru1
      refine ⟨p4, _, rfl, SqT.of (w.f _ _ h1), rfl, _, _, rfl, _, _, rfl, rfl, ?_⟩
      refine q_sq fun N5 hN5 => ?_
      refine a_asgG ?_
      refine e_md ?_
      refine e_val (v := (.ref ob)) (val_var rfl) ?_
      refine ⟨_, _, _, rfl, x10.h, ((lk_ne (by decide +kernel)).trans ((lk_ne (by decide +kernel)).trans ((lk_ne (by decide +kernel)).trans rfl))), ?_⟩
      refine a_val (v := (.int ((it1.2 : Nat) : Int))) (val_var rfl) ?_
      obtain ⟨c1, hW⟩ := hW
      refine a_val (v := (.int ((2 ^ it1.1 : Nat) : Int))) (vn_one val_c (val_var rfl) c1) ?_
      refine a_nil ?_
      refine ⟨F2, ob, dx, p1, _, (self_kept1), (it1.2), (2 ^ it1.1), _, rfl, w.f, x10.h, lk_eq, x8.bw, hW, ?_⟩
      intro z1 hW v2 F3 H9 s6 r2
      replace r1 := Rep.mono _ s6.g r1
      replace x10 := x10.step s6
      replace x8 := x8.step s6
      replace x9 := x9.step s6
      replace x7 := x7.step s6
      replace w := w.tr s6
      replace gx1 := Ex.tr gx1 s6.g
      obtain ⟨p5, u4, u5, rfl, h2, rfl, rfl⟩ := r2
      refine ⟨p5, _, rfl, SqT.of (w.f _ _ h2), rfl, _, _, rfl, _, _, rfl, rfl, ?_⟩
      refine hN5 _ _ ?_
      refine a_ifE ?_
      refine e_ans (b := decide (z1.1 = 0)) (t_of (vb_dec (c_eqI (val_var rfl) val_c) n_eq)) ?_
      refine b_if (fun hc1 => ?_) (fun hc1 => ?_)
      · have hW := ifP hW hc1
        refine a_dropE ?_
        refine m_list x7 (fl_X T.cl_Steps T.na_Steps_gone x10 ((lk_ne (by decide +kernel)).trans ((lk_ne (by decide +kernel)).trans lk_eq)) (val_var rfl)) ?_
        refine a_val (v := (.int ((z1.2 : Nat) : Int))) (val_var rfl) ?_
        refine a_nil ?_
        obtain ⟨c2, hW⟩ := hW
        refine a_app x7 w c2 rfl (fun H10 w4 x11 kp4 => ?_)
        replace x10 := x10.kept kp4 ne4
        replace x8 := x8.kept kp4 ne5
        replace x9 := x9.kept kp4 ne6
        replace w := w4
        exact hN4 (self_gone1 ++ [z1.2], self_kept1, self_found1) _ _ _ ⟨_, _, _, _, w, gx1, rfl, x11, x8, x9, x10⟩ hW
      · have hW := ifN hW hc1
        refine q_sq fun N6 hN6 => ?_
        refine e_dput ?_
        refine e_tup ?_
        refine a_val (v := (.int ((z1.1 : Nat) : Int))) (val_var rfl) ?_
        refine a_val (v := (.int ((z1.2 : Nat) : Int))) (val_var rfl) ?_
        refine a_nil ?_
        refine n_tup2 (e := pN) (f := pN) (x := z1.1) (y := z1.2) rfl rfl w ?_
        intro p6 F4 H11 s7 r3
        replace r1 := Rep.mono _ s7.g r1
        replace x10 := x10.step s7
        replace x8 := x8.step s7
        replace x9 := x9.step s7
        replace x7 := x7.step s7
        replace w := w.tr s7
        replace gx1 := Ex.tr gx1 s7.g
        obtain ⟨c3, hW⟩ := hW
        refine d_put (j := bits z1.1) x8 w c3 r3 (fl_X T.cl_Steps T.na_Steps_kept x10 lk_eq (val_var rfl)) (vn_bitl (val_var rfl)) (fun H12 w5 x12 kp5 => ?_)
        replace x10 := x10.kept kp5 ne1
        replace x9 := x9.kept kp5 (Ne.symm ne3)
        replace x7 := x7.kept kp5 (Ne.symm ne5)
        replace w := w5
        refine hN6 _ _ ?_
        refine a_dropE ?_
        refine m_list x9 (fl_X T.cl_Steps T.na_Steps_found x10 ((lk_ne (by decide +kernel)).trans lk_eq) (val_var rfl)) ?_
        refine a_val (v := (.int ((it1.1 : Nat) : Int))) (val_var rfl) ?_
        refine a_nil ?_
        obtain ⟨c4, hW⟩ := hW
        refine a_app x9 w c4 rfl (fun H13 w6 x13 kp6 => ?_)
        replace x10 := x10.kept kp6 ne2
        replace x12 := x12.kept kp6 ne3
        replace x7 := x7.kept kp6 (Ne.symm ne6)
        replace w := w6
        exact hN4 (self_gone1, putT self_kept1 (bits z1.1) (z1.1, z1.2), self_found1 ++ [it1.1]) _ _ _ ⟨_, _, _, _, w, gx1, rfl, x7, x12, x13, x10⟩ hW
    · intro s8 σ' F5 H14 hI2 hW
      obtain ⟨self_gone1, self_kept1, self_found1⟩ := s8
      obtain ⟨o1, o2, o3, o4, w, gx2, rfl, x7, x8, x9, x10⟩ := hI2
      have r1 := Rep.mono _ gx2 r1
      obtain ⟨F6, w7, g1, r4, fz1⟩ := x8.frzE w
      replace r1 := Rep.mono _ g1 r1
      replace x10 := x10.frzO fz1 ne1 g1
      replace x9 := x9.frzO fz1 (Ne.symm ne3) g1
      replace x7 := x7.frzO fz1 (Ne.symm ne5) g1
      replace w := w7
      replace gx2 := Ex.tr gx2 g1
      obtain ⟨F7, w8, g2, r5, fz2⟩ := x9.frzE w
      replace r1 := Rep.mono _ g2 r1
      replace x10 := x10.frzO fz2 ne2 g2
      replace r4 := Rep.mono _ g2 r4
      replace x7 := x7.frzO fz2 (Ne.symm ne6) g2
      replace w := w8
      replace gx2 := Ex.tr gx2 g2
      obtain ⟨F8, w9, g3, r6, fz3⟩ := x7.frzE w
      replace r1 := Rep.mono _ g3 r1
      replace x10 := x10.frzO fz3 ne4 g3
      replace r4 := Rep.mono _ g3 r4
      replace r5 := Rep.mono _ g3 r5
      replace w := w9
      replace gx2 := Ex.tr gx2 g3
      obtain ⟨F9, w10, g4, h3⟩ := x10.frzE w
      exact hQ _ hW _ _ w10 ⟨ob, dx, _, rfl, h3, _, _, _, rfl, (Rep.mono _ g4 r4), (Rep.mono _ g4 r5), (Rep.mono _ g4 r6)⟩
abbrev s_sum_for : Stmt := topS 13
def W_sum_for (rows1 : List Nat) (wish1 : Nat) (R : (Str × (Sum (List Nat) (Nat))) → Prop) : Prop := W_Steps___init__ rows1 fun z1 => W_Steps_lowered z1.1 wish1 0 fun z2 => if z2.1 = 0 then (W_bits_of z2.2 fun z3 => R ((PySem.Str.ofString "sum"), (Sum.inl z3))) else ((1 ≤ bits z2.1) ∧ W_Steps_crossing z1 ((bits z2.1) - 1) fun z4 => R ((PySem.Str.ofString "no"), (Sum.inr z4)))
def sp_sum_for (K : PySem.W.Frag) (cc : Cz) : Sp := fun vs H Q _ => ∃ (F : Hp) (v1 : V) (rows1 : List Nat) (wish1 : Nat) (R : (Str × (Sum (List Nat) (Nat))) → Prop), vs = [v1, (.int ((wish1 : Nat) : Int))] ∧ Ex F H ∧ (pL pN).r F v1 rows1 ∧ W_sum_for rows1 wish1 R ∧ ∀ z, R z → ∀ v F' H', Wf F H F' H' → Fre H (pT2 pS (pAlt (pL pN) pN)) F' v z → Q v H'
abbrev N_sum_for : List Str := ["rows", "wish", "steps", "left", "places"]
theorem sc_sum_for : FnScope N_sum_for ["rows", "wish"] (defScope s_sum_for) := ⟨rfl, rfl, rfl, by decide +kernel, rfl, by decide +kernel, by decide +kernel⟩
theorem ok_sum_for {P : Program} {w0 : World} {K : PySem.W.Frag} {mg : Str → Option Value} {base : Heap} {f : Addr} {fd : FuncData} {cc : Cz} (T : Tz K mg cc) (FU : Fun K "sum_for" "sum_for" s_sum_for f fd) (hm : mg "sum_for" = some (.ref f)) (hb : Binds K fd ["rows", "wish"] []) (c_Steps___init__ : Nw P w0 K mg base CX0 2 cc.Steps "Steps" ["self", "rows"] (sp_Steps___init__ K cc)) (c_Steps_lowered : Md P w0 K mg base CX0 1 cc.Steps "lowered" ["self", "row", "places"] (sp_Steps_lowered K cc)) (c_bits_of : Fn P w0 K mg base CX0 1 "bits_of" ["mask"] (sp_bits_of K cc)) (c_Steps_crossing : Md P w0 K mg base CX0 2 cc.Steps "crossing" ["self", "bit"] (sp_Steps_crossing K cc)) : Fn P w0 K mg base CX0 4 "sum_for" ["rows", "wish"] (sp_sum_for K cc) := by
  refine ⟨f, fd, FU.ok sc_sum_for (fun vs H Q E h => ?_) (fun cdv A outer s H0 vs Q E hr h => ?_), hm, FU.kp, hb⟩
  · obtain ⟨_, _, _, _, _, rfl, _⟩ := h; rfl
  · obtain ⟨F0, v1, rows1, wish1, R, rfl, wf, r1, hW, hQ⟩ := h
    have nd := sc_sum_for.nd
    refine ⟨(tSeq (tAsg (tMake cc.Steps (sp_Steps___init__ K cc) [] E0 (tCons (tVar 0) tNil)) (gName 2)) (tSeq (tAsg (tMeth cc.Steps "lowered" (sp_Steps_lowered K cc) [] E0 (tVar 2) (tCons (tVar 1) (tCons (tC (.int 0)) tNil))) (gTup K 2 (gCons (gName 3) (gCons (gName 4) gNil)))) (tSeq (tIfS (tTest (tOp L2.rEq (tVar 3) (tC (.int 0)))) (tRet (tTup (tCons (tC (.str (PySem.Str.ofString "sum"))) (tCons (tCall (sp_bits_of K cc) [] E0 (tCons (tVar 4) tNil)) tNil)))) tNext) (tRet (tTup (tCons (tC (.str (PySem.Str.ofString "no"))) (tCons (tMeth cc.Steps "crossing" (sp_Steps_crossing K cc) [] E0 (tVar 2) (tCons (tOp kSub (tBits (tVar 3)) (tC (.int 1))) tNil)) tNil))))))), (pss_cons (ps_set (i := 2) nd rfl (Or.inl rfl) (pe_nw c_Steps___init__ (hr.mono (by decide)) rfl (pa_cons (pv 0) pa_nil))) (pss_cons (ps_asg (pe_md c_Steps_lowered T.cl_Steps (hr.mono (by decide)) (pv 2) (pa_cons (pv 1) (pa_cons pe_int pa_nil))) (pg_tup rfl (pgs_cons (pg_name (i := 3) nd rfl (Or.inl rfl)) (pgs_cons (pg_name (i := 4) nd rfl (Or.inl rfl)) pgs_nil)) (by rfl))) (pss_cons (ps_if (pt_cmpR op_eq (pv 3) pe_int (nomark _)) (pss_one (ps_ret (pe_tup (pa_cons pe_str (pa_cons (pe_fn c_bits_of (hr.mono (by decide)) rfl (pa_cons (pv 4) pa_nil)) pa_nil))))) pss_nil) (pss_one (ps_ret (pe_tup (pa_cons pe_str (pa_cons (pe_md c_Steps_crossing T.cl_Steps (hr.mono (by decide)) (pv 2) (pa_cons (pe_op op_sub (pe_bits (pv 3)) pe_int) pa_nil)) pa_nil)))))))), ?_⟩
    have w := Wf.id wf
    refine q_sq fun N1 hN1 => ?_
    refine a_asgE ?_
    refine e_nw ?_
    refine a_val (v := v1) (val_var rfl) ?_
    refine a_nil ?_
    intro ob1 dx1 nx1 nd1 ne1
    refine ⟨F0, ob1, dx1, (v1), (rows1), _, rfl, upd_same, (w.f.non nx1), (Ex.made w.f nx1 nd1), r1, hW, ?_⟩
    intro z1 hW F1 H1 s1 r2
    refine ⟨rfl, ?_⟩
    replace s1 := Wf.made nx1 nd1 s1
    replace r1 := Rep.mono _ s1.g r1
    replace w := w.tr s1
    refine hN1 _ _ ?_
    refine q_sq fun N2 hN2 => ?_
    refine a_asgG ?_
    refine e_md ?_
    refine e_val (v := (.ref ob1)) (val_var rfl) ?_
    obtain ⟨p1, dx2, fs1, d1, ev1, ho1, lk1, bd1, lm1⟩ := st_bw (m := "lowered") r2 w.f
    refine ⟨_, _, _, ev1, ho1, lm1, ?_⟩
    refine a_val (v := (.int ((wish1 : Nat) : Int))) (val_var rfl) ?_
    refine a_val (v := (.int ((0 : Nat) : Int))) val_c ?_
    refine a_nil ?_
    refine ⟨F1, p1, dx2, d1, fs1, z1.1, (wish1), (0), _, (by rw [ev1]), w.f, ho1, lk1, bd1, hW, ?_⟩
    intro z2 hW v2 F2 H2 s2 r3
    replace r1 := Rep.mono _ s2.g r1
    replace r2 := Rep.mono _ s2.g r2
    replace w := w.tr s2
    obtain ⟨p2, u1, u2, rfl, h1, rfl, rfl⟩ := r3
    refine ⟨p2, _, rfl, SqT.of (w.f _ _ h1), rfl, _, _, rfl, _, _, rfl, rfl, ?_⟩
    refine hN2 _ _ ?_
    refine q_sq fun N3 hN3 => ?_
    refine a_ifE ?_
    refine e_ans (b := decide (z2.1 = 0)) (t_of (vb_dec (c_eqI (val_var rfl) val_c) n_eq)) ?_
    refine b_if (fun hc1 => ?_) (fun hc1 => ?_)
    · have hW := ifP hW hc1
      refine a_retE ?_
      refine e_tup ?_
      refine a_val (v := (.str ((PySem.Str.ofString "sum")))) val_c ?_
      refine a_cons ?_
      refine e_call ?_
      refine a_val (v := (.int ((z2.2 : Nat) : Int))) (val_var rfl) ?_
      refine a_nil ?_
      refine ⟨F2, (z2.2), _, rfl, w.f, hW, ?_⟩
      intro z3 hW p3 F3 H3 s3 x1
      replace x1 := x1.base w
      replace r1 := Rep.mono _ s3.g r1
      replace r2 := Rep.mono _ s3.g r2
      replace w := w.tr s3
      refine a_nil ?_
      obtain ⟨F4, w1, g1, r4, fz1⟩ := XL.frzN x1 w
      replace r1 := Rep.mono _ g1 r1
      replace r2 := Rep.mono _ g1 r2
      replace w := w1
      refine n_fre2 (e := pS) (f := (pAlt (pL pN) pN)) (x := (PySem.Str.ofString "sum")) (y := (Sum.inl z3)) w (show Fre H0 pS _ _ (PySem.Str.ofString "sum") from rfl) (show Fre H0 (pAlt (pL pN) pN) _ _ (Sum.inl z3) from r4) ?_
      intro p4 F5 H4 s4 r5
      replace r1 := Rep.mono _ s4.g r1
      replace r2 := Rep.mono _ s4.g r2
      replace w := w.tr s4
      exact hQ _ hW _ _ _ w r5
    · have hW := ifN hW hc1
      refine hN3 _ _ ?_
      refine a_retE ?_
      refine e_tup ?_
      refine a_val (v := (.str ((PySem.Str.ofString "no")))) val_c ?_
      refine a_cons ?_
      refine e_md ?_
      refine e_val (v := (.ref ob1)) (val_var rfl) ?_
      obtain ⟨p5, dx3, fs2, ev2, ho2, lm2⟩ := me_3 (m := "crossing") r2 w.f
      refine ⟨_, _, _, ev2, ho2, lm2, ?_⟩
      obtain ⟨c1, hW⟩ := hW
      refine a_val (v := (.int (((bits z2.1) - 1 : Nat) : Int))) (vn_sub (vn_bitl (val_var rfl)) val_c c1) ?_
      refine a_nil ?_
      refine ⟨F2, ((.ref ob1)), (z1), ((bits z2.1) - 1), _, rfl, w.f, r2, hW, ?_⟩
      intro z4 hW F6 H5 s5
      replace r1 := Rep.mono _ s5.g r1
      replace r2 := Rep.mono _ s5.g r2
      replace w := w.tr s5
      refine a_nil ?_
      refine n_fre2 (e := pS) (f := (pAlt (pL pN) pN)) (x := (PySem.Str.ofString "no")) (y := (Sum.inr z4)) w (show Fre H0 pS _ _ (PySem.Str.ofString "no") from rfl) (show Fre H0 (pAlt (pL pN) pN) _ _ (Sum.inr z4) from rfl) ?_
      intro p6 F7 H6 s6 r6
      replace r1 := Rep.mono _ s6.g r1
      replace r2 := Rep.mono _ s6.g r2
      replace w := w.tr s6
      exact hQ _ hW _ _ _ w r6
abbrev s_is_pairs : Stmt := topS 29
def W_is_pairs (thing1 : List (Nat × Nat)) (most1 : Nat) (stores1 : Nat) (inputs1 : Nat) (R : Bool → Prop) : Prop := if most1 < thing1.length then (R false) else (forW thing1 () (fun pair1 _ nx1 bk1 => if 2 ≠ 2 then (R false) else (jn (fun kk => W_is_mask (An.i ((pair1.1 : Nat) : Int)) stores1 fun z1 => if z1 = true then (W_is_mask (An.i ((pair1.2 : Nat) : Int)) inputs1 fun z2 => kk (!z2)) else (kk true)) fun b1 => if b1 = true then (R false) else (nx1 ()))) fun _ => R true)
def sp_is_pairs (K : PySem.W.Frag) (cc : Cz) : Sp := fun vs H Q _ => ∃ (F : Hp) (v1 : V) (thing1 : List (Nat × Nat)) (most1 : Nat) (stores1 : Nat) (inputs1 : Nat) (R : Bool → Prop), vs = [v1, (.int ((most1 : Nat) : Int)), (.int ((stores1 : Nat) : Int)), (.int ((inputs1 : Nat) : Int))] ∧ Ex F H ∧ (pL (pT2 pN pN)).r F v1 thing1 ∧ W_is_pairs thing1 most1 stores1 inputs1 R ∧ ∀ z, R z → ∀ F' H', Wf F H F' H' → Q (.bl (z)) H'
abbrev N_is_pairs : List Str := ["thing", "most", "stores", "inputs", "pair"]
theorem sc_is_pairs : FnScope N_is_pairs ["thing", "most", "stores", "inputs"] (defScope s_is_pairs) := ⟨rfl, rfl, rfl, by decide +kernel, rfl, by decide +kernel, by decide +kernel⟩
theorem ok_is_pairs {P : Program} {w0 : World} {K : PySem.W.Frag} {mg : Str → Option Value} {base : Heap} {f : Addr} {fd : FuncData} {cc : Cz} (T : Tz K mg cc) (FU : Fun K "is_pairs" "is_pairs" s_is_pairs f fd) (hm : mg "is_pairs" = some (.ref f)) (hb : Binds K fd ["thing", "most", "stores", "inputs"] []) (c_is_mask : Fn P w0 K mg base CX0 2 "is_mask" ["thing", "width"] (sp_is_mask K cc)) (n_isinstance : mg "isinstance" = none) (n_len : mg "len" = none) (n_list : mg "list" = none) (n_tuple : mg "tuple" = none) : Fn P w0 K mg base CX0 3 "is_pairs" ["thing", "most", "stores", "inputs"] (sp_is_pairs K cc) := by
  refine ⟨f, fd, FU.ok sc_is_pairs (fun vs H Q E h => ?_) (fun cdv A outer s H0 vs Q E hr h => ?_), hm, FU.kp, hb⟩
  · obtain ⟨_, _, _, _, _, _, _, rfl, _⟩ := h; rfl
  · obtain ⟨F0, v1, thing1, most1, stores1, inputs1, R, rfl, wf, r1, hW, hQ⟩ := h
    have nd := sc_is_pairs.nd
    refine ⟨(tSeq (tIfS (tOr (tNot (tB (tCB (rIsi K) (tCons (tVar 0) (tCons (tC (.ty "list")) tNil))))) (tTest (tOp kGt (tCB (Wk.rLen K) (tCons (tVar 0) tNil)) (tVar 1)))) (tRet (tC (.bl false))) tNext) (tSeq (tFor (iList K (tVar 0)) (gName 4) (tSeq (tIfS (tOr (tNot (tB (tCB (rIsi K) (tCons (tVar 4) (tCons (tC (.ty "tuple")) tNil))))) (tTest (tOp L2.rNe (tCB (Wk.rLen K) (tCons (tVar 4) tNil)) (tC (.int 2))))) (tRet (tC (.bl false))) tNext) (tIfS (tOr (tNot (tB (tCall (sp_is_mask K cc) [] E0 (tCons (tOp (L2.rIxT K) (tVar 4) (tC (.int 0))) (tCons (tVar 2) tNil))))) (tNot (tB (tCall (sp_is_mask K cc) [] E0 (tCons (tOp (L2.rIxT K) (tVar 4) (tC (.int 1))) (tCons (tVar 3) tNil)))))) (tRet (tC (.bl false))) tNext))) (tRet (tC (.bl true))))), (pss_cons (ps_if (PW.pt (pw_or (pt_not (pt_val (pe_callB call_isi (by rfl) n_isinstance PyProof.Rows.boot_isinstance (pa_cons (pv 0) (pa_cons (pe_bltn (v := .ty "list") (by rfl) n_list PyProof.Rows.boot_list rfl) pa_nil))))) (pw_or1 (pt_cmpR op_gt (pe_callB call_len_seq (by rfl) n_len PySem.boot_len (pa_cons (pv 0) pa_nil)) (pv 1) (nomark _))))) (pss_one (ps_ret pe_bl)) pss_nil) (pss_cons (ps_for PassesOwn.never rfl (pi_list (pv 0)) (pg_name (i := 4) nd rfl (Or.inl rfl)) (pss_cons (ps_if (PW.pt (pw_or (pt_not (pt_val (pe_callB call_isi (by rfl) n_isinstance PyProof.Rows.boot_isinstance (pa_cons (pv 4) (pa_cons (pe_bltn (v := .ty "tuple") (by rfl) n_tuple PyProof.Rows.boot_tuple rfl) pa_nil))))) (pw_or1 (pt_cmpR op_ne (pe_callB call_len_seq (by rfl) n_len PySem.boot_len (pa_cons (pv 4) pa_nil)) pe_int (nomark _))))) (pss_one (ps_ret pe_bl)) pss_nil) (pss_one (ps_if (PW.pt (pw_or (pt_not (pt_val (pe_fn c_is_mask (hr.mono (by decide)) rfl (pa_cons (pe_ix ix_tup (pv 4) pe_int (fun _ _ => rfl)) (pa_cons (pv 2) pa_nil))))) (pw_or1 (pt_not (pt_val (pe_fn c_is_mask (hr.mono (by decide)) rfl (pa_cons (pe_ix ix_tup (pv 4) pe_int (fun _ _ => rfl)) (pa_cons (pv 3) pa_nil)))))))) (pss_one (ps_ret pe_bl)) pss_nil)))) (pss_one (ps_ret pe_bl)))), ?_⟩
    have w := Wf.id wf
    refine q_sq fun N1 hN1 => ?_
    refine a_ifE ?_
    refine e_ans (b := decide (most1 < thing1.length)) (t_iff (p := (¬ (True)) ∨ (most1 < thing1.length)) (q := most1 < thing1.length) (t_or (t_not (t_ofB (vb_of (v_isi (b := true) (val_var rfl) (ty_L r1 w.f) (by decide +kernel)) dec_T))) (fun _ => (t_of (vb_dec (c_gt (len_L r1 w.f (val_var rfl)) (val_var rfl)) n_lt)))) (by simp)) ?_
    refine b_if (fun hc1 => ?_) (fun hc1 => ?_)
    · have hW := ifP hW hc1
      refine a_ret (v := (.bl (false))) val_c ?_
      exact hQ _ hW _ _ w
    · have hW := ifN hW hc1
      refine hN1 _ _ ?_
      refine q_sq fun N2 hN2 => ?_
      refine f_LE ?_
      refine e_val (v := v1) (val_var rfl) ?_
      refine w_forL (S := Unit) (fun _ σ' F' H' => ∃ (o1 : Option V), Wf F0 H0 F' H' ∧ Ex F0 F' ∧ σ' = [some v1, some (.int ((most1 : Nat) : Int)), some (.int ((stores1 : Nat) : Int)), some (.int ((inputs1 : Nat) : Int)), o1]) r1 hW ⟨_, w, Ex.rfl', rfl⟩ (fun s σ' F' H' hI => by obtain ⟨_, w', gx', _⟩ := hI; exact ⟨gx', w'.f⟩) w.f ?_ ?_
      · intro N3 Bk1 pair1 u1 s1 σ' F1 H1 nx1 bk1 hI1 hx1 ru1 hW hN3 hB1
        obtain ⟨o1, w, gx1, rfl⟩ := hI1
        have r1 := Rep.mono _ gx1 r1
        refine g_name ?_
        refine q_sq fun N4 hN4 => ?_
        refine a_ifE ?_
        refine e_ans (b := decide (2 ≠ 2)) (t_iff (p := (¬ (True)) ∨ (2 ≠ 2)) (q := 2 ≠ 2) (t_or (t_not (t_ofB (vb_of (v_isi (b := true) (val_var rfl) (ty_T2 ru1 w.f) (by decide +kernel)) dec_T))) (fun _ => (t_of (vb_dec (c_neI (len_T2 ru1 w.f (val_var rfl)) val_c) n_ne)))) (by simp)) ?_
        refine b_if (fun hc2 => ?_) (fun hc2 => ?_)
        · have hW := ifP hW hc2
          refine a_ret (v := (.bl (false))) val_c ?_
          exact hQ _ hW _ _ w
        · have hW := ifN hW hc2
          refine hN4 _ _ ?_
          refine a_ifE ?_
          refine e_jnT hW (fun b F' H' => b = b ∧ Wf F0 H0 F' H' ∧ Ex F1 F') ?_ ?_
          · intro N5 hN5 hW
            have gx2 : Ex F1 F1 := Ex.rfl'
            refine e_tOr ?_
            refine e_tNot ?_
            refine e_tB ?_
            refine e_call ?_
            obtain ⟨_, rfl, ix1⟩ := ix_2a (K := K) ru1 w.f
            refine a_val (v := (.int ((pair1.1 : Nat) : Int))) (ix1 (val_var rfl) val_c) ?_
            refine a_val (v := (.int ((stores1 : Nat) : Int))) (val_var rfl) ?_
            refine a_nil ?_
            refine ⟨F1, ((.int ((pair1.1 : Nat) : Int))), ((An.i ((pair1.1 : Nat) : Int))), (stores1), _, rfl, w.f, (show pA.r _ (.int ((pair1.1 : Nat) : Int)) (An.i ((pair1.1 : Nat) : Int)) from rfl), hW, ?_⟩
            intro z1 hW F2 H2 s2
            replace r1 := Rep.mono _ s2.g r1
            replace ru1 := Rep.mono _ s2.g ru1
            replace w := w.tr s2
            replace gx2 := Ex.tr gx2 s2.g
            replace gx1 := Ex.tr gx1 s2.g
            refine bl_v ?_
            refine bb_ifn (fun hc3 => ?_) (fun hc3 => ?_)
            · have hW := ifP hW hc3
              refine e_tNot ?_
              refine e_tB ?_
              refine e_call ?_
              obtain ⟨_, rfl, ix2⟩ := ix_2b (K := K) ru1 w.f
              refine a_val (v := (.int ((pair1.2 : Nat) : Int))) (ix2 (val_var rfl) val_c) ?_
              refine a_val (v := (.int ((inputs1 : Nat) : Int))) (val_var rfl) ?_
              refine a_nil ?_
              refine ⟨F2, ((.int ((pair1.2 : Nat) : Int))), ((An.i ((pair1.2 : Nat) : Int))), (inputs1), _, rfl, w.f, (show pA.r _ (.int ((pair1.2 : Nat) : Int)) (An.i ((pair1.2 : Nat) : Int)) from rfl), hW, ?_⟩
              intro z2 hW F3 H3 s3
              replace r1 := Rep.mono _ s3.g r1
              replace ru1 := Rep.mono _ s3.g ru1
              replace w := w.tr s3
              replace gx2 := Ex.tr gx2 s3.g
              replace gx1 := Ex.tr gx1 s3.g
              refine bl_v ?_
              exact hN5 (!z2) _ _ ⟨rfl, w, gx2⟩ hW
            · have hW := ifN hW hc3
              exact hN5 true _ _ ⟨rfl, w, gx2⟩ hW
          intro b1 F4 H4 hI2 hW
          obtain ⟨_, w, gx3⟩ := hI2
          have r1 := Rep.mono _ gx3 r1
          have ru1 := Rep.mono _ gx3 ru1
          have gx1 := Ex.tr gx1 gx3
          refine bb_if (fun hc4 => ?_) (fun hc4 => ?_)
          · have hW := ifP hW hc4
            refine a_ret (v := (.bl (false))) val_c ?_
            exact hQ _ hW _ _ w
          · have hW := ifN hW hc4
            exact hN3 () _ _ _ ⟨_, w, gx1, rfl⟩ hW
      · intro s4 σ' F5 H5 hI3 hW
        obtain ⟨o1, w, gx4, rfl⟩ := hI3
        have r1 := Rep.mono _ gx4 r1
        refine hN2 _ _ ?_
        refine a_ret (v := (.bl (true))) val_c ?_
        exact hQ _ hW _ _ w
abbrev s_bit_of : Stmt := topS 30
def W_bit_of (pair1 : Nat × Nat) (state1 : Nat) (row1 : Nat) (R : Nat → Prop) : Prop := W_even (pair1.1 &&& state1) fun z1 => W_even (pair1.2 &&& row1) fun z2 => R (Bool.toNat (decide (z1 ≠ z2)))
def sp_bit_of (K : PySem.W.Frag) (cc : Cz) : Sp := fun vs H Q _ => ∃ (F : Hp) (v1 : V) (pair1 : Nat × Nat) (state1 : Nat) (row1 : Nat) (R : Nat → Prop), vs = [v1, (.int ((state1 : Nat) : Int)), (.int ((row1 : Nat) : Int))] ∧ Ex F H ∧ (pT2 pN pN).r F v1 pair1 ∧ W_bit_of pair1 state1 row1 R ∧ ∀ z, R z → ∀ F' H', Wf F H F' H' → Q (.int ((z : Nat) : Int)) H'
abbrev N_bit_of : List Str := ["pair", "state", "row"]
theorem sc_bit_of : FnScope N_bit_of ["pair", "state", "row"] (defScope s_bit_of) := ⟨rfl, rfl, rfl, by decide +kernel, rfl, by decide +kernel, by decide +kernel⟩
theorem ok_bit_of {P : Program} {w0 : World} {K : PySem.W.Frag} {mg : Str → Option Value} {base : Heap} {f : Addr} {fd : FuncData} {cc : Cz} (T : Tz K mg cc) (FU : Fun K "bit_of" "bit_of" s_bit_of f fd) (hm : mg "bit_of" = some (.ref f)) (hb : Binds K fd ["pair", "state", "row"] []) (c_even : Fn P w0 K mg base CX0 1 "even" ["number"] (sp_even K cc)) (n_int : mg "int" = none) : Fn P w0 K mg base CX0 2 "bit_of" ["pair", "state", "row"] (sp_bit_of K cc) := by
  refine ⟨f, fd, FU.ok sc_bit_of (fun vs H Q E h => ?_) (fun cdv A outer s H0 vs Q E hr h => ?_), hm, FU.kp, hb⟩
  · obtain ⟨_, _, _, _, _, _, rfl, _⟩ := h; rfl
  · obtain ⟨F0, v1, pair1, state1, row1, R, rfl, wf, r1, hW, hQ⟩ := h
    have nd := sc_bit_of.nd
    refine ⟨(tRet (tCB rInt1 (tCons (tOp L2.rNe (tCall (sp_even K cc) [] E0 (tCons (tOp kAnd (tOp (L2.rIxT K) (tVar 0) (tC (.int 0))) (tVar 1)) tNil)) (tCall (sp_even K cc) [] E0 (tCons (tOp kAnd (tOp (L2.rIxT K) (tVar 0) (tC (.int 1))) (tVar 2)) tNil))) tNil))), (pss_one (ps_ret (pe_callTy call_int1 (by rfl) n_int PyProof.Rows.boot_int (pa_cons (pe_cmpR op_ne (pe_fn c_even (hr.mono (by decide)) rfl (pa_cons (pe_op op_and (pe_ix ix_tup (pv 0) pe_int (fun _ _ => rfl)) (pv 1)) pa_nil)) (pe_fn c_even (hr.mono (by decide)) rfl (pa_cons (pe_op op_and (pe_ix ix_tup (pv 0) pe_int (fun _ _ => rfl)) (pv 2)) pa_nil)) (nomark _)) pa_nil)))), ?_⟩
    have w := Wf.id wf
    refine a_retE ?_
    refine e_cb ?_
    refine a_cons ?_
    refine e_op ?_
    refine e_call ?_
    obtain ⟨_, rfl, ix1⟩ := ix_2a (K := K) r1 w.f
    refine a_val (v := (.int ((pair1.1 &&& state1 : Nat) : Int))) (vn_and (ix1 (val_var rfl) val_c) (val_var rfl)) ?_
    refine a_nil ?_
    refine ⟨F0, (pair1.1 &&& state1), _, rfl, w.f, hW, ?_⟩
    intro z1 hW F1 H1 s1
    replace r1 := Rep.mono _ s1.g r1
    replace w := w.tr s1
    refine e_call ?_
    obtain ⟨_, rfl, ix2⟩ := ix_2b (K := K) r1 w.f
    refine a_val (v := (.int ((pair1.2 &&& row1 : Nat) : Int))) (vn_and (ix2 (val_var rfl) val_c) (val_var rfl)) ?_
    refine a_nil ?_
    refine ⟨F1, (pair1.2 &&& row1), _, rfl, w.f, hW, ?_⟩
    intro z2 hW F2 H2 s2
    replace r1 := Rep.mono _ s2.g r1
    replace w := w.tr s2
    refine rv2 (z := .bl (decide (z1 ≠ z2))) (c_neB val_c val_c) ?_
    refine a_nil ?_
    refine rcb1 (z := (.int ((Bool.toNat (decide (z1 ≠ z2)) : Nat) : Int))) (v_intB val_c) ?_
    exact hQ _ hW _ _ w
abbrev s_bits_by : Stmt := topS 31
def W_bits_by (pairs1 : List (Nat × Nat)) (state1 : Nat) (row1 : Nat) (R : Nat → Prop) : Prop := forW (enumT pairs1) 0 (fun it1 found1 nx1 bk1 => W_bit_of it1.2 state1 row1 fun z1 => (NShl z1 it1.1) ∧ ∀ found2 : Nat, found2 = found1 + (z1 <<< it1.1) → nx1 found2) fun found1 => R found1
def sp_bits_by (K : PySem.W.Frag) (cc : Cz) : Sp := fun vs H Q _ => ∃ (F : Hp) (v1 : V) (pairs1 : List (Nat × Nat)) (state1 : Nat) (row1 : Nat) (R : Nat → Prop), vs = [v1, (.int ((state1 : Nat) : Int)), (.int ((row1 : Nat) : Int))] ∧ Ex F H ∧ (pTL (pT2 pN pN)).r F v1 pairs1 ∧ W_bits_by pairs1 state1 row1 R ∧ ∀ z, R z → ∀ F' H', Wf F H F' H' → Q (.int ((z : Nat) : Int)) H'
abbrev N_bits_by : List Str := ["pairs", "state", "row", "found", "place", "pair"]
theorem sc_bits_by : FnScope N_bits_by ["pairs", "state", "row"] (defScope s_bits_by) := ⟨rfl, rfl, rfl, by decide +kernel, rfl, by decide +kernel, by decide +kernel⟩
theorem ok_bits_by {P : Program} {w0 : World} {K : PySem.W.Frag} {mg : Str → Option Value} {base : Heap} {f : Addr} {fd : FuncData} {cc : Cz} (T : Tz K mg cc) (FU : Fun K "bits_by" "bits_by" s_bits_by f fd) (hm : mg "bits_by" = some (.ref f)) (hb : Binds K fd ["pairs", "state", "row"] []) (c_bit_of : Fn P w0 K mg base CX0 2 "bit_of" ["pair", "state", "row"] (sp_bit_of K cc)) (n_enumerate : mg "enumerate" = none) : Fn P w0 K mg base CX0 3 "bits_by" ["pairs", "state", "row"] (sp_bits_by K cc) := by
  refine ⟨f, fd, FU.ok sc_bits_by (fun vs H Q E h => ?_) (fun cdv A outer s H0 vs Q E hr h => ?_), hm, FU.kp, hb⟩
  · obtain ⟨_, _, _, _, _, _, rfl, _⟩ := h; rfl
  · obtain ⟨F0, v1, pairs1, state1, row1, R, rfl, wf, r1, hW, hQ⟩ := h
    have nd := sc_bits_by.nd
    refine ⟨(tSeq (tAsg (tC (.int 0)) (gName 3)) (tSeq (tFor (iEnumT K (tCons (tVar 0) tNil)) (gTup K 2 (gCons (gName 4) (gCons (gName 5) gNil))) (tAug 3 (tOp kShl (tCall (sp_bit_of K cc) [] E0 (tCons (tVar 5) (tCons (tVar 1) (tCons (tVar 2) tNil)))) (tVar 4)) kAdd)) (tRet (tVar 3)))), (pss_cons (ps_set (i := 3) nd rfl (Or.inl rfl) pe_int) (pss_cons (ps_for PassesOwn.never rfl (pi_enumT (by rfl) n_enumerate (pa_cons (pv 0) pa_nil)) (pg_tup rfl (pgs_cons (pg_name (i := 4) nd rfl (Or.inl rfl)) (pgs_cons (pg_name (i := 5) nd rfl (Or.inl rfl)) pgs_nil)) (by rfl)) (pss_one (ps_aug (i := 3) nd rfl (Or.inl rfl) (pe_op op_shlW (pe_fn c_bit_of (hr.mono (by decide)) rfl (pa_cons (pv 5) (pa_cons (pv 1) (pa_cons (pv 2) pa_nil)))) (pv 4)) iop_add))) (pss_one (ps_ret (pv 3))))), ?_⟩
    have w := Wf.id wf
    refine q_sq fun N1 hN1 => ?_
    refine a_asg (v := (.int ((0 : Nat) : Int))) val_c ?_
    refine hN1 _ _ ?_
    refine q_sq fun N2 hN2 => ?_
    refine f_J ?_
    refine a_val (v := v1) (val_var rfl) ?_
    refine a_nil ?_
    refine src_enumT r1 w.f (fun a1 T1 => ?_)
    refine w_forG (S := Nat) T1 (fun found1 σ' F' H' => ∃ (o1 : Option V) (o2 : Option V), Wf F0 H0 F' H' ∧ Ex F0 F' ∧ σ' = [some v1, some (.int ((state1 : Nat) : Int)), some (.int ((row1 : Nat) : Int)), some (.int ((found1 : Nat) : Int)), o1, o2]) hW ⟨_, _, w, Ex.rfl', rfl⟩ (fun s σ' F' H' hI => by obtain ⟨_, _, w', gx', _⟩ := hI; exact ⟨gx', w'.f⟩) w.f ?_ ?_
    · intro N3 Bk1 it1 u1 found1 σ' F1 H1 F2 H2 nx1 bk1 hI1 hx1 s2 ru1 hW hN3 hB1
      obtain ⟨o1, o2, w, gx1, rfl⟩ := hI1
      have r1 := Rep.mono _ gx1 r1
      replace r1 := Rep.mono _ s2.g r1
      replace w := w.tr s2
      replace gx1 := Ex.tr gx1 s2.g
      obtain ⟨p1, u2, u3, rfl, h1, rfl, r2⟩ := ru1
      refine ⟨p1, _, rfl, SqT.of (w.f _ _ h1), rfl, _, _, rfl, _, _, rfl, rfl, ?_⟩
      refine a_augE (x := (.int ((found1 : Nat) : Int))) rfl ?_
      refine e_op ?_
      refine e_call ?_
      refine a_val (v := u3) (val_var rfl) ?_
      refine a_val (v := (.int ((state1 : Nat) : Int))) (val_var rfl) ?_
      refine a_val (v := (.int ((row1 : Nat) : Int))) (val_var rfl) ?_
      refine a_nil ?_
      refine ⟨F2, (u3), (it1.2), (state1), (row1), _, rfl, w.f, r2, hW, ?_⟩
      intro z1 hW F3 H3 s3
      replace r1 := Rep.mono _ s3.g r1
      replace r2 := Rep.mono _ s3.g r2
      replace w := w.tr s3
      replace gx1 := Ex.tr gx1 s3.g
      refine e_val (v := (.int ((it1.1 : Nat) : Int))) (val_var rfl) ?_
      obtain ⟨c1, hW⟩ := hW
      refine rv2 (z := (.int ((z1 <<< it1.1 : Nat) : Int))) (vn_shl val_c val_c c1) ?_
      obtain ⟨found2, efound1⟩ : ∃ found2 : Nat, found2 = found1 + (z1 <<< it1.1) := ⟨_, rfl⟩
      replace hW := hW found2 efound1
      refine rv2 (z := (.int ((found2 : Nat) : Int))) (v_eq (vn_add val_c val_c) (by rw [efound1])) ?_
      exact hN3 found2 _ _ _ ⟨_, _, w, gx1, rfl⟩ hW
    · intro found1 σ' F4 H4 hI2 hW
      obtain ⟨o1, o2, w, gx2, rfl⟩ := hI2
      have r1 := Rep.mono _ gx2 r1
      refine hN2 _ _ ?_
      refine a_ret (v := (.int ((found1 : Nat) : Int))) (val_var rfl) ?_
      exact hQ _ hW _ _ w
abbrev s_Machine___init__ : Stmt := inClass (topS 32) 0
def W_Machine___init__ (inputs1 : Nat) (nexts1 : List (Nat × Nat)) (outs1 : List (Nat × Nat)) (R : (Nat × List (Nat × Nat) × List (Nat × Nat)) → Prop) : Prop := jn (fun kk => W_is_whole (An.i ((inputs1 : Nat) : Int)) fun z1 => if z1 = true then (kk (decide (¬ (0 ≤ inputs1 ∧ inputs1 ≤ 6)))) else (kk true)) fun b1 => if b1 = true then (False) else (jn (fun kk => W_is_pairs nexts1 120 nexts1.length inputs1 fun z2 => if z2 = true then (W_is_pairs outs1 6 nexts1.length inputs1 fun z3 => kk (!z3)) else (kk true)) fun b2 => if b2 = true then (False) else (R (inputs1, nexts1, outs1)))
def sp_Machine___init__ (K : PySem.W.Frag) (cc : Cz) : Sp := fun vs H Q _ => ∃ (F : Hp) (ob dx : Addr) (inputs1 : Nat) (v1 : V) (nexts1 : List (Nat × Nat)) (v2 : V) (outs1 : List (Nat × Nat)) (R : (Nat × List (Nat × Nat) × List (Nat × Nat)) → Prop), vs = [(.ref ob), (.int ((inputs1 : Nat) : Int)), v1, v2] ∧ H ob = some (.ins cc.Machine dx []) ∧ F ob = none ∧ Ex F H ∧ (pL (pT2 pN pN)).r F v1 nexts1 ∧ (pL (pT2 pN pN)).r F v2 outs1 ∧ W_Machine___init__ inputs1 nexts1 outs1 R ∧ ∀ z, R z → ∀ F' H', Wf F (wo H ob) F' H' → (pO3 cc.Machine "inputs" "nexts" "outs" pN (pTL (pT2 pN pN)) (pTL (pT2 pN pN))).r F' (.ref ob) z → Q .non H'
abbrev N_Machine___init__ : List Str := ["self", "inputs", "nexts", "outs"]
theorem sc_Machine___init__ : FnScope N_Machine___init__ ["self", "inputs", "nexts", "outs"] (defScope s_Machine___init__) := ⟨rfl, rfl, rfl, by decide +kernel, rfl, by decide +kernel, by decide +kernel⟩
theorem ok_Machine___init__ {P : Program} {w0 : World} {K : PySem.W.Frag} {mg : Str → Option Value} {base : Heap} {f : Addr} {fd : FuncData} {cc : Cz} (T : Tz K mg cc) (FU : Fun K "__init__" "Machine.__init__" s_Machine___init__ f fd) (hm : Mk K cc.Machine f) (hg : mg "Machine" = some (.ref cc.Machine)) (hb : Binds K fd ["self", "inputs", "nexts", "outs"] []) (c_is_whole : Fn P w0 K mg base CX0 1 "is_whole" ["thing"] (sp_is_whole K cc)) (c_is_pairs : Fn P w0 K mg base CX0 3 "is_pairs" ["thing", "most", "stores", "inputs"] (sp_is_pairs K cc)) (n_isinstance : mg "isinstance" = none) (n_len : mg "len" = none) (n_list : mg "list" = none) (n_tuple : mg "tuple" = none) : Nw P w0 K mg base CX0 4 cc.Machine "Machine" ["self", "inputs", "nexts", "outs"] (sp_Machine___init__ K cc) := by
  refine ⟨f, fd, FU.ok sc_Machine___init__ (fun vs H Q E h => ?_) (fun cdv A outer s H0 vs Q E hr h => ?_), hm, hg, hb⟩
  · obtain ⟨_, _, _, _, _, _, _, _, _, rfl, _⟩ := h; rfl
  · obtain ⟨F0, ob, dx, inputs1, v1, nexts1, v2, outs1, R, rfl, hob, nob, wf, r1, r2, hW, hQ⟩ := h
    have nd := sc_Machine___init__.nd
    refine ⟨(tSeq (tIfS (tOr (tNot (tB (tCall (sp_is_whole K cc) [] E0 (tCons (tVar 1) tNil)))) (tOr (tNot (tTest (tChain kLe kLe (tC (.int 0)) (tVar 1) (tC (.int 6))))) (tNot (tB (tCB (rIsi K) (tCons (tVar 2) (tCons (tC (.ty "list")) tNil))))))) tNever tNext) (tSeq (tIfS (tOr (tNot (tB (tCall (sp_is_pairs K cc) [] E0 (tCons (tVar 2) (tCons (tC (.int 120)) (tCons (tCB (Wk.rLen K) (tCons (tVar 2) tNil)) (tCons (tVar 1) tNil))))))) (tNot (tB (tCall (sp_is_pairs K cc) [] E0 (tCons (tVar 3) (tCons (tC (.int 6)) (tCons (tCB (Wk.rLen K) (tCons (tVar 2) tNil)) (tCons (tVar 1) tNil)))))))) tNever tNext) (tSeq (sFld K (tVar 0) (tVar 1) "inputs") (tSeq (sFld K (tVar 0) (tCB (rTupOf K) (tCons (tVar 2) tNil)) "nexts") (sFld K (tVar 0) (tCB (rTupOf K) (tCons (tVar 3) tNil)) "outs"))))), (pss_cons (ps_if (PW.pt (pw_or (pt_not (pt_val (pe_fn c_is_whole (hr.mono (by decide)) rfl (pa_cons (pv 1) pa_nil)))) (pw_or (pt_not (pt_chain op_le op_le pe_int (pv 1) (pe_globE T.gl_MOST_INPUTS rfl))) (pw_or1 (pt_not (pt_val (pe_callB call_isi (by rfl) n_isinstance PyProof.Rows.boot_isinstance (pa_cons (pv 2) (pa_cons (pe_bltn (v := .ty "list") (by rfl) n_list PyProof.Rows.boot_list rfl) pa_nil))))))))) (pss_one ps_never) pss_nil) (pss_cons (ps_if (PW.pt (pw_or (pt_not (pt_val (pe_fn c_is_pairs (hr.mono (by decide)) rfl (pa_cons (pv 2) (pa_cons (pe_globE T.gl_MOST_STORES rfl) (pa_cons (pe_callB call_len_seq (by rfl) n_len PySem.boot_len (pa_cons (pv 2) pa_nil)) (pa_cons (pv 1) pa_nil))))))) (pw_or1 (pt_not (pt_val (pe_fn c_is_pairs (hr.mono (by decide)) rfl (pa_cons (pv 3) (pa_cons (pe_globE T.gl_MOST_OUTS rfl) (pa_cons (pe_callB call_len_seq (by rfl) n_len PySem.boot_len (pa_cons (pv 2) pa_nil)) (pa_cons (pv 1) pa_nil)))))))))) (pss_one ps_never) pss_nil) (pss_cons (ps_fld (pv 0) (pv 1) rfl) (pss_cons (ps_fld (pv 0) (pe_callTy call_tuple_of (by rfl) n_tuple PyProof.Rows.boot_tuple (pa_cons (pv 2) pa_nil)) rfl) (pss_one (ps_fld (pv 0) (pe_callTy call_tuple_of (by rfl) n_tuple PyProof.Rows.boot_tuple (pa_cons (pv 3) pa_nil)) rfl)))))), ?_⟩
    have xs := Xc.start nob hob
    have w := Wf.start wf nob
    generalize hH0 : wo H0 ob = Hb at xs w hQ
    refine q_sq fun N1 hN1 => ?_
    refine a_ifE ?_
    refine e_jnT hW (fun b F' H' => b = b ∧ Wf F0 Hb F' H' ∧ Ex F0 F' ∧ Xc Hb F' H' ob (.ins cc.Machine dx [])) ?_ ?_
    · intro N2 hN2 hW
      have gx1 : Ex F0 F0 := Ex.rfl'
      refine e_tOr ?_
      refine e_tNot ?_
      refine e_tB ?_
      refine e_call ?_
      refine a_val (v := (.int ((inputs1 : Nat) : Int))) (val_var rfl) ?_
      refine a_nil ?_
      refine ⟨F0, ((.int ((inputs1 : Nat) : Int))), ((An.i ((inputs1 : Nat) : Int))), _, rfl, w.f, (show pA.r _ (.int ((inputs1 : Nat) : Int)) (An.i ((inputs1 : Nat) : Int)) from rfl), hW, ?_⟩
      intro z1 hW F1 H1 s1
      replace r1 := Rep.mono _ s1.g r1
      replace r2 := Rep.mono _ s1.g r2
      replace xs := xs.step s1
      replace w := w.tr s1
      replace gx1 := Ex.tr gx1 s1.g
      refine bl_v ?_
      refine bb_ifn (fun hc1 => ?_) (fun hc1 => ?_)
      · have hW := ifP hW hc1
        refine e_ans (b := decide (¬ (0 ≤ inputs1 ∧ inputs1 ≤ 6))) (t_iff (p := (¬ (0 ≤ inputs1 ∧ inputs1 ≤ 6)) ∨ (¬ (True))) (q := ¬ (0 ≤ inputs1 ∧ inputs1 ≤ 6)) (t_or (t_not (t_of (vb_of (v_chain (b1 := decide (0 ≤ inputs1)) (b2 := decide (inputs1 ≤ 6)) (x := (.int ((0 : Nat) : Int))) (y := (.int ((inputs1 : Nat) : Int))) (z := (.int ((6 : Nat) : Int))) val_c (val_var rfl) val_c (fun Q k => rv2 (vb_dec (c_le val_c val_c) n_le) k) (fun Q k => rv2 (vb_dec (c_le val_c val_c) n_le) k)) dec_and))) (fun _ => (t_not (t_ofB (vb_of (v_isi (b := true) (val_var rfl) (ty_L r1 w.f) (by decide +kernel)) dec_T))))) (by simp)) ?_
        exact hN2 (decide (¬ (0 ≤ inputs1 ∧ inputs1 ≤ 6))) _ _ ⟨rfl, w, gx1, xs⟩ hW
      · have hW := ifN hW hc1
        exact hN2 true _ _ ⟨rfl, w, gx1, xs⟩ hW
    intro b1 F2 H2 hI1 hW
    obtain ⟨_, w, gx2, x1⟩ := hI1
    have r1 := Rep.mono _ gx2 r1
    have r2 := Rep.mono _ gx2 r2
    refine bb_if (fun hc2 => ?_) (fun hc2 => ?_)
    · have hW := ifP hW hc2
      exact hW
    · have hW := ifN hW hc2
      refine hN1 _ _ ?_
      refine q_sq fun N3 hN3 => ?_
      refine a_ifE ?_
      refine e_jnT hW (fun b F' H' => b = b ∧ Wf F0 Hb F' H' ∧ Ex F2 F' ∧ Xc Hb F' H' ob (.ins cc.Machine dx [])) ?_ ?_
      · intro N4 hN4 hW
        have gx3 : Ex F2 F2 := Ex.rfl'
        refine e_tOr ?_
        refine e_tNot ?_
        refine e_tB ?_
        refine e_call ?_
        refine a_val (v := v1) (val_var rfl) ?_
        refine a_val (v := (.int ((120 : Nat) : Int))) val_c ?_
        refine a_val (v := (.int ((nexts1.length : Nat) : Int))) (len_L r1 w.f (val_var rfl)) ?_
        refine a_val (v := (.int ((inputs1 : Nat) : Int))) (val_var rfl) ?_
        refine a_nil ?_
        refine ⟨F2, (v1), (nexts1), (120), (nexts1.length), (inputs1), _, rfl, w.f, r1, hW, ?_⟩
        intro z2 hW F3 H3 s2
        replace r1 := Rep.mono _ s2.g r1
        replace r2 := Rep.mono _ s2.g r2
        replace x1 := x1.step s2
        replace w := w.tr s2
        replace gx3 := Ex.tr gx3 s2.g
        refine bl_v ?_
        refine bb_ifn (fun hc3 => ?_) (fun hc3 => ?_)
        · have hW := ifP hW hc3
          refine e_tNot ?_
          refine e_tB ?_
          refine e_call ?_
          refine a_val (v := v2) (val_var rfl) ?_
          refine a_val (v := (.int ((6 : Nat) : Int))) val_c ?_
          refine a_val (v := (.int ((nexts1.length : Nat) : Int))) (len_L r1 w.f (val_var rfl)) ?_
          refine a_val (v := (.int ((inputs1 : Nat) : Int))) (val_var rfl) ?_
          refine a_nil ?_
          refine ⟨F3, (v2), (outs1), (6), (nexts1.length), (inputs1), _, rfl, w.f, r2, hW, ?_⟩
          intro z3 hW F4 H4 s3
          replace r1 := Rep.mono _ s3.g r1
          replace r2 := Rep.mono _ s3.g r2
          replace x1 := x1.step s3
          replace w := w.tr s3
          replace gx3 := Ex.tr gx3 s3.g
          refine bl_v ?_
          exact hN4 (!z3) _ _ ⟨rfl, w, gx3, x1⟩ hW
        · have hW := ifN hW hc3
          exact hN4 true _ _ ⟨rfl, w, gx3, x1⟩ hW
      intro b2 F5 H5 hI2 hW
      obtain ⟨_, w, gx4, x2⟩ := hI2
      have r1 := Rep.mono _ gx4 r1
      have r2 := Rep.mono _ gx4 r2
      refine bb_if (fun hc4 => ?_) (fun hc4 => ?_)
      · have hW := ifP hW hc4
        exact hW
      · have hW := ifN hW hc4
        refine hN3 _ _ ?_
        refine q_sq fun N5 hN5 => ?_
        refine e_fld ?_
        refine e_val (v := (.int ((inputs1 : Nat) : Int))) (val_var rfl) ?_
        refine a_fld T.cl_Machine T.na_Machine_inputs x2 w (show 0 < 1000 from by decide) (val_var rfl) (fun H6 w1 x3 kp1 => ?_)
        replace w := w1
        replace x3 : Xc Hb F5 H6 ob (.ins cc.Machine dx [("inputs", (.int ((inputs1 : Nat) : Int)))]) := Xc.cast x3 rfl
        refine hN5 _ _ ?_
        refine q_sq fun N6 hN6 => ?_
        refine e_fld ?_
        refine e_cb ?_
        refine a_val (v := v1) (val_var rfl) ?_
        refine a_nil ?_
        refine n_tupOf r1 w ?_
        intro p1 F6 H7 s4 r3
        replace r1 := Rep.mono _ s4.g r1
        replace r2 := Rep.mono _ s4.g r2
        replace x3 := x3.step s4
        replace w := w.tr s4
        refine a_fld T.cl_Machine T.na_Machine_nexts x3 w (show 1 < 1000 from by decide) (val_var rfl) (fun H8 w2 x4 kp2 => ?_)
        replace w := w2
        replace x4 : Xc Hb F6 H8 ob (.ins cc.Machine dx [("inputs", (.int ((inputs1 : Nat) : Int))), ("nexts", (.ref p1))]) := Xc.cast x4 ((put_ne (by decide +kernel)).trans (congrArg _ rfl))
        refine hN6 _ _ ?_
        refine e_fld ?_
        refine e_cb ?_
        refine a_val (v := v2) (val_var rfl) ?_
        refine a_nil ?_
        refine n_tupOf r2 w ?_
        intro p2 F7 H9 s5 r4
        replace r1 := Rep.mono _ s5.g r1
        replace r2 := Rep.mono _ s5.g r2
        replace x4 := x4.step s5
        replace r3 := Rep.mono _ s5.g r3
        replace w := w.tr s5
        refine a_fld T.cl_Machine T.na_Machine_outs x4 w (show 2 < 1000 from by decide) (val_var rfl) (fun H10 w3 x5 kp3 => ?_)
        replace w := w3
        replace x5 : Xc Hb F7 H10 ob (.ins cc.Machine dx [("inputs", (.int ((inputs1 : Nat) : Int))), ("nexts", (.ref p1)), ("outs", (.ref p2))]) := Xc.cast x5 ((put_ne (by decide +kernel)).trans (congrArg _ ((put_ne (by decide +kernel)).trans (congrArg _ rfl))))
        obtain ⟨F8, w4, g1, h1⟩ := x5.frzE w
        exact hQ _ hW _ _ w4 ⟨ob, dx, _, rfl, h1, _, _, _, rfl, rfl, (Rep.mono _ g1 r3), (Rep.mono _ g1 r4)⟩
abbrev s_Machine_stores : Stmt := inClass (topS 32) 1
def W_Machine_stores (self1 : Nat × List (Nat × Nat) × List (Nat × Nat)) (R : Nat → Prop) : Prop := R self1.2.1.length
def sp_Machine_stores (K : PySem.W.Frag) (cc : Cz) : Sp := fun vs H Q _ => ∃ (F : Hp) (v1 : V) (self1 : Nat × List (Nat × Nat) × List (Nat × Nat)) (R : Nat → Prop), vs = [v1] ∧ Ex F H ∧ (pO3 cc.Machine "inputs" "nexts" "outs" pN (pTL (pT2 pN pN)) (pTL (pT2 pN pN))).r F v1 self1 ∧ W_Machine_stores self1 R ∧ ∀ z, R z → ∀ F' H', Wf F H F' H' → Q (.int ((z : Nat) : Int)) H'
abbrev N_Machine_stores : List Str := ["self"]
theorem sc_Machine_stores : FnScope N_Machine_stores ["self"] (defScope s_Machine_stores) := ⟨rfl, rfl, rfl, by decide +kernel, rfl, by decide +kernel, by decide +kernel⟩
theorem ok_Machine_stores {P : Program} {w0 : World} {K : PySem.W.Frag} {mg : Str → Option Value} {base : Heap} {f : Addr} {fd : FuncData} {cc : Cz} (T : Tz K mg cc) (FU : Fun K "stores" "Machine.stores" s_Machine_stores f fd) (hm : Meth K cc.Machine "stores" f) (hb : Binds K fd ["self"] []) (n_len : mg "len" = none) : Md P w0 K mg base CX0 1 cc.Machine "stores" ["self"] (sp_Machine_stores K cc) := by
  refine ⟨f, fd, FU.ok sc_Machine_stores (fun vs H Q E h => ?_) (fun cdv A outer s H0 vs Q E hr h => ?_), hm, hb⟩
  · obtain ⟨_, _, _, _, rfl, _⟩ := h; rfl
  · obtain ⟨F0, v1, self1, R, rfl, wf, r1, hW, hQ⟩ := h
    have nd := sc_Machine_stores.nd
    refine ⟨(tRet (tCB (Wk.rLen K) (tCons (tFld K (tVar 0) "nexts") tNil))), (pss_one (ps_ret (pe_callB call_len_seq (by rfl) n_len PySem.boot_len (pa_cons (pe_fld (pv 0) rfl) pa_nil)))), ?_⟩
    have w := Wf.id wf
    obtain ⟨v2, r2, fl1⟩ := fl_32 (K := K) T.cl_Machine T.na_Machine_nexts r1 w.f
    refine a_ret (v := (.int ((self1.2.1.length : Nat) : Int))) (len_TL r2 w.f (fl1 (val_var rfl))) ?_
    exact hQ _ hW _ _ w
abbrev s_Machine_need : Stmt := inClass (topS 32) 4
def W_Machine_need (self1 : Nat × List (Nat × Nat) × List (Nat × Nat)) (thing1 : An) (width1 : Nat) (E_BadMask : Prop) (R : Unit → Prop) : Prop := W_is_mask thing1 width1 fun z1 => if z1 = true then (R ()) else (E_BadMask)
def sp_Machine_need (K : PySem.W.Frag) (cc : Cz) : Sp := fun vs H Q E => ∃ (F : Hp) (v1 : V) (self1 : Nat × List (Nat × Nat) × List (Nat × Nat)) (v2 : V) (thing1 : An) (width1 : Nat) (E_BadMask : Prop) (R : Unit → Prop), vs = [v1, v2, (.int ((width1 : Nat) : Int))] ∧ Ex F H ∧ (pO3 cc.Machine "inputs" "nexts" "outs" pN (pTL (pT2 pN pN)) (pTL (pT2 pN pN))).r F v1 self1 ∧ pA.r F v2 thing1 ∧ W_Machine_need self1 thing1 width1 E_BadMask R ∧ (E_BadMask → ∀ F' H', Wf F H F' H' → E (.ref cc.BadMask) none H') ∧ ∀ z, R z → ∀ F' H', Wf F H F' H' → Q .non H'
abbrev N_Machine_need : List Str := ["self", "thing", "width"]
theorem sc_Machine_need : FnScope N_Machine_need ["self", "thing", "width"] (defScope s_Machine_need) := ⟨rfl, rfl, rfl, by decide +kernel, rfl, by decide +kernel, by decide +kernel⟩
theorem ok_Machine_need {P : Program} {w0 : World} {K : PySem.W.Frag} {mg : Str → Option Value} {base : Heap} {f : Addr} {fd : FuncData} {cc : Cz} (T : Tz K mg cc) (FU : Fun K "need" "Machine.need" s_Machine_need f fd) (hm : Meth K cc.Machine "need" f) (hb : Binds K fd ["self", "thing", "width"] []) (c_is_mask : Fn P w0 K mg base CX0 2 "is_mask" ["thing", "width"] (sp_is_mask K cc)) : Md P w0 K mg base (L2.CX P w0) 3 cc.Machine "need" ["self", "thing", "width"] (sp_Machine_need K cc) := by
  refine ⟨f, fd, FU.okX sc_Machine_need (fun vs H Q E h => ?_) (fun cdv A outer s H0 vs Q E hr h => ?_), hm, hb⟩
  · obtain ⟨_, _, _, _, _, _, _, _, rfl, _⟩ := h; rfl
  · obtain ⟨F0, v1, self1, v2, thing1, width1, E_BadMask, R, rfl, wf, r1, r2, hW, hE_BadMask, hQ⟩ := h
    have nd := sc_Machine_need.nd
    refine ⟨(tIfS (tNot (tB (tCall (sp_is_mask K cc) [] E0 (tCons (tVar 1) (tCons (tVar 2) tNil))))) (tRaise (fun cls d _ H => E cls d H) cc.BadMask) tNext), (pss_one (ps_if (pt_not (pt_val (pe_fn c_is_mask (hr.mono (by decide)) rfl (pa_cons (pv 1) (pa_cons (pv 2) pa_nil))))) (pss_one (ps_raise (W := (fun cls d _ H => E cls d H)) rfl (takes_of rfl rfl rfl rfl) (pmk_own PySem.F.excBase_ValueError T.xc_BadMask.x T.xc_BadMask.g T.xc_BadMask.k (raises_own T.xc_BadMask.b T.xc_BadMask.t) (by exact rfl)))) pss_nil)), ?_⟩
    have w := Wf.id wf
    refine a_ifE ?_
    refine e_tNot ?_
    refine e_tB ?_
    refine e_call ?_
    refine a_val (v := v2) (val_var rfl) ?_
    refine a_val (v := (.int ((width1 : Nat) : Int))) (val_var rfl) ?_
    refine a_nil ?_
    refine ⟨F0, (v2), (thing1), (width1), _, rfl, w.f, r2, hW, ?_⟩
    intro z1 hW F1 H1 s1
    replace r1 := Rep.mono _ s1.g r1
    replace r2 := Rep.mono _ s1.g r2
    replace w := w.tr s1
    refine bl_v ?_
    refine bb_ifn (fun hc1 => ?_) (fun hc1 => ?_)
    · have hW := ifP hW hc1
      exact hQ _ hW _ _ w
    · have hW := ifN hW hc1
      refine a_raise ?_
      exact hE_BadMask hW _ _ w
abbrev s_Machine_step : Stmt := inClass (topS 32) 5
def W_Machine_step (self1 : Nat × List (Nat × Nat) × List (Nat × Nat)) (state1 : An) (row1 : An) (E_BadMask : Prop) (R : (Nat × Nat) → Prop) : Prop := W_Machine_stores self1 fun z1 => W_Machine_need self1 state1 z1 (E_BadMask) fun z2 => W_Machine_need self1 row1 self1.1 (E_BadMask) fun z3 => ∃ y1 : Nat, state1 = An.i ((y1 : Nat) : Int) ∧ ∃ y2 : Nat, row1 = An.i ((y2 : Nat) : Int) ∧ W_bits_by self1.2.2 y1 y2 fun z4 => ∃ y3 : Nat, state1 = An.i ((y3 : Nat) : Int) ∧ ∃ y4 : Nat, row1 = An.i ((y4 : Nat) : Int) ∧ W_bits_by self1.2.1 y3 y4 fun z5 => R (z4, z5)
def sp_Machine_step (K : PySem.W.Frag) (cc : Cz) : Sp := fun vs H Q E => ∃ (F : Hp) (v1 : V) (self1 : Nat × List (Nat × Nat) × List (Nat × Nat)) (v2 : V) (state1 : An) (v3 : V) (row1 : An) (E_BadMask : Prop) (R : (Nat × Nat) → Prop), vs = [v1, v2, v3] ∧ Ex F H ∧ (pO3 cc.Machine "inputs" "nexts" "outs" pN (pTL (pT2 pN pN)) (pTL (pT2 pN pN))).r F v1 self1 ∧ pA.r F v2 state1 ∧ pA.r F v3 row1 ∧ W_Machine_step self1 state1 row1 E_BadMask R ∧ (E_BadMask → ∀ F' H', Wf F H F' H' → E (.ref cc.BadMask) none H') ∧ ∀ z, R z → ∀ v F' H', Wf F H F' H' → (pT2 pN pN).r F' v z → Q v H'
abbrev N_Machine_step : List Str := ["self", "state", "row"]
theorem sc_Machine_step : FnScope N_Machine_step ["self", "state", "row"] (defScope s_Machine_step) := ⟨rfl, rfl, rfl, by decide +kernel, rfl, by decide +kernel, by decide +kernel⟩
theorem ok_Machine_step {P : Program} {w0 : World} {K : PySem.W.Frag} {mg : Str → Option Value} {base : Heap} {f : Addr} {fd : FuncData} {cc : Cz} (T : Tz K mg cc) (FU : Fun K "step" "Machine.step" s_Machine_step f fd) (hm : Meth K cc.Machine "step" f) (hb : Binds K fd ["self", "state", "row"] []) (c_Machine_stores : Md P w0 K mg base CX0 1 cc.Machine "stores" ["self"] (sp_Machine_stores K cc)) (c_Machine_need : Md P w0 K mg base (L2.CX P w0) 3 cc.Machine "need" ["self", "thing", "width"] (sp_Machine_need K cc)) (c_bits_by : Fn P w0 K mg base CX0 3 "bits_by" ["pairs", "state", "row"] (sp_bits_by K cc)) : Md P w0 K mg base (L2.CX P w0) 4 cc.Machine "step" ["self", "state", "row"] (sp_Machine_step K cc) := by
  refine ⟨f, fd, FU.okX sc_Machine_step (fun vs H Q E h => ?_) (fun cdv A outer s H0 vs Q E hr h => ?_), hm, hb⟩
  · obtain ⟨_, _, _, _, _, _, _, _, _, rfl, _⟩ := h; rfl
  · obtain ⟨F0, v1, self1, v2, state1, v3, row1, E_BadMask, R, rfl, wf, r1, r2, r3, hW, hE_BadMask, hQ⟩ := h
    have nd := sc_Machine_step.nd
    refine ⟨(tSeq (tDrop (tMdS cc.Machine "need" (sp_Machine_need K cc) (WE (fun cls d _ H => E cls d H)) (tVar 0) (tCons (tVar 1) (tCons (tMeth cc.Machine "stores" (sp_Machine_stores K cc) [] E0 (tVar 0) tNil) tNil)))) (tSeq (tDrop (tMdS cc.Machine "need" (sp_Machine_need K cc) (WE (fun cls d _ H => E cls d H)) (tVar 0) (tCons (tVar 2) (tCons (tFld K (tVar 0) "inputs") tNil)))) (tRet (tTup (tCons (tCall (sp_bits_by K cc) [] E0 (tCons (tFld K (tVar 0) "outs") (tCons (tVar 1) (tCons (tVar 2) tNil)))) (tCons (tCall (sp_bits_by K cc) [] E0 (tCons (tFld K (tVar 0) "nexts") (tCons (tVar 1) (tCons (tVar 2) tNil)))) tNil)))))), (pss_cons (ps_expr (pe_mdS (W := (fun cls d _ H => E cls d H)) c_Machine_need (takes_of rfl rfl rfl rfl) T.cl_Machine (hr.mono (by decide)) (pv 0) (pa_cons (pv 1) (pa_cons (pe_md0 c_Machine_stores T.cl_Machine (hr.mono (by decide)) (pv 0)) pa_nil)))) (pss_cons (ps_expr (pe_mdS (W := (fun cls d _ H => E cls d H)) c_Machine_need (takes_of rfl rfl rfl rfl) T.cl_Machine (hr.mono (by decide)) (pv 0) (pa_cons (pv 2) (pa_cons (pe_fld (pv 0) rfl) pa_nil)))) (pss_one (ps_ret (pe_tup (pa_cons (pe_fn c_bits_by (hr.mono (by decide)) rfl (pa_cons (pe_fld (pv 0) rfl) (pa_cons (pv 1) (pa_cons (pv 2) pa_nil)))) (pa_cons (pe_fn c_bits_by (hr.mono (by decide)) rfl (pa_cons (pe_fld (pv 0) rfl) (pa_cons (pv 1) (pa_cons (pv 2) pa_nil)))) pa_nil))))))), ?_⟩
    have w := Wf.id wf
    refine q_sq fun N1 hN1 => ?_
    refine a_dropE ?_
    refine e_mdS ?_
    refine e_val (v := v1) (val_var rfl) ?_
    obtain ⟨p1, dx1, fs1, ev1, ho1, lm1⟩ := me_3 (m := "need") r1 w.f
    refine ⟨_, _, _, ev1, ho1, lm1, ?_⟩
    refine a_val (v := v2) (val_var rfl) ?_
    refine a_cons ?_
    refine e_md ?_
    refine e_val (v := v1) (val_var rfl) ?_
    obtain ⟨p2, dx2, fs2, ev2, ho2, lm2⟩ := me_3 (m := "stores") r1 w.f
    refine ⟨_, _, _, ev2, ho2, lm2, ?_⟩
    refine a_nil ?_
    refine ⟨F0, (v1), (self1), _, rfl, w.f, r1, hW, ?_⟩
    intro z1 hW F1 H1 s1
    replace r1 := Rep.mono _ s1.g r1
    replace r2 := Rep.mono _ s1.g r2
    replace r3 := Rep.mono _ s1.g r3
    replace w := w.tr s1
    refine a_nil ?_
    refine ⟨F1, (v1), (self1), (v2), (state1), (z1), _, _, rfl, w.f, r1, r2, hW, ?_, ?_⟩
    · intro hW F2 H2 s2
      replace r1 := Rep.mono _ s2.g r1
      replace r2 := Rep.mono _ s2.g r2
      replace r3 := Rep.mono _ s2.g r3
      replace w := w.tr s2
      exact hE_BadMask hW _ _ w
    intro z2 hW F3 H3 s3
    replace r1 := Rep.mono _ s3.g r1
    replace r2 := Rep.mono _ s3.g r2
    replace r3 := Rep.mono _ s3.g r3
    replace w := w.tr s3
    refine hN1 _ _ ?_
    refine q_sq fun N2 hN2 => ?_
    refine a_dropE ?_
    refine e_mdS ?_
    refine e_val (v := v1) (val_var rfl) ?_
    obtain ⟨p3, dx3, fs3, ev3, ho3, lm3⟩ := me_3 (m := "need") r1 w.f
    refine ⟨_, _, _, ev3, ho3, lm3, ?_⟩
    refine a_val (v := v3) (val_var rfl) ?_
    obtain ⟨_, rfl, fl1⟩ := fl_31 (K := K) T.cl_Machine T.na_Machine_inputs r1 w.f
    refine a_val (v := (.int ((self1.1 : Nat) : Int))) (fl1 (val_var rfl)) ?_
    refine a_nil ?_
    refine ⟨F3, (v1), (self1), (v3), (row1), (self1.1), _, _, rfl, w.f, r1, r3, hW, ?_, ?_⟩
    · intro hW F4 H4 s4
      replace r1 := Rep.mono _ s4.g r1
      replace r2 := Rep.mono _ s4.g r2
      replace r3 := Rep.mono _ s4.g r3
      replace w := w.tr s4
      exact hE_BadMask hW _ _ w
    intro z3 hW F5 H5 s5
    replace r1 := Rep.mono _ s5.g r1
    replace r2 := Rep.mono _ s5.g r2
    replace r3 := Rep.mono _ s5.g r3
    replace w := w.tr s5
    refine hN2 _ _ ?_
    refine a_retE ?_
    refine e_tup ?_
    refine a_cons ?_
    refine e_call ?_
    obtain ⟨v5, r5, fl2⟩ := fl_33 (K := K) T.cl_Machine T.na_Machine_outs r1 w.f
    refine a_val (v := v5) (fl2 (val_var rfl)) ?_
    obtain ⟨y1, hy1, hW⟩ := hW
    have hv1 := an_i r2 hy1
    refine a_val (v := (.int ((y1 : Nat) : Int))) (v_eq (val_var rfl) hv1) ?_
    obtain ⟨y2, hy2, hW⟩ := hW
    have hv2 := an_i r3 hy2
    refine a_val (v := (.int ((y2 : Nat) : Int))) (v_eq (val_var rfl) hv2) ?_
    refine a_nil ?_
    refine ⟨F5, (v5), (self1.2.2), (y1), (y2), _, rfl, w.f, r5, hW, ?_⟩
    intro z4 hW F6 H6 s6
    replace r1 := Rep.mono _ s6.g r1
    replace r2 := Rep.mono _ s6.g r2
    replace r3 := Rep.mono _ s6.g r3
    replace r5 := Rep.mono _ s6.g r5
    replace w := w.tr s6
    refine a_cons ?_
    refine e_call ?_
    obtain ⟨v6, r6, fl3⟩ := fl_32 (K := K) T.cl_Machine T.na_Machine_nexts r1 w.f
    refine a_val (v := v6) (fl3 (val_var rfl)) ?_
    obtain ⟨y3, hy3, hW⟩ := hW
    have hv3 := an_i r2 hy3
    refine a_val (v := (.int ((y3 : Nat) : Int))) (v_eq (val_var rfl) hv3) ?_
    obtain ⟨y4, hy4, hW⟩ := hW
    have hv4 := an_i r3 hy4
    refine a_val (v := (.int ((y4 : Nat) : Int))) (v_eq (val_var rfl) hv4) ?_
    refine a_nil ?_
    refine ⟨F6, (v6), (self1.2.1), (y3), (y4), _, rfl, w.f, r6, hW, ?_⟩
    intro z5 hW F7 H7 s7
    replace r1 := Rep.mono _ s7.g r1
    replace r2 := Rep.mono _ s7.g r2
    replace r3 := Rep.mono _ s7.g r3
    replace r5 := Rep.mono _ s7.g r5
    replace r6 := Rep.mono _ s7.g r6
    replace w := w.tr s7
    refine a_nil ?_
    refine n_tup2 (e := pN) (f := pN) (x := z4) (y := z5) rfl rfl w ?_
    intro p4 F8 H8 s8 r7
    replace r1 := Rep.mono _ s8.g r1
    replace r2 := Rep.mono _ s8.g r2
    replace r3 := Rep.mono _ s8.g r3
    replace r5 := Rep.mono _ s8.g r5
    replace r6 := Rep.mono _ s8.g r6
    replace w := w.tr s8
    exact hQ _ hW _ _ _ w r7
abbrev s_Machine_walk : Stmt := inClass (topS 32) 6
def W_Machine_walk (self1 : Nat × List (Nat × Nat) × List (Nat × Nat)) (rows1 : List An) (state1 : An) (E_BadMask : Prop) (R : (List Nat × Nat) → Prop) : Prop := W_Machine_stores self1 fun z1 => W_Machine_need self1 state1 z1 (E_BadMask) fun z2 => forW rows1 () (fun row1 _ nx1 bk1 => W_Machine_need self1 row1 self1.1 (E_BadMask) fun z3 => nx1 ()) fun _ => ∃ y1 : Nat, state1 = An.i ((y1 : Nat) : Int) ∧ forW rows1 (y1, ([] : List Nat)) (fun row2 (state2, answers1) nx2 bk2 => W_Machine_step self1 (An.i ((state2 : Nat) : Int)) row2 (E_BadMask) fun z4 => (answers1.length < 1000000) ∧ nx2 (z4.2, answers1 ++ [z4.1])) fun (state2, answers1) => R (answers1, state2)
def sp_Machine_walk (K : PySem.W.Frag) (cc : Cz) : Sp := fun vs H Q E => ∃ (F : Hp) (v1 : V) (self1 : Nat × List (Nat × Nat) × List (Nat × Nat)) (v2 : V) (rows1 : List An) (v3 : V) (state1 : An) (E_BadMask : Prop) (R : (List Nat × Nat) → Prop), vs = [v1, v2, v3] ∧ Ex F H ∧ (pO3 cc.Machine "inputs" "nexts" "outs" pN (pTL (pT2 pN pN)) (pTL (pT2 pN pN))).r F v1 self1 ∧ (pL pA).r F v2 rows1 ∧ pA.r F v3 state1 ∧ W_Machine_walk self1 rows1 state1 E_BadMask R ∧ (E_BadMask → ∀ F' H', Wf F H F' H' → E (.ref cc.BadMask) none H') ∧ ∀ z, R z → ∀ (l0 : Addr) v F' H', Wf F H F' H' → (pT2 pV pN).r F' v (V.ref l0, z.2) → XL pN H F' H' l0 z.1 → Q v H'
abbrev N_Machine_walk : List Str := ["self", "rows", "state", "row", "answers", "answer"]
theorem sc_Machine_walk : FnScope N_Machine_walk ["self", "rows", "state"] (defScope s_Machine_walk) := ⟨rfl, rfl, rfl, by decide +kernel, rfl, by decide +kernel, by decide +kernel⟩
theorem ok_Machine_walk {P : Program} {w0 : World} {K : PySem.W.Frag} {mg : Str → Option Value} {base : Heap} {f : Addr} {fd : FuncData} {cc : Cz} (T : Tz K mg cc) (FU : Fun K "walk" "Machine.walk" s_Machine_walk f fd) (hm : Meth K cc.Machine "walk" f) (hb : Binds K fd ["self", "rows", "state"] []) (c_Machine_stores : Md P w0 K mg base CX0 1 cc.Machine "stores" ["self"] (sp_Machine_stores K cc)) (c_Machine_need : Md P w0 K mg base (L2.CX P w0) 3 cc.Machine "need" ["self", "thing", "width"] (sp_Machine_need K cc)) (c_Machine_step : Md P w0 K mg base (L2.CX P w0) 4 cc.Machine "step" ["self", "state", "row"] (sp_Machine_step K cc)) : Md P w0 K mg base (L2.CX P w0) 5 cc.Machine "walk" ["self", "rows", "state"] (sp_Machine_walk K cc) := by
  refine ⟨f, fd, FU.okX sc_Machine_walk (fun vs H Q E h => ?_) (fun cdv A outer s H0 vs Q E hr h => ?_), hm, hb⟩
  · obtain ⟨_, _, _, _, _, _, _, _, _, rfl, _⟩ := h; rfl
  · obtain ⟨F0, v1, self1, v2, rows1, v3, state1, E_BadMask, R, rfl, wf, r1, r2, r3, hW, hE_BadMask, hQ⟩ := h
    have nd := sc_Machine_walk.nd
    refine ⟨(tSeq (tDrop (tMdS cc.Machine "need" (sp_Machine_need K cc) (WE (fun cls d _ H => E cls d H)) (tVar 0) (tCons (tVar 2) (tCons (tMeth cc.Machine "stores" (sp_Machine_stores K cc) [] E0 (tVar 0) tNil) tNil)))) (tSeq (tFor (iList K (tVar 1)) (gName 3) (tDrop (tMdS cc.Machine "need" (sp_Machine_need K cc) (WE (fun cls d _ H => E cls d H)) (tVar 0) (tCons (tVar 3) (tCons (tFld K (tVar 0) "inputs") tNil))))) (tSeq (tAsg (tLst tNil) (gName 4)) (tSeq (tFor (iList K (tVar 1)) (gName 3) (tSeq (tAsg (tMdS cc.Machine "step" (sp_Machine_step K cc) (WE (fun cls d _ H => E cls d H)) (tVar 0) (tCons (tVar 2) (tCons (tVar 3) tNil))) (gTup K 2 (gCons (gName 5) (gCons (gName 2) gNil)))) (tDrop (tBM K "list" rAppend (tVar 4) (tCons (tVar 5) tNil))))) (tRet (tTup (tCons (tVar 4) (tCons (tVar 2) tNil)))))))), (pss_cons (ps_expr (pe_mdS (W := (fun cls d _ H => E cls d H)) c_Machine_need (takes_of rfl rfl rfl rfl) T.cl_Machine (hr.mono (by decide)) (pv 0) (pa_cons (pv 2) (pa_cons (pe_md0 c_Machine_stores T.cl_Machine (hr.mono (by decide)) (pv 0)) pa_nil)))) (pss_cons (ps_for (passes_of rfl) rfl (pi_list (pv 1)) (pg_name (i := 3) nd rfl (Or.inl rfl)) (pss_one (ps_expr (pe_mdS (W := (fun cls d _ H => E cls d H)) c_Machine_need (takes_of rfl rfl rfl rfl) T.cl_Machine (hr.mono (by decide)) (pv 0) (pa_cons (pv 3) (pa_cons (pe_fld (pv 0) rfl) pa_nil)))))) (pss_cons (ps_set (i := 4) nd rfl (Or.inl rfl) (pe_lst pa_nil)) (pss_cons (ps_for (passes_of rfl) rfl (pi_list (pv 1)) (pg_name (i := 3) nd rfl (Or.inl rfl)) (pss_cons (ps_asg (pe_mdS (W := (fun cls d _ H => E cls d H)) c_Machine_step (takes_of rfl rfl rfl rfl) T.cl_Machine (hr.mono (by decide)) (pv 0) (pa_cons (pv 2) (pa_cons (pv 3) pa_nil))) (pg_tup rfl (pgs_cons (pg_name (i := 5) nd rfl (Or.inl rfl)) (pgs_cons (pg_name (i := 2) nd rfl (Or.inl rfl)) pgs_nil)) (by rfl))) (pss_one (ps_expr (pe_bm PySem.F.plainAttrs_list PySem.F.slot_list_append PySem.F.type_list_append mt_append (pv 4) (pa_cons (pv 5) pa_nil)))))) (pss_one (ps_ret (pe_tup (pa_cons (pv 4) (pa_cons (pv 2) pa_nil))))))))), ?_⟩
    have w := Wf.id wf
    refine q_sq fun N1 hN1 => ?_
    refine a_dropE ?_
    refine e_mdS ?_
    refine e_val (v := v1) (val_var rfl) ?_
    obtain ⟨p1, dx1, fs1, ev1, ho1, lm1⟩ := me_3 (m := "need") r1 w.f
    refine ⟨_, _, _, ev1, ho1, lm1, ?_⟩
    refine a_val (v := v3) (val_var rfl) ?_
    refine a_cons ?_
    refine e_md ?_
    refine e_val (v := v1) (val_var rfl) ?_
    obtain ⟨p2, dx2, fs2, ev2, ho2, lm2⟩ := me_3 (m := "stores") r1 w.f
    refine ⟨_, _, _, ev2, ho2, lm2, ?_⟩
    refine a_nil ?_
    refine ⟨F0, (v1), (self1), _, rfl, w.f, r1, hW, ?_⟩
    intro z1 hW F1 H1 s1
    replace r1 := Rep.mono _ s1.g r1
    replace r2 := Rep.mono _ s1.g r2
    replace r3 := Rep.mono _ s1.g r3
    replace w := w.tr s1
    refine a_nil ?_
    refine ⟨F1, (v1), (self1), (v3), (state1), (z1), _, _, rfl, w.f, r1, r3, hW, ?_, ?_⟩
    · intro hW F2 H2 s2
      replace r1 := Rep.mono _ s2.g r1
      replace r2 := Rep.mono _ s2.g r2
      replace r3 := Rep.mono _ s2.g r3
      replace w := w.tr s2
      exact hE_BadMask hW _ _ w
    intro z2 hW F3 H3 s3
    replace r1 := Rep.mono _ s3.g r1
    replace r2 := Rep.mono _ s3.g r2
    replace r3 := Rep.mono _ s3.g r3
    replace w := w.tr s3
    refine hN1 _ _ ?_
    refine q_sq fun N2 hN2 => ?_
    refine f_LE ?_
    refine e_val (v := v2) (val_var rfl) ?_
    refine w_forL (S := Unit) (fun _ σ' F' H' => ∃ (o1 : Option V), Wf F0 H0 F' H' ∧ Ex F3 F' ∧ σ' = [some v1, some v2, some v3, o1, none, none]) r2 hW ⟨_, w, Ex.rfl', rfl⟩ (fun s σ' F' H' hI => by obtain ⟨_, w', gx', _⟩ := hI; exact ⟨gx', w'.f⟩) w.f ?_ ?_
    · intro N3 Bk1 row1 u1 s4 σ' F4 H4 nx1 bk1 hI1 hx1 ru1 hW hN3 hB1
      obtain ⟨o1, w, gx1, rfl⟩ := hI1
      have r1 := Rep.mono _ gx1 r1
      have r2 := Rep.mono _ gx1 r2
      have r3 := Rep.mono _ gx1 r3
      refine g_name ?_
      refine a_dropE ?_
      refine e_mdS ?_
      refine e_val (v := v1) (val_var rfl) ?_
      obtain ⟨p3, dx3, fs3, ev3, ho3, lm3⟩ := me_3 (m := "need") r1 w.f
      refine ⟨_, _, _, ev3, ho3, lm3, ?_⟩
      refine a_val (v := u1) (val_var rfl) ?_
      obtain ⟨_, rfl, fl1⟩ := fl_31 (K := K) T.cl_Machine T.na_Machine_inputs r1 w.f
      refine a_val (v := (.int ((self1.1 : Nat) : Int))) (fl1 (val_var rfl)) ?_
      refine a_nil ?_
      refine ⟨F4, (v1), (self1), (u1), (row1), (self1.1), _, _, rfl, w.f, r1, ru1, hW, ?_, ?_⟩
      · intro hW F5 H5 s5
        replace r1 := Rep.mono _ s5.g r1
        replace r2 := Rep.mono _ s5.g r2
        replace r3 := Rep.mono _ s5.g r3
        replace ru1 := Rep.mono _ s5.g ru1
        replace w := w.tr s5
        replace gx1 := Ex.tr gx1 s5.g
        exact hE_BadMask hW _ _ w
      intro z3 hW F6 H6 s6
      replace r1 := Rep.mono _ s6.g r1
      replace r2 := Rep.mono _ s6.g r2
      replace r3 := Rep.mono _ s6.g r3
      replace ru1 := Rep.mono _ s6.g ru1
      replace w := w.tr s6
      replace gx1 := Ex.tr gx1 s6.g
      exact hN3 () _ _ _ ⟨_, w, gx1, rfl⟩ hW
    · intro s7 σ' F7 H7 hI2 hW
      obtain ⟨o1, w, gx2, rfl⟩ := hI2
      have r1 := Rep.mono _ gx2 r1
      have r2 := Rep.mono _ gx2 r2
      have r3 := Rep.mono _ gx2 r3
      refine hN2 _ _ ?_
      refine q_sq fun N4 hN4 => ?_
      refine a_asgE ?_
      refine e_lst ?_
      refine a_nil ?_
      refine n_lstX (e := pN) (xs := []) (vs := []) (show All pN _ [] [] from trivial) (show 0 < 1000000 from by decide) w ?_
      intro p4 H8 hp1 s8 x1
      replace r1 := Rep.mono _ s8.g r1
      replace r2 := Rep.mono _ s8.g r2
      replace r3 := Rep.mono _ s8.g r3
      replace w := w.tr s8
      replace gx2 := Ex.tr gx2 s8.g
      refine hN4 _ _ ?_
      refine q_sq fun N5 hN5 => ?_
      obtain ⟨y1, hy1, hW⟩ := hW
      obtain rfl : v3 = .int ((y1 : Nat) : Int) := an_i r3 hy1
      refine f_LE ?_
      refine e_val (v := v2) (val_var rfl) ?_
      refine w_forL (S := Nat × List Nat) (fun s σ' F' H' => match s with | (state2, answers1) => ∃ (o2 : Option V) (o3 : Option V), Wf F0 H0 F' H' ∧ Ex F7 F' ∧ σ' = [some v1, some v2, some (.int ((state2 : Nat) : Int)), o2, some ((.ref p4)), o3] ∧ XL pN H0 F' H' p4 answers1) r2 hW ⟨_, _, w, Ex.rfl', rfl, x1⟩ (fun s σ' F' H' hI => by obtain ⟨state2, answers1⟩ := s; obtain ⟨_, _, w', gx', _⟩ := hI; exact ⟨gx', w'.f⟩) w.f ?_ ?_
      · intro N6 Bk2 row2 u2 s9 σ' F8 H9 nx2 bk2 hI3 hx2 ru2 hW hN6 hB2
        obtain ⟨state2, answers1⟩ := s9
        obtain ⟨o2, o3, w, gx3, rfl, x2⟩ := hI3
        have r1 := Rep.mono _ gx3 r1
        have r2 := Rep.mono _ gx3 r2
        have gx2 := Ex.tr gx2 gx3
        refine g_name ?_
        refine q_sq fun N7 hN7 => ?_
        refine a_asgG ?_
        refine e_mdS ?_
        refine e_val (v := v1) (val_var rfl) ?_
        obtain ⟨p5, dx4, fs4, ev4, ho4, lm4⟩ := me_3 (m := "step") r1 w.f
        refine ⟨_, _, _, ev4, ho4, lm4, ?_⟩
        refine a_val (v := (.int ((state2 : Nat) : Int))) (val_var rfl) ?_
        refine a_val (v := u2) (val_var rfl) ?_
        refine a_nil ?_
        refine ⟨F8, (v1), (self1), ((.int ((state2 : Nat) : Int))), ((An.i ((state2 : Nat) : Int))), (u2), (row2), _, _, rfl, w.f, r1, (show pA.r _ (.int ((state2 : Nat) : Int)) (An.i ((state2 : Nat) : Int)) from rfl), ru2, hW, ?_, ?_⟩
        · intro hW F9 H10 s10
          replace r1 := Rep.mono _ s10.g r1
          replace r2 := Rep.mono _ s10.g r2
          replace x2 := x2.step s10
          replace ru2 := Rep.mono _ s10.g ru2
          replace w := w.tr s10
          replace gx3 := Ex.tr gx3 s10.g
          replace gx2 := Ex.tr gx2 s10.g
          exact hE_BadMask hW _ _ w
        intro z4 hW v5 F10 H11 s11 r5
        replace r1 := Rep.mono _ s11.g r1
        replace r2 := Rep.mono _ s11.g r2
        replace x2 := x2.step s11
        replace ru2 := Rep.mono _ s11.g ru2
        replace w := w.tr s11
        replace gx3 := Ex.tr gx3 s11.g
        replace gx2 := Ex.tr gx2 s11.g
        obtain ⟨p6, u3, u4, rfl, h1, rfl, rfl⟩ := r5
        refine ⟨p6, _, rfl, SqT.of (w.f _ _ h1), rfl, _, _, rfl, _, _, rfl, rfl, ?_⟩
        refine hN7 _ _ ?_
        refine a_dropE ?_
        refine m_list x2 (val_var rfl) ?_
        refine a_val (v := (.int ((z4.1 : Nat) : Int))) (val_var rfl) ?_
        refine a_nil ?_
        obtain ⟨c1, hW⟩ := hW
        refine a_app x2 w c1 rfl (fun H12 w1 x3 kp1 => ?_)
        replace w := w1
        exact hN6 (z4.2, answers1 ++ [z4.1]) _ _ _ ⟨_, _, w, gx3, rfl, x3⟩ hW
      · intro s12 σ' F11 H13 hI4 hW
        obtain ⟨state2, answers1⟩ := s12
        obtain ⟨o2, o3, w, gx4, rfl, x2⟩ := hI4
        have r1 := Rep.mono _ gx4 r1
        have r2 := Rep.mono _ gx4 r2
        have gx2 := Ex.tr gx2 gx4
        refine hN5 _ _ ?_
        refine a_retE ?_
        refine e_tup ?_
        refine a_val (v := (.ref p4)) (val_var rfl) ?_
        refine a_val (v := (.int ((state2 : Nat) : Int))) (val_var rfl) ?_
        refine a_nil ?_
        refine n_tup2 (e := pV) (f := pN) (x := V.ref p4) (y := state2) rfl rfl w ?_
        intro p7 F12 H14 s13 r6
        replace r1 := Rep.mono _ s13.g r1
        replace r2 := Rep.mono _ s13.g r2
        replace x2 := x2.step s13
        replace w := w.tr s13
        replace gx4 := Ex.tr gx4 s13.g
        replace gx2 := Ex.tr gx2 s13.g
        exact hQ (answers1, state2) hW _ _ _ _ w r6 x2
abbrev s_Machine_after : Stmt := inClass (topS 32) 8
def W_Machine_after (self1 : Nat × List (Nat × Nat) × List (Nat × Nat)) (rows1 : List An) (state1 : An) (E_BadMask : Prop) (R : Nat → Prop) : Prop := W_Machine_walk self1 rows1 state1 (E_BadMask) fun z1 => R z1.2
def sp_Machine_after (K : PySem.W.Frag) (cc : Cz) : Sp := fun vs H Q E => ∃ (F : Hp) (v1 : V) (self1 : Nat × List (Nat × Nat) × List (Nat × Nat)) (v2 : V) (rows1 : List An) (v3 : V) (state1 : An) (E_BadMask : Prop) (R : Nat → Prop), vs = [v1, v2, v3] ∧ Ex F H ∧ (pO3 cc.Machine "inputs" "nexts" "outs" pN (pTL (pT2 pN pN)) (pTL (pT2 pN pN))).r F v1 self1 ∧ (pL pA).r F v2 rows1 ∧ pA.r F v3 state1 ∧ W_Machine_after self1 rows1 state1 E_BadMask R ∧ (E_BadMask → ∀ F' H', Wf F H F' H' → E (.ref cc.BadMask) none H') ∧ ∀ z, R z → ∀ F' H', Wf F H F' H' → Q (.int ((z : Nat) : Int)) H'
abbrev N_Machine_after : List Str := ["self", "rows", "state"]
theorem sc_Machine_after : FnScope N_Machine_after ["self", "rows", "state"] (defScope s_Machine_after) := ⟨rfl, rfl, rfl, by decide +kernel, rfl, by decide +kernel, by decide +kernel⟩
theorem ok_Machine_after {P : Program} {w0 : World} {K : PySem.W.Frag} {mg : Str → Option Value} {base : Heap} {f : Addr} {fd : FuncData} {cc : Cz} (T : Tz K mg cc) (FU : FunD K "after" "Machine.after" (defArgs s_Machine_after) (defBody s_Machine_after) (defScope s_Machine_after) [.int 0] [] f fd) (hm : Meth K cc.Machine "after" f) (hb : Binds K fd ["self", "rows", "state"] []) (hb2 : ∃ ds, Vals [.int 0] ds ∧ Binds K fd ["self", "rows", "state"] ds) (c_Machine_walk : Md P w0 K mg base (L2.CX P w0) 5 cc.Machine "walk" ["self", "rows", "state"] (sp_Machine_walk K cc)) : MdD P w0 K mg base (L2.CX P w0) 6 cc.Machine "after" ["self", "rows", "state"] (sp_Machine_after K cc) [.int 0] := by
  refine ⟨f, fd, FU.ok sc_Machine_after (fun vs H Q E h => ?_) (fun cdv A outer s H0 vs Q E hr h => ?_), hm, hb, hb2⟩
  · obtain ⟨_, _, _, _, _, _, _, _, _, rfl, _⟩ := h; rfl
  · obtain ⟨F0, v1, self1, v2, rows1, v3, state1, E_BadMask, R, rfl, wf, r1, r2, r3, hW, hE_BadMask, hQ⟩ := h
    have nd := sc_Machine_after.nd
    refine ⟨(tRet (tOp (L2.rIxT K) (tMdS cc.Machine "walk" (sp_Machine_walk K cc) (WE (fun cls d _ H => E cls d H)) (tVar 0) (tCons (tVar 1) (tCons (tVar 2) tNil))) (tC (.int 1)))), (pss_one (ps_ret (pe_ix ix_tup (pe_mdS (W := (fun cls d _ H => E cls d H)) c_Machine_walk (takes_of rfl rfl rfl rfl) T.cl_Machine (hr.mono (by decide)) (pv 0) (pa_cons (pv 1) (pa_cons (pv 2) pa_nil))) pe_int (fun _ _ => rfl)))), ?_⟩
    have w := Wf.id wf
    refine a_retE ?_
    refine e_op ?_
    refine e_mdS ?_
    refine e_val (v := v1) (val_var rfl) ?_
    obtain ⟨p1, dx1, fs1, ev1, ho1, lm1⟩ := me_3 (m := "walk") r1 w.f
    refine ⟨_, _, _, ev1, ho1, lm1, ?_⟩
    refine a_val (v := v2) (val_var rfl) ?_
    refine a_val (v := v3) (val_var rfl) ?_
    refine a_nil ?_
    refine ⟨F0, (v1), (self1), (v2), (rows1), (v3), (state1), _, _, rfl, w.f, r1, r2, r3, hW, ?_, ?_⟩
    · intro hW F1 H1 s1
      replace r1 := Rep.mono _ s1.g r1
      replace r2 := Rep.mono _ s1.g r2
      replace r3 := Rep.mono _ s1.g r3
      replace w := w.tr s1
      exact hE_BadMask hW _ _ w
    intro z1 hW l1 v4 F2 H2 s2 r4 x1
    replace x1 := x1.base w
    replace r1 := Rep.mono _ s2.g r1
    replace r2 := Rep.mono _ s2.g r2
    replace r3 := Rep.mono _ s2.g r3
    replace w := w.tr s2
    refine e_val (v := (.int ((1 : Nat) : Int))) val_c ?_
    obtain ⟨_, rfl, ix1⟩ := ix_2b (K := K) r4 w.f
    refine rv2 (z := (.int ((z1.2 : Nat) : Int))) (ix1 val_c val_c) ?_
    exact hQ _ hW _ _ w
abbrev s_Machine_back : Stmt := inClass (topS 32) 10
def W_Machine_back (self1 : Nat × List (Nat × Nat) × List (Nat × Nat)) (mask1 : An) (E_BadMask : Prop) (R : (Nat × Nat) → Prop) : Prop := W_Machine_stores self1 fun z1 => W_Machine_need self1 mask1 z1 (E_BadMask) fun z2 => ∃ y1 : Nat, mask1 = An.i ((y1 : Nat) : Int) ∧ W_bits_of y1 fun z3 => forW z3 (0, 0) (fun place1 (stores1, inputs1) nx1 bk1 => ∃ x2, self1.2.1[place1]? = some x2 ∧ ∃ x3, self1.2.1[place1]? = some x3 ∧ ∀ stores2 : Nat, stores2 = stores1 ^^^ x3.1 → ∃ x4, self1.2.1[place1]? = some x4 ∧ ∃ x5, self1.2.1[place1]? = some x5 ∧ ∀ inputs2 : Nat, inputs2 = inputs1 ^^^ x5.2 → nx1 (stores2, inputs2)) fun (stores1, inputs1) => R (stores1, inputs1)
def sp_Machine_back (K : PySem.W.Frag) (cc : Cz) : Sp := fun vs H Q E => ∃ (F : Hp) (v1 : V) (self1 : Nat × List (Nat × Nat) × List (Nat × Nat)) (v2 : V) (mask1 : An) (E_BadMask : Prop) (R : (Nat × Nat) → Prop), vs = [v1, v2] ∧ Ex F H ∧ (pO3 cc.Machine "inputs" "nexts" "outs" pN (pTL (pT2 pN pN)) (pTL (pT2 pN pN))).r F v1 self1 ∧ pA.r F v2 mask1 ∧ W_Machine_back self1 mask1 E_BadMask R ∧ (E_BadMask → ∀ F' H', Wf F H F' H' → E (.ref cc.BadMask) none H') ∧ ∀ z, R z → ∀ v F' H', Wf F H F' H' → (pT2 pN pN).r F' v z → Q v H'
abbrev N_Machine_back : List Str := ["self", "mask", "stores", "inputs", "place"]
theorem sc_Machine_back : FnScope N_Machine_back ["self", "mask"] (defScope s_Machine_back) := ⟨rfl, rfl, rfl, by decide +kernel, rfl, by decide +kernel, by decide +kernel⟩
theorem ok_Machine_back {P : Program} {w0 : World} {K : PySem.W.Frag} {mg : Str → Option Value} {base : Heap} {f : Addr} {fd : FuncData} {cc : Cz} (T : Tz K mg cc) (FU : Fun K "back" "Machine.back" s_Machine_back f fd) (hm : Meth K cc.Machine "back" f) (hb : Binds K fd ["self", "mask"] []) (c_Machine_stores : Md P w0 K mg base CX0 1 cc.Machine "stores" ["self"] (sp_Machine_stores K cc)) (c_Machine_need : Md P w0 K mg base (L2.CX P w0) 3 cc.Machine "need" ["self", "thing", "width"] (sp_Machine_need K cc)) (c_bits_of : Fn P w0 K mg base CX0 1 "bits_of" ["mask"] (sp_bits_of K cc)) : Md P w0 K mg base (L2.CX P w0) 4 cc.Machine "back" ["self", "mask"] (sp_Machine_back K cc) := by
  refine ⟨f, fd, FU.okX sc_Machine_back (fun vs H Q E h => ?_) (fun cdv A outer s H0 vs Q E hr h => ?_), hm, hb⟩
  · obtain ⟨_, _, _, _, _, _, _, rfl, _⟩ := h; rfl
  · obtain ⟨F0, v1, self1, v2, mask1, E_BadMask, R, rfl, wf, r1, r2, hW, hE_BadMask, hQ⟩ := h
    have nd := sc_Machine_back.nd
    refine ⟨(tSeq (tDrop (tMdS cc.Machine "need" (sp_Machine_need K cc) (WE (fun cls d _ H => E cls d H)) (tVar 0) (tCons (tVar 1) (tCons (tMeth cc.Machine "stores" (sp_Machine_stores K cc) [] E0 (tVar 0) tNil) tNil)))) (tSeq (tAsg (tC (.int 0)) (gName 2)) (tSeq (tAsg (tC (.int 0)) (gName 3)) (tSeq (tFor (iList K (tCall (sp_bits_of K cc) [] E0 (tCons (tVar 1) tNil))) (gName 4) (tSeq (tAsg (tOp kXor (tVar 2) (tOp (L2.rIxT K) (tOp (L2.rIxT K) (tFld K (tVar 0) "nexts") (tVar 4)) (tC (.int 0)))) (gName 2)) (tAsg (tOp kXor (tVar 3) (tOp (L2.rIxT K) (tOp (L2.rIxT K) (tFld K (tVar 0) "nexts") (tVar 4)) (tC (.int 1)))) (gName 3)))) (tRet (tTup (tCons (tVar 2) (tCons (tVar 3) tNil)))))))), (pss_cons (ps_expr (pe_mdS (W := (fun cls d _ H => E cls d H)) c_Machine_need (takes_of rfl rfl rfl rfl) T.cl_Machine (hr.mono (by decide)) (pv 0) (pa_cons (pv 1) (pa_cons (pe_md0 c_Machine_stores T.cl_Machine (hr.mono (by decide)) (pv 0)) pa_nil)))) (pss_cons (ps_set (i := 2) nd rfl (Or.inl rfl) pe_int) (pss_cons (ps_set (i := 3) nd rfl (Or.inl rfl) pe_int) (pss_cons (ps_for (passes_of rfl) rfl (pi_list (pe_fn c_bits_of (hr.mono (by decide)) rfl (pa_cons (pv 1) pa_nil))) (pg_name (i := 4) nd rfl (Or.inl rfl)) (pss_cons (ps_set (i := 2) nd rfl (Or.inl rfl) (pe_op op_xor (pv 2) (pe_ix ix_tup (pe_ix ix_tup (pe_fld (pv 0) rfl) (pv 4) (fun _ _ => rfl)) pe_int (fun _ _ => rfl)))) (pss_one (ps_set (i := 3) nd rfl (Or.inl rfl) (pe_op op_xor (pv 3) (pe_ix ix_tup (pe_ix ix_tup (pe_fld (pv 0) rfl) (pv 4) (fun _ _ => rfl)) pe_int (fun _ _ => rfl))))))) (pss_one (ps_ret (pe_tup (pa_cons (pv 2) (pa_cons (pv 3) pa_nil))))))))), ?_⟩
    have w := Wf.id wf
    refine q_sq fun N1 hN1 => ?_
    refine a_dropE ?_
    refine e_mdS ?_
    refine e_val (v := v1) (val_var rfl) ?_
    obtain ⟨p1, dx1, fs1, ev1, ho1, lm1⟩ := me_3 (m := "need") r1 w.f
    refine ⟨_, _, _, ev1, ho1, lm1, ?_⟩
    refine a_val (v := v2) (val_var rfl) ?_
    refine a_cons ?_
    refine e_md ?_
    refine e_val (v := v1) (val_var rfl) ?_
    obtain ⟨p2, dx2, fs2, ev2, ho2, lm2⟩ := me_3 (m := "stores") r1 w.f
    refine ⟨_, _, _, ev2, ho2, lm2, ?_⟩
    refine a_nil ?_
    refine ⟨F0, (v1), (self1), _, rfl, w.f, r1, hW, ?_⟩
    intro z1 hW F1 H1 s1
    replace r1 := Rep.mono _ s1.g r1
    replace r2 := Rep.mono _ s1.g r2
    replace w := w.tr s1
    refine a_nil ?_
    refine ⟨F1, (v1), (self1), (v2), (mask1), (z1), _, _, rfl, w.f, r1, r2, hW, ?_, ?_⟩
    · intro hW F2 H2 s2
      replace r1 := Rep.mono _ s2.g r1
      replace r2 := Rep.mono _ s2.g r2
      replace w := w.tr s2
      exact hE_BadMask hW _ _ w
    intro z2 hW F3 H3 s3
    replace r1 := Rep.mono _ s3.g r1
    replace r2 := Rep.mono _ s3.g r2
    replace w := w.tr s3
    refine hN1 _ _ ?_
    refine q_sq fun N2 hN2 => ?_
    refine a_asg (v := (.int ((0 : Nat) : Int))) val_c ?_
    refine hN2 _ _ ?_
    refine q_sq fun N3 hN3 => ?_
    refine a_asg (v := (.int ((0 : Nat) : Int))) val_c ?_
    refine hN3 _ _ ?_
    refine q_sq fun N4 hN4 => ?_
    refine f_LE ?_
    refine e_call ?_
    obtain ⟨y1, hy1, hW⟩ := hW
    have hv1 := an_i r2 hy1
    refine a_val (v := (.int ((y1 : Nat) : Int))) (v_eq (val_var rfl) hv1) ?_
    refine a_nil ?_
    refine ⟨F3, (y1), _, rfl, w.f, hW, ?_⟩
    intro z3 hW p3 F4 H4 s4 x1
    replace x1 := x1.base w
    replace r1 := Rep.mono _ s4.g r1
    replace r2 := Rep.mono _ s4.g r2
    replace w := w.tr s4
    obtain ⟨F5, w1, g1, r3, fz1⟩ := x1.frzE w
    replace r1 := Rep.mono _ g1 r1
    replace r2 := Rep.mono _ g1 r2
    replace w := w1
    refine w_forL (S := Nat × Nat) (fun s σ' F' H' => match s with | (stores1, inputs1) => ∃ (o1 : Option V), Wf F0 H0 F' H' ∧ Ex F5 F' ∧ σ' = [some v1, some v2, some (.int ((stores1 : Nat) : Int)), some (.int ((inputs1 : Nat) : Int)), o1]) r3 hW ⟨_, w, Ex.rfl', rfl⟩ (fun s σ' F' H' hI => by obtain ⟨stores1, inputs1⟩ := s; obtain ⟨_, w', gx', _⟩ := hI; exact ⟨gx', w'.f⟩) w.f ?_ ?_
    · intro N5 Bk1 place1 u1 s5 σ' F6 H5 nx1 bk1 hI1 hx1 ru1 hW hN5 hB1
      obtain ⟨stores1, inputs1⟩ := s5
      obtain ⟨o1, w, gx1, rfl⟩ := hI1
      have r1 := Rep.mono _ gx1 r1
      have r2 := Rep.mono _ gx1 r2
      have r3 := Rep.mono _ gx1 r3
      obtain rfl : u1 = (.int ((place1 : Nat) : Int)) := ru1
      refine g_name ?_
      refine q_sq fun N6 hN6 => ?_
      obtain ⟨v3, r4, fl1⟩ := fl_32 (K := K) T.cl_Machine T.na_Machine_nexts r1 w.f
      obtain ⟨v4, r5, fl2⟩ := fl_32 (K := K) T.cl_Machine T.na_Machine_nexts r1 w.f
      obtain ⟨x2, hx2_1, hW⟩ := hW
      obtain ⟨v5, r6, ix1⟩ := ix_TL (K := K) r5 w.f hx2_1
      obtain ⟨v6, r7, fl3⟩ := fl_32 (K := K) T.cl_Machine T.na_Machine_nexts r1 w.f
      obtain ⟨v7, r8, fl4⟩ := fl_32 (K := K) T.cl_Machine T.na_Machine_nexts r1 w.f
      obtain ⟨x3, hx3_1, hW⟩ := hW
      obtain ⟨v8, r9, ix2⟩ := ix_TL (K := K) r8 w.f hx3_1
      obtain ⟨_, rfl, ix3⟩ := ix_2a (K := K) r9 w.f
      obtain ⟨stores2, estores1⟩ : ∃ stores2 : Nat, stores2 = stores1 ^^^ x3.1 := ⟨_, rfl⟩
      replace hW := hW stores2 estores1
      refine a_asg (v := (.int ((stores2 : Nat) : Int))) (v_eq (vn_xor (val_var rfl) (ix3 (ix2 (fl4 (val_var rfl)) (val_var rfl)) val_c)) (by rw [estores1])) ?_
      refine hN6 _ _ ?_
      obtain ⟨v10, r11, fl5⟩ := fl_32 (K := K) T.cl_Machine T.na_Machine_nexts r1 w.f
      obtain ⟨v11, r12, fl6⟩ := fl_32 (K := K) T.cl_Machine T.na_Machine_nexts r1 w.f
      obtain ⟨x4, hx4_1, hW⟩ := hW
      obtain ⟨v12, r13, ix4⟩ := ix_TL (K := K) r12 w.f hx4_1
      obtain ⟨v13, r14, fl7⟩ := fl_32 (K := K) T.cl_Machine T.na_Machine_nexts r1 w.f
      obtain ⟨v14, r15, fl8⟩ := fl_32 (K := K) T.cl_Machine T.na_Machine_nexts r1 w.f
      obtain ⟨x5, hx5_1, hW⟩ := hW
      obtain ⟨v15, r16, ix5⟩ := ix_TL (K := K) r15 w.f hx5_1
      obtain ⟨_, rfl, ix6⟩ := ix_2b (K := K) r16 w.f
      obtain ⟨inputs2, einputs1⟩ : ∃ inputs2 : Nat, inputs2 = inputs1 ^^^ x5.2 := ⟨_, rfl⟩
      replace hW := hW inputs2 einputs1
      refine a_asg (v := (.int ((inputs2 : Nat) : Int))) (v_eq (vn_xor (val_var rfl) (ix6 (ix5 (fl8 (val_var rfl)) (val_var rfl)) val_c)) (by rw [einputs1])) ?_
      exact hN5 (stores2, inputs2) _ _ _ ⟨_, w, gx1, rfl⟩ hW
    · intro s6 σ' F7 H6 hI2 hW
      obtain ⟨stores1, inputs1⟩ := s6
      obtain ⟨o1, w, gx2, rfl⟩ := hI2
      have r1 := Rep.mono _ gx2 r1
      have r2 := Rep.mono _ gx2 r2
      have r3 := Rep.mono _ gx2 r3
      refine hN4 _ _ ?_
      refine a_retE ?_
      refine e_tup ?_
      refine a_val (v := (.int ((stores1 : Nat) : Int))) (val_var rfl) ?_
      refine a_val (v := (.int ((inputs1 : Nat) : Int))) (val_var rfl) ?_
      refine a_nil ?_
      refine n_tup2 (e := pN) (f := pN) (x := stores1) (y := inputs1) rfl rfl w ?_
      intro p4 F8 H7 s7 r18
      replace r1 := Rep.mono _ s7.g r1
      replace r2 := Rep.mono _ s7.g r2
      replace w := w.tr s7
      replace gx2 := Ex.tr gx2 s7.g
      exact hQ _ hW _ _ _ w r18
abbrev s_need_state : Stmt := topS 16
def W_need_state (machine1 : Nat × List (Nat × Nat) × List (Nat × Nat)) (state1 : An) (E_BadMask : Prop) (R : Unit → Prop) : Prop := W_Machine_stores machine1 fun z1 => W_is_mask state1 z1 fun z2 => if z2 = true then (R ()) else (E_BadMask)
def sp_need_state (K : PySem.W.Frag) (cc : Cz) : Sp := fun vs H Q E => ∃ (F : Hp) (v1 : V) (machine1 : Nat × List (Nat × Nat) × List (Nat × Nat)) (v2 : V) (state1 : An) (E_BadMask : Prop) (R : Unit → Prop), vs = [v1, v2] ∧ Ex F H ∧ (pO3 cc.Machine "inputs" "nexts" "outs" pN (pTL (pT2 pN pN)) (pTL (pT2 pN pN))).r F v1 machine1 ∧ pA.r F v2 state1 ∧ W_need_state machine1 state1 E_BadMask R ∧ (E_BadMask → ∀ F' H', Wf F H F' H' → E (.ref cc.BadMask) none H') ∧ ∀ z, R z → ∀ F' H', Wf F H F' H' → Q .non H'
abbrev N_need_state : List Str := ["machine", "state"]
theorem sc_need_state : FnScope N_need_state ["machine", "state"] (defScope s_need_state) := ⟨rfl, rfl, rfl, by decide +kernel, rfl, by decide +kernel, by decide +kernel⟩
theorem ok_need_state {P : Program} {w0 : World} {K : PySem.W.Frag} {mg : Str → Option Value} {base : Heap} {f : Addr} {fd : FuncData} {cc : Cz} (T : Tz K mg cc) (FU : Fun K "need_state" "need_state" s_need_state f fd) (hm : mg "need_state" = some (.ref f)) (hb : Binds K fd ["machine", "state"] []) (c_Machine_stores : Md P w0 K mg base CX0 1 cc.Machine "stores" ["self"] (sp_Machine_stores K cc)) (c_is_mask : Fn P w0 K mg base CX0 2 "is_mask" ["thing", "width"] (sp_is_mask K cc)) : Fn P w0 K mg base (L2.CX P w0) 3 "need_state" ["machine", "state"] (sp_need_state K cc) := by
  refine ⟨f, fd, FU.okX sc_need_state (fun vs H Q E h => ?_) (fun cdv A outer s H0 vs Q E hr h => ?_), hm, FU.kp, hb⟩
  · obtain ⟨_, _, _, _, _, _, _, rfl, _⟩ := h; rfl
  · obtain ⟨F0, v1, machine1, v2, state1, E_BadMask, R, rfl, wf, r1, r2, hW, hE_BadMask, hQ⟩ := h
    have nd := sc_need_state.nd
    refine ⟨(tIfS (tNot (tB (tCall (sp_is_mask K cc) [] E0 (tCons (tVar 1) (tCons (tMeth cc.Machine "stores" (sp_Machine_stores K cc) [] E0 (tVar 0) tNil) tNil))))) (tRaise (fun cls d _ H => E cls d H) cc.BadMask) tNext), (pss_one (ps_if (pt_not (pt_val (pe_fn c_is_mask (hr.mono (by decide)) rfl (pa_cons (pv 1) (pa_cons (pe_md0 c_Machine_stores T.cl_Machine (hr.mono (by decide)) (pv 0)) pa_nil))))) (pss_one (ps_raise (W := (fun cls d _ H => E cls d H)) rfl (takes_of rfl rfl rfl rfl) (pmk_own PySem.F.excBase_ValueError T.xc_BadMask.x T.xc_BadMask.g T.xc_BadMask.k (raises_own T.xc_BadMask.b T.xc_BadMask.t) (by exact rfl)))) pss_nil)), ?_⟩
    have w := Wf.id wf
    refine a_ifE ?_
    refine e_tNot ?_
    refine e_tB ?_
    refine e_call ?_
    refine a_val (v := v2) (val_var rfl) ?_
    refine a_cons ?_
    refine e_md ?_
    refine e_val (v := v1) (val_var rfl) ?_
    obtain ⟨p1, dx1, fs1, ev1, ho1, lm1⟩ := me_3 (m := "stores") r1 w.f
    refine ⟨_, _, _, ev1, ho1, lm1, ?_⟩
    refine a_nil ?_
    refine ⟨F0, (v1), (machine1), _, rfl, w.f, r1, hW, ?_⟩
    intro z1 hW F1 H1 s1
    replace r1 := Rep.mono _ s1.g r1
    replace r2 := Rep.mono _ s1.g r2
    replace w := w.tr s1
    refine a_nil ?_
    refine ⟨F1, (v2), (state1), (z1), _, rfl, w.f, r2, hW, ?_⟩
    intro z2 hW F2 H2 s2
    replace r1 := Rep.mono _ s2.g r1
    replace r2 := Rep.mono _ s2.g r2
    replace w := w.tr s2
    refine bl_v ?_
    refine bb_ifn (fun hc1 => ?_) (fun hc1 => ?_)
    · have hW := ifP hW hc1
      exact hQ _ hW _ _ w
    · have hW := ifN hW hc1
      refine a_raise ?_
      exact hE_BadMask hW _ _ w
abbrev s_reached_by : Stmt := topS 17
def W_reached_by (machine1 : Nat × List (Nat × Nat) × List (Nat × Nat)) (turns1 : Nat) (E_BadMask : Prop) (R : (List Nat) → Prop) : Prop := (machine1.1 < 1000000) ∧ compW (List.range machine1.1) (fun which1 kk => (which1 < 100000000) ∧ W_Machine_after machine1 [(An.i ((2 ^ which1 : Nat) : Int))] (An.i ((0 : Nat) : Int)) False fun z1 => kk (some z1)) fun ys1 => (turns1 < 1000000) ∧ forW (List.range turns1) (([] : List Nat), ys1) (fun turn1 (found1, states1) nx1 bk1 => (found1.length + states1.length < 1000000) ∧ (states1.length < 1000000) ∧ compW states1 (fun state1 kk => W_Machine_after machine1 [(An.i ((0 : Nat) : Int))] (An.i ((state1 : Nat) : Int)) False fun z2 => kk (some z2)) fun ys2 => nx1 (found1 ++ states1, ys2)) fun (found1, states1) => R found1
def sp_reached_by (K : PySem.W.Frag) (cc : Cz) : Sp := fun vs H Q E => ∃ (F : Hp) (v1 : V) (machine1 : Nat × List (Nat × Nat) × List (Nat × Nat)) (turns1 : Nat) (E_BadMask : Prop) (R : (List Nat) → Prop), vs = [v1, (.int ((turns1 : Nat) : Int))] ∧ Ex F H ∧ (pO3 cc.Machine "inputs" "nexts" "outs" pN (pTL (pT2 pN pN)) (pTL (pT2 pN pN))).r F v1 machine1 ∧ W_reached_by machine1 turns1 E_BadMask R ∧ (E_BadMask → ∀ F' H', Wf F H F' H' → E (.ref cc.BadMask) none H') ∧ ∀ z, R z → ∀ p F' H', Wf F H F' H' → XL pN H F' H' p z → Q (.ref p) H'
abbrev N_reached_by : List Str := ["machine", "turns", "found", "states", "which", "turn", "state"]
theorem sc_reached_by : FnScope N_reached_by ["machine", "turns"] (defScope s_reached_by) := ⟨rfl, rfl, rfl, by decide +kernel, rfl, by decide +kernel, by decide +kernel⟩
theorem ok_reached_by {P : Program} {w0 : World} {K : PySem.W.Frag} {mg : Str → Option Value} {base : Heap} {f : Addr} {fd : FuncData} {cc : Cz} (T : Tz K mg cc) (FU : Fun K "reached_by" "reached_by" s_reached_by f fd) (hm : mg "reached_by" = some (.ref f)) (hb : Binds K fd ["machine", "turns"] []) (c_Machine_after : MdD P w0 K mg base (L2.CX P w0) 6 cc.Machine "after" ["self", "rows", "state"] (sp_Machine_after K cc) [.int 0]) (n_range : mg "range" = none) : Fn P w0 K mg base (L2.CX P w0) 7 "reached_by" ["machine", "turns"] (sp_reached_by K cc) := by
  refine ⟨f, fd, FU.okX sc_reached_by (fun vs H Q E h => ?_) (fun cdv A outer s H0 vs Q E hr h => ?_), hm, FU.kp, hb⟩
  · obtain ⟨_, _, _, _, _, _, rfl, _⟩ := h; rfl
  · obtain ⟨F0, v1, machine1, turns1, E_BadMask, R, rfl, wf, r1, hW, hE_BadMask, hQ⟩ := h
    have nd := sc_reached_by.nd
    refine ⟨(tSeq (tAsg (tLst tNil) (gName 2)) (tSeq (tAsg (tLc (iRng1 (tCons (tFld K (tVar 0) "inputs") tNil)) (gName 4) tYes (tMdD cc.Machine "after" (sp_Machine_after K cc) [.int 0] (fun _ => E0) (tVar 0) (tCons (tLst (tCons (tOp kShl (tC (.int 1)) (tVar 4)) tNil)) tNil)) [4]) (gName 3)) (tSeq (tFor (iRng1 (tCons (tVar 1) tNil)) (gName 5) (tSeq (tDrop (tBM K "list" rExtend (tVar 2) (tCons (tVar 3) tNil))) (tAsg (tLc (iList K (tVar 3)) (gName 6) tYes (tMeth cc.Machine "after" (sp_Machine_after K cc) [] E0 (tVar 0) (tCons (tLst (tCons (tC (.int 0)) tNil)) (tCons (tVar 6) tNil))) [6]) (gName 3)))) (tRet (tVar 2))))), (pss_cons (ps_set (i := 2) nd rfl (Or.inl rfl) (pe_lst pa_nil)) (pss_cons (ps_setLc (i := 3) (own := [("which", 4)]) (wi := (iRng1 (tCons (tFld K (tVar 0) "inputs") tNil))) (g := (gName 4)) (tt := tYes) (te := (tMdD cc.Machine "after" (sp_Machine_after K cc) [.int 0] (fun _ => E0) (tVar 0) (tCons (tLst (tCons (tOp kShl (tC (.int 1)) (tVar 4)) tNil)) tNil))) rfl nd rfl rfl (sw_true rfl rfl rfl (by decide +kernel)) (pi_range1 rfl n_range (pa_cons (pe_fld (pv 0) rfl) pa_nil)) (blkOk_by (N := N_reached_by) (sc := defScope s_reached_by) (by decide +kernel)) (fun _ _ _ _ _ => (pg_name (i := 4) nd rfl (Or.inl rfl))) (fun _ _ _ _ _ => pts_nil) (fun _ _ _ _ _ => (pe_mdD (E := (fun _ => E0)) c_Machine_after (fun σ => passAtL σ) T.cl_Machine (hr.mono (by decide)) (pv 0) (pa_cons (pe_lst (pa_cons (pe_op op_shlW pe_int (pv 4)) pa_nil)) pa_nil)))) (pss_cons (ps_for (passes_of rfl) rfl (pi_range1 rfl n_range (pa_cons (pv 1) pa_nil)) (pg_name (i := 5) nd rfl (Or.inl rfl)) (pss_cons (ps_expr (pe_bm PySem.F.plainAttrs_list PySem.F.slot_list_extend PySem.F.type_list_extend mt_extend (pv 2) (pa_cons (pv 3) pa_nil))) (pss_one (ps_setLc (i := 3) (own := [("state", 6)]) (wi := (iList K (tVar 3))) (g := (gName 6)) (tt := tYes) (te := (tMeth cc.Machine "after" (sp_Machine_after K cc) [] E0 (tVar 0) (tCons (tLst (tCons (tC (.int 0)) tNil)) (tCons (tVar 6) tNil)))) rfl nd rfl rfl (sw_true rfl rfl rfl (by decide +kernel)) (pi_list (pv 3)) (blkOk_by (N := N_reached_by) (sc := defScope s_reached_by) (by decide +kernel)) (fun _ _ _ _ _ => (pg_name (i := 6) nd rfl (Or.inl rfl))) (fun _ _ _ _ _ => pts_nil) (fun _ _ _ _ _ => (pe_mdL c_Machine_after.full T.cl_Machine (hr.mono (by decide)) (pv 0) (pa_cons (pe_lst (pa_cons pe_int pa_nil)) (pa_cons (pv 6) pa_nil)))))))) (pss_one (ps_ret (pv 2)))))), ?_⟩
    have w := Wf.id wf
    refine q_sq fun N1 hN1 => ?_
    refine a_asgE ?_
    refine e_lst ?_
    refine a_nil ?_
    refine n_lstX (e := pN) (xs := []) (vs := []) (show All pN _ [] [] from trivial) (show 0 < 1000000 from by decide) w ?_
    intro p1 H1 hp1 s1 x1
    replace r1 := Rep.mono _ s1.g r1
    replace w := w.tr s1
    refine hN1 _ _ ?_
    refine q_sq fun N2 hN2 => ?_
    refine a_asgE ?_
    refine c_RE ?_
    obtain ⟨_, rfl, fl1⟩ := fl_31 (K := K) T.cl_Machine T.na_Machine_inputs r1 w.f
    refine e_val (v := (.int ((machine1.1 : Nat) : Int))) (fl1 (val_var rfl)) ?_
    obtain ⟨c1, hW⟩ := hW
    refine w_compR (e := pN) w c1 hW ?_ ?_
    · intro Qy Qn which1 F1 H2 R1 q1 hx1 hW hy1 hn1
      have r1 := Rep.mono _ q1.g r1
      have x1 := x1.step q1
      have w := Wf.id q1.f
      refine ⟨rfl, ?_⟩
      refine c_yes ?_
      refine e_mdD ?_
      refine e_val (v := v1) (val_var rfl) ?_
      obtain ⟨p2, dx1, fs1, ev1, ho1, lm1⟩ := me_3 (m := "after") r1 w.f
      refine ⟨_, _, _, ev1, ho1, lm1, ?_⟩
      refine a_cons ?_
      refine e_lst ?_
      obtain ⟨c2, hW⟩ := hW
      refine a_val (v := (.int ((2 ^ which1 : Nat) : Int))) (vn_one val_c (val_var rfl) c2) ?_
      refine a_nil ?_
      refine n_lstX (e := pA) (xs := [(An.i ((2 ^ which1 : Nat) : Int))]) (vs := [(.int ((2 ^ which1 : Nat) : Int))]) (show All pA _ [(.int ((2 ^ which1 : Nat) : Int))] [(An.i ((2 ^ which1 : Nat) : Int))] from ⟨(show pA.r _ (.int ((2 ^ which1 : Nat) : Int)) (An.i ((2 ^ which1 : Nat) : Int)) from rfl), trivial⟩) (show 1 < 1000000 from by decide) w ?_
      intro p3 H3 hp2 s2 x2
      have ne1 := x1.ne hp2
      replace r1 := Rep.mono _ s2.g r1
      replace x1 := x1.step s2
      replace w := w.tr s2
      refine a_nil ?_
      obtain ⟨F2, w1, g1, r3, fz1⟩ := x2.frzE w
      replace r1 := Rep.mono _ g1 r1
      replace x1 := x1.frzO fz1 ne1 g1
      replace w := w1
      refine ⟨F2, (v1), (machine1), ((.ref p3)), ([(An.i ((2 ^ which1 : Nat) : Int))]), ((.int ((0 : Nat) : Int))), ((An.i ((0 : Nat) : Int))), _, _, rfl, w.f, r1, r3, (show pA.r _ (.int ((0 : Nat) : Int)) (An.i ((0 : Nat) : Int)) from rfl), hW, ?_, ?_⟩
      · intro hW; exact hW.elim
      intro z1 hW F3 H4 s3
      replace r1 := Rep.mono _ s3.g r1
      replace x1 := x1.step s3
      replace r3 := Rep.mono _ s3.g r3
      replace w := w.tr s3
      exact hy1 _ _ _ _ w rfl hW
    intro p4 ys1 F4 H5 hp3 s4 x3 hW
    have ne2 := x1.ne hp3
    replace r1 := Rep.mono _ s4.g r1
    replace x1 := x1.step s4
    replace w := w.tr s4
    obtain ⟨F5, w2, g2, r4, fz2⟩ := x3.frzE w
    replace r1 := Rep.mono _ g2 r1
    replace x1 := x1.frzO fz2 ne2 g2
    replace w := w2
    refine hN2 _ _ ?_
    refine q_sq fun N3 hN3 => ?_
    refine f_RE ?_
    refine e_val (v := (.int ((turns1 : Nat) : Int))) (val_var rfl) ?_
    obtain ⟨c3, hW⟩ := hW
    refine w_forR (S := List Nat × List Nat) (fun s σ' F' H' => match s with | (found1, states1) => ∃ (v3 : V) (o1 : Option V), Wf F0 H0 F' H' ∧ Ex F5 F' ∧ σ' = [some v1, some (.int ((turns1 : Nat) : Int)), some ((.ref p1)), some v3, none, o1, none] ∧ XL pN H0 F' H' p1 found1 ∧ (pL pN).r F' v3 states1) c3 hW ⟨_, _, w, Ex.rfl', rfl, x1, r4⟩ ?_ ?_
    · intro N4 Bk1 turn1 s5 σ' F6 H6 nx1 bk1 hI1 hx2 hW hN4 hB1
      obtain ⟨found1, states1⟩ := s5
      obtain ⟨v3, o1, w, gx1, rfl, x4, r5⟩ := hI1
      have r1 := Rep.mono _ gx1 r1
      refine g_name ?_
      refine q_sq fun N5 hN5 => ?_
      refine a_dropE ?_
      refine m_list x4 (val_var rfl) ?_
      refine a_val (v := v3) (val_var rfl) ?_
      refine a_nil ?_
      obtain ⟨c4, hW⟩ := hW
      refine a_ext x4 r5 w c4 (fun H7 w3 x5 kp1 => ?_)
      replace w := w3
      refine hN5 _ _ ?_
      refine a_asgE ?_
      refine c_LE ?_
      refine e_val (v := v3) (val_var rfl) ?_
      obtain ⟨c5, hW⟩ := hW
      refine w_compL (e := pN) r5 w c5 hW ?_ ?_
      · intro Qy Qn state1 u3 F7 H8 R2 q2 hx3 ru3 hW hy2 hn2
        have r1 := Rep.mono _ q2.g r1
        have x5 := x5.step q2
        have r5 := Rep.mono _ q2.g r5
        have w := Wf.id q2.f
        obtain rfl : u3 = (.int ((state1 : Nat) : Int)) := ru3
        refine ⟨rfl, ?_⟩
        refine c_yes ?_
        refine e_md ?_
        refine e_val (v := v1) (val_var rfl) ?_
        obtain ⟨p5, dx2, fs2, ev2, ho2, lm2⟩ := me_3 (m := "after") r1 w.f
        refine ⟨_, _, _, ev2, ho2, lm2, ?_⟩
        refine a_cons ?_
        refine e_lst ?_
        refine a_val (v := (.int ((0 : Nat) : Int))) val_c ?_
        refine a_nil ?_
        refine n_lstX (e := pA) (xs := [(An.i ((0 : Nat) : Int))]) (vs := [(.int ((0 : Nat) : Int))]) (show All pA _ [(.int ((0 : Nat) : Int))] [(An.i ((0 : Nat) : Int))] from ⟨(show pA.r _ (.int ((0 : Nat) : Int)) (An.i ((0 : Nat) : Int)) from rfl), trivial⟩) (show 1 < 1000000 from by decide) w ?_
        intro p6 H9 hp4 s6 x6
        have ne3 := x5.ne hp4
        replace r1 := Rep.mono _ s6.g r1
        replace x5 := x5.step s6
        replace r5 := Rep.mono _ s6.g r5
        replace w := w.tr s6
        refine a_val (v := (.int ((state1 : Nat) : Int))) (val_var rfl) ?_
        refine a_nil ?_
        obtain ⟨F8, w4, g3, r6, fz3⟩ := x6.frzE w
        replace r1 := Rep.mono _ g3 r1
        replace x5 := x5.frzO fz3 ne3 g3
        replace r5 := Rep.mono _ g3 r5
        replace w := w4
        refine ⟨F8, (v1), (machine1), ((.ref p6)), ([(An.i ((0 : Nat) : Int))]), ((.int ((state1 : Nat) : Int))), ((An.i ((state1 : Nat) : Int))), _, _, rfl, w.f, r1, r6, (show pA.r _ (.int ((state1 : Nat) : Int)) (An.i ((state1 : Nat) : Int)) from rfl), hW, ?_, ?_⟩
        · intro hW; exact hW.elim
        intro z2 hW F9 H10 s7
        replace r1 := Rep.mono _ s7.g r1
        replace x5 := x5.step s7
        replace r5 := Rep.mono _ s7.g r5
        replace r6 := Rep.mono _ s7.g r6
        replace w := w.tr s7
        exact hy2 _ _ _ _ w rfl hW
      intro p7 ys2 F10 H11 hp5 s8 x7 hW
      have ne4 := x5.ne hp5
      replace r1 := Rep.mono _ s8.g r1
      replace x5 := x5.step s8
      replace r5 := Rep.mono _ s8.g r5
      replace w := w.tr s8
      replace gx1 := Ex.tr gx1 s8.g
      obtain ⟨F11, w5, g4, r7, fz4⟩ := x7.frzE w
      replace r1 := Rep.mono _ g4 r1
      replace x5 := x5.frzO fz4 ne4 g4
      replace r5 := Rep.mono _ g4 r5
      replace w := w5
      replace gx1 := Ex.tr gx1 g4
      exact hN4 (found1 ++ states1, ys2) _ _ _ ⟨_, _, w, gx1, rfl, x5, r7⟩ hW
    · intro s9 σ' F12 H12 hI2 hW
      obtain ⟨found1, states1⟩ := s9
      obtain ⟨v3, o1, w, gx2, rfl, x4, r5⟩ := hI2
      have r1 := Rep.mono _ gx2 r1
      refine hN3 _ _ ?_
      refine a_ret (v := (.ref p1)) (val_var rfl) ?_
      exact hQ _ hW _ _ _ w x4
abbrev s_rows_at : Stmt := topS 18
def W_rows_at (machine1 : Nat × List (Nat × Nat) × List (Nat × Nat)) (places1 : List Nat) (turns1 : Nat) (R : (List Nat) → Prop) : Prop := (turns1 < 1000000) ∧ compW (List.range turns1) (fun turn1 kk => kk (some 0)) fun ys1 => forW places1 ys1 (fun place1 rows1 nx1 bk1 => (NDiv machine1.1) ∧ (1 ≤ turns1) ∧ (place1 / machine1.1 ≤ turns1 - 1) ∧ ∃ y1, rows1[(turns1 - 1) - (place1 / machine1.1)]? = some y1 ∧ (place1 % machine1.1 < 100000000) ∧ nx1 (rows1.set ((turns1 - 1) - (place1 / machine1.1)) (y1 ||| (2 ^ (place1 % machine1.1))))) fun rows1 => R rows1
def sp_rows_at (K : PySem.W.Frag) (cc : Cz) : Sp := fun vs H Q _ => ∃ (F : Hp) (v1 : V) (machine1 : Nat × List (Nat × Nat) × List (Nat × Nat)) (v2 : V) (places1 : List Nat) (turns1 : Nat) (R : (List Nat) → Prop), vs = [v1, v2, (.int ((turns1 : Nat) : Int))] ∧ Ex F H ∧ (pO3 cc.Machine "inputs" "nexts" "outs" pN (pTL (pT2 pN pN)) (pTL (pT2 pN pN))).r F v1 machine1 ∧ (pL pN).r F v2 places1 ∧ W_rows_at machine1 places1 turns1 R ∧ ∀ z, R z → ∀ p F' H', Wf F H F' H' → XL pN H F' H' p z → Q (.ref p) H'
abbrev N_rows_at : List Str := ["machine", "places", "turns", "rows", "turn", "place", "which"]
theorem sc_rows_at : FnScope N_rows_at ["machine", "places", "turns"] (defScope s_rows_at) := ⟨rfl, rfl, rfl, by decide +kernel, rfl, by decide +kernel, by decide +kernel⟩
theorem ok_rows_at {P : Program} {w0 : World} {K : PySem.W.Frag} {mg : Str → Option Value} {base : Heap} {f : Addr} {fd : FuncData} {cc : Cz} (T : Tz K mg cc) (FU : Fun K "rows_at" "rows_at" s_rows_at f fd) (hm : mg "rows_at" = some (.ref f)) (hb : Binds K fd ["machine", "places", "turns"] []) (n_divmod : mg "divmod" = none) (n_range : mg "range" = none) : Fn P w0 K mg base CX0 1 "rows_at" ["machine", "places", "turns"] (sp_rows_at K cc) := by
  refine ⟨f, fd, FU.ok sc_rows_at (fun vs H Q E h => ?_) (fun cdv A outer s H0 vs Q E hr h => ?_), hm, FU.kp, hb⟩
  · obtain ⟨_, _, _, _, _, _, _, rfl, _⟩ := h; rfl
  · obtain ⟨F0, v1, machine1, v2, places1, turns1, R, rfl, wf, r1, r2, hW, hQ⟩ := h
    have nd := sc_rows_at.nd
    refine ⟨(tSeq (tAsg (tLc (iRng1 (tCons (tVar 2) tNil)) (gName 4) tYes (tC (.int 0)) [4]) (gName 3)) (tSeq (tFor (iList K (tVar 1)) (gName 5) (tSeq (tAsg (tCB rDivmod (tCons (tVar 5) (tCons (tFld K (tVar 0) "inputs") tNil))) (gTup K 2 (gCons (gName 4) (gCons (gName 6) gNil)))) (tAugS (tVar 3) (tOp kSub (tOp kSub (tVar 2) (tC (.int 1))) (tVar 4)) (tOp kShl (tC (.int 1)) (tVar 6)) (rIxL K) kOr rSetL))) (tRet (tVar 3)))), (pss_cons (ps_setLc (i := 3) (own := [("turn", 4)]) (wi := (iRng1 (tCons (tVar 2) tNil))) (g := (gName 4)) (tt := tYes) (te := (tC (.int 0))) rfl nd rfl rfl (sw_true rfl rfl rfl (by decide +kernel)) (pi_range1 rfl n_range (pa_cons (pv 2) pa_nil)) (blkOk_by (N := N_rows_at) (sc := defScope s_rows_at) (by decide +kernel)) (fun _ _ _ _ _ => (pg_name (i := 4) nd rfl (Or.inl rfl))) (fun _ _ _ _ _ => pts_nil) (fun _ _ _ _ _ => pe_int)) (pss_cons (ps_for PassesOwn.never rfl (pi_list (pv 1)) (pg_name (i := 5) nd rfl (Or.inl rfl)) (pss_cons (ps_asg (pe_callB call_divmodW (by rfl) n_divmod PyProof.Rows.boot_divmod (pa_cons (pv 5) (pa_cons (pe_fld (pv 0) rfl) pa_nil))) (pg_tup rfl (pgs_cons (pg_name (i := 4) nd rfl (Or.inl rfl)) (pgs_cons (pg_name (i := 6) nd rfl (Or.inl rfl)) pgs_nil)) (by rfl))) (pss_one (ps_augS (pv 3) (pe_op op_sub (pe_op op_sub (pv 2) pe_int) (pv 4)) get_list (pe_op op_shlW pe_int (pv 6)) iop_or set_list)))) (pss_one (ps_ret (pv 3))))), ?_⟩
    have w := Wf.id wf
    refine q_sq fun N1 hN1 => ?_
    refine a_asgE ?_
    refine c_RE ?_
    refine e_val (v := (.int ((turns1 : Nat) : Int))) (val_var rfl) ?_
    obtain ⟨c1, hW⟩ := hW
    refine w_compR (e := pN) w c1 hW ?_ ?_
    · intro Qy Qn turn1 F1 H1 R1 q1 hx1 hW hy1 hn1
      have r1 := Rep.mono _ q1.g r1
      have r2 := Rep.mono _ q1.g r2
      have w := Wf.id q1.f
      refine ⟨rfl, ?_⟩
      refine c_yes ?_
      refine e_val (v := (.int ((0 : Nat) : Int))) val_c ?_
      exact hy1 _ _ _ _ w rfl hW
    intro p1 ys1 F2 H2 hp1 s1 x1 hW
    replace r1 := Rep.mono _ s1.g r1
    replace r2 := Rep.mono _ s1.g r2
    replace w := w.tr s1
    refine hN1 _ _ ?_
    refine q_sq fun N2 hN2 => ?_
    refine f_LE ?_
    refine e_val (v := v2) (val_var rfl) ?_
    refine w_forL (S := List Nat) (fun rows1 σ' F' H' => ∃ (o1 : Option V) (o2 : Option V) (o3 : Option V), Wf F0 H0 F' H' ∧ Ex F2 F' ∧ σ' = [some v1, some v2, some (.int ((turns1 : Nat) : Int)), some ((.ref p1)), o1, o2, o3] ∧ XL pN H0 F' H' p1 rows1) r2 hW ⟨_, _, _, w, Ex.rfl', rfl, x1⟩ (fun s σ' F' H' hI => by obtain ⟨_, _, _, w', gx', _⟩ := hI; exact ⟨gx', w'.f⟩) w.f ?_ ?_
    · intro N3 Bk1 place1 u2 rows1 σ' F3 H3 nx1 bk1 hI1 hx2 ru2 hW hN3 hB1
      obtain ⟨o1, o2, o3, w, gx1, rfl, x2⟩ := hI1
      have r1 := Rep.mono _ gx1 r1
      have r2 := Rep.mono _ gx1 r2
      obtain rfl : u2 = (.int ((place1 : Nat) : Int)) := ru2
      refine g_name ?_
      refine q_sq fun N4 hN4 => ?_
      refine a_asgG ?_
      refine e_cb ?_
      refine a_val (v := (.int ((place1 : Nat) : Int))) (val_var rfl) ?_
      obtain ⟨_, rfl, fl1⟩ := fl_31 (K := K) T.cl_Machine T.na_Machine_inputs r1 w.f
      refine a_val (v := (.int ((machine1.1 : Nat) : Int))) (fl1 (val_var rfl)) ?_
      refine a_nil ?_
      obtain ⟨c2, hW⟩ := hW
      refine nDivmod (a := place1) (b := machine1.1) c2 w ?_
      intro v4 F4 H4 s3 r4
      replace r1 := Rep.mono _ s3.g r1
      replace r2 := Rep.mono _ s3.g r2
      replace x2 := x2.step s3
      replace w := w.tr s3
      replace gx1 := Ex.tr gx1 s3.g
      obtain ⟨p2, u3, u4, rfl, h1, rfl, rfl⟩ := r4
      refine ⟨p2, _, rfl, SqT.of (w.f _ _ h1), rfl, _, _, rfl, _, _, rfl, rfl, ?_⟩
      refine hN4 _ _ ?_
      obtain ⟨c3, hW⟩ := hW
      obtain ⟨c4, hW⟩ := hW
      obtain ⟨y1, hy2, hW⟩ := hW
      obtain ⟨c5, hW⟩ := hW
      refine a_laug (z := y1 ||| (2 ^ (place1 % machine1.1))) x2 w hy2 (val_var rfl) (vn_sub (vn_sub (val_var rfl) val_c c3) (val_var rfl) c4) (vn_one val_c (val_var rfl) c5) (fun Q k => rv2 (z := .int ((y1 ||| (2 ^ (place1 % machine1.1)) : Nat) : Int)) (vn_or val_c val_c) k) (fun H5 w1 x3 kp1 => ?_)
      replace w := w1
      exact hN3 (rows1.set ((turns1 - 1) - (place1 / machine1.1)) (y1 ||| (2 ^ (place1 % machine1.1)))) _ _ _ ⟨_, _, _, w, gx1, rfl, x3⟩ hW
    · intro rows1 σ' F5 H6 hI2 hW
      obtain ⟨o1, o2, o3, w, gx2, rfl, x2⟩ := hI2
      have r1 := Rep.mono _ gx2 r1
      have r2 := Rep.mono _ gx2 r2
      refine hN2 _ _ ?_
      refine a_ret (v := (.ref p1)) (val_var rfl) ?_
      exact hQ _ hW _ _ _ w x2
abbrev s_closed : Stmt := topS 19
def W_closed (first1 : Nat) (wl : Nat → (Nat → Prop) → Prop) (R : (List Nat × List (List Nat)) → Prop) : Prop := whileW (fun (masks1, sums1) T => T (decide (sums1.length < masks1.length))) (fun (masks1, sums1) nx1 bk1 => ∃ x5, masks1.getLast? = some x5 ∧ wl x5 fun z1 => W_sum_for masks1 z1 fun z2 => jn (fun kk => if z2.1 = (PySem.Str.ofString "no") then ((masks1.length < 1000000) ∧ kk ([masks1.length], masks1 ++ [z1])) else (∃ y1, z2.2 = Sum.inl y1 ∧ kk (y1, masks1))) fun (found2, masks2) => (sums1.length < 1000000) ∧ nx1 (masks2, sums1 ++ [found2])) ([first1], ([] : List (List Nat))) fun (masks1, sums1) => R (masks1, sums1)
def TT_closed (K : PySem.W.Frag) (cc : Cz) (q : Str) (tl : V → Hp → VK → Prop) (v0 : V) (c : Addr) (H : Hp) (Q : VK) : Prop := ∃ (F : Hp) (first1 : Nat) (wl : Nat → (Nat → Prop) → Prop) (R : (List Nat × List (List Nat)) → Prop), v0 = (.int ((first1 : Nat) : Int)) ∧ Ex F H ∧ F c = some (LamX.CodeO c q) ∧ (∀ F' H' x k Q', Ex F F' → Ex F' H' → wl x k → (∀ z, k z → ∀ F2 H2, Wf F' H' F2 H2 → Q' (.int ((z : Nat) : Int)) H2) → tl (.int ((x : Nat) : Int)) H' Q') ∧ W_closed first1 wl R ∧ (∀ z, R z → ∀ v F' H', Wf F H F' H' → (pT2 (pL pN) (pL (pL pN))).r F' v z → Q v H')
abbrev N_closed : List Str := ["first", "following", "masks", "sums", "later", "word", "found"]
theorem sc_closed : FnScope N_closed ["first", "following"] (defScope s_closed) := ⟨rfl, rfl, rfl, by decide +kernel, rfl, by decide +kernel, by decide +kernel⟩
theorem ok_closed {P : Program} {w0 : World} {K : PySem.W.Frag} {mg : Str → Option Value} {base : Heap} {f : Addr} {fd : FuncData} {cc : Cz} (T : Tz K mg cc) (FU : Fun K "closed" "closed" s_closed f fd) (hm : mg "closed" = some (.ref f)) (hb : Binds K fd ["first", "following"] []) (c_sum_for : Fn P w0 K mg base CX0 4 "sum_for" ["rows", "wish"] (sp_sum_for K cc)) (n_len : mg "len" = none) : Lm P w0 K mg base 7 "closed" "first" "following" (TT_closed K cc) := by
  refine ⟨_, f, fd, N_closed, FU, hm, hb, sc_closed, rfl, .inl rfl, fun A stack q f c cdv s H0 Q v0 tl hr hact h => ?_⟩
  obtain ⟨F0, first1, wl, R, rfl, wf, hc, hlam, hW, hQ⟩ := h
  have nd := sc_closed.nd
  refine ⟨(tSeq (tAsg (tLst (tCons (tVar 0) tNil)) (gName 2)) (tSeq (tAsg (tLst tNil) (gName 3)) (tSeq (tWhile (tTest (tOp kLt (tCB (Wk.rLen K) (tCons (tVar 3) tNil)) (tCB (Wk.rLen K) (tCons (tVar 2) tNil)))) (tSeq (tAsg (tAct 1 f c q (tOp (L2.rIxL K) (tVar 2) (tUn kNeg (tC (.int 1)))) tl) (gName 4)) (tSeq (tAsg (tCall (sp_sum_for K cc) [] E0 (tCons (tVar 2) (tCons (tVar 4) tNil))) (gTup K 2 (gCons (gName 5) (gCons (gName 6) gNil)))) (tSeq (tIfS (tTest (tOp L2.rEq (tVar 5) (tC (.str (PySem.Str.ofString "no"))))) (tSeq (tAsg (tLst (tCons (tCB (Wk.rLen K) (tCons (tVar 2) tNil)) tNil)) (gName 6)) (tDrop (tBM K "list" rAppend (tVar 2) (tCons (tVar 4) tNil)))) tNext) (tDrop (tBM K "list" rAppend (tVar 3) (tCons (tVar 6) tNil))))))) (tRet (tTup (tCons (tVar 2) (tCons (tVar 3) tNil))))))), (pss_cons (ps_set (i := 2) nd rfl (Or.inl rfl) (pe_lst (pa_cons (pv 0) pa_nil))) (pss_cons (ps_set (i := 3) nd rfl (Or.inl rfl) (pe_lst pa_nil)) (pss_cons (ps_while PassesOwn.never (pt_cmpR op_lt (pe_callB call_len_seq (by rfl) n_len PySem.boot_len (pa_cons (pv 3) pa_nil)) (pe_callB call_len_seq (by rfl) n_len PySem.boot_len (pa_cons (pv 2) pa_nil)) (nomark _)) (pss_cons (ps_set (i := 4) nd rfl (Or.inl rfl) (hact _ _ _ _ (pe_ix ix_list (pv 2) (pe_un un_neg pe_int) (fun _ _ => rfl)) rfl)) (pss_cons (ps_asg (pe_fn c_sum_for (hr.mono (by decide)) rfl (pa_cons (pv 2) (pa_cons (pv 4) pa_nil))) (pg_tup rfl (pgs_cons (pg_name (i := 5) nd rfl (Or.inl rfl)) (pgs_cons (pg_name (i := 6) nd rfl (Or.inl rfl)) pgs_nil)) (by rfl))) (pss_cons (ps_if (pt_cmpR op_eq (pv 5) pe_str (nomark _)) (pss_cons (ps_set (i := 6) nd rfl (Or.inl rfl) (pe_lst (pa_cons (pe_callB call_len_seq (by rfl) n_len PySem.boot_len (pa_cons (pv 2) pa_nil)) pa_nil))) (pss_one (ps_expr (pe_bm PySem.F.plainAttrs_list PySem.F.slot_list_append PySem.F.type_list_append mt_append (pv 2) (pa_cons (pv 4) pa_nil))))) pss_nil) (pss_one (ps_expr (pe_bm PySem.F.plainAttrs_list PySem.F.slot_list_append PySem.F.type_list_append mt_append (pv 3) (pa_cons (pv 6) pa_nil)))))))) (pss_one (ps_ret (pe_tup (pa_cons (pv 2) (pa_cons (pv 3) pa_nil)))))))), ?_⟩
  · have w := Wf.id wf
    refine q_sq fun N1 hN1 => ?_
    refine a_asgE ?_
    refine e_lst ?_
    refine a_val (v := (.int ((first1 : Nat) : Int))) (val_var rfl) ?_
    refine a_nil ?_
    refine n_lstX (e := pN) (xs := [first1]) (vs := [(.int ((first1 : Nat) : Int))]) (show All pN _ [(.int ((first1 : Nat) : Int))] [first1] from ⟨rfl, trivial⟩) (show 1 < 1000000 from by decide) w ?_
    intro p1 H1 hp1 s1 x1
    replace w := w.tr s1
    refine hN1 _ _ ?_
    refine q_sq fun N2 hN2 => ?_
    refine a_asgE ?_
    refine e_lst ?_
    refine a_nil ?_
    refine n_lstX (e := (pL pN)) (xs := []) (vs := []) (show All (pL pN) _ [] [] from trivial) (show 0 < 1000000 from by decide) w ?_
    intro p2 H2 hp2 s2 x2
    have ne1 := x1.ne hp2
    replace x1 := x1.step s2
    replace w := w.tr s2
    refine hN2 _ _ ?_
    refine q_sq fun N3 hN3 => ?_
    refine w_while (S := List Nat × List (List Nat)) (fun s σ' F' H' => match s with | (masks1, sums1) => ∃ (o1 : Option V) (o2 : Option V) (o3 : Option V), Wf F0 H0 F' H' ∧ Ex F0 F' ∧ σ' = [some (.int ((first1 : Nat) : Int)), some (.ref f), some ((.ref p1)), some ((.ref p2)), o1, o2, o3] ∧ XL pN H0 F' H' p1 masks1 ∧ XL (pL pN) H0 F' H' p2 sums1) hW ⟨_, _, _, w, Ex.rfl', rfl, x1, x2⟩ ?_ ?_ ?_
    · intro s3 σ' F1 H3 T1 Qc1 hI1 hW hT1
      obtain ⟨masks1, sums1⟩ := s3
      obtain ⟨o1, o2, o3, w, gx1, rfl, x3, x4⟩ := hI1
      refine e_ans (b := decide (sums1.length < masks1.length)) (t_of (vb_dec (c_lt (len_X x4 (val_var rfl)) (len_X x3 (val_var rfl))) n_lt)) ?_
      exact hT1 _ _ _ ⟨_, _, _, w, gx1, rfl, x3, x4⟩ hW
    · intro N4 Bk1 s4 σ' F2 H4 nx1 bk1 hI2 hW hN4 hB1
      obtain ⟨masks1, sums1⟩ := s4
      obtain ⟨o1, o2, o3, w, gx2, rfl, x3, x4⟩ := hI2
      refine q_sq fun N5 hN5 => ?_
      refine a_asgE ?_
      obtain ⟨x5, hx5_1, hW⟩ := hW
      obtain ⟨_, rfl, ix1⟩ := ix_Xm (K := K) x3 hx5_1
      refine e_act1 (F := F2) rfl (ix1 (val_var rfl) (v_neg val_c)) (w.g _ _ hc) w.f ?_
      refine hlam _ _ _ _ _ w.g w.f hW ?_
      intro z1 hW F3 H5 s5
      replace x3 := x3.step s5
      replace x4 := x4.step s5
      replace w := w.tr s5
      replace gx2 := Ex.tr gx2 s5.g
      refine hN5 _ _ ?_
      refine q_sq fun N6 hN6 => ?_
      refine a_asgG ?_
      refine e_call ?_
      refine a_val (v := (.ref p1)) (val_var rfl) ?_
      refine a_val (v := (.int ((z1 : Nat) : Int))) (val_var rfl) ?_
      refine a_nil ?_
      obtain ⟨Fl1, lf1, lg1, lr1⟩ := x3.lend w
      refine ⟨Fl1, ((.ref p1)), (masks1), (z1), _, rfl, lf1, lr1, hW, ?_⟩
      intro z2 hW v1 F4 H6 s6 fr1
      obtain ⟨F5, s7, r1⟩ := Fre.back w.f lg1 s6 fr1
      replace x3 := x3.step s7
      replace x4 := x4.step s7
      replace w := w.tr s7
      replace gx2 := Ex.tr gx2 s7.g
      obtain ⟨p3, u1, u2, rfl, h1, rfl, r2⟩ := r1
      refine ⟨p3, _, rfl, SqT.of (w.f _ _ h1), rfl, _, _, rfl, _, _, rfl, rfl, ?_⟩
      refine hN6 _ _ ?_
      refine q_jn (S := List Nat × List Nat) hW (fun s σ' F' H' => match s with | (found2, masks2) => ∃ (v2 : V), Wf F0 H0 F' H' ∧ Ex F5 F' ∧ σ' = [some (.int ((first1 : Nat) : Int)), some (.ref f), some ((.ref p1)), some (.ref p2), some (.int ((z1 : Nat) : Int)), some (.str (z2.1)), some v2] ∧ XL pN H0 F' H' p1 masks2 ∧ (pL pN).r F' v2 found2 ∧ XL (pL pN) H0 F' H' p2 sums1) ?_ ?_
      · intro N7 hN7 hW
        have gx3 : Ex F5 F5 := Ex.rfl'
        refine a_ifE ?_
        refine e_ans (b := decide (z2.1 = (PySem.Str.ofString "no"))) (t_of (c_eqS (val_var rfl) val_c)) ?_
        refine b_if (fun hc1 => ?_) (fun hc1 => ?_)
        · have hW := ifP hW hc1
          refine q_sq fun N8 hN8 => ?_
          refine a_asgE ?_
          refine e_lst ?_
          refine a_val (v := (.int ((masks1.length : Nat) : Int))) (len_X x3 (val_var rfl)) ?_
          refine a_nil ?_
          refine n_lstX (e := pN) (xs := [masks1.length]) (vs := [(.int ((masks1.length : Nat) : Int))]) (show All pN _ [(.int ((masks1.length : Nat) : Int))] [masks1.length] from ⟨rfl, trivial⟩) (show 1 < 1000000 from by decide) w ?_
          intro p4 H7 hp3 s8 x8
          have ne2 := x3.ne hp3
          have ne3 := x4.ne hp3
          replace x3 := x3.step s8
          replace x4 := x4.step s8
          replace r2 := Rep.mono _ s8.g r2
          replace w := w.tr s8
          replace gx3 := Ex.tr gx3 s8.g
          replace gx2 := Ex.tr gx2 s8.g
          obtain ⟨F6, w1, g1, r4, fz1⟩ := x8.frzE w
          replace x3 := x3.frzO fz1 ne2 g1
          replace x4 := x4.frzO fz1 ne3 g1
          replace r2 := Rep.mono _ g1 r2
          replace w := w1
          replace gx3 := Ex.tr gx3 g1
          replace gx2 := Ex.tr gx2 g1
          refine hN8 _ _ ?_
          refine a_dropE ?_
          refine m_list x3 (val_var rfl) ?_
          refine a_val (v := (.int ((z1 : Nat) : Int))) (val_var rfl) ?_
          refine a_nil ?_
          obtain ⟨c1, hW⟩ := hW
          refine a_app x3 w c1 rfl (fun H8 w2 x9 kp1 => ?_)
          replace x4 := x4.kept kp1 (Ne.symm ne1)
          replace w := w2
          exact hN7 ([masks1.length], masks1 ++ [z1]) _ _ _ ⟨_, w, gx3, rfl, x9, r4, x4⟩ hW
        · have hW := ifN hW hc1
          obtain ⟨y1, hy1, hW⟩ := hW
          have r5 := alt_l r2 hy1
          exact hN7 (y1, masks1) _ _ _ ⟨_, w, gx3, rfl, x3, r5, x4⟩ hW
      · intro s9 σ' F7 H9 hI3 hW
        obtain ⟨found2, masks2⟩ := s9
        obtain ⟨v2, w, gx4, rfl, x6, r3, x7⟩ := hI3
        have gx2 := Ex.tr gx2 gx4
        refine a_dropE ?_
        refine m_list x7 (val_var rfl) ?_
        refine a_val (v := v2) (val_var rfl) ?_
        refine a_nil ?_
        obtain ⟨c2, hW⟩ := hW
        refine a_app x7 w c2 r3 (fun H10 w3 x10 kp2 => ?_)
        replace x6 := x6.kept kp2 ne1
        replace w := w3
        exact hN4 (masks2, sums1 ++ [found2]) _ _ _ ⟨_, _, _, w, gx2, rfl, x6, x10⟩ hW
    · intro s10 σ' F8 H11 hI4 hW
      obtain ⟨masks1, sums1⟩ := s10
      obtain ⟨o1, o2, o3, w, gx5, rfl, x3, x4⟩ := hI4
      refine hN3 _ _ ?_
      refine a_retE ?_
      refine e_tup ?_
      refine a_val (v := (.ref p1)) (val_var rfl) ?_
      refine a_val (v := (.ref p2)) (val_var rfl) ?_
      refine a_nil ?_
      obtain ⟨F9, w4, g2, r6, fz2⟩ := x3.frzE w
      replace x4 := x4.frzO fz2 (Ne.symm ne1) g2
      replace w := w4
      replace gx5 := Ex.tr gx5 g2
      obtain ⟨F10, w5, g3, r7, fz3⟩ := x4.frzE w
      replace r6 := Rep.mono _ g3 r6
      replace w := w5
      replace gx5 := Ex.tr gx5 g3
      refine n_tup2 (e := (pL pN)) (f := (pL (pL pN))) (x := masks1) (y := sums1) r6 r7 w ?_
      intro p5 F11 H12 s11 r8
      replace r6 := Rep.mono _ s11.g r6
      replace r7 := Rep.mono _ s11.g r7
      replace w := w.tr s11
      replace gx5 := Ex.tr gx5 s11.g
      exact hQ _ hW _ _ _ w r8
abbrev s_within : Stmt := topS 20
def W_within (machine1 : Nat × List (Nat × Nat) × List (Nat × Nat)) (mask1 : Nat) (R : Nat → Prop) : Prop := W_Machine_stores machine1 fun z1 => (z1 < 100000000) ∧ R (mask1 &&& ((2 ^ z1) - 1))
def sp_within (K : PySem.W.Frag) (cc : Cz) : Sp := fun vs H Q _ => ∃ (F : Hp) (v1 : V) (machine1 : Nat × List (Nat × Nat) × List (Nat × Nat)) (mask1 : Nat) (R : Nat → Prop), vs = [v1, (.int ((mask1 : Nat) : Int))] ∧ Ex F H ∧ (pO3 cc.Machine "inputs" "nexts" "outs" pN (pTL (pT2 pN pN)) (pTL (pT2 pN pN))).r F v1 machine1 ∧ W_within machine1 mask1 R ∧ ∀ z, R z → ∀ F' H', Wf F H F' H' → Q (.int ((z : Nat) : Int)) H'
abbrev N_within : List Str := ["machine", "mask"]
theorem sc_within : FnScope N_within ["machine", "mask"] (defScope s_within) := ⟨rfl, rfl, rfl, by decide +kernel, rfl, by decide +kernel, by decide +kernel⟩
theorem ok_within {P : Program} {w0 : World} {K : PySem.W.Frag} {mg : Str → Option Value} {base : Heap} {f : Addr} {fd : FuncData} {cc : Cz} (T : Tz K mg cc) (FU : Fun K "within" "within" s_within f fd) (hm : mg "within" = some (.ref f)) (hb : Binds K fd ["machine", "mask"] []) (c_Machine_stores : Md P w0 K mg base CX0 1 cc.Machine "stores" ["self"] (sp_Machine_stores K cc)) : Fn P w0 K mg base CX0 2 "within" ["machine", "mask"] (sp_within K cc) := by
  refine ⟨f, fd, FU.ok sc_within (fun vs H Q E h => ?_) (fun cdv A outer s H0 vs Q E hr h => ?_), hm, FU.kp, hb⟩
  · obtain ⟨_, _, _, _, _, rfl, _⟩ := h; rfl
  · obtain ⟨F0, v1, machine1, mask1, R, rfl, wf, r1, hW, hQ⟩ := h
    have nd := sc_within.nd
    refine ⟨(tRet (tOp kAnd (tVar 1) (tOp kSub (tOp kShl (tC (.int 1)) (tMeth cc.Machine "stores" (sp_Machine_stores K cc) [] E0 (tVar 0) tNil)) (tC (.int 1))))), (pss_one (ps_ret (pe_op op_and (pv 1) (pe_op op_sub (pe_op op_shlW pe_int (pe_md0 c_Machine_stores T.cl_Machine (hr.mono (by decide)) (pv 0))) pe_int)))), ?_⟩
    have w := Wf.id wf
    refine a_retE ?_
    refine e_op ?_
    refine e_val (v := (.int ((mask1 : Nat) : Int))) (val_var rfl) ?_
    refine e_op ?_
    refine e_op ?_
    refine e_val (v := (.int ((1 : Nat) : Int))) val_c ?_
    refine e_md ?_
    refine e_val (v := v1) (val_var rfl) ?_
    obtain ⟨p1, dx1, fs1, ev1, ho1, lm1⟩ := me_3 (m := "stores") r1 w.f
    refine ⟨_, _, _, ev1, ho1, lm1, ?_⟩
    refine a_nil ?_
    refine ⟨F0, (v1), (machine1), _, rfl, w.f, r1, hW, ?_⟩
    intro z1 hW F1 H1 s1
    replace r1 := Rep.mono _ s1.g r1
    replace w := w.tr s1
    obtain ⟨c1, hW⟩ := hW
    refine rv2 (z := (.int ((2 ^ z1 : Nat) : Int))) (vn_one val_c val_c c1) ?_
    refine e_val (v := (.int ((1 : Nat) : Int))) val_c ?_
    refine rv2 (z := (.int (((2 ^ z1) - 1 : Nat) : Int))) (vn_sub val_c val_c (Nat.one_le_two_pow)) ?_
    refine rv2 (z := (.int ((mask1 &&& ((2 ^ z1) - 1) : Nat) : Int))) (vn_and val_c val_c) ?_
    exact hQ _ hW _ _ w
abbrev s_come_to : Stmt := topS 21
def W_come_to (machine1 : Nat × List (Nat × Nat) × List (Nat × Nat)) (state1 : Nat) (R : (Str × List Nat × (Sum (Nat) (List (List Nat)))) → Prop) : Prop := W_need_state machine1 (An.i ((state1 : Nat) : Int)) False fun z1 => W_Machine_stores machine1 fun z2 => (z2 + 1 < 1000000) ∧ forW (List.range (z2 + 1)) 0 (fun turns1 mask1 nx1 bk1 => W_reached_by machine1 turns1 False fun z3 => W_sum_for z3 state1 fun z4 => if z4.1 = (PySem.Str.ofString "sum") then (∃ y1, z4.2 = Sum.inl y1 ∧ W_rows_at machine1 y1 turns1 fun z5 => R ((PySem.Str.ofString "come"), z5, (Sum.inl mask1))) else (∃ y2 : Nat, z4.2 = Sum.inr y2 ∧ W_within machine1 y2 fun z6 => nx1 z6)) fun mask1 => W_closed mask1 (fun one1 k1 => W_Machine_back machine1 (An.i ((one1 : Nat) : Int)) False fun z8 => k1 z8.1) fun z9 => R ((PySem.Str.ofString "never"), z9.1, (Sum.inr z9.2))
def sp_come_to (K : PySem.W.Frag) (cc : Cz) : Sp := fun vs H Q _ => ∃ (F : Hp) (v1 : V) (machine1 : Nat × List (Nat × Nat) × List (Nat × Nat)) (state1 : Nat) (R : (Str × List Nat × (Sum (Nat) (List (List Nat)))) → Prop), vs = [v1, (.int ((state1 : Nat) : Int))] ∧ Ex F H ∧ (pO3 cc.Machine "inputs" "nexts" "outs" pN (pTL (pT2 pN pN)) (pTL (pT2 pN pN))).r F v1 machine1 ∧ XT (woL H [cc.t_come_to]) F H cc.t_come_to (("come_to" : Str) ++ (".<locals>." : Str) ++ ("<lambda>" : Str)) ∧ W_come_to machine1 state1 R ∧ ∀ z, R z → ∀ v F' H', Wf F (woL H [cc.t_come_to]) F' H' → (pT3 pS (pL pN) (pAlt pN (pL (pL pN)))).r F' v z → XT (woL H [cc.t_come_to]) F' H' cc.t_come_to (("come_to" : Str) ++ (".<locals>." : Str) ++ ("<lambda>" : Str)) → Q v H'
abbrev N_come_to : List Str := ["machine", "state", "mask", "turns", "word", "found", "masks", "sums"]
theorem sc_come_to : FnScope N_come_to ["machine", "state"] (defScope s_come_to) := ⟨rfl, rfl, rfl, by decide +kernel, rfl, by decide +kernel, by decide +kernel⟩
theorem ok_come_to {P : Program} {w0 : World} {K : PySem.W.Frag} {mg : Str → Option Value} {base : Heap} {f : Addr} {fd : FuncData} {cc : Cz} (T : Tz K mg cc) (FU : Fun K "come_to" "come_to" s_come_to f fd) (hm : mg "come_to" = some (.ref f)) (hb : Binds K fd ["machine", "state"] []) (c_need_state : Fn P w0 K mg base (L2.CX P w0) 3 "need_state" ["machine", "state"] (sp_need_state K cc)) (c_Machine_stores : Md P w0 K mg base CX0 1 cc.Machine "stores" ["self"] (sp_Machine_stores K cc)) (c_reached_by : Fn P w0 K mg base (L2.CX P w0) 7 "reached_by" ["machine", "turns"] (sp_reached_by K cc)) (c_sum_for : Fn P w0 K mg base CX0 4 "sum_for" ["rows", "wish"] (sp_sum_for K cc)) (c_rows_at : Fn P w0 K mg base CX0 1 "rows_at" ["machine", "places", "turns"] (sp_rows_at K cc)) (c_within : Fn P w0 K mg base CX0 2 "within" ["machine", "mask"] (sp_within K cc)) (c_closed : Lm P w0 K mg base 7 "closed" "first" "following" (TT_closed K cc)) (c_Machine_back : Md P w0 K mg base (L2.CX P w0) 4 cc.Machine "back" ["self", "mask"] (sp_Machine_back K cc)) (n_range : mg "range" = none) {m : Addr} (hcode : fd.code = .ref m) (tB : LamX.TabB base mg m cc.t_come_to) : Fn P w0 K mg base CX0 9 "come_to" ["machine", "state"] (sp_come_to K cc) := by
  refine ⟨f, fd, okC_0 FU hcode sc_come_to (fun vs H Q E h => ?_) (fun cdv A outer s H0 vs Q E hcd hr h => ?_), hm, FU.kp, hb⟩
  · obtain ⟨_, _, _, _, _, rfl, _⟩ := h; rfl
  · obtain ⟨F0, v1, machine1, state1, R, rfl, wf, r1, xt_come_to, hW, hQ⟩ := h
    have nd := sc_come_to.nd
    refine ⟨(tSeq (tDrop (tCall (sp_need_state K cc) [] E0 (tCons (tVar 0) (tCons (tVar 1) tNil)))) (tSeq (tAsg (tC (.int 0)) (gName 2)) (tSeq (tFor (iRng1 (tCons (tOp kAdd (tMeth cc.Machine "stores" (sp_Machine_stores K cc) [] E0 (tVar 0) tNil) (tC (.int 1))) tNil)) (gName 3) (tSeq (tAsg (tCall (sp_sum_for K cc) [] E0 (tCons (tCall (sp_reached_by K cc) [] E0 (tCons (tVar 0) (tCons (tVar 3) tNil))) (tCons (tVar 1) tNil))) (gTup K 2 (gCons (gName 4) (gCons (gName 5) gNil)))) (tSeq (tIfS (tTest (tOp L2.rEq (tVar 4) (tC (.str (PySem.Str.ofString "sum"))))) (tRet (tTup (tCons (tC (.str (PySem.Str.ofString "come"))) (tCons (tCall (sp_rows_at K cc) [] E0 (tCons (tVar 0) (tCons (tVar 5) (tCons (tVar 3) tNil)))) (tCons (tVar 2) tNil))))) tNext) (tAsg (tCall (sp_within K cc) [] E0 (tCons (tVar 0) (tCons (tVar 5) tNil))) (gName 2))))) (tSeq (tAsg (tLam1 cc.t_come_to (("come_to" : Str) ++ (".<locals>." : Str) ++ ("<lambda>" : Str)) (TT_closed K cc (("come_to" : Str) ++ (".<locals>." : Str) ++ ("<lambda>" : Str))) (tVar 2) (fun σ v H Q => (tOp (L2.rIxT K) (tMeth cc.Machine "back" (sp_Machine_back K cc) [] E0 (tVar 1) (tCons (tVar 0) tNil)) (tC (.int 0))) (some v :: capS σ [0]) H Q)) (gTup K 2 (gCons (gName 6) (gCons (gName 7) gNil)))) (tRet (tTup (tCons (tC (.str (PySem.Str.ofString "never"))) (tCons (tVar 6) (tCons (tVar 7) tNil))))))))), (pss_cons (ps_expr (pe_fnL c_need_state (hr.mono (by decide)) rfl (pa_cons (pv 0) (pa_cons (pv 1) pa_nil)))) (pss_cons (ps_set (i := 2) nd rfl (Or.inl rfl) pe_int) (pss_cons (ps_for PassesOwn.never rfl (pi_range1 rfl n_range (pa_cons (pe_op op_add (pe_md0 c_Machine_stores T.cl_Machine (hr.mono (by decide)) (pv 0)) pe_int) pa_nil)) (pg_name (i := 3) nd rfl (Or.inl rfl)) (pss_cons (ps_asg (pe_fn c_sum_for (hr.mono (by decide)) rfl (pa_cons (pe_fnL c_reached_by (hr.mono (by decide)) rfl (pa_cons (pv 0) (pa_cons (pv 3) pa_nil))) (pa_cons (pv 1) pa_nil))) (pg_tup rfl (pgs_cons (pg_name (i := 4) nd rfl (Or.inl rfl)) (pgs_cons (pg_name (i := 5) nd rfl (Or.inl rfl)) pgs_nil)) (by rfl))) (pss_cons (ps_if (pt_cmpR op_eq (pv 4) pe_str (nomark _)) (pss_one (ps_ret (pe_tup (pa_cons pe_str (pa_cons (pe_fn c_rows_at (hr.mono (by decide)) rfl (pa_cons (pv 0) (pa_cons (pv 5) (pa_cons (pv 3) pa_nil)))) (pa_cons (pv 2) pa_nil)))))) pss_nil) (pss_one (ps_set (i := 2) nd rfl (Or.inl rfl) (pe_fn c_within (hr.mono (by decide)) rfl (pa_cons (pv 0) (pa_cons (pv 5) pa_nil)))))))) (pss_cons (ps_asg (pe_lamcall1 (P := cc.t_come_to) (q := (("come_to" : Str) ++ (".<locals>." : Str))) (te0 := (tVar 2)) (tb := (tOp (L2.rIxT K) (tMeth cc.Machine "back" (sp_Machine_back K cc) [] E0 (tVar 1) (tCons (tVar 0) tNil)) (tC (.int 0)))) (TT := TT_closed K cc) (kl := 6) (is_ := [0]) (cs := ["machine"]) c_closed (hr.mono (by decide)) rfl tB hcd (lamS1_by (by kernel_rfl)) (caps_by (by kernel_rfl)) rfl rfl (fun _ _ _ _ _ _ => rfl) (pv 2) (by decide) (fun _ _ _ _ _ _ hr => (pe_ix ix_tup (pe_mdL c_Machine_back T.cl_Machine (hr.mono (by decide)) (pv 1) (pa_cons (pv 0) pa_nil)) pe_int (fun _ _ => rfl))) rfl qual_nox) (pg_tup rfl (pgs_cons (pg_name (i := 6) nd rfl (Or.inl rfl)) (pgs_cons (pg_name (i := 7) nd rfl (Or.inl rfl)) pgs_nil)) (by rfl))) (pss_one (ps_ret (pe_tup (pa_cons pe_str (pa_cons (pv 6) (pa_cons (pv 7) pa_nil)))))))))), ?_⟩
    have w := Wf.startL (L := [cc.t_come_to]) wf (allL1 xt_come_to.nF)
    generalize hH0 : woL H0 [cc.t_come_to] = Hb at w hQ xt_come_to
    refine q_sq fun N1 hN1 => ?_
    refine a_dropE ?_
    refine e_call ?_
    refine a_val (v := v1) (val_var rfl) ?_
    refine a_val (v := (.int ((state1 : Nat) : Int))) (val_var rfl) ?_
    refine a_nil ?_
    refine ⟨F0, (v1), (machine1), ((.int ((state1 : Nat) : Int))), ((An.i ((state1 : Nat) : Int))), _, _, rfl, w.f, r1, (show pA.r _ (.int ((state1 : Nat) : Int)) (An.i ((state1 : Nat) : Int)) from rfl), hW, ?_, ?_⟩
    · intro hW; exact hW.elim
    intro z1 hW F1 H1 s1
    replace r1 := Rep.mono _ s1.g r1
    replace xt_come_to := xt_come_to.step s1
    replace w := w.tr s1
    refine hN1 _ _ ?_
    refine q_sq fun N2 hN2 => ?_
    refine a_asg (v := (.int ((0 : Nat) : Int))) val_c ?_
    refine hN2 _ _ ?_
    refine q_sq fun N3 hN3 => ?_
    refine f_RE ?_
    refine e_op ?_
    refine e_md ?_
    refine e_val (v := v1) (val_var rfl) ?_
    obtain ⟨p1, dx1, fs1, ev1, ho1, lm1⟩ := me_3 (m := "stores") r1 w.f
    refine ⟨_, _, _, ev1, ho1, lm1, ?_⟩
    refine a_nil ?_
    refine ⟨F1, (v1), (machine1), _, rfl, w.f, r1, hW, ?_⟩
    intro z2 hW F2 H2 s2
    replace r1 := Rep.mono _ s2.g r1
    replace xt_come_to := xt_come_to.step s2
    replace w := w.tr s2
    refine e_val (v := (.int ((1 : Nat) : Int))) val_c ?_
    refine rv2 (z := (.int ((z2 + 1 : Nat) : Int))) (vn_add val_c val_c) ?_
    obtain ⟨c1, hW⟩ := hW
    refine w_forR (S := Nat) (fun mask1 σ' F' H' => ∃ (o1 : Option V) (o2 : Option V) (o3 : Option V), Wf F0 Hb F' H' ∧ Ex F2 F' ∧ σ' = [some v1, some (.int ((state1 : Nat) : Int)), some (.int ((mask1 : Nat) : Int)), o1, o2, o3, none, none] ∧ XT Hb F' H' cc.t_come_to (("come_to" : Str) ++ (".<locals>." : Str) ++ ("<lambda>" : Str))) c1 hW ⟨_, _, _, w, Ex.rfl', rfl, xt_come_to⟩ ?_ ?_
    · intro N4 Bk1 turns1 mask1 σ' F3 H3 nx1 bk1 hI1 hx1 hW hN4 hB1
      obtain ⟨o1, o2, o3, w, gx1, rfl, x1⟩ := hI1
      have r1 := Rep.mono _ gx1 r1
      refine g_name ?_
      refine q_sq fun N5 hN5 => ?_
      refine a_asgG ?_
      refine e_call ?_
      refine a_cons ?_
      refine e_call ?_
      refine a_val (v := v1) (val_var rfl) ?_
      refine a_val (v := (.int ((turns1 : Nat) : Int))) (val_var rfl) ?_
      refine a_nil ?_
      refine ⟨F3, (v1), (machine1), (turns1), _, _, rfl, w.f, r1, hW, ?_, ?_⟩
      · intro hW; exact hW.elim
      intro z3 hW p2 F4 H4 s4 x2
      have ne1 := x1.ne x2.zero
      replace x2 := x2.base w
      replace r1 := Rep.mono _ s4.g r1
      replace x1 := x1.step s4
      replace w := w.tr s4
      replace gx1 := Ex.tr gx1 s4.g
      refine a_val (v := (.int ((state1 : Nat) : Int))) (val_var rfl) ?_
      refine a_nil ?_
      obtain ⟨Fl1, lf1, lg1, lr1⟩ := x2.lend w
      refine ⟨Fl1, ((.ref p2)), (z3), (state1), _, rfl, lf1, lr1, hW, ?_⟩
      intro z4 hW v2 F5 H5 s5 fr1
      obtain ⟨F6, s6, r2⟩ := Fre.back w.f lg1 s5 fr1
      replace r1 := Rep.mono _ s6.g r1
      replace x1 := x1.step s6
      replace x2 := x2.step s6
      replace w := w.tr s6
      replace gx1 := Ex.tr gx1 s6.g
      obtain ⟨p3, u2, u3, rfl, h1, rfl, r3⟩ := r2
      refine ⟨p3, _, rfl, SqT.of (w.f _ _ h1), rfl, _, _, rfl, _, _, rfl, rfl, ?_⟩
      refine hN5 _ _ ?_
      refine q_sq fun N6 hN6 => ?_
      refine a_ifE ?_
      refine e_ans (b := decide (z4.1 = (PySem.Str.ofString "sum"))) (t_of (c_eqS (val_var rfl) val_c)) ?_
      refine b_if (fun hc1 => ?_) (fun hc1 => ?_)
      · have hW := ifP hW hc1
        refine a_retE ?_
        refine e_tup ?_
        refine a_val (v := (.str ((PySem.Str.ofString "come")))) val_c ?_
        refine a_cons ?_
        refine e_call ?_
        refine a_val (v := v1) (val_var rfl) ?_
        refine a_val (v := u3) (val_var rfl) ?_
        obtain ⟨y1, hy1, hW⟩ := hW
        have r4 := alt_l r3 hy1
        refine a_val (v := (.int ((turns1 : Nat) : Int))) (val_var rfl) ?_
        refine a_nil ?_
        refine ⟨F6, (v1), (machine1), (u3), (y1), (turns1), _, rfl, w.f, r1, r4, hW, ?_⟩
        intro z5 hW p4 F7 H6 s7 x3
        have ne2 := x1.ne x3.zero
        replace x3 := x3.base w
        replace r1 := Rep.mono _ s7.g r1
        replace x1 := x1.step s7
        replace r3 := Rep.mono _ s7.g r3
        replace r4 := Rep.mono _ s7.g r4
        replace w := w.tr s7
        replace gx1 := Ex.tr gx1 s7.g
        refine a_val (v := (.int ((mask1 : Nat) : Int))) (val_var rfl) ?_
        refine a_nil ?_
        obtain ⟨F8, w1, g1, r5, fz1⟩ := x3.frzE w
        replace r1 := Rep.mono _ g1 r1
        replace x1 := x1.frzO fz1 ne2 g1
        replace r3 := Rep.mono _ g1 r3
        replace r4 := Rep.mono _ g1 r4
        replace w := w1
        replace gx1 := Ex.tr gx1 g1
        refine n_tup3 (e := pS) (f := (pL pN)) (g := (pAlt pN (pL (pL pN)))) (x := (PySem.Str.ofString "come")) (y := z5) (z := (Sum.inl mask1)) rfl r5 rfl w ?_
        intro p5 F9 H7 s8 r6
        replace r1 := Rep.mono _ s8.g r1
        replace x1 := x1.step s8
        replace r3 := Rep.mono _ s8.g r3
        replace r4 := Rep.mono _ s8.g r4
        replace r5 := Rep.mono _ s8.g r5
        replace w := w.tr s8
        replace gx1 := Ex.tr gx1 s8.g
        exact hQ _ hW _ _ _ w r6 x1
      · have hW := ifN hW hc1
        refine hN6 _ _ ?_
        refine a_asgE ?_
        refine e_call ?_
        refine a_val (v := v1) (val_var rfl) ?_
        obtain ⟨y2, hy2, hW⟩ := hW
        have hv1 := alt_n r3 hy2
        refine a_val (v := (.int ((y2 : Nat) : Int))) (v_eq (val_var rfl) hv1) ?_
        refine a_nil ?_
        refine ⟨F6, (v1), (machine1), (y2), _, rfl, w.f, r1, hW, ?_⟩
        intro z6 hW F10 H8 s9
        replace r1 := Rep.mono _ s9.g r1
        replace x1 := x1.step s9
        replace r3 := Rep.mono _ s9.g r3
        replace w := w.tr s9
        replace gx1 := Ex.tr gx1 s9.g
        exact hN4 z6 _ _ _ ⟨_, _, _, w, gx1, rfl, x1⟩ hW
    · intro mask1 σ' F11 H9 hI2 hW
      obtain ⟨o1, o2, o3, w, gx2, rfl, x1⟩ := hI2
      have r1 := Rep.mono _ gx2 r1
      refine hN3 _ _ ?_
      refine q_sq fun N7 hN7 => ?_
      refine a_asgG ?_
      refine t_lam1 x1 w (val_var rfl) (fun c2 F12 H10 s11 x4 hc2 => ?_)
      have z7 := x1.zero
      replace w := w.mcall (L := [cc.t_come_to]) (allL1 z7) s11 (allL1 x4.nF)
      replace r1 := Rep.mono _ s11.g r1
      replace gx2 := Ex.tr gx2 s11.g
      replace x4 := XT.fromL x4 z7
      refine ⟨F12, mask1, _, _, rfl, w.f, hc2, ?_, hW, ?_⟩
      · intro F13 H11 one1 k1 Q1 g2 f1 hW hk1
        have r1 := Rep.mono _ g2 r1
        have w := Wf.id f1
        refine e_op ?_
        refine e_md ?_
        refine e_val (v := v1) (val_var rfl) ?_
        obtain ⟨p6, dx2, fs2, ev2, ho2, lm2⟩ := me_3 (m := "back") r1 w.f
        refine ⟨_, _, _, ev2, ho2, lm2, ?_⟩
        refine a_val (v := (.int ((one1 : Nat) : Int))) (val_var rfl) ?_
        refine a_nil ?_
        refine ⟨F13, (v1), (machine1), ((.int ((one1 : Nat) : Int))), ((An.i ((one1 : Nat) : Int))), _, _, rfl, w.f, r1, (show pA.r _ (.int ((one1 : Nat) : Int)) (An.i ((one1 : Nat) : Int)) from rfl), hW, ?_, ?_⟩
        · intro hW; exact hW.elim
        intro z8 hW v3 F14 H12 s12 r7
        replace r1 := Rep.mono _ s12.g r1
        replace w := w.tr s12
        refine e_val (v := (.int ((0 : Nat) : Int))) val_c ?_
        obtain ⟨_, rfl, ix1⟩ := ix_2a (K := K) r7 w.f
        refine rv2 (z := (.int ((z8.1 : Nat) : Int))) (ix1 val_c val_c) ?_
        exact hk1 _ hW _ _ w
      intro z9 hW v5 F15 H13 s13 r9
      replace r1 := Rep.mono _ s13.g r1
      replace x4 := x4.step s13
      replace w := w.tr s13
      replace gx2 := Ex.tr gx2 s13.g
      obtain ⟨p7, u4, u5, rfl, h2, r10, r11⟩ := r9
      refine ⟨p7, _, rfl, SqT.of (w.f _ _ h2), rfl, _, _, rfl, _, _, rfl, rfl, ?_⟩
      refine hN7 _ _ ?_
      refine a_retE ?_
      refine e_tup ?_
      refine a_val (v := (.str ((PySem.Str.ofString "never")))) val_c ?_
      refine a_val (v := u4) (val_var rfl) ?_
      refine a_val (v := u5) (val_var rfl) ?_
      refine a_nil ?_
      refine n_tup3 (e := pS) (f := (pL pN)) (g := (pAlt pN (pL (pL pN)))) (x := (PySem.Str.ofString "never")) (y := z9.1) (z := (Sum.inr z9.2)) rfl r10 r11 w ?_
      intro p8 F16 H14 s14 r12
      replace r1 := Rep.mono _ s14.g r1
      replace x4 := x4.step s14
      replace r10 := Rep.mono _ s14.g r10
      replace r11 := Rep.mono _ s14.g r11
      replace w := w.tr s14
      replace gx2 := Ex.tr gx2 s14.g
      exact hQ _ hW _ _ _ w r12 x4
abbrev s_first_bit : Stmt := topS 22
def W_first_bit (answer1 : Nat) (R : Nat → Prop) : Prop := W_bits_of answer1 fun z1 => ∃ x2, z1[0]? = some x2 ∧ R x2
def sp_first_bit (K : PySem.W.Frag) (cc : Cz) : Sp := fun vs H Q _ => ∃ (F : Hp) (answer1 : Nat) (R : Nat → Prop), vs = [(.int ((answer1 : Nat) : Int))] ∧ Ex F H ∧ W_first_bit answer1 R ∧ ∀ z, R z → ∀ F' H', Wf F H F' H' → Q (.int ((z : Nat) : Int)) H'
abbrev N_first_bit : List Str := ["answer"]
theorem sc_first_bit : FnScope N_first_bit ["answer"] (defScope s_first_bit) := ⟨rfl, rfl, rfl, by decide +kernel, rfl, by decide +kernel, by decide +kernel⟩
theorem ok_first_bit {P : Program} {w0 : World} {K : PySem.W.Frag} {mg : Str → Option Value} {base : Heap} {f : Addr} {fd : FuncData} {cc : Cz} (T : Tz K mg cc) (FU : Fun K "first_bit" "first_bit" s_first_bit f fd) (hm : mg "first_bit" = some (.ref f)) (hb : Binds K fd ["answer"] []) (c_bits_of : Fn P w0 K mg base CX0 1 "bits_of" ["mask"] (sp_bits_of K cc)) : Fn P w0 K mg base CX0 2 "first_bit" ["answer"] (sp_first_bit K cc) := by
  refine ⟨f, fd, FU.ok sc_first_bit (fun vs H Q E h => ?_) (fun cdv A outer s H0 vs Q E hr h => ?_), hm, FU.kp, hb⟩
  · obtain ⟨_, _, _, rfl, _⟩ := h; rfl
  · obtain ⟨F0, answer1, R, rfl, wf, hW, hQ⟩ := h
    have nd := sc_first_bit.nd
    refine ⟨(tRet (tOp (L2.rIxL K) (tCall (sp_bits_of K cc) [] E0 (tCons (tVar 0) tNil)) (tC (.int 0)))), (pss_one (ps_ret (pe_ix ix_list (pe_fn c_bits_of (hr.mono (by decide)) rfl (pa_cons (pv 0) pa_nil)) pe_int (fun _ _ => rfl)))), ?_⟩
    have w := Wf.id wf
    refine a_retE ?_
    refine e_op ?_
    refine e_call ?_
    refine a_val (v := (.int ((answer1 : Nat) : Int))) (val_var rfl) ?_
    refine a_nil ?_
    refine ⟨F0, (answer1), _, rfl, w.f, hW, ?_⟩
    intro z1 hW p1 F1 H1 s1 x1
    replace x1 := x1.base w
    replace w := w.tr s1
    refine e_val (v := (.int ((0 : Nat) : Int))) val_c ?_
    obtain ⟨x2, hx2_1, hW⟩ := hW
    obtain ⟨_, rfl, ix1⟩ := ix_X (K := K) x1 hx2_1
    refine rv2 (z := (.int ((x2 : Nat) : Int))) (ix1 val_c val_c) ?_
    exact hQ _ hW _ _ w
abbrev s_told_apart : Stmt := topS 23
def W_told_apart (machine1 : Nat × List (Nat × Nat) × List (Nat × Nat)) (one1 : Nat) (other1 : Nat) (R : (Sum (Str × Nat × Nat) (Str × List Nat × List (List Nat))) → Prop) : Prop := W_need_state machine1 (An.i ((one1 : Nat) : Int)) False fun z1 => W_need_state machine1 (An.i ((other1 : Nat) : Int)) False fun z2 => ∀ state1 : Nat, state1 = one1 ^^^ other1 → W_Machine_stores machine1 fun z3 => (z3 < 1000000) ∧ forW (List.range z3) state1 (fun turn1 state2 nx1 bk1 => W_Machine_step machine1 (An.i ((state2 : Nat) : Int)) (An.i ((0 : Nat) : Int)) False fun z4 => if z4.1 ≠ 0 then (W_first_bit z4.1 fun z5 => R (Sum.inl ((PySem.Str.ofString "apart"), turn1, z5))) else (nx1 z4.2)) fun state2 => if one1 = other1 then (R (Sum.inr ((PySem.Str.ofString "alike"), ([] : List Nat), ([] : List (List Nat))))) else (W_closed (one1 ^^^ other1) (fun mask1 k1 => W_Machine_after machine1 [(An.i ((0 : Nat) : Int))] (An.i ((mask1 : Nat) : Int)) False fun z7 => k1 z7) fun z8 => R (Sum.inr ((PySem.Str.ofString "alike"), z8.1, z8.2)))
def sp_told_apart (K : PySem.W.Frag) (cc : Cz) : Sp := fun vs H Q _ => ∃ (F : Hp) (v1 : V) (machine1 : Nat × List (Nat × Nat) × List (Nat × Nat)) (one1 : Nat) (other1 : Nat) (R : (Sum (Str × Nat × Nat) (Str × List Nat × List (List Nat))) → Prop), vs = [v1, (.int ((one1 : Nat) : Int)), (.int ((other1 : Nat) : Int))] ∧ Ex F H ∧ (pO3 cc.Machine "inputs" "nexts" "outs" pN (pTL (pT2 pN pN)) (pTL (pT2 pN pN))).r F v1 machine1 ∧ XT (woL H [cc.t_told_apart]) F H cc.t_told_apart (("told_apart" : Str) ++ (".<locals>." : Str) ++ ("<lambda>" : Str)) ∧ W_told_apart machine1 one1 other1 R ∧ ∀ z, R z → ∀ v F' H', Wf F (woL H [cc.t_told_apart]) F' H' → (pAlt (pT3 pS pN pN) (pT3 pS (pL pN) (pL (pL pN)))).r F' v z → XT (woL H [cc.t_told_apart]) F' H' cc.t_told_apart (("told_apart" : Str) ++ (".<locals>." : Str) ++ ("<lambda>" : Str)) → Q v H'
abbrev N_told_apart : List Str := ["machine", "one", "other", "state", "turn", "answer", "states", "sums"]
theorem sc_told_apart : FnScope N_told_apart ["machine", "one", "other"] (defScope s_told_apart) := ⟨rfl, rfl, rfl, by decide +kernel, rfl, by decide +kernel, by decide +kernel⟩
theorem ok_told_apart {P : Program} {w0 : World} {K : PySem.W.Frag} {mg : Str → Option Value} {base : Heap} {f : Addr} {fd : FuncData} {cc : Cz} (T : Tz K mg cc) (FU : Fun K "told_apart" "told_apart" s_told_apart f fd) (hm : mg "told_apart" = some (.ref f)) (hb : Binds K fd ["machine", "one", "other"] []) (c_need_state : Fn P w0 K mg base (L2.CX P w0) 3 "need_state" ["machine", "state"] (sp_need_state K cc)) (c_Machine_stores : Md P w0 K mg base CX0 1 cc.Machine "stores" ["self"] (sp_Machine_stores K cc)) (c_Machine_step : Md P w0 K mg base (L2.CX P w0) 4 cc.Machine "step" ["self", "state", "row"] (sp_Machine_step K cc)) (c_first_bit : Fn P w0 K mg base CX0 2 "first_bit" ["answer"] (sp_first_bit K cc)) (c_closed : Lm P w0 K mg base 7 "closed" "first" "following" (TT_closed K cc)) (c_Machine_after : MdD P w0 K mg base (L2.CX P w0) 6 cc.Machine "after" ["self", "rows", "state"] (sp_Machine_after K cc) [.int 0]) (n_range : mg "range" = none) {m : Addr} (hcode : fd.code = .ref m) (tB : LamX.TabB base mg m cc.t_told_apart) : Fn P w0 K mg base CX0 9 "told_apart" ["machine", "one", "other"] (sp_told_apart K cc) := by
  refine ⟨f, fd, okC_0 FU hcode sc_told_apart (fun vs H Q E h => ?_) (fun cdv A outer s H0 vs Q E hcd hr h => ?_), hm, FU.kp, hb⟩
  · obtain ⟨_, _, _, _, _, _, rfl, _⟩ := h; rfl
  · obtain ⟨F0, v1, machine1, one1, other1, R, rfl, wf, r1, xt_told_apart, hW, hQ⟩ := h
    have nd := sc_told_apart.nd
    refine ⟨(tSeq (tDrop (tCall (sp_need_state K cc) [] E0 (tCons (tVar 0) (tCons (tVar 1) tNil)))) (tSeq (tDrop (tCall (sp_need_state K cc) [] E0 (tCons (tVar 0) (tCons (tVar 2) tNil)))) (tSeq (tAsg (tOp kXor (tVar 1) (tVar 2)) (gName 3)) (tSeq (tFor (iRng1 (tCons (tMeth cc.Machine "stores" (sp_Machine_stores K cc) [] E0 (tVar 0) tNil) tNil)) (gName 4) (tSeq (tAsg (tMeth cc.Machine "step" (sp_Machine_step K cc) [] E0 (tVar 0) (tCons (tVar 3) (tCons (tC (.int 0)) tNil))) (gTup K 2 (gCons (gName 5) (gCons (gName 3) gNil)))) (tIfS (tTest (tOp L2.rNe (tVar 5) (tC (.int 0)))) (tRet (tTup (tCons (tC (.str (PySem.Str.ofString "apart"))) (tCons (tVar 4) (tCons (tCall (sp_first_bit K cc) [] E0 (tCons (tVar 5) tNil)) tNil))))) tNext))) (tSeq (tIfS (tTest (tOp L2.rEq (tVar 1) (tVar 2))) (tRet (tTup (tCons (tC (.str (PySem.Str.ofString "alike"))) (tCons (tLst tNil) (tCons (tLst tNil) tNil))))) tNext) (tSeq (tAsg (tLam1 cc.t_told_apart (("told_apart" : Str) ++ (".<locals>." : Str) ++ ("<lambda>" : Str)) (TT_closed K cc (("told_apart" : Str) ++ (".<locals>." : Str) ++ ("<lambda>" : Str))) (tOp kXor (tVar 1) (tVar 2)) (fun σ v H Q => (tMeth cc.Machine "after" (sp_Machine_after K cc) [] E0 (tVar 1) (tCons (tLst (tCons (tC (.int 0)) tNil)) (tCons (tVar 0) tNil))) (some v :: capS σ [0]) H Q)) (gTup K 2 (gCons (gName 6) (gCons (gName 7) gNil)))) (tRet (tTup (tCons (tC (.str (PySem.Str.ofString "alike"))) (tCons (tVar 6) (tCons (tVar 7) tNil))))))))))), (pss_cons (ps_expr (pe_fnL c_need_state (hr.mono (by decide)) rfl (pa_cons (pv 0) (pa_cons (pv 1) pa_nil)))) (pss_cons (ps_expr (pe_fnL c_need_state (hr.mono (by decide)) rfl (pa_cons (pv 0) (pa_cons (pv 2) pa_nil)))) (pss_cons (ps_set (i := 3) nd rfl (Or.inl rfl) (pe_op op_xor (pv 1) (pv 2))) (pss_cons (ps_for PassesOwn.never rfl (pi_range1 rfl n_range (pa_cons (pe_md0 c_Machine_stores T.cl_Machine (hr.mono (by decide)) (pv 0)) pa_nil)) (pg_name (i := 4) nd rfl (Or.inl rfl)) (pss_cons (ps_asg (pe_mdL c_Machine_step T.cl_Machine (hr.mono (by decide)) (pv 0) (pa_cons (pv 3) (pa_cons pe_int pa_nil))) (pg_tup rfl (pgs_cons (pg_name (i := 5) nd rfl (Or.inl rfl)) (pgs_cons (pg_name (i := 3) nd rfl (Or.inl rfl)) pgs_nil)) (by rfl))) (pss_one (ps_if (pt_cmpR op_ne (pv 5) pe_int (nomark _)) (pss_one (ps_ret (pe_tup (pa_cons pe_str (pa_cons (pv 4) (pa_cons (pe_fn c_first_bit (hr.mono (by decide)) rfl (pa_cons (pv 5) pa_nil)) pa_nil)))))) pss_nil)))) (pss_cons (ps_if (pt_cmpR op_eq (pv 1) (pv 2) (nomark _)) (pss_one (ps_ret (pe_tup (pa_cons pe_str (pa_cons (pe_lst pa_nil) (pa_cons (pe_lst pa_nil) pa_nil)))))) pss_nil) (pss_cons (ps_asg (pe_lamcall1 (P := cc.t_told_apart) (q := (("told_apart" : Str) ++ (".<locals>." : Str))) (te0 := (tOp kXor (tVar 1) (tVar 2))) (tb := (tMeth cc.Machine "after" (sp_Machine_after K cc) [] E0 (tVar 1) (tCons (tLst (tCons (tC (.int 0)) tNil)) (tCons (tVar 0) tNil)))) (TT := TT_closed K cc) (kl := 6) (is_ := [0]) (cs := ["machine"]) c_closed (hr.mono (by decide)) rfl tB hcd (lamS1_by (by kernel_rfl)) (caps_by (by kernel_rfl)) rfl rfl (fun _ _ _ _ _ _ => rfl) (pe_op op_xor (pv 1) (pv 2)) (by decide) (fun _ _ _ _ _ _ hr => (pe_mdL c_Machine_after.full T.cl_Machine (hr.mono (by decide)) (pv 1) (pa_cons (pe_lst (pa_cons pe_int pa_nil)) (pa_cons (pv 0) pa_nil)))) rfl qual_nox) (pg_tup rfl (pgs_cons (pg_name (i := 6) nd rfl (Or.inl rfl)) (pgs_cons (pg_name (i := 7) nd rfl (Or.inl rfl)) pgs_nil)) (by rfl))) (pss_one (ps_ret (pe_tup (pa_cons pe_str (pa_cons (pv 6) (pa_cons (pv 7) pa_nil)))))))))))), ?_⟩
    have w := Wf.startL (L := [cc.t_told_apart]) wf (allL1 xt_told_apart.nF)
    generalize hH0 : woL H0 [cc.t_told_apart] = Hb at w hQ xt_told_apart
    refine q_sq fun N1 hN1 => ?_
    refine a_dropE ?_
    refine e_call ?_
    refine a_val (v := v1) (val_var rfl) ?_
    refine a_val (v := (.int ((one1 : Nat) : Int))) (val_var rfl) ?_
    refine a_nil ?_
    refine ⟨F0, (v1), (machine1), ((.int ((one1 : Nat) : Int))), ((An.i ((one1 : Nat) : Int))), _, _, rfl, w.f, r1, (show pA.r _ (.int ((one1 : Nat) : Int)) (An.i ((one1 : Nat) : Int)) from rfl), hW, ?_, ?_⟩
    · intro hW; exact hW.elim
    intro z1 hW F1 H1 s1
    replace r1 := Rep.mono _ s1.g r1
    replace xt_told_apart := xt_told_apart.step s1
    replace w := w.tr s1
    refine hN1 _ _ ?_
    refine q_sq fun N2 hN2 => ?_
    refine a_dropE ?_
    refine e_call ?_
    refine a_val (v := v1) (val_var rfl) ?_
    refine a_val (v := (.int ((other1 : Nat) : Int))) (val_var rfl) ?_
    refine a_nil ?_
    refine ⟨F1, (v1), (machine1), ((.int ((other1 : Nat) : Int))), ((An.i ((other1 : Nat) : Int))), _, _, rfl, w.f, r1, (show pA.r _ (.int ((other1 : Nat) : Int)) (An.i ((other1 : Nat) : Int)) from rfl), hW, ?_, ?_⟩
    · intro hW; exact hW.elim
    intro z2 hW F2 H2 s2
    replace r1 := Rep.mono _ s2.g r1
    replace xt_told_apart := xt_told_apart.step s2
    replace w := w.tr s2
    refine hN2 _ _ ?_
    refine q_sq fun N3 hN3 => ?_
    obtain ⟨state1, estate1⟩ : ∃ state1 : Nat, state1 = one1 ^^^ other1 := ⟨_, rfl⟩
    replace hW := hW state1 estate1
    refine a_asg (v := (.int ((state1 : Nat) : Int))) (v_eq (vn_xor (val_var rfl) (val_var rfl)) (by rw [estate1])) ?_
    refine hN3 _ _ ?_
    refine q_sq fun N4 hN4 => ?_
    refine f_RE ?_
    refine e_md ?_
    refine e_val (v := v1) (val_var rfl) ?_
    obtain ⟨p1, dx1, fs1, ev1, ho1, lm1⟩ := me_3 (m := "stores") r1 w.f
    refine ⟨_, _, _, ev1, ho1, lm1, ?_⟩
    refine a_nil ?_
    refine ⟨F2, (v1), (machine1), _, rfl, w.f, r1, hW, ?_⟩
    intro z3 hW F3 H3 s3
    replace r1 := Rep.mono _ s3.g r1
    replace xt_told_apart := xt_told_apart.step s3
    replace w := w.tr s3
    obtain ⟨c1, hW⟩ := hW
    refine w_forR (S := Nat) (fun state2 σ' F' H' => ∃ (o1 : Option V) (o2 : Option V), Wf F0 Hb F' H' ∧ Ex F3 F' ∧ σ' = [some v1, some (.int ((one1 : Nat) : Int)), some (.int ((other1 : Nat) : Int)), some (.int ((state2 : Nat) : Int)), o1, o2, none, none] ∧ XT Hb F' H' cc.t_told_apart (("told_apart" : Str) ++ (".<locals>." : Str) ++ ("<lambda>" : Str))) c1 hW ⟨_, _, w, Ex.rfl', rfl, xt_told_apart⟩ ?_ ?_
    · intro N5 Bk1 turn1 state2 σ' F4 H4 nx1 bk1 hI1 hx1 hW hN5 hB1
      obtain ⟨o1, o2, w, gx1, rfl, x1⟩ := hI1
      have r1 := Rep.mono _ gx1 r1
      refine g_name ?_
      refine q_sq fun N6 hN6 => ?_
      refine a_asgG ?_
      refine e_md ?_
      refine e_val (v := v1) (val_var rfl) ?_
      obtain ⟨p2, dx2, fs2, ev2, ho2, lm2⟩ := me_3 (m := "step") r1 w.f
      refine ⟨_, _, _, ev2, ho2, lm2, ?_⟩
      refine a_val (v := (.int ((state2 : Nat) : Int))) (val_var rfl) ?_
      refine a_val (v := (.int ((0 : Nat) : Int))) val_c ?_
      refine a_nil ?_
      refine ⟨F4, (v1), (machine1), ((.int ((state2 : Nat) : Int))), ((An.i ((state2 : Nat) : Int))), ((.int ((0 : Nat) : Int))), ((An.i ((0 : Nat) : Int))), _, _, rfl, w.f, r1, (show pA.r _ (.int ((state2 : Nat) : Int)) (An.i ((state2 : Nat) : Int)) from rfl), (show pA.r _ (.int ((0 : Nat) : Int)) (An.i ((0 : Nat) : Int)) from rfl), hW, ?_, ?_⟩
      · intro hW; exact hW.elim
      intro z4 hW v2 F5 H5 s5 r2
      replace r1 := Rep.mono _ s5.g r1
      replace x1 := x1.step s5
      replace w := w.tr s5
      replace gx1 := Ex.tr gx1 s5.g
      obtain ⟨p3, u2, u3, rfl, h1, rfl, rfl⟩ := r2
      refine ⟨p3, _, rfl, SqT.of (w.f _ _ h1), rfl, _, _, rfl, _, _, rfl, rfl, ?_⟩
      refine hN6 _ _ ?_
      refine a_ifE ?_
      refine e_ans (b := decide (z4.1 ≠ 0)) (t_of (vb_dec (c_neI (val_var rfl) val_c) n_ne)) ?_
      refine b_if (fun hc1 => ?_) (fun hc1 => ?_)
      · have hW := ifP hW hc1
        refine a_retE ?_
        refine e_tup ?_
        refine a_val (v := (.str ((PySem.Str.ofString "apart")))) val_c ?_
        refine a_val (v := (.int ((turn1 : Nat) : Int))) (val_var rfl) ?_
        refine a_cons ?_
        refine e_call ?_
        refine a_val (v := (.int ((z4.1 : Nat) : Int))) (val_var rfl) ?_
        refine a_nil ?_
        refine ⟨F5, (z4.1), _, rfl, w.f, hW, ?_⟩
        intro z5 hW F6 H6 s6
        replace r1 := Rep.mono _ s6.g r1
        replace x1 := x1.step s6
        replace w := w.tr s6
        replace gx1 := Ex.tr gx1 s6.g
        refine a_nil ?_
        refine n_tup3 (e := pS) (f := pN) (g := pN) (x := (PySem.Str.ofString "apart")) (y := turn1) (z := z5) rfl rfl rfl w ?_
        intro p4 F7 H7 s7 r3
        replace r1 := Rep.mono _ s7.g r1
        replace x1 := x1.step s7
        replace w := w.tr s7
        replace gx1 := Ex.tr gx1 s7.g
        exact hQ (Sum.inl ((PySem.Str.ofString "apart"), turn1, z5)) hW _ _ _ w r3 x1
      · have hW := ifN hW hc1
        exact hN5 z4.2 _ _ _ ⟨_, _, w, gx1, rfl, x1⟩ hW
    · intro state2 σ' F8 H8 hI2 hW
      obtain ⟨o1, o2, w, gx2, rfl, x1⟩ := hI2
      have r1 := Rep.mono _ gx2 r1
      refine hN4 _ _ ?_
      refine q_sq fun N7 hN7 => ?_
      refine a_ifE ?_
      refine e_ans (b := decide (one1 = other1)) (t_of (vb_dec (c_eqI (val_var rfl) (val_var rfl)) n_eq)) ?_
      refine b_if (fun hc2 => ?_) (fun hc2 => ?_)
      · have hW := ifP hW hc2
        refine a_retE ?_
        refine e_tup ?_
        refine a_val (v := (.str ((PySem.Str.ofString "alike")))) val_c ?_
        refine a_cons ?_
        refine e_lst ?_
        refine a_nil ?_
        refine n_lstX (e := pN) (xs := []) (vs := []) (show All pN _ [] [] from trivial) (show 0 < 1000000 from by decide) w ?_
        intro p5 H9 hp1 s9 x2
        have ne1 := x1.ne hp1
        replace r1 := Rep.mono _ s9.g r1
        replace x1 := x1.step s9
        replace w := w.tr s9
        replace gx2 := Ex.tr gx2 s9.g
        refine a_cons ?_
        refine e_lst ?_
        refine a_nil ?_
        refine n_lstX (e := (pL pN)) (xs := []) (vs := []) (show All (pL pN) _ [] [] from trivial) (show 0 < 1000000 from by decide) w ?_
        intro p6 H10 hp2 s10 x3
        have ne2 := x1.ne hp2
        have ne3 := x2.ne hp2
        replace r1 := Rep.mono _ s10.g r1
        replace x1 := x1.step s10
        replace x2 := x2.step s10
        replace w := w.tr s10
        replace gx2 := Ex.tr gx2 s10.g
        refine a_nil ?_
        obtain ⟨F9, w1, g1, r4, fz1⟩ := x2.frzE w
        replace r1 := Rep.mono _ g1 r1
        replace x1 := x1.frzO fz1 ne1 g1
        replace x3 := x3.frzO fz1 (Ne.symm ne3) g1
        replace w := w1
        replace gx2 := Ex.tr gx2 g1
        obtain ⟨F10, w2, g2, r5, fz2⟩ := x3.frzE w
        replace r1 := Rep.mono _ g2 r1
        replace x1 := x1.frzO fz2 ne2 g2
        replace r4 := Rep.mono _ g2 r4
        replace w := w2
        replace gx2 := Ex.tr gx2 g2
        refine n_tup3 (e := pS) (f := (pL pN)) (g := (pL (pL pN))) (x := (PySem.Str.ofString "alike")) (y := ([] : List Nat)) (z := ([] : List (List Nat))) rfl r4 r5 w ?_
        intro p7 F11 H11 s11 r6
        replace r1 := Rep.mono _ s11.g r1
        replace x1 := x1.step s11
        replace r4 := Rep.mono _ s11.g r4
        replace r5 := Rep.mono _ s11.g r5
        replace w := w.tr s11
        replace gx2 := Ex.tr gx2 s11.g
        exact hQ (Sum.inr ((PySem.Str.ofString "alike"), ([] : List Nat), ([] : List (List Nat)))) hW _ _ _ w r6 x1
      · have hW := ifN hW hc2
        refine hN7 _ _ ?_
        refine q_sq fun N8 hN8 => ?_
        refine a_asgG ?_
        refine t_lam1 x1 w (vn_xor (val_var rfl) (val_var rfl)) (fun c2 F12 H12 s12 x4 hc3 => ?_)
        have z6 := x1.zero
        replace w := w.mcall (L := [cc.t_told_apart]) (allL1 z6) s12 (allL1 x4.nF)
        replace r1 := Rep.mono _ s12.g r1
        replace gx2 := Ex.tr gx2 s12.g
        replace x4 := XT.fromL x4 z6
        refine ⟨F12, (one1 ^^^ other1), _, _, rfl, w.f, hc3, ?_, hW, ?_⟩
        · intro F13 H13 mask1 k1 Q1 g3 f1 hW hk1
          have r1 := Rep.mono _ g3 r1
          have w := Wf.id f1
          refine e_md ?_
          refine e_val (v := v1) (val_var rfl) ?_
          obtain ⟨p8, dx3, fs3, ev3, ho3, lm3⟩ := me_3 (m := "after") r1 w.f
          refine ⟨_, _, _, ev3, ho3, lm3, ?_⟩
          refine a_cons ?_
          refine e_lst ?_
          refine a_val (v := (.int ((0 : Nat) : Int))) val_c ?_
          refine a_nil ?_
          refine n_lstX (e := pA) (xs := [(An.i ((0 : Nat) : Int))]) (vs := [(.int ((0 : Nat) : Int))]) (show All pA _ [(.int ((0 : Nat) : Int))] [(An.i ((0 : Nat) : Int))] from ⟨(show pA.r _ (.int ((0 : Nat) : Int)) (An.i ((0 : Nat) : Int)) from rfl), trivial⟩) (show 1 < 1000000 from by decide) w ?_
          intro p9 H14 hp3 s13 x5
          replace r1 := Rep.mono _ s13.g r1
          replace w := w.tr s13
          refine a_val (v := (.int ((mask1 : Nat) : Int))) (val_var rfl) ?_
          refine a_nil ?_
          obtain ⟨F14, w3, g4, r7, fz3⟩ := x5.frzE w
          replace r1 := Rep.mono _ g4 r1
          replace w := w3
          refine ⟨F14, (v1), (machine1), ((.ref p9)), ([(An.i ((0 : Nat) : Int))]), ((.int ((mask1 : Nat) : Int))), ((An.i ((mask1 : Nat) : Int))), _, _, rfl, w.f, r1, r7, (show pA.r _ (.int ((mask1 : Nat) : Int)) (An.i ((mask1 : Nat) : Int)) from rfl), hW, ?_, ?_⟩
          · intro hW; exact hW.elim
          intro z7 hW F15 H15 s14
          replace r1 := Rep.mono _ s14.g r1
          replace r7 := Rep.mono _ s14.g r7
          replace w := w.tr s14
          exact hk1 _ hW _ _ w
        intro z8 hW v3 F16 H16 s15 r8
        replace r1 := Rep.mono _ s15.g r1
        replace x4 := x4.step s15
        replace w := w.tr s15
        replace gx2 := Ex.tr gx2 s15.g
        obtain ⟨p10, u4, u5, rfl, h2, r9, r10⟩ := r8
        refine ⟨p10, _, rfl, SqT.of (w.f _ _ h2), rfl, _, _, rfl, _, _, rfl, rfl, ?_⟩
        refine hN8 _ _ ?_
        refine a_retE ?_
        refine e_tup ?_
        refine a_val (v := (.str ((PySem.Str.ofString "alike")))) val_c ?_
        refine a_val (v := u4) (val_var rfl) ?_
        refine a_val (v := u5) (val_var rfl) ?_
        refine a_nil ?_
        refine n_tup3 (e := pS) (f := (pL pN)) (g := (pL (pL pN))) (x := (PySem.Str.ofString "alike")) (y := z8.1) (z := z8.2) rfl r9 r10 w ?_
        intro p11 F17 H17 s16 r11
        replace r1 := Rep.mono _ s16.g r1
        replace x4 := x4.step s16
        replace r9 := Rep.mono _ s16.g r9
        replace r10 := Rep.mono _ s16.g r10
        replace w := w.tr s16
        replace gx2 := Ex.tr gx2 s16.g
        exact hQ (Sum.inr ((PySem.Str.ofString "alike"), z8.1, z8.2)) hW _ _ _ w r11 x4
abbrev s_brought : Stmt := topS 24
def W_brought (machine1 : Nat × List (Nat × Nat) × List (Nat × Nat)) (start1 : An) (wish1 : An) (turns1 : An) (E_BadMask : Prop) (E_BadRow : Prop) (R : (Str × (Sum (List Nat) (Nat))) → Prop) : Prop := W_need_state machine1 start1 (E_BadMask) fun z1 => W_need_state machine1 wish1 (E_BadMask) fun z2 => ∃ y1 : Nat, wish1 = An.i ((y1 : Nat) : Int) ∧ jn (fun kk => W_is_whole turns1 fun z3 => if z3 = true then (∃ y2 : Int, turns1 = An.i y2 ∧ kk (decide (¬ (((0 : Nat) : Int) ≤ y2 ∧ y2 ≤ ((40 : Nat) : Int))))) else (kk true)) fun b1 => if b1 = true then (E_BadRow) else (∃ y3 : Nat, turns1 = An.i ((y3 : Nat) : Int) ∧ ([0].length * y3 < 1000000 ∧ y3 < 1000000) ∧ W_Machine_after machine1 (((List.replicate y3 [0]).flatten).map anN) start1 (E_BadMask) fun z4 => ∀ left1 : Nat, left1 = y1 ^^^ z4 → W_Machine_stores machine1 fun z5 => ∀ late1 : Nat, late1 = min y3 z5 → W_reached_by machine1 late1 (E_BadMask) fun z6 => W_sum_for z6 left1 fun z7 => if z7.1 = (PySem.Str.ofString "no") then (∃ y4 : Nat, z7.2 = Sum.inr y4 ∧ W_within machine1 y4 fun z8 => R ((PySem.Str.ofString "no"), (Sum.inr z8))) else ((late1 ≤ y3) ∧ ([0].length * (y3 - late1) < 1000000 ∧ y3 - late1 < 1000000) ∧ ∃ y5, z7.2 = Sum.inl y5 ∧ W_rows_at machine1 y5 late1 fun z9 => (((List.replicate (y3 - late1) [0]).flatten).length + z9.length < 1000000) ∧ R ((PySem.Str.ofString "rows"), (Sum.inl (((List.replicate (y3 - late1) [0]).flatten) ++ z9)))))
def sp_brought (K : PySem.W.Frag) (cc : Cz) : Sp := fun vs H Q E => ∃ (F : Hp) (v1 : V) (machine1 : Nat × List (Nat × Nat) × List (Nat × Nat)) (v2 : V) (start1 : An) (v3 : V) (wish1 : An) (v4 : V) (turns1 : An) (E_BadMask : Prop) (E_BadRow : Prop) (R : (Str × (Sum (List Nat) (Nat))) → Prop), vs = [v1, v2, v3, v4] ∧ Ex F H ∧ (pO3 cc.Machine "inputs" "nexts" "outs" pN (pTL (pT2 pN pN)) (pTL (pT2 pN pN))).r F v1 machine1 ∧ pA.r F v2 start1 ∧ pA.r F v3 wish1 ∧ pA.r F v4 turns1 ∧ W_brought machine1 start1 wish1 turns1 E_BadMask E_BadRow R ∧ (E_BadMask → ∀ F' H', Wf F H F' H' → E (.ref cc.BadMask) none H') ∧ (E_BadRow → ∀ F' H', Wf F H F' H' → E (.ref cc.BadRow) none H') ∧ ∀ z, R z → ∀ v F' H', Wf F H F' H' → Fre H (pT2 pS (pAlt (pL pN) pN)) F' v z → Q v H'
abbrev N_brought : List Str := ["machine", "start", "wish", "turns", "left", "late", "word", "found"]
theorem sc_brought : FnScope N_brought ["machine", "start", "wish", "turns"] (defScope s_brought) := ⟨rfl, rfl, rfl, by decide +kernel, rfl, by decide +kernel, by decide +kernel⟩
theorem ok_brought {P : Program} {w0 : World} {K : PySem.W.Frag} {mg : Str → Option Value} {base : Heap} {f : Addr} {fd : FuncData} {cc : Cz} (T : Tz K mg cc) (FU : Fun K "brought" "brought" s_brought f fd) (hm : mg "brought" = some (.ref f)) (hb : Binds K fd ["machine", "start", "wish", "turns"] []) (c_need_state : Fn P w0 K mg base (L2.CX P w0) 3 "need_state" ["machine", "state"] (sp_need_state K cc)) (c_is_whole : Fn P w0 K mg base CX0 1 "is_whole" ["thing"] (sp_is_whole K cc)) (c_Machine_after : MdD P w0 K mg base (L2.CX P w0) 6 cc.Machine "after" ["self", "rows", "state"] (sp_Machine_after K cc) [.int 0]) (c_Machine_stores : Md P w0 K mg base CX0 1 cc.Machine "stores" ["self"] (sp_Machine_stores K cc)) (c_reached_by : Fn P w0 K mg base (L2.CX P w0) 7 "reached_by" ["machine", "turns"] (sp_reached_by K cc)) (c_sum_for : Fn P w0 K mg base CX0 4 "sum_for" ["rows", "wish"] (sp_sum_for K cc)) (c_within : Fn P w0 K mg base CX0 2 "within" ["machine", "mask"] (sp_within K cc)) (c_rows_at : Fn P w0 K mg base CX0 1 "rows_at" ["machine", "places", "turns"] (sp_rows_at K cc)) (n_min : mg "min" = none) : Fn P w0 K mg base (L2.CX P w0) 8 "brought" ["machine", "start", "wish", "turns"] (sp_brought K cc) := by
  refine ⟨f, fd, FU.okX sc_brought (fun vs H Q E h => ?_) (fun cdv A outer s H0 vs Q E hr h => ?_), hm, FU.kp, hb⟩
  · obtain ⟨_, _, _, _, _, _, _, _, _, _, _, _, rfl, _⟩ := h; rfl
  · obtain ⟨F0, v1, machine1, v2, start1, v3, wish1, v4, turns1, E_BadMask, E_BadRow, R, rfl, wf, r1, r2, r3, r4, hW, hE_BadMask, hE_BadRow, hQ⟩ := h
    have nd := sc_brought.nd
    refine ⟨(tSeq (tDrop (tCallS (sp_need_state K cc) (WE (fun cls d _ H => E cls d H)) (tCons (tVar 0) (tCons (tVar 1) tNil)))) (tSeq (tDrop (tCallS (sp_need_state K cc) (WE (fun cls d _ H => E cls d H)) (tCons (tVar 0) (tCons (tVar 2) tNil)))) (tSeq (tIfS (tOr (tNot (tB (tCall (sp_is_whole K cc) [] E0 (tCons (tVar 3) tNil)))) (tNot (tTest (tChain kLe kLe (tC (.int 0)) (tVar 3) (tC (.int 40)))))) (tRaise (fun cls d _ H => E cls d H) cc.BadRow) tNext) (tSeq (tAsg (tOp kXor (tVar 2) (tMdS cc.Machine "after" (sp_Machine_after K cc) (WE (fun cls d _ H => E cls d H)) (tVar 0) (tCons (tOp L2.rRep (tLst (tCons (tC (.int 0)) tNil)) (tVar 3)) (tCons (tVar 1) tNil)))) (gName 4)) (tSeq (tAsg (tCB rMin2 (tCons (tVar 3) (tCons (tMeth cc.Machine "stores" (sp_Machine_stores K cc) [] E0 (tVar 0) tNil) tNil))) (gName 5)) (tSeq (tAsg (tCall (sp_sum_for K cc) [] E0 (tCons (tCallS (sp_reached_by K cc) (WE (fun cls d _ H => E cls d H)) (tCons (tVar 0) (tCons (tVar 5) tNil))) (tCons (tVar 4) tNil))) (gTup K 2 (gCons (gName 6) (gCons (gName 7) gNil)))) (tSeq (tIfS (tTest (tOp L2.rEq (tVar 6) (tC (.str (PySem.Str.ofString "no"))))) (tRet (tTup (tCons (tC (.str (PySem.Str.ofString "no"))) (tCons (tCall (sp_within K cc) [] E0 (tCons (tVar 0) (tCons (tVar 7) tNil))) tNil)))) tNext) (tRet (tTup (tCons (tC (.str (PySem.Str.ofString "rows"))) (tCons (tOp L2.rCat (tOp L2.rRep (tLst (tCons (tC (.int 0)) tNil)) (tOp kSub (tVar 3) (tVar 5))) (tCall (sp_rows_at K cc) [] E0 (tCons (tVar 0) (tCons (tVar 7) (tCons (tVar 5) tNil))))) tNil))))))))))), (pss_cons (ps_expr (pe_fnS (W := (fun cls d _ H => E cls d H)) c_need_state (takes_of rfl rfl rfl rfl) (hr.mono (by decide)) rfl (pa_cons (pv 0) (pa_cons (pv 1) pa_nil)))) (pss_cons (ps_expr (pe_fnS (W := (fun cls d _ H => E cls d H)) c_need_state (takes_of rfl rfl rfl rfl) (hr.mono (by decide)) rfl (pa_cons (pv 0) (pa_cons (pv 2) pa_nil)))) (pss_cons (ps_if (PW.pt (pw_or (pt_not (pt_val (pe_fn c_is_whole (hr.mono (by decide)) rfl (pa_cons (pv 3) pa_nil)))) (pw_or1 (pt_not (pt_chain op_le op_le pe_int (pv 3) (pe_globE T.gl_MOST_TURNS rfl)))))) (pss_one (ps_raise (W := (fun cls d _ H => E cls d H)) rfl (takes_of rfl rfl rfl rfl) (pmk_own PySem.F.excBase_ValueError T.xc_BadRow.x T.xc_BadRow.g T.xc_BadRow.k (raises_own T.xc_BadRow.b T.xc_BadRow.t) (by exact rfl)))) pss_nil) (pss_cons (ps_set (i := 4) nd rfl (Or.inl rfl) (pe_op op_xor (pv 2) (pe_mdS (W := (fun cls d _ H => E cls d H)) c_Machine_after.full (takes_of rfl rfl rfl rfl) T.cl_Machine (hr.mono (by decide)) (pv 0) (pa_cons (pe_op op_rep (pe_lst (pa_cons pe_int pa_nil)) (pv 3)) (pa_cons (pv 1) pa_nil))))) (pss_cons (ps_set (i := 5) nd rfl (Or.inl rfl) (pe_callB (call_min2 rfl) (by rfl) n_min PyProof.Rows.boot_min (pa_cons (pv 3) (pa_cons (pe_md0 c_Machine_stores T.cl_Machine (hr.mono (by decide)) (pv 0)) pa_nil)))) (pss_cons (ps_asg (pe_fn c_sum_for (hr.mono (by decide)) rfl (pa_cons (pe_fnS (W := (fun cls d _ H => E cls d H)) c_reached_by (takes_of rfl rfl rfl rfl) (hr.mono (by decide)) rfl (pa_cons (pv 0) (pa_cons (pv 5) pa_nil))) (pa_cons (pv 4) pa_nil))) (pg_tup rfl (pgs_cons (pg_name (i := 6) nd rfl (Or.inl rfl)) (pgs_cons (pg_name (i := 7) nd rfl (Or.inl rfl)) pgs_nil)) (by rfl))) (pss_cons (ps_if (pt_cmpR op_eq (pv 6) pe_str (nomark _)) (pss_one (ps_ret (pe_tup (pa_cons pe_str (pa_cons (pe_fn c_within (hr.mono (by decide)) rfl (pa_cons (pv 0) (pa_cons (pv 7) pa_nil))) pa_nil))))) pss_nil) (pss_one (ps_ret (pe_tup (pa_cons pe_str (pa_cons (pe_op op_cat (pe_op op_rep (pe_lst (pa_cons pe_int pa_nil)) (pe_op op_sub (pv 3) (pv 5))) (pe_fn c_rows_at (hr.mono (by decide)) rfl (pa_cons (pv 0) (pa_cons (pv 7) (pa_cons (pv 5) pa_nil))))) pa_nil)))))))))))), ?_⟩
    have w := Wf.id wf
    refine q_sq fun N1 hN1 => ?_
    refine a_dropE ?_
    refine e_callS ?_
    refine a_val (v := v1) (val_var rfl) ?_
    refine a_val (v := v2) (val_var rfl) ?_
    refine a_nil ?_
    refine ⟨F0, (v1), (machine1), (v2), (start1), _, _, rfl, w.f, r1, r2, hW, ?_, ?_⟩
    · intro hW F1 H1 s1
      replace r1 := Rep.mono _ s1.g r1
      replace r2 := Rep.mono _ s1.g r2
      replace r3 := Rep.mono _ s1.g r3
      replace r4 := Rep.mono _ s1.g r4
      replace w := w.tr s1
      exact hE_BadMask hW _ _ w
    intro z1 hW F2 H2 s2
    replace r1 := Rep.mono _ s2.g r1
    replace r2 := Rep.mono _ s2.g r2
    replace r3 := Rep.mono _ s2.g r3
    replace r4 := Rep.mono _ s2.g r4
    replace w := w.tr s2
    refine hN1 _ _ ?_
    refine q_sq fun N2 hN2 => ?_
    refine a_dropE ?_
    refine e_callS ?_
    refine a_val (v := v1) (val_var rfl) ?_
    refine a_val (v := v3) (val_var rfl) ?_
    refine a_nil ?_
    refine ⟨F2, (v1), (machine1), (v3), (wish1), _, _, rfl, w.f, r1, r3, hW, ?_, ?_⟩
    · intro hW F3 H3 s3
      replace r1 := Rep.mono _ s3.g r1
      replace r2 := Rep.mono _ s3.g r2
      replace r3 := Rep.mono _ s3.g r3
      replace r4 := Rep.mono _ s3.g r4
      replace w := w.tr s3
      exact hE_BadMask hW _ _ w
    intro z2 hW F4 H4 s4
    replace r1 := Rep.mono _ s4.g r1
    replace r2 := Rep.mono _ s4.g r2
    replace r3 := Rep.mono _ s4.g r3
    replace r4 := Rep.mono _ s4.g r4
    replace w := w.tr s4
    obtain ⟨y1, hy1, hW⟩ := hW
    obtain rfl : v3 = .int ((y1 : Nat) : Int) := an_i r3 hy1
    refine hN2 _ _ ?_
    refine q_sq fun N3 hN3 => ?_
    refine a_ifE ?_
    refine e_jnT hW (fun b F' H' => b = b ∧ Wf F0 H0 F' H' ∧ Ex F4 F') ?_ ?_
    · intro N4 hN4 hW
      have gx1 : Ex F4 F4 := Ex.rfl'
      refine e_tOr ?_
      refine e_tNot ?_
      refine e_tB ?_
      refine e_call ?_
      refine a_val (v := v4) (val_var rfl) ?_
      refine a_nil ?_
      refine ⟨F4, (v4), (turns1), _, rfl, w.f, r4, hW, ?_⟩
      intro z3 hW F5 H5 s5
      replace r1 := Rep.mono _ s5.g r1
      replace r2 := Rep.mono _ s5.g r2
      replace r4 := Rep.mono _ s5.g r4
      replace w := w.tr s5
      replace gx1 := Ex.tr gx1 s5.g
      refine bl_v ?_
      refine bb_ifn (fun hc1 => ?_) (fun hc1 => ?_)
      · have hW := ifP hW hc1
        obtain ⟨y2, hy2, hW⟩ := hW
        have hv1 := an_i r4 hy2
        refine e_ans (b := decide (¬ (((0 : Nat) : Int) ≤ y2 ∧ y2 ≤ ((40 : Nat) : Int)))) (t_not (t_of (vb_of (v_chain (b1 := decide (((0 : Nat) : Int) ≤ y2)) (b2 := decide (y2 ≤ ((40 : Nat) : Int))) (x := (.int ((0 : Nat) : Int))) (y := (.int (y2))) (z := (.int ((40 : Nat) : Int))) val_c (v_eq (val_var rfl) hv1) val_c (fun Q k => rv2 (c_le val_c val_c) k) (fun Q k => rv2 (c_le val_c val_c) k)) dec_and))) ?_
        exact hN4 (decide (¬ (((0 : Nat) : Int) ≤ y2 ∧ y2 ≤ ((40 : Nat) : Int)))) _ _ ⟨rfl, w, gx1⟩ hW
      · have hW := ifN hW hc1
        exact hN4 true _ _ ⟨rfl, w, gx1⟩ hW
    intro b1 F6 H6 hI1 hW
    obtain ⟨_, w, gx2⟩ := hI1
    have r1 := Rep.mono _ gx2 r1
    have r2 := Rep.mono _ gx2 r2
    have r4 := Rep.mono _ gx2 r4
    refine bb_if (fun hc2 => ?_) (fun hc2 => ?_)
    · have hW := ifP hW hc2
      refine a_raise ?_
      exact hE_BadRow hW _ _ w
    · have hW := ifN hW hc2
      obtain ⟨y3, hy3, hW⟩ := hW
      obtain rfl : v4 = .int ((y3 : Nat) : Int) := an_i r4 hy3
      refine hN3 _ _ ?_
      refine q_sq fun N5 hN5 => ?_
      refine a_asgE ?_
      refine e_op ?_
      refine e_val (v := (.int ((y1 : Nat) : Int))) (val_var rfl) ?_
      refine e_mdS ?_
      refine e_val (v := v1) (val_var rfl) ?_
      obtain ⟨p1, dx1, fs1, ev1, ho1, lm1⟩ := me_3 (m := "after") r1 w.f
      refine ⟨_, _, _, ev1, ho1, lm1, ?_⟩
      refine a_cons ?_
      refine e_op ?_
      refine e_lst ?_
      refine a_val (v := (.int ((0 : Nat) : Int))) val_c ?_
      refine a_nil ?_
      refine n_lstX (e := pN) (xs := [0]) (vs := [(.int ((0 : Nat) : Int))]) (show All pN _ [(.int ((0 : Nat) : Int))] [0] from ⟨rfl, trivial⟩) (show 1 < 1000000 from by decide) w ?_
      intro p2 H7 hp1 s6 x1
      replace r1 := Rep.mono _ s6.g r1
      replace r2 := Rep.mono _ s6.g r2
      replace w := w.tr s6
      refine e_val (v := (.int ((y3 : Nat) : Int))) (val_var rfl) ?_
      obtain ⟨F7, w1, g1, r5, fz1⟩ := x1.frzE w
      replace r1 := Rep.mono _ g1 r1
      replace r2 := Rep.mono _ g1 r2
      replace w := w1
      obtain ⟨c1, hW⟩ := hW
      refine n_rep (n := y3) r5 w c1.1 c1.2 ?_
      intro p3 H8 hp2 s7 x2
      replace r1 := Rep.mono _ s7.g r1
      replace r2 := Rep.mono _ s7.g r2
      replace r5 := Rep.mono _ s7.g r5
      replace w := w.tr s7
      refine a_val (v := v2) (val_var rfl) ?_
      refine a_nil ?_
      obtain ⟨F8, w2, g2, r6, fz2⟩ := x2.frzE w
      replace r1 := Rep.mono _ g2 r1
      replace r2 := Rep.mono _ g2 r2
      replace r5 := Rep.mono _ g2 r5
      replace w := w2
      have r7 := L_any r6
      refine ⟨F8, (v1), (machine1), ((.ref p3)), ((((List.replicate y3 [0]).flatten).map anN)), (v2), (start1), _, _, rfl, w.f, r1, r7, r2, hW, ?_, ?_⟩
      · intro hW F9 H9 s8
        replace r1 := Rep.mono _ s8.g r1
        replace r2 := Rep.mono _ s8.g r2
        replace r5 := Rep.mono _ s8.g r5
        replace r6 := Rep.mono _ s8.g r6
        replace w := w.tr s8
        exact hE_BadMask hW _ _ w
      intro z4 hW F10 H10 s9
      replace r1 := Rep.mono _ s9.g r1
      replace r2 := Rep.mono _ s9.g r2
      replace r5 := Rep.mono _ s9.g r5
      replace r6 := Rep.mono _ s9.g r6
      replace w := w.tr s9
      refine rv2 (z := (.int ((y1 ^^^ z4 : Nat) : Int))) (vn_xor val_c val_c) ?_
      obtain ⟨left1, eleft1⟩ : ∃ left1 : Nat, left1 = y1 ^^^ z4 := ⟨_, rfl⟩
      replace hW := hW left1 eleft1
      refine nx_set (v := (.int ((left1 : Nat) : Int))) (by rw [eleft1]) ?_
      refine hN5 _ _ ?_
      refine q_sq fun N6 hN6 => ?_
      refine a_asgE ?_
      refine e_cb ?_
      refine a_val (v := (.int ((y3 : Nat) : Int))) (val_var rfl) ?_
      refine a_cons ?_
      refine e_md ?_
      refine e_val (v := v1) (val_var rfl) ?_
      obtain ⟨p4, dx2, fs2, ev2, ho2, lm2⟩ := me_3 (m := "stores") r1 w.f
      refine ⟨_, _, _, ev2, ho2, lm2, ?_⟩
      refine a_nil ?_
      refine ⟨F10, (v1), (machine1), _, rfl, w.f, r1, hW, ?_⟩
      intro z5 hW F11 H11 s10
      replace r1 := Rep.mono _ s10.g r1
      replace r2 := Rep.mono _ s10.g r2
      replace w := w.tr s10
      refine a_nil ?_
      refine rcb2 (z := (.int ((min y3 z5 : Nat) : Int))) (vn_min2 val_c val_c) ?_
      obtain ⟨late1, elate1⟩ : ∃ late1 : Nat, late1 = min y3 z5 := ⟨_, rfl⟩
      replace hW := hW late1 elate1
      refine nx_set (v := (.int ((late1 : Nat) : Int))) (by rw [elate1]) ?_
      refine hN6 _ _ ?_
      refine q_sq fun N7 hN7 => ?_
      refine a_asgG ?_
      refine e_call ?_
      refine a_cons ?_
      refine e_callS ?_
      refine a_val (v := v1) (val_var rfl) ?_
      refine a_val (v := (.int ((late1 : Nat) : Int))) (val_var rfl) ?_
      refine a_nil ?_
      refine ⟨F11, (v1), (machine1), (late1), _, _, rfl, w.f, r1, hW, ?_, ?_⟩
      · intro hW F12 H12 s11
        replace r1 := Rep.mono _ s11.g r1
        replace r2 := Rep.mono _ s11.g r2
        replace w := w.tr s11
        exact hE_BadMask hW _ _ w
      intro z6 hW p5 F13 H13 s12 x3
      replace x3 := x3.base w
      replace r1 := Rep.mono _ s12.g r1
      replace r2 := Rep.mono _ s12.g r2
      replace w := w.tr s12
      refine a_val (v := (.int ((left1 : Nat) : Int))) (val_var rfl) ?_
      refine a_nil ?_
      obtain ⟨Fl1, lf1, lg1, lr1⟩ := x3.lend w
      refine ⟨Fl1, ((.ref p5)), (z6), (left1), _, rfl, lf1, lr1, hW, ?_⟩
      intro z7 hW v5 F14 H14 s13 fr1
      obtain ⟨F15, s14, r8⟩ := Fre.back w.f lg1 s13 fr1
      replace r1 := Rep.mono _ s14.g r1
      replace r2 := Rep.mono _ s14.g r2
      replace x3 := x3.step s14
      replace w := w.tr s14
      obtain ⟨p6, u1, u2, rfl, h1, rfl, r9⟩ := r8
      refine ⟨p6, _, rfl, SqT.of (w.f _ _ h1), rfl, _, _, rfl, _, _, rfl, rfl, ?_⟩
      refine hN7 _ _ ?_
      refine q_sq fun N8 hN8 => ?_
      refine a_ifE ?_
      refine e_ans (b := decide (z7.1 = (PySem.Str.ofString "no"))) (t_of (c_eqS (val_var rfl) val_c)) ?_
      refine b_if (fun hc3 => ?_) (fun hc3 => ?_)
      · have hW := ifP hW hc3
        refine a_retE ?_
        refine e_tup ?_
        refine a_val (v := (.str ((PySem.Str.ofString "no")))) val_c ?_
        refine a_cons ?_
        refine e_call ?_
        refine a_val (v := v1) (val_var rfl) ?_
        obtain ⟨y4, hy4, hW⟩ := hW
        have hv2 := alt_n r9 hy4
        refine a_val (v := (.int ((y4 : Nat) : Int))) (v_eq (val_var rfl) hv2) ?_
        refine a_nil ?_
        refine ⟨F15, (v1), (machine1), (y4), _, rfl, w.f, r1, hW, ?_⟩
        intro z8 hW F16 H15 s15
        replace r1 := Rep.mono _ s15.g r1
        replace r2 := Rep.mono _ s15.g r2
        replace r9 := Rep.mono _ s15.g r9
        replace w := w.tr s15
        refine a_nil ?_
        refine n_fre2 (e := pS) (f := (pAlt (pL pN) pN)) (x := (PySem.Str.ofString "no")) (y := (Sum.inr z8)) w (show Fre H0 pS _ _ (PySem.Str.ofString "no") from rfl) (show Fre H0 (pAlt (pL pN) pN) _ _ (Sum.inr z8) from rfl) ?_
        intro p7 F17 H16 s16 r10
        replace r1 := Rep.mono _ s16.g r1
        replace r2 := Rep.mono _ s16.g r2
        replace r9 := Rep.mono _ s16.g r9
        replace w := w.tr s16
        exact hQ _ hW _ _ _ w r10
      · have hW := ifN hW hc3
        refine hN8 _ _ ?_
        refine a_retE ?_
        refine e_tup ?_
        refine a_val (v := (.str ((PySem.Str.ofString "rows")))) val_c ?_
        refine a_cons ?_
        refine e_op ?_
        refine e_op ?_
        refine e_lst ?_
        refine a_val (v := (.int ((0 : Nat) : Int))) val_c ?_
        refine a_nil ?_
        refine n_lstX (e := pN) (xs := [0]) (vs := [(.int ((0 : Nat) : Int))]) (show All pN _ [(.int ((0 : Nat) : Int))] [0] from ⟨rfl, trivial⟩) (show 1 < 1000000 from by decide) w ?_
        intro p8 H17 hp3 s17 x4
        replace r1 := Rep.mono _ s17.g r1
        replace r2 := Rep.mono _ s17.g r2
        replace r9 := Rep.mono _ s17.g r9
        replace w := w.tr s17
        obtain ⟨c2, hW⟩ := hW
        refine e_val (v := (.int ((y3 - late1 : Nat) : Int))) (vn_sub (val_var rfl) (val_var rfl) c2) ?_
        obtain ⟨F18, w3, g3, r11, fz3⟩ := x4.frzE w
        replace r1 := Rep.mono _ g3 r1
        replace r2 := Rep.mono _ g3 r2
        replace r9 := Rep.mono _ g3 r9
        replace w := w3
        obtain ⟨c3, hW⟩ := hW
        refine n_rep (n := y3 - late1) r11 w c3.1 c3.2 ?_
        intro p9 H18 hp4 s18 x5
        replace r1 := Rep.mono _ s18.g r1
        replace r2 := Rep.mono _ s18.g r2
        replace r9 := Rep.mono _ s18.g r9
        replace r11 := Rep.mono _ s18.g r11
        replace w := w.tr s18
        refine e_call ?_
        refine a_val (v := v1) (val_var rfl) ?_
        refine a_val (v := u2) (val_var rfl) ?_
        obtain ⟨y5, hy5, hW⟩ := hW
        have r12 := alt_l r9 hy5
        refine a_val (v := (.int ((late1 : Nat) : Int))) (val_var rfl) ?_
        refine a_nil ?_
        refine ⟨F18, (v1), (machine1), (u2), (y5), (late1), _, rfl, w.f, r1, r12, hW, ?_⟩
        intro z9 hW p10 F19 H19 s19 x6
        have ne1 := x5.ne x6.zero
        replace x6 := x6.base w
        replace r1 := Rep.mono _ s19.g r1
        replace r2 := Rep.mono _ s19.g r2
        replace r9 := Rep.mono _ s19.g r9
        replace r11 := Rep.mono _ s19.g r11
        replace x5 := x5.step s19
        replace r12 := Rep.mono _ s19.g r12
        replace w := w.tr s19
        obtain ⟨F20, w4, g4, r13, fz4⟩ := x5.frzE w
        replace r1 := Rep.mono _ g4 r1
        replace r2 := Rep.mono _ g4 r2
        replace r9 := Rep.mono _ g4 r9
        replace r11 := Rep.mono _ g4 r11
        replace r12 := Rep.mono _ g4 r12
        replace x6 := x6.frzO fz4 (Ne.symm ne1) g4
        replace w := w4
        obtain ⟨F21, w5, g5, r14, fz5⟩ := x6.frzE w
        replace r1 := Rep.mono _ g5 r1
        replace r2 := Rep.mono _ g5 r2
        replace r9 := Rep.mono _ g5 r9
        replace r11 := Rep.mono _ g5 r11
        replace r13 := Rep.mono _ g5 r13
        replace r12 := Rep.mono _ g5 r12
        replace w := w5
        obtain ⟨c4, hW⟩ := hW
        refine n_cat r13 r14 w c4 ?_
        intro p11 H20 hp5 s20 x7
        replace r1 := Rep.mono _ s20.g r1
        replace r2 := Rep.mono _ s20.g r2
        replace r9 := Rep.mono _ s20.g r9
        replace r11 := Rep.mono _ s20.g r11
        replace r13 := Rep.mono _ s20.g r13
        replace r12 := Rep.mono _ s20.g r12
        replace r14 := Rep.mono _ s20.g r14
        replace w := w.tr s20
        refine a_nil ?_
        obtain ⟨F22, w6, g6, r15, fz6⟩ := XL.frzN x7 w
        replace r1 := Rep.mono _ g6 r1
        replace r2 := Rep.mono _ g6 r2
        replace r9 := Rep.mono _ g6 r9
        replace r11 := Rep.mono _ g6 r11
        replace r13 := Rep.mono _ g6 r13
        replace r12 := Rep.mono _ g6 r12
        replace r14 := Rep.mono _ g6 r14
        replace w := w6
        refine n_fre2 (e := pS) (f := (pAlt (pL pN) pN)) (x := (PySem.Str.ofString "rows")) (y := (Sum.inl (((List.replicate (y3 - late1) [0]).flatten) ++ z9))) w (show Fre H0 pS _ _ (PySem.Str.ofString "rows") from rfl) (show Fre H0 (pAlt (pL pN) pN) _ _ (Sum.inl (((List.replicate (y3 - late1) [0]).flatten) ++ z9)) from r15) ?_
        intro p12 F23 H21 s21 r16
        replace r1 := Rep.mono _ s21.g r1
        replace r2 := Rep.mono _ s21.g r2
        replace r9 := Rep.mono _ s21.g r9
        replace r11 := Rep.mono _ s21.g r11
        replace r13 := Rep.mono _ s21.g r13
        replace r12 := Rep.mono _ s21.g r12
        replace r14 := Rep.mono _ s21.g r14
        replace w := w.tr s21
        exact hQ _ hW _ _ _ w r16
abbrev s_cell : Stmt := topS 34
def W_cell (script1 : List Int) (k1 : Nat) (R : Int → Prop) : Prop := if k1 < script1.length then (∃ x1, script1[k1]? = some x1 ∧ R x1) else (R (((41 * k1) + 3 : Nat) : Int))
def sp_cell (K : PySem.W.Frag) (cc : Cz) : Sp := fun vs H Q _ => ∃ (F : Hp) (v1 : V) (script1 : List Int) (k1 : Nat) (R : Int → Prop), vs = [v1, (.int ((k1 : Nat) : Int))] ∧ Ex F H ∧ (pScr K).r F v1 script1 ∧ W_cell script1 k1 R ∧ ∀ z, R z → ∀ F' H', Wf F H F' H' → Q (.int (z)) H'
abbrev N_cell : List Str := ["_law_script", "_law_k"]
theorem sc_cell : FnScope N_cell ["_law_script", "_law_k"] (defScope s_cell) := ⟨rfl, rfl, rfl, by decide +kernel, rfl, by decide +kernel, by decide +kernel⟩
theorem ok_cell {P : Program} {w0 : World} {K : PySem.W.Frag} {mg : Str → Option Value} {base : Heap} {f : Addr} {fd : FuncData} {cc : Cz} (T : Tz K mg cc) (FU : Fun K "_law_cell" "_law_cell" s_cell f fd) (hm : mg "_law_cell" = some (.ref f)) (hb : Binds K fd ["_law_script", "_law_k"] []) (n_len : mg "len" = none) : Fn P w0 K mg base CX0 1 "_law_cell" ["_law_script", "_law_k"] (sp_cell K cc) := by
  refine ⟨f, fd, FU.ok sc_cell (fun vs H Q E h => ?_) (fun cdv A outer s H0 vs Q E hr h => ?_), hm, FU.kp, hb⟩
  · obtain ⟨_, _, _, _, _, rfl, _⟩ := h; rfl
  · obtain ⟨F0, v1, script1, k1, R, rfl, wf, r1, hW, hQ⟩ := h
    have nd := sc_cell.nd
    refine ⟨(tSeq (tIfS (tTest (tOp kLt (tVar 1) (tCB (Wk.rLen K) (tCons (tVar 0) tNil)))) (tRet (tOp (L2.rIxL K) (tVar 0) (tVar 1))) tNext) (tRet (tOp kAdd (tOp kMul (tC (.int 41)) (tVar 1)) (tC (.int 3))))), (pss_cons (ps_if (pt_cmpR op_lt (pv 1) (pe_callB call_len_seq (by rfl) n_len PySem.boot_len (pa_cons (pv 0) pa_nil)) (nomark _)) (pss_one (ps_ret (pe_ix ix_list (pv 0) (pv 1) (fun _ _ => rfl)))) pss_nil) (pss_one (ps_ret (pe_op op_add (pe_op op_mul pe_int (pv 1)) pe_int)))), ?_⟩
    have w := Wf.id wf
    refine q_sq fun N1 hN1 => ?_
    refine a_ifE ?_
    refine e_ans (b := decide (k1 < script1.length)) (t_of (vb_dec (c_lt (val_var rfl) (len_S r1 w.f (val_var rfl))) n_lt)) ?_
    refine b_if (fun hc1 => ?_) (fun hc1 => ?_)
    · have hW := ifP hW hc1
      obtain ⟨x1, hx1_1, hW⟩ := hW
      have ix1 := ix_S (K := K) w.f r1 hx1_1
      refine a_ret (v := (.int (x1))) (ix1 (val_var rfl) (val_var rfl)) ?_
      exact hQ _ hW _ _ w
    · have hW := ifN hW hc1
      refine hN1 _ _ ?_
      refine a_ret (v := (.int ((((41 * k1) + 3 : Nat) : Int)))) (vn_add (vn_mul val_c (val_var rfl) (.inl (by decide))) val_c) ?_
      exact hQ _ hW _ _ w
abbrev s_mix : Stmt := topS 35
def W_mix (cell_here1 : Int) (k1 : Nat) (R : Nat → Prop) : Prop := ∀ number1 : Nat, number1 = ((((modN cell_here1 2147483647) * 48271) + (7919 * k1)) + 11) % 2147483647 → (NMul number1 number1) ∧ ∀ number2 : Nat, number2 = (number1 * number1) % 2147483629 → (NMul number2 ((number2 + (48271 * k1)) + 7)) ∧ R ((number2 * ((number2 + (48271 * k1)) + 7)) % 2147483587)
def sp_mix (K : PySem.W.Frag) (cc : Cz) : Sp := fun vs H Q _ => ∃ (F : Hp) (cell_here1 : Int) (k1 : Nat) (R : Nat → Prop), vs = [(.int (cell_here1)), (.int ((k1 : Nat) : Int))] ∧ Ex F H ∧ W_mix cell_here1 k1 R ∧ ∀ z, R z → ∀ F' H', Wf F H F' H' → Q (.int ((z : Nat) : Int)) H'
abbrev N_mix : List Str := ["_law_cell_here", "_law_k", "_law_number"]
theorem sc_mix : FnScope N_mix ["_law_cell_here", "_law_k"] (defScope s_mix) := ⟨rfl, rfl, rfl, by decide +kernel, rfl, by decide +kernel, by decide +kernel⟩
theorem ok_mix {P : Program} {w0 : World} {K : PySem.W.Frag} {mg : Str → Option Value} {base : Heap} {f : Addr} {fd : FuncData} {cc : Cz} (T : Tz K mg cc) (FU : Fun K "_law_mix" "_law_mix" s_mix f fd) (hm : mg "_law_mix" = some (.ref f)) (hb : Binds K fd ["_law_cell_here", "_law_k"] []) : Fn P w0 K mg base CX0 1 "_law_mix" ["_law_cell_here", "_law_k"] (sp_mix K cc) := by
  refine ⟨f, fd, FU.ok sc_mix (fun vs H Q E h => ?_) (fun cdv A outer s H0 vs Q E hr h => ?_), hm, FU.kp, hb⟩
  · obtain ⟨_, _, _, _, rfl, _⟩ := h; rfl
  · obtain ⟨F0, cell_here1, k1, R, rfl, wf, hW, hQ⟩ := h
    have nd := sc_mix.nd
    refine ⟨(tSeq (tAsg (tOp kMod (tOp kAdd (tOp kAdd (tOp kMul (tOp kMod (tVar 0) (tC (.int 2147483647))) (tC (.int 48271))) (tOp kMul (tC (.int 7919)) (tVar 1))) (tC (.int 11))) (tC (.int 2147483647))) (gName 2)) (tSeq (tAsg (tOp kMod (tOp kMul (tVar 2) (tVar 2)) (tC (.int 2147483629))) (gName 2)) (tRet (tOp kMod (tOp kMul (tVar 2) (tOp kAdd (tOp kAdd (tVar 2) (tOp kMul (tC (.int 48271)) (tVar 1))) (tC (.int 7)))) (tC (.int 2147483587)))))), (pss_cons (ps_set (i := 2) nd rfl (Or.inl rfl) (pe_op op_mod (pe_op op_add (pe_op op_add (pe_op op_mul (pe_op op_mod (pv 0) pe_int) pe_int) (pe_op op_mul pe_int (pv 1))) pe_int) pe_int)) (pss_cons (ps_set (i := 2) nd rfl (Or.inl rfl) (pe_op op_mod (pe_op op_mul (pv 2) (pv 2)) pe_int)) (pss_one (ps_ret (pe_op op_mod (pe_op op_mul (pv 2) (pe_op op_add (pe_op op_add (pv 2) (pe_op op_mul pe_int (pv 1))) pe_int)) pe_int))))), ?_⟩
    have w := Wf.id wf
    refine q_sq fun N1 hN1 => ?_
    obtain ⟨number1, enumber1⟩ : ∃ number1 : Nat, number1 = ((((modN cell_here1 2147483647) * 48271) + (7919 * k1)) + 11) % 2147483647 := ⟨_, rfl⟩
    replace hW := hW number1 enumber1
    refine a_asg (v := (.int ((number1 : Nat) : Int))) (v_eq (vn_mod (vn_add (vn_add (vn_mul (vm_mod (val_var rfl) val_c (by decide)) val_c (.inr (by decide))) (vn_mul val_c (val_var rfl) (.inl (by decide)))) val_c) val_c (by decide)) (by rw [enumber1])) ?_
    refine hN1 _ _ ?_
    refine q_sq fun N2 hN2 => ?_
    obtain ⟨c1, hW⟩ := hW
    obtain ⟨number2, enumber2⟩ : ∃ number2 : Nat, number2 = (number1 * number1) % 2147483629 := ⟨_, rfl⟩
    replace hW := hW number2 enumber2
    refine a_asg (v := (.int ((number2 : Nat) : Int))) (v_eq (vn_mod (vn_mul (val_var rfl) (val_var rfl) c1) val_c (by decide)) (by rw [enumber2])) ?_
    refine hN2 _ _ ?_
    obtain ⟨c2, hW⟩ := hW
    refine a_ret (v := (.int (((number2 * ((number2 + (48271 * k1)) + 7)) % 2147483587 : Nat) : Int))) (vn_mod (vn_mul (val_var rfl) (vn_add (vn_add (val_var rfl) (vn_mul val_c (val_var rfl) (.inl (by decide)))) val_c) c2) val_c (by decide)) ?_
    exact hQ _ hW _ _ w
abbrev s_masks : Stmt := topS 36
def W_masks (cell_here1 : Int) (start1 : Nat) (many1 : Nat) (width1 : Nat) (digits1 : Bool) (R : (List Nat) → Prop) : Prop := (NMul many1 width1) ∧ ((many1 * width1) + 1 < 100000000) ∧ ∀ left1 : Nat, left1 = (modN cell_here1 (2 ^ ((many1 * width1) + 1))) / 2 → (many1 < 1000000) ∧ forW (List.range many1) (([] : List Nat), left1) (fun k1 (found1, left2) nx1 bk1 => if digits1 = true then ((width1 < 100000000) ∧ (found1.length < 1000000) ∧ (width1 < 100000000) ∧ (NDiv (2 ^ width1)) ∧ ∀ left3 : Nat, left3 = left2 / (2 ^ width1) → nx1 (found1 ++ [left2 % (2 ^ width1)], left3)) else (W_mix cell_here1 (start1 + k1) fun z1 => (width1 < 100000000) ∧ (found1.length < 1000000) ∧ nx1 (found1 ++ [z1 % (2 ^ width1)], left2))) fun (found1, left2) => R found1
def sp_masks (K : PySem.W.Frag) (cc : Cz) : Sp := fun vs H Q _ => ∃ (F : Hp) (cell_here1 : Int) (start1 : Nat) (many1 : Nat) (width1 : Nat) (digits1 : Bool) (R : (List Nat) → Prop), vs = [(.int (cell_here1)), (.int ((start1 : Nat) : Int)), (.int ((many1 : Nat) : Int)), (.int ((width1 : Nat) : Int)), (.bl (digits1))] ∧ Ex F H ∧ W_masks cell_here1 start1 many1 width1 digits1 R ∧ ∀ z, R z → ∀ p F' H', Wf F H F' H' → XL pN H F' H' p z → Q (.ref p) H'
abbrev N_masks : List Str := ["_law_cell_here", "_law_start", "_law_many", "_law_width", "_law_digits", "_law_found", "_law_left", "_law_k"]
theorem sc_masks : FnScope N_masks ["_law_cell_here", "_law_start", "_law_many", "_law_width", "_law_digits"] (defScope s_masks) := ⟨rfl, rfl, rfl, by decide +kernel, rfl, by decide +kernel, by decide +kernel⟩
theorem ok_masks {P : Program} {w0 : World} {K : PySem.W.Frag} {mg : Str → Option Value} {base : Heap} {f : Addr} {fd : FuncData} {cc : Cz} (T : Tz K mg cc) (FU : Fun K "_law_masks" "_law_masks" s_masks f fd) (hm : mg "_law_masks" = some (.ref f)) (hb : Binds K fd ["_law_cell_here", "_law_start", "_law_many", "_law_width", "_law_digits"] []) (c_mix : Fn P w0 K mg base CX0 1 "_law_mix" ["_law_cell_here", "_law_k"] (sp_mix K cc)) (n_range : mg "range" = none) : Fn P w0 K mg base CX0 2 "_law_masks" ["_law_cell_here", "_law_start", "_law_many", "_law_width", "_law_digits"] (sp_masks K cc) := by
  refine ⟨f, fd, FU.ok sc_masks (fun vs H Q E h => ?_) (fun cdv A outer s H0 vs Q E hr h => ?_), hm, FU.kp, hb⟩
  · obtain ⟨_, _, _, _, _, _, _, rfl, _⟩ := h; rfl
  · obtain ⟨F0, cell_here1, start1, many1, width1, digits1, R, rfl, wf, hW, hQ⟩ := h
    have nd := sc_masks.nd
    refine ⟨(tSeq (tAsg (tLst tNil) (gName 5)) (tSeq (tAsg (tOp kDiv (tOp kMod (tVar 0) (tOp kShl (tC (.int 1)) (tOp kAdd (tOp kMul (tVar 2) (tVar 3)) (tC (.int 1))))) (tC (.int 2))) (gName 6)) (tSeq (tFor (iRng1 (tCons (tVar 2) tNil)) (gName 7) (tIfS (tB (tVar 4)) (tSeq (tDrop (tBM K "list" rAppend (tVar 5) (tCons (tOp kMod (tVar 6) (tOp kShl (tC (.int 1)) (tVar 3))) tNil))) (tAsg (tOp kDiv (tVar 6) (tOp kShl (tC (.int 1)) (tVar 3))) (gName 6))) (tDrop (tBM K "list" rAppend (tVar 5) (tCons (tOp kMod (tCall (sp_mix K cc) [] E0 (tCons (tVar 0) (tCons (tOp kAdd (tVar 1) (tVar 7)) tNil))) (tOp kShl (tC (.int 1)) (tVar 3))) tNil))))) (tRet (tVar 5))))), (pss_cons (ps_set (i := 5) nd rfl (Or.inl rfl) (pe_lst pa_nil)) (pss_cons (ps_set (i := 6) nd rfl (Or.inl rfl) (pe_op op_fdivW (pe_op op_mod (pv 0) (pe_op op_shlW pe_int (pe_op op_add (pe_op op_mul (pv 2) (pv 3)) pe_int))) pe_int)) (pss_cons (ps_for PassesOwn.never rfl (pi_range1 rfl n_range (pa_cons (pv 2) pa_nil)) (pg_name (i := 7) nd rfl (Or.inl rfl)) (pss_one (ps_if (pt_val (pv 4)) (pss_cons (ps_expr (pe_bm PySem.F.plainAttrs_list PySem.F.slot_list_append PySem.F.type_list_append mt_append (pv 5) (pa_cons (pe_op op_mod (pv 6) (pe_op op_shlW pe_int (pv 3))) pa_nil))) (pss_one (ps_set (i := 6) nd rfl (Or.inl rfl) (pe_op op_fdivW (pv 6) (pe_op op_shlW pe_int (pv 3)))))) (pss_one (ps_expr (pe_bm PySem.F.plainAttrs_list PySem.F.slot_list_append PySem.F.type_list_append mt_append (pv 5) (pa_cons (pe_op op_mod (pe_fn c_mix (hr.mono (by decide)) rfl (pa_cons (pv 0) (pa_cons (pe_op op_add (pv 1) (pv 7)) pa_nil))) (pe_op op_shlW pe_int (pv 3))) pa_nil))))))) (pss_one (ps_ret (pv 5)))))), ?_⟩
    have w := Wf.id wf
    refine q_sq fun N1 hN1 => ?_
    refine a_asgE ?_
    refine e_lst ?_
    refine a_nil ?_
    refine n_lstX (e := pN) (xs := []) (vs := []) (show All pN _ [] [] from trivial) (show 0 < 1000000 from by decide) w ?_
    intro p1 H1 hp1 s1 x1
    replace w := w.tr s1
    refine hN1 _ _ ?_
    refine q_sq fun N2 hN2 => ?_
    obtain ⟨c1, hW⟩ := hW
    obtain ⟨c2, hW⟩ := hW
    obtain ⟨left1, eleft1⟩ : ∃ left1 : Nat, left1 = (modN cell_here1 (2 ^ ((many1 * width1) + 1))) / 2 := ⟨_, rfl⟩
    replace hW := hW left1 eleft1
    refine a_asg (v := (.int ((left1 : Nat) : Int))) (v_eq (vn_div (vm_mod (val_var rfl) (vn_one val_c (vn_add (vn_mul (val_var rfl) (val_var rfl) c1) val_c) c2) (Nat.two_pow_pos _)) val_c ⟨by decide, by decide +kernel⟩) (by rw [eleft1])) ?_
    refine hN2 _ _ ?_
    refine q_sq fun N3 hN3 => ?_
    refine f_RE ?_
    refine e_val (v := (.int ((many1 : Nat) : Int))) (val_var rfl) ?_
    obtain ⟨c3, hW⟩ := hW
    refine w_forR (S := List Nat × Nat) (fun s σ' F' H' => match s with | (found1, left2) => ∃ (o1 : Option V), Wf F0 H0 F' H' ∧ Ex F0 F' ∧ σ' = [some (.int (cell_here1)), some (.int ((start1 : Nat) : Int)), some (.int ((many1 : Nat) : Int)), some (.int ((width1 : Nat) : Int)), some (.bl (digits1)), some ((.ref p1)), some (.int ((left2 : Nat) : Int)), o1] ∧ XL pN H0 F' H' p1 found1) c3 hW ⟨_, w, Ex.rfl', rfl, x1⟩ ?_ ?_
    · intro N4 Bk1 k1 s2 σ' F1 H2 nx1 bk1 hI1 hx1 hW hN4 hB1
      obtain ⟨found1, left2⟩ := s2
      obtain ⟨o1, w, gx1, rfl, x2⟩ := hI1
      refine g_name ?_
      refine a_ifE ?_
      refine e_ans (b := decide (digits1 = true)) (t_ofB (vb_of (val_var rfl) dec_tt)) ?_
      refine b_if (fun hc1 => ?_) (fun hc1 => ?_)
      · have hW := ifP hW hc1
        refine q_sq fun N5 hN5 => ?_
        refine a_dropE ?_
        refine m_list x2 (val_var rfl) ?_
        obtain ⟨c4, hW⟩ := hW
        refine a_val (v := (.int ((left2 % (2 ^ width1) : Nat) : Int))) (vn_mod (val_var rfl) (vn_one val_c (val_var rfl) c4) (Nat.two_pow_pos _)) ?_
        refine a_nil ?_
        obtain ⟨c5, hW⟩ := hW
        refine a_app x2 w c5 rfl (fun H3 w1 x3 kp1 => ?_)
        replace w := w1
        refine hN5 _ _ ?_
        obtain ⟨c6, hW⟩ := hW
        obtain ⟨c7, hW⟩ := hW
        obtain ⟨left3, eleft2⟩ : ∃ left3 : Nat, left3 = left2 / (2 ^ width1) := ⟨_, rfl⟩
        replace hW := hW left3 eleft2
        refine a_asg (v := (.int ((left3 : Nat) : Int))) (v_eq (vn_div (val_var rfl) (vn_one val_c (val_var rfl) c6) c7) (by rw [eleft2])) ?_
        exact hN4 (found1 ++ [left2 % (2 ^ width1)], left3) _ _ _ ⟨_, w, gx1, rfl, x3⟩ hW
      · have hW := ifN hW hc1
        refine a_dropE ?_
        refine m_list x2 (val_var rfl) ?_
        refine a_cons ?_
        refine e_op ?_
        refine e_call ?_
        refine a_val (v := (.int (cell_here1))) (val_var rfl) ?_
        refine a_val (v := (.int ((start1 + k1 : Nat) : Int))) (vn_add (val_var rfl) (val_var rfl)) ?_
        refine a_nil ?_
        refine ⟨F1, (cell_here1), (start1 + k1), _, rfl, w.f, hW, ?_⟩
        intro z1 hW F2 H4 s3
        replace x2 := x2.step s3
        replace w := w.tr s3
        replace gx1 := Ex.tr gx1 s3.g
        obtain ⟨c8, hW⟩ := hW
        refine e_val (v := (.int ((2 ^ width1 : Nat) : Int))) (vn_one val_c (val_var rfl) c8) ?_
        refine rv2 (z := (.int ((z1 % (2 ^ width1) : Nat) : Int))) (vn_mod val_c val_c (Nat.two_pow_pos _)) ?_
        refine a_nil ?_
        obtain ⟨c9, hW⟩ := hW
        refine a_app x2 w c9 rfl (fun H5 w2 x4 kp2 => ?_)
        replace w := w2
        exact hN4 (found1 ++ [z1 % (2 ^ width1)], left2) _ _ _ ⟨_, w, gx1, rfl, x4⟩ hW
    · intro s4 σ' F3 H6 hI2 hW
      obtain ⟨found1, left2⟩ := s4
      obtain ⟨o1, w, gx2, rfl, x2⟩ := hI2
      refine hN3 _ _ ?_
      refine a_ret (v := (.ref p1)) (val_var rfl) ?_
      exact hQ _ hW _ _ _ w x2
abbrev s_thinned : Stmt := topS 37
def W_thinned (masks_here1 : List Nat) (cell_here1 : Int) (start1 : Nat) (way1 : Nat) (R : (List Nat) → Prop) : Prop := forW (enumT masks_here1) ([] : List Nat) (fun it1 found1 nx1 bk1 => jn (fun kk => if way1 = 1 then (W_mix cell_here1 (start1 + it1.1) fun z1 => ∀ mask3 : Nat, mask3 = it1.2 &&& z1 → kk mask3) else (kk it1.2)) fun mask2 => jn (fun kk => if (way1 = 2) ∧ (0 < it1.1) then ((1 ≤ it1.1) ∧ (it1.1 - 1 < 100000000) ∧ ∀ mask5 : Nat, mask5 = 2 ^ (it1.1 - 1) → kk mask5) else (kk mask2)) fun mask4 => jn (fun kk => if way1 = 3 then (∃ x7, [43690, 21845][it1.1 % 2]? = some x7 ∧ ∀ mask7 : Nat, mask7 = mask4 &&& x7 → kk mask7) else (kk mask4)) fun mask6 => (found1.length < 1000000) ∧ nx1 (found1 ++ [mask6])) fun found1 => R found1
def sp_thinned (K : PySem.W.Frag) (cc : Cz) : Sp := fun vs H Q _ => ∃ (F : Hp) (v1 : V) (masks_here1 : List Nat) (cell_here1 : Int) (start1 : Nat) (way1 : Nat) (R : (List Nat) → Prop), vs = [v1, (.int (cell_here1)), (.int ((start1 : Nat) : Int)), (.int ((way1 : Nat) : Int))] ∧ Ex F H ∧ (pL pN).r F v1 masks_here1 ∧ W_thinned masks_here1 cell_here1 start1 way1 R ∧ ∀ z, R z → ∀ p F' H', Wf F H F' H' → XL pN H F' H' p z → Q (.ref p) H'
abbrev N_thinned : List Str := ["_law_masks_here", "_law_cell_here", "_law_start", "_law_way", "_law_found", "_law_k", "_law_mask"]
theorem sc_thinned : FnScope N_thinned ["_law_masks_here", "_law_cell_here", "_law_start", "_law_way"] (defScope s_thinned) := ⟨rfl, rfl, rfl, by decide +kernel, rfl, by decide +kernel, by decide +kernel⟩
theorem ok_thinned {P : Program} {w0 : World} {K : PySem.W.Frag} {mg : Str → Option Value} {base : Heap} {f : Addr} {fd : FuncData} {cc : Cz} (T : Tz K mg cc) (FU : Fun K "_law_thinned" "_law_thinned" s_thinned f fd) (hm : mg "_law_thinned" = some (.ref f)) (hb : Binds K fd ["_law_masks_here", "_law_cell_here", "_law_start", "_law_way"] []) (c_mix : Fn P w0 K mg base CX0 1 "_law_mix" ["_law_cell_here", "_law_k"] (sp_mix K cc)) (n_enumerate : mg "enumerate" = none) : Fn P w0 K mg base CX0 2 "_law_thinned" ["_law_masks_here", "_law_cell_here", "_law_start", "_law_way"] (sp_thinned K cc) := by
  refine ⟨f, fd, FU.ok sc_thinned (fun vs H Q E h => ?_) (fun cdv A outer s H0 vs Q E hr h => ?_), hm, FU.kp, hb⟩
  · obtain ⟨_, _, _, _, _, _, _, rfl, _⟩ := h; rfl
  · obtain ⟨F0, v1, masks_here1, cell_here1, start1, way1, R, rfl, wf, r1, hW, hQ⟩ := h
    have nd := sc_thinned.nd
    refine ⟨(tSeq (tAsg (tLst tNil) (gName 4)) (tSeq (tFor (iEnum K (tCons (tVar 0) tNil)) (gTup K 2 (gCons (gName 5) (gCons (gName 6) gNil))) (tSeq (tIfS (tTest (tOp L2.rEq (tVar 3) (tC (.int 1)))) (tAsg (tOp kAnd (tVar 6) (tCall (sp_mix K cc) [] E0 (tCons (tVar 1) (tCons (tOp kAdd (tVar 2) (tVar 5)) tNil)))) (gName 6)) tNext) (tSeq (tIfS (tAnd (tTest (tOp L2.rEq (tVar 3) (tC (.int 2)))) (tTest (tOp kGt (tVar 5) (tC (.int 0))))) (tAsg (tOp kShl (tC (.int 1)) (tOp kSub (tVar 5) (tC (.int 1)))) (gName 6)) tNext) (tSeq (tIfS (tTest (tOp L2.rEq (tVar 3) (tC (.int 3)))) (tAsg (tOp kAnd (tVar 6) (tOp (L2.rIxL K) (tLst (tCons (tC (.int 43690)) (tCons (tC (.int 21845)) tNil))) (tOp kMod (tVar 5) (tC (.int 2))))) (gName 6)) tNext) (tDrop (tBM K "list" rAppend (tVar 4) (tCons (tVar 6) tNil))))))) (tRet (tVar 4)))), (pss_cons (ps_set (i := 4) nd rfl (Or.inl rfl) (pe_lst pa_nil)) (pss_cons (ps_for PassesOwn.never rfl (pi_enum (by rfl) n_enumerate (pa_cons (pv 0) pa_nil)) (pg_tup rfl (pgs_cons (pg_name (i := 5) nd rfl (Or.inl rfl)) (pgs_cons (pg_name (i := 6) nd rfl (Or.inl rfl)) pgs_nil)) (by rfl)) (pss_cons (ps_if (pt_cmpR op_eq (pv 3) pe_int (nomark _)) (pss_one (ps_set (i := 6) nd rfl (Or.inl rfl) (pe_op op_and (pv 6) (pe_fn c_mix (hr.mono (by decide)) rfl (pa_cons (pv 1) (pa_cons (pe_op op_add (pv 2) (pv 5)) pa_nil)))))) pss_nil) (pss_cons (ps_if (PW.pt (pw_and (pt_cmpR op_eq (pv 3) pe_int (nomark _)) (pw_and1 (pt_cmpR op_gt (pv 5) pe_int (nomark _))))) (pss_one (ps_set (i := 6) nd rfl (Or.inl rfl) (pe_op op_shlW pe_int (pe_op op_sub (pv 5) pe_int)))) pss_nil) (pss_cons (ps_if (pt_cmpR op_eq (pv 3) pe_int (nomark _)) (pss_one (ps_set (i := 6) nd rfl (Or.inl rfl) (pe_op op_and (pv 6) (pe_ix ix_list (pe_lst (pa_cons pe_int (pa_cons pe_int pa_nil))) (pe_op op_mod (pv 5) pe_int) (fun _ _ => rfl))))) pss_nil) (pss_one (ps_expr (pe_bm PySem.F.plainAttrs_list PySem.F.slot_list_append PySem.F.type_list_append mt_append (pv 4) (pa_cons (pv 6) pa_nil)))))))) (pss_one (ps_ret (pv 4))))), ?_⟩
    have w := Wf.id wf
    refine q_sq fun N1 hN1 => ?_
    refine a_asgE ?_
    refine e_lst ?_
    refine a_nil ?_
    refine n_lstX (e := pN) (xs := []) (vs := []) (show All pN _ [] [] from trivial) (show 0 < 1000000 from by decide) w ?_
    intro p1 H1 hp1 s1 x1
    replace r1 := Rep.mono _ s1.g r1
    replace w := w.tr s1
    refine hN1 _ _ ?_
    refine q_sq fun N2 hN2 => ?_
    refine f_J ?_
    refine a_val (v := v1) (val_var rfl) ?_
    refine a_nil ?_
    refine src_enum r1 w.f (fun a1 T1 => ?_)
    refine w_forG (S := List Nat) T1 (fun found1 σ' F' H' => ∃ (o1 : Option V) (o2 : Option V), Wf F0 H0 F' H' ∧ Ex F0 F' ∧ σ' = [some v1, some (.int (cell_here1)), some (.int ((start1 : Nat) : Int)), some (.int ((way1 : Nat) : Int)), some ((.ref p1)), o1, o2] ∧ XL pN H0 F' H' p1 found1) hW ⟨_, _, w, Ex.rfl', rfl, x1⟩ (fun s σ' F' H' hI => by obtain ⟨_, _, w', gx', _⟩ := hI; exact ⟨gx', w'.f⟩) w.f ?_ ?_
    · intro N3 Bk1 it1 u1 found1 σ' F1 H2 F2 H3 nx1 bk1 hI1 hx1 s3 ru1 hW hN3 hB1
      obtain ⟨o1, o2, w, gx1, rfl, x2⟩ := hI1
      have r1 := Rep.mono _ gx1 r1
      replace r1 := Rep.mono _ s3.g r1
      replace x2 := x2.step s3
      replace w := w.tr s3
      replace gx1 := Ex.tr gx1 s3.g
      obtain ⟨p2, u2, u3, rfl, h1, rfl, rfl⟩ := ru1
      refine ⟨p2, _, rfl, SqT.of (w.f _ _ h1), rfl, _, _, rfl, _, _, rfl, rfl, ?_⟩
      refine q_jn (S := Nat) hW (fun mask2 σ' F' H' => Wf F0 H0 F' H' ∧ Ex F2 F' ∧ σ' = [some v1, some (.int (cell_here1)), some (.int ((start1 : Nat) : Int)), some (.int ((way1 : Nat) : Int)), some (.ref p1), some (.int ((it1.1 : Nat) : Int)), some (.int ((mask2 : Nat) : Int))] ∧ XL pN H0 F' H' p1 found1) ?_ ?_
      · intro N4 hN4 hW
        have gx2 : Ex F2 F2 := Ex.rfl'
        refine a_ifE ?_
        refine e_ans (b := decide (way1 = 1)) (t_of (vb_dec (c_eqI (val_var rfl) val_c) n_eq)) ?_
        refine b_if (fun hc1 => ?_) (fun hc1 => ?_)
        · have hW := ifP hW hc1
          refine a_asgE ?_
          refine e_op ?_
          refine e_val (v := (.int ((it1.2 : Nat) : Int))) (val_var rfl) ?_
          refine e_call ?_
          refine a_val (v := (.int (cell_here1))) (val_var rfl) ?_
          refine a_val (v := (.int ((start1 + it1.1 : Nat) : Int))) (vn_add (val_var rfl) (val_var rfl)) ?_
          refine a_nil ?_
          refine ⟨F2, (cell_here1), (start1 + it1.1), _, rfl, w.f, hW, ?_⟩
          intro z1 hW F3 H4 s4
          replace r1 := Rep.mono _ s4.g r1
          replace x2 := x2.step s4
          replace w := w.tr s4
          replace gx2 := Ex.tr gx2 s4.g
          replace gx1 := Ex.tr gx1 s4.g
          refine rv2 (z := (.int ((it1.2 &&& z1 : Nat) : Int))) (vn_and val_c val_c) ?_
          obtain ⟨mask3, emask1⟩ : ∃ mask3 : Nat, mask3 = it1.2 &&& z1 := ⟨_, rfl⟩
          replace hW := hW mask3 emask1
          refine nx_set (v := (.int ((mask3 : Nat) : Int))) (by rw [emask1]) ?_
          exact hN4 mask3 _ _ _ ⟨w, gx2, rfl, x2⟩ hW
        · have hW := ifN hW hc1
          exact hN4 it1.2 _ _ _ ⟨w, gx2, rfl, x2⟩ hW
      · intro mask2 σ' F4 H5 hI2 hW
        obtain ⟨w, gx3, rfl, x3⟩ := hI2
        have r1 := Rep.mono _ gx3 r1
        have gx1 := Ex.tr gx1 gx3
        refine q_jn (S := Nat) hW (fun mask4 σ' F' H' => Wf F0 H0 F' H' ∧ Ex F4 F' ∧ σ' = [some v1, some (.int (cell_here1)), some (.int ((start1 : Nat) : Int)), some (.int ((way1 : Nat) : Int)), some (.ref p1), some (.int ((it1.1 : Nat) : Int)), some (.int ((mask4 : Nat) : Int))] ∧ XL pN H0 F' H' p1 found1) ?_ ?_
        · intro N5 hN5 hW
          have gx4 : Ex F4 F4 := Ex.rfl'
          refine a_ifE ?_
          refine e_ans (b := decide ((way1 = 2) ∧ (0 < it1.1))) (t_and (t_of (vb_dec (c_eqI (val_var rfl) val_c) n_eq)) (fun _ => (t_of (vb_dec (c_gt (val_var rfl) val_c) n_lt)))) ?_
          refine b_if (fun hc2 => ?_) (fun hc2 => ?_)
          · have hW := ifP hW hc2
            obtain ⟨c1, hW⟩ := hW
            obtain ⟨c2, hW⟩ := hW
            obtain ⟨mask5, emask2⟩ : ∃ mask5 : Nat, mask5 = 2 ^ (it1.1 - 1) := ⟨_, rfl⟩
            replace hW := hW mask5 emask2
            refine a_asg (v := (.int ((mask5 : Nat) : Int))) (v_eq (vn_one val_c (vn_sub (val_var rfl) val_c c1) c2) (by rw [emask2])) ?_
            exact hN5 mask5 _ _ _ ⟨w, gx4, rfl, x3⟩ hW
          · have hW := ifN hW hc2
            exact hN5 mask2 _ _ _ ⟨w, gx4, rfl, x3⟩ hW
        · intro mask4 σ' F5 H6 hI3 hW
          obtain ⟨w, gx5, rfl, x4⟩ := hI3
          have r1 := Rep.mono _ gx5 r1
          have gx3 := Ex.tr gx3 gx5
          have gx1 := Ex.tr gx1 gx5
          refine q_jn (S := Nat) hW (fun mask6 σ' F' H' => Wf F0 H0 F' H' ∧ Ex F5 F' ∧ σ' = [some v1, some (.int (cell_here1)), some (.int ((start1 : Nat) : Int)), some (.int ((way1 : Nat) : Int)), some (.ref p1), some (.int ((it1.1 : Nat) : Int)), some (.int ((mask6 : Nat) : Int))] ∧ XL pN H0 F' H' p1 found1) ?_ ?_
          · intro N6 hN6 hW
            have gx6 : Ex F5 F5 := Ex.rfl'
            refine a_ifE ?_
            refine e_ans (b := decide (way1 = 3)) (t_of (vb_dec (c_eqI (val_var rfl) val_c) n_eq)) ?_
            refine b_if (fun hc3 => ?_) (fun hc3 => ?_)
            · have hW := ifP hW hc3
              refine a_asgE ?_
              refine e_op ?_
              refine e_val (v := (.int ((mask4 : Nat) : Int))) (val_var rfl) ?_
              refine e_op ?_
              refine e_lst ?_
              refine a_val (v := (.int ((43690 : Nat) : Int))) val_c ?_
              refine a_val (v := (.int ((21845 : Nat) : Int))) val_c ?_
              refine a_nil ?_
              refine n_lstX (e := pN) (xs := [43690, 21845]) (vs := [(.int ((43690 : Nat) : Int)), (.int ((21845 : Nat) : Int))]) (show All pN _ [(.int ((43690 : Nat) : Int)), (.int ((21845 : Nat) : Int))] [43690, 21845] from ⟨rfl, ⟨rfl, trivial⟩⟩) (show 2 < 1000000 from by decide) w ?_
              intro p3 H7 hp2 s7 x6
              have ne1 := x4.ne hp2
              replace r1 := Rep.mono _ s7.g r1
              replace x4 := x4.step s7
              replace w := w.tr s7
              replace gx6 := Ex.tr gx6 s7.g
              replace gx5 := Ex.tr gx5 s7.g
              replace gx3 := Ex.tr gx3 s7.g
              replace gx1 := Ex.tr gx1 s7.g
              refine e_val (v := (.int ((it1.1 % 2 : Nat) : Int))) (vn_mod (val_var rfl) val_c (by decide)) ?_
              obtain ⟨x7, hx7_1, hW⟩ := hW
              obtain ⟨_, rfl, ix1⟩ := ix_X (K := K) x6 hx7_1
              refine rv2 (z := (.int ((x7 : Nat) : Int))) (ix1 val_c val_c) ?_
              refine rv2 (z := (.int ((mask4 &&& x7 : Nat) : Int))) (vn_and val_c val_c) ?_
              obtain ⟨mask7, emask3⟩ : ∃ mask7 : Nat, mask7 = mask4 &&& x7 := ⟨_, rfl⟩
              replace hW := hW mask7 emask3
              refine nx_set (v := (.int ((mask7 : Nat) : Int))) (by rw [emask3]) ?_
              exact hN6 mask7 _ _ _ ⟨w, gx6, rfl, x4⟩ hW
            · have hW := ifN hW hc3
              exact hN6 mask4 _ _ _ ⟨w, gx6, rfl, x4⟩ hW
          · intro mask6 σ' F6 H8 hI4 hW
            obtain ⟨w, gx7, rfl, x5⟩ := hI4
            have r1 := Rep.mono _ gx7 r1
            have gx5 := Ex.tr gx5 gx7
            have gx3 := Ex.tr gx3 gx7
            have gx1 := Ex.tr gx1 gx7
            refine a_dropE ?_
            refine m_list x5 (val_var rfl) ?_
            refine a_val (v := (.int ((mask6 : Nat) : Int))) (val_var rfl) ?_
            refine a_nil ?_
            obtain ⟨c3, hW⟩ := hW
            refine a_app x5 w c3 rfl (fun H9 w1 x8 kp1 => ?_)
            replace w := w1
            exact hN3 (found1 ++ [mask6]) _ _ _ ⟨_, _, w, gx1, rfl, x8⟩ hW
    · intro found1 σ' F7 H10 hI5 hW
      obtain ⟨o1, o2, w, gx8, rfl, x2⟩ := hI5
      have r1 := Rep.mono _ gx8 r1
      refine hN2 _ _ ?_
      refine a_ret (v := (.ref p1)) (val_var rfl) ?_
      exact hQ _ hW _ _ _ w x2
abbrev s_machine : Stmt := topS 38
def W_machine (script1 : List Int) (start1 : Nat) (most1 : Nat) (R : (Nat × List (Nat × Nat) × List (Nat × Nat)) → Prop) : Prop := W_cell script1 start1 fun z1 => (0 < most1 + 1) ∧ ∀ stores1 : Nat, stores1 = modN (z1 / ((2 : Nat) : Int)) (most1 + 1) → ∀ stores2 : Nat, stores2 = (if (modN (z1 / ((64 : Nat) : Int)) 8) = 5 then modN (z1 / ((512 : Nat) : Int)) 17 else stores1) → W_mix z1 1 fun z2 => ∀ inputs1 : Nat, inputs1 = z2 % 4 → W_mix z1 2 fun z3 => ∀ outputs1 : Nat, outputs1 = z3 % 4 → jn (fun kk => if (modN (z1 / ((64 : Nat) : Int)) 8) = 6 then (W_mix z1 1 fun z4 => ∀ inputs3 : Nat, inputs3 = z4 % 7 → W_mix z1 2 fun z5 => ∀ outputs3 : Nat, outputs3 = z5 % 7 → kk (inputs3, outputs3)) else (kk (inputs1, outputs1))) fun (inputs2, outputs2) => ∀ digits1 : Bool, digits1 = decide ((modN z1 2) = 0) → W_mix z1 3 fun z6 => ∀ way1 : Nat, way1 = z6 % 5 → W_cell script1 (start1 + 1) fun z7 => W_masks z7 100 stores2 stores2 digits1 fun z8 => W_cell script1 (start1 + 2) fun z9 => W_masks z9 140 stores2 inputs2 digits1 fun z10 => jn (fun kk => if ¬ (digits1 = true) then (W_cell script1 (start1 + 1) fun z11 => W_thinned z8 z11 180 way1 fun z12 => if 0 < way1 then (((enumT z10).length < 1000000) ∧ compW (enumT z10) (fun it1 kk => W_cell script1 (start1 + 2) fun z13 => W_mix z13 (220 + it1.1) fun z14 => kk (some (it1.2 &&& z14))) fun ys1 => kk (z12, ys1)) else (kk (z12, z10))) else (kk (z8, z10))) fun (one1, other1) => W_cell script1 (start1 + 3) fun z15 => W_masks z15 260 outputs2 stores2 digits1 fun z16 => W_cell script1 (start1 + 4) fun z17 => W_masks z17 280 outputs2 inputs2 digits1 fun z18 => jn (fun kk => if (¬ (digits1 = true)) ∧ (1 < way1) then (((enumT z16).length < 1000000) ∧ compW (enumT z16) (fun it2 kk => W_cell script1 (start1 + 3) fun z19 => W_mix z19 (300 + it2.1) fun z20 => kk (some (it2.2 &&& z20))) fun ys2 => kk ys2) else (kk z16)) fun shown1 => jn (fun kk => if (¬ (digits1 = true)) ∧ (2 < way1) then ((z18.length < 1000000) ∧ compW z18 (fun mask3 kk => kk (some 0)) fun ys3 => kk ys3) else (kk z18)) fun straight1 => R (inputs2, one1.zip other1, shown1.zip straight1)
def sp_machine (K : PySem.W.Frag) (cc : Cz) : Sp := fun vs H Q _ => ∃ (F : Hp) (v1 : V) (script1 : List Int) (start1 : Nat) (most1 : Nat) (R : (Nat × List (Nat × Nat) × List (Nat × Nat)) → Prop), vs = [v1, (.int ((start1 : Nat) : Int)), (.int ((most1 : Nat) : Int))] ∧ Ex F H ∧ (pScr K).r F v1 script1 ∧ W_machine script1 start1 most1 R ∧ ∀ z, R z → ∀ v F' H', Wf F H F' H' → (pT3 pN (pL (pT2 pN pN)) (pL (pT2 pN pN))).r F' v z → Q v H'
abbrev N_machine : List Str := ["_law_script", "_law_start", "_law_most", "_law_cell_here", "_law_stores", "_law_inputs", "_law_outputs", "_law_digits", "_law_way", "_law_one", "_law_other", "_law_k", "_law_mask", "_law_shown", "_law_straight"]
theorem sc_machine : FnScope N_machine ["_law_script", "_law_start", "_law_most"] (defScope s_machine) := ⟨rfl, rfl, rfl, by decide +kernel, rfl, by decide +kernel, by decide +kernel⟩
theorem ok_machine {P : Program} {w0 : World} {K : PySem.W.Frag} {mg : Str → Option Value} {base : Heap} {f : Addr} {fd : FuncData} {cc : Cz} (T : Tz K mg cc) (FU : Fun K "_law_machine" "_law_machine" s_machine f fd) (hm : mg "_law_machine" = some (.ref f)) (hb : Binds K fd ["_law_script", "_law_start", "_law_most"] []) (c_cell : Fn P w0 K mg base CX0 1 "_law_cell" ["_law_script", "_law_k"] (sp_cell K cc)) (c_mix : Fn P w0 K mg base CX0 1 "_law_mix" ["_law_cell_here", "_law_k"] (sp_mix K cc)) (c_masks : Fn P w0 K mg base CX0 2 "_law_masks" ["_law_cell_here", "_law_start", "_law_many", "_law_width", "_law_digits"] (sp_masks K cc)) (c_thinned : Fn P w0 K mg base CX0 2 "_law_thinned" ["_law_masks_here", "_law_cell_here", "_law_start", "_law_way"] (sp_thinned K cc)) (n_enumerate : mg "enumerate" = none) (n_list : mg "list" = none) (n_zip : mg "zip" = none) : Fn P w0 K mg base CX0 3 "_law_machine" ["_law_script", "_law_start", "_law_most"] (sp_machine K cc) := by
  refine ⟨f, fd, FU.ok sc_machine (fun vs H Q E h => ?_) (fun cdv A outer s H0 vs Q E hr h => ?_), hm, FU.kp, hb⟩
  · obtain ⟨_, _, _, _, _, _, rfl, _⟩ := h; rfl
  · obtain ⟨F0, v1, script1, start1, most1, R, rfl, wf, r1, hW, hQ⟩ := h
    have nd := sc_machine.nd
    refine ⟨(tSeq (tAsg (tCall (sp_cell K cc) [] E0 (tCons (tVar 0) (tCons (tVar 1) tNil))) (gName 3)) (tSeq (tAsg (tOp kMod (tOp kDiv (tVar 3) (tC (.int 2))) (tOp kAdd (tVar 2) (tC (.int 1)))) (gName 4)) (tSeq (tIfS (tTest (tOp L2.rEq (tOp kMod (tOp kDiv (tVar 3) (tC (.int 64))) (tC (.int 8))) (tC (.int 5)))) (tAsg (tOp kMod (tOp kDiv (tVar 3) (tC (.int 512))) (tC (.int 17))) (gName 4)) tNext) (tSeq (tAsg (tOp kMod (tCall (sp_mix K cc) [] E0 (tCons (tVar 3) (tCons (tC (.int 1)) tNil))) (tC (.int 4))) (gName 5)) (tSeq (tAsg (tOp kMod (tCall (sp_mix K cc) [] E0 (tCons (tVar 3) (tCons (tC (.int 2)) tNil))) (tC (.int 4))) (gName 6)) (tSeq (tIfS (tTest (tOp L2.rEq (tOp kMod (tOp kDiv (tVar 3) (tC (.int 64))) (tC (.int 8))) (tC (.int 6)))) (tSeq (tAsg (tOp kMod (tCall (sp_mix K cc) [] E0 (tCons (tVar 3) (tCons (tC (.int 1)) tNil))) (tC (.int 7))) (gName 5)) (tAsg (tOp kMod (tCall (sp_mix K cc) [] E0 (tCons (tVar 3) (tCons (tC (.int 2)) tNil))) (tC (.int 7))) (gName 6))) tNext) (tSeq (tAsg (tOp L2.rEq (tOp kMod (tVar 3) (tC (.int 2))) (tC (.int 0))) (gName 7)) (tSeq (tAsg (tOp kMod (tCall (sp_mix K cc) [] E0 (tCons (tVar 3) (tCons (tC (.int 3)) tNil))) (tC (.int 5))) (gName 8)) (tSeq (tAsg (tCall (sp_masks K cc) [] E0 (tCons (tCall (sp_cell K cc) [] E0 (tCons (tVar 0) (tCons (tOp kAdd (tVar 1) (tC (.int 1))) tNil))) (tCons (tC (.int 100)) (tCons (tVar 4) (tCons (tVar 4) (tCons (tVar 7) tNil)))))) (gName 9)) (tSeq (tAsg (tCall (sp_masks K cc) [] E0 (tCons (tCall (sp_cell K cc) [] E0 (tCons (tVar 0) (tCons (tOp kAdd (tVar 1) (tC (.int 2))) tNil))) (tCons (tC (.int 140)) (tCons (tVar 4) (tCons (tVar 5) (tCons (tVar 7) tNil)))))) (gName 10)) (tSeq (tIfS (tNot (tB (tVar 7))) (tSeq (tAsg (tCall (sp_thinned K cc) [] E0 (tCons (tVar 9) (tCons (tCall (sp_cell K cc) [] E0 (tCons (tVar 0) (tCons (tOp kAdd (tVar 1) (tC (.int 1))) tNil))) (tCons (tC (.int 180)) (tCons (tVar 8) tNil))))) (gName 9)) (tIfS (tTest (tOp kGt (tVar 8) (tC (.int 0)))) (tAsg (tLc (iEnum K (tCons (tVar 10) tNil)) (gTup K 2 (gCons (gName 11) (gCons (gName 12) gNil))) tYes (tOp kAnd (tVar 12) (tCall (sp_mix K cc) [] E0 (tCons (tCall (sp_cell K cc) [] E0 (tCons (tVar 0) (tCons (tOp kAdd (tVar 1) (tC (.int 2))) tNil))) (tCons (tOp kAdd (tC (.int 220)) (tVar 11)) tNil)))) [11, 12]) (gName 10)) tNext)) tNext) (tSeq (tAsg (tCall (sp_masks K cc) [] E0 (tCons (tCall (sp_cell K cc) [] E0 (tCons (tVar 0) (tCons (tOp kAdd (tVar 1) (tC (.int 3))) tNil))) (tCons (tC (.int 260)) (tCons (tVar 6) (tCons (tVar 4) (tCons (tVar 7) tNil)))))) (gName 13)) (tSeq (tAsg (tCall (sp_masks K cc) [] E0 (tCons (tCall (sp_cell K cc) [] E0 (tCons (tVar 0) (tCons (tOp kAdd (tVar 1) (tC (.int 4))) tNil))) (tCons (tC (.int 280)) (tCons (tVar 6) (tCons (tVar 5) (tCons (tVar 7) tNil)))))) (gName 14)) (tSeq (tIfS (tAnd (tNot (tB (tVar 7))) (tTest (tOp kGt (tVar 8) (tC (.int 1))))) (tAsg (tLc (iEnum K (tCons (tVar 13) tNil)) (gTup K 2 (gCons (gName 11) (gCons (gName 12) gNil))) tYes (tOp kAnd (tVar 12) (tCall (sp_mix K cc) [] E0 (tCons (tCall (sp_cell K cc) [] E0 (tCons (tVar 0) (tCons (tOp kAdd (tVar 1) (tC (.int 3))) tNil))) (tCons (tOp kAdd (tC (.int 300)) (tVar 11)) tNil)))) [11, 12]) (gName 13)) tNext) (tSeq (tIfS (tAnd (tNot (tB (tVar 7))) (tTest (tOp kGt (tVar 8) (tC (.int 2))))) (tAsg (tLc (iList K (tVar 14)) (gName 12) tYes (tC (.int 0)) [12]) (gName 14)) tNext) (tRet (tTup (tCons (tVar 5) (tCons (tLstZip K (tCons (tVar 9) (tCons (tVar 10) tNil))) (tCons (tLstZip K (tCons (tVar 13) (tCons (tVar 14) tNil))) tNil)))))))))))))))))))), (pss_cons (ps_set (i := 3) nd rfl (Or.inl rfl) (pe_fn c_cell (hr.mono (by decide)) rfl (pa_cons (pv 0) (pa_cons (pv 1) pa_nil)))) (pss_cons (ps_set (i := 4) nd rfl (Or.inl rfl) (pe_op op_mod (pe_op op_fdivW (pv 3) pe_int) (pe_op op_add (pv 2) pe_int))) (pss_cons (ps_if (pt_cmpR op_eq (pe_op op_mod (pe_op op_fdivW (pv 3) pe_int) pe_int) pe_int (nomark _)) (pss_one (ps_set (i := 4) nd rfl (Or.inl rfl) (pe_op op_mod (pe_op op_fdivW (pv 3) pe_int) pe_int))) pss_nil) (pss_cons (ps_set (i := 5) nd rfl (Or.inl rfl) (pe_op op_mod (pe_fn c_mix (hr.mono (by decide)) rfl (pa_cons (pv 3) (pa_cons pe_int pa_nil))) pe_int)) (pss_cons (ps_set (i := 6) nd rfl (Or.inl rfl) (pe_op op_mod (pe_fn c_mix (hr.mono (by decide)) rfl (pa_cons (pv 3) (pa_cons pe_int pa_nil))) pe_int)) (pss_cons (ps_if (pt_cmpR op_eq (pe_op op_mod (pe_op op_fdivW (pv 3) pe_int) pe_int) pe_int (nomark _)) (pss_cons (ps_set (i := 5) nd rfl (Or.inl rfl) (pe_op op_mod (pe_fn c_mix (hr.mono (by decide)) rfl (pa_cons (pv 3) (pa_cons pe_int pa_nil))) pe_int)) (pss_one (ps_set (i := 6) nd rfl (Or.inl rfl) (pe_op op_mod (pe_fn c_mix (hr.mono (by decide)) rfl (pa_cons (pv 3) (pa_cons pe_int pa_nil))) pe_int)))) pss_nil) (pss_cons (ps_set (i := 7) nd rfl (Or.inl rfl) (pe_cmpR op_eq (pe_op op_mod (pv 3) pe_int) pe_int (nomark _))) (pss_cons (ps_set (i := 8) nd rfl (Or.inl rfl) (pe_op op_mod (pe_fn c_mix (hr.mono (by decide)) rfl (pa_cons (pv 3) (pa_cons pe_int pa_nil))) pe_int)) (pss_cons (ps_set (i := 9) nd rfl (Or.inl rfl) (pe_fn c_masks (hr.mono (by decide)) rfl (pa_cons (pe_fn c_cell (hr.mono (by decide)) rfl (pa_cons (pv 0) (pa_cons (pe_op op_add (pv 1) pe_int) pa_nil))) (pa_cons pe_int (pa_cons (pv 4) (pa_cons (pv 4) (pa_cons (pv 7) pa_nil))))))) (pss_cons (ps_set (i := 10) nd rfl (Or.inl rfl) (pe_fn c_masks (hr.mono (by decide)) rfl (pa_cons (pe_fn c_cell (hr.mono (by decide)) rfl (pa_cons (pv 0) (pa_cons (pe_op op_add (pv 1) pe_int) pa_nil))) (pa_cons pe_int (pa_cons (pv 4) (pa_cons (pv 5) (pa_cons (pv 7) pa_nil))))))) (pss_cons (ps_if (pt_not (pt_val (pv 7))) (pss_cons (ps_set (i := 9) nd rfl (Or.inl rfl) (pe_fn c_thinned (hr.mono (by decide)) rfl (pa_cons (pv 9) (pa_cons (pe_fn c_cell (hr.mono (by decide)) rfl (pa_cons (pv 0) (pa_cons (pe_op op_add (pv 1) pe_int) pa_nil))) (pa_cons pe_int (pa_cons (pv 8) pa_nil)))))) (pss_one (ps_if (pt_cmpR op_gt (pv 8) pe_int (nomark _)) (pss_one (ps_setLc (i := 10) (own := [("_law_k", 11), ("_law_mask", 12)]) (wi := (iEnum K (tCons (tVar 10) tNil))) (g := (gTup K 2 (gCons (gName 11) (gCons (gName 12) gNil)))) (tt := tYes) (te := (tOp kAnd (tVar 12) (tCall (sp_mix K cc) [] E0 (tCons (tCall (sp_cell K cc) [] E0 (tCons (tVar 0) (tCons (tOp kAdd (tVar 1) (tC (.int 2))) tNil))) (tCons (tOp kAdd (tC (.int 220)) (tVar 11)) tNil))))) rfl nd rfl rfl (sw_true rfl rfl rfl (by decide +kernel)) (pi_enum (by rfl) n_enumerate (pa_cons (pv 10) pa_nil)) (blkOk_by (N := N_machine) (sc := defScope s_machine) (by decide +kernel)) (fun _ _ _ _ _ => (pg_tup rfl (pgs_cons (pg_name (i := 11) nd rfl (Or.inl rfl)) (pgs_cons (pg_name (i := 12) nd rfl (Or.inl rfl)) pgs_nil)) (by rfl))) (fun _ _ _ _ _ => pts_nil) (fun _ _ _ _ _ => (pe_op op_and (pv 12) (pe_fn c_mix (hr.mono (by decide)) rfl (pa_cons (pe_fn c_cell (hr.mono (by decide)) rfl (pa_cons (pv 0) (pa_cons (pe_op op_add (pv 1) pe_int) pa_nil))) (pa_cons (pe_op op_add pe_int (pv 11)) pa_nil))))))) pss_nil))) pss_nil) (pss_cons (ps_set (i := 13) nd rfl (Or.inl rfl) (pe_fn c_masks (hr.mono (by decide)) rfl (pa_cons (pe_fn c_cell (hr.mono (by decide)) rfl (pa_cons (pv 0) (pa_cons (pe_op op_add (pv 1) pe_int) pa_nil))) (pa_cons pe_int (pa_cons (pv 6) (pa_cons (pv 4) (pa_cons (pv 7) pa_nil))))))) (pss_cons (ps_set (i := 14) nd rfl (Or.inl rfl) (pe_fn c_masks (hr.mono (by decide)) rfl (pa_cons (pe_fn c_cell (hr.mono (by decide)) rfl (pa_cons (pv 0) (pa_cons (pe_op op_add (pv 1) pe_int) pa_nil))) (pa_cons pe_int (pa_cons (pv 6) (pa_cons (pv 5) (pa_cons (pv 7) pa_nil))))))) (pss_cons (ps_if (PW.pt (pw_and (pt_not (pt_val (pv 7))) (pw_and1 (pt_cmpR op_gt (pv 8) pe_int (nomark _))))) (pss_one (ps_setLc (i := 13) (own := [("_law_k", 11), ("_law_mask", 12)]) (wi := (iEnum K (tCons (tVar 13) tNil))) (g := (gTup K 2 (gCons (gName 11) (gCons (gName 12) gNil)))) (tt := tYes) (te := (tOp kAnd (tVar 12) (tCall (sp_mix K cc) [] E0 (tCons (tCall (sp_cell K cc) [] E0 (tCons (tVar 0) (tCons (tOp kAdd (tVar 1) (tC (.int 3))) tNil))) (tCons (tOp kAdd (tC (.int 300)) (tVar 11)) tNil))))) rfl nd rfl rfl (sw_true rfl rfl rfl (by decide +kernel)) (pi_enum (by rfl) n_enumerate (pa_cons (pv 13) pa_nil)) (blkOk_by (N := N_machine) (sc := defScope s_machine) (by decide +kernel)) (fun _ _ _ _ _ => (pg_tup rfl (pgs_cons (pg_name (i := 11) nd rfl (Or.inl rfl)) (pgs_cons (pg_name (i := 12) nd rfl (Or.inl rfl)) pgs_nil)) (by rfl))) (fun _ _ _ _ _ => pts_nil) (fun _ _ _ _ _ => (pe_op op_and (pv 12) (pe_fn c_mix (hr.mono (by decide)) rfl (pa_cons (pe_fn c_cell (hr.mono (by decide)) rfl (pa_cons (pv 0) (pa_cons (pe_op op_add (pv 1) pe_int) pa_nil))) (pa_cons (pe_op op_add pe_int (pv 11)) pa_nil))))))) pss_nil) (pss_cons (ps_if (PW.pt (pw_and (pt_not (pt_val (pv 7))) (pw_and1 (pt_cmpR op_gt (pv 8) pe_int (nomark _))))) (pss_one (ps_setLc (i := 14) (own := [("_law_mask", 12)]) (wi := (iList K (tVar 14))) (g := (gName 12)) (tt := tYes) (te := (tC (.int 0))) rfl nd rfl rfl (sw_true rfl rfl rfl (by decide +kernel)) (pi_list (pv 14)) (blkOk_by (N := N_machine) (sc := defScope s_machine) (by decide +kernel)) (fun _ _ _ _ _ => (pg_name (i := 12) nd rfl (Or.inl rfl))) (fun _ _ _ _ _ => pts_nil) (fun _ _ _ _ _ => pe_int))) pss_nil) (pss_one (ps_ret (pe_tup (pa_cons (pv 5) (pa_cons (pe_lstZip rfl (by rfl) n_list (by rfl) n_zip (pa_cons (pv 9) (pa_cons (pv 10) pa_nil))) (pa_cons (pe_lstZip rfl (by rfl) n_list (by rfl) n_zip (pa_cons (pv 13) (pa_cons (pv 14) pa_nil))) pa_nil))))))))))))))))))))), ?_⟩
    have w := Wf.id wf
    refine q_sq fun N1 hN1 => ?_
    refine a_asgE ?_
    refine e_call ?_
    refine a_val (v := v1) (val_var rfl) ?_
    refine a_val (v := (.int ((start1 : Nat) : Int))) (val_var rfl) ?_
    refine a_nil ?_
    refine ⟨F0, (v1), (script1), (start1), _, rfl, w.f, r1, hW, ?_⟩
    intro z1 hW F1 H1 s1
    replace r1 := Rep.mono _ s1.g r1
    replace w := w.tr s1
    refine hN1 _ _ ?_
    refine q_sq fun N2 hN2 => ?_
    obtain ⟨c1, hW⟩ := hW
    obtain ⟨stores1, estores1⟩ : ∃ stores1 : Nat, stores1 = modN (z1 / ((2 : Nat) : Int)) (most1 + 1) := ⟨_, rfl⟩
    replace hW := hW stores1 estores1
    refine a_asg (v := (.int ((stores1 : Nat) : Int))) (v_eq (vm_mod (vi_div (val_var rfl) val_c ⟨by decide, by decide +kernel⟩) (vn_add (val_var rfl) val_c) c1) (by rw [estores1])) ?_
    refine hN2 _ _ ?_
    refine q_sq fun N3 hN3 => ?_
    obtain ⟨stores2, estores2⟩ : ∃ stores2 : Nat, stores2 = (if (modN (z1 / ((64 : Nat) : Int)) 8) = 5 then modN (z1 / ((512 : Nat) : Int)) 17 else stores1) := ⟨_, rfl⟩
    replace hW := hW stores2 estores2
    refine a_ifAsg (pr := (modN (z1 / ((64 : Nat) : Int)) 8) = 5) (v := (.int ((stores2 : Nat) : Int))) (t_of (vb_dec (c_eqI (vm_mod (vi_div (val_var rfl) val_c ⟨by decide, by decide +kernel⟩) val_c (by decide)) val_c) n_eq)) (fun hq => v_eq (vm_mod (vi_div (val_var rfl) val_c ⟨by decide, by decide +kernel⟩) val_c (by decide)) (by rw [estores2, if_pos hq])) (fun hq => by rw [estores2, if_neg hq]; rfl) ?_
    refine hN3 _ _ ?_
    refine q_sq fun N4 hN4 => ?_
    refine a_asgE ?_
    refine e_op ?_
    refine e_call ?_
    refine a_val (v := (.int (z1))) (val_var rfl) ?_
    refine a_val (v := (.int ((1 : Nat) : Int))) val_c ?_
    refine a_nil ?_
    refine ⟨F1, (z1), (1), _, rfl, w.f, hW, ?_⟩
    intro z2 hW F2 H2 s2
    replace r1 := Rep.mono _ s2.g r1
    replace w := w.tr s2
    refine e_val (v := (.int ((4 : Nat) : Int))) val_c ?_
    refine rv2 (z := (.int ((z2 % 4 : Nat) : Int))) (vn_mod val_c val_c (by decide)) ?_
    obtain ⟨inputs1, einputs1⟩ : ∃ inputs1 : Nat, inputs1 = z2 % 4 := ⟨_, rfl⟩
    replace hW := hW inputs1 einputs1
    refine nx_set (v := (.int ((inputs1 : Nat) : Int))) (by rw [einputs1]) ?_
    refine hN4 _ _ ?_
    refine q_sq fun N5 hN5 => ?_
    refine a_asgE ?_
    refine e_op ?_
    refine e_call ?_
    refine a_val (v := (.int (z1))) (val_var rfl) ?_
    refine a_val (v := (.int ((2 : Nat) : Int))) val_c ?_
    refine a_nil ?_
    refine ⟨F2, (z1), (2), _, rfl, w.f, hW, ?_⟩
    intro z3 hW F3 H3 s3
    replace r1 := Rep.mono _ s3.g r1
    replace w := w.tr s3
    refine e_val (v := (.int ((4 : Nat) : Int))) val_c ?_
    refine rv2 (z := (.int ((z3 % 4 : Nat) : Int))) (vn_mod val_c val_c (by decide)) ?_
    obtain ⟨outputs1, eoutputs1⟩ : ∃ outputs1 : Nat, outputs1 = z3 % 4 := ⟨_, rfl⟩
    replace hW := hW outputs1 eoutputs1
    refine nx_set (v := (.int ((outputs1 : Nat) : Int))) (by rw [eoutputs1]) ?_
    refine hN5 _ _ ?_
    refine q_jn (S := Nat × Nat) hW (fun s σ' F' H' => match s with | (inputs2, outputs2) => Wf F0 H0 F' H' ∧ Ex F3 F' ∧ σ' = [some v1, some (.int ((start1 : Nat) : Int)), some (.int ((most1 : Nat) : Int)), some (.int (z1)), some (.int ((stores2 : Nat) : Int)), some (.int ((inputs2 : Nat) : Int)), some (.int ((outputs2 : Nat) : Int)), none, none, none, none, none, none, none, none]) ?_ ?_
    · intro N6 hN6 hW
      have gx1 : Ex F3 F3 := Ex.rfl'
      refine a_ifE ?_
      refine e_ans (b := decide ((modN (z1 / ((64 : Nat) : Int)) 8) = 6)) (t_of (vb_dec (c_eqI (vm_mod (vi_div (val_var rfl) val_c ⟨by decide, by decide +kernel⟩) val_c (by decide)) val_c) n_eq)) ?_
      refine b_if (fun hc1 => ?_) (fun hc1 => ?_)
      · have hW := ifP hW hc1
        refine q_sq fun N7 hN7 => ?_
        refine a_asgE ?_
        refine e_op ?_
        refine e_call ?_
        refine a_val (v := (.int (z1))) (val_var rfl) ?_
        refine a_val (v := (.int ((1 : Nat) : Int))) val_c ?_
        refine a_nil ?_
        refine ⟨F3, (z1), (1), _, rfl, w.f, hW, ?_⟩
        intro z4 hW F4 H4 s4
        replace r1 := Rep.mono _ s4.g r1
        replace w := w.tr s4
        replace gx1 := Ex.tr gx1 s4.g
        refine e_val (v := (.int ((7 : Nat) : Int))) val_c ?_
        refine rv2 (z := (.int ((z4 % 7 : Nat) : Int))) (vn_mod val_c val_c (by decide)) ?_
        obtain ⟨inputs3, einputs2⟩ : ∃ inputs3 : Nat, inputs3 = z4 % 7 := ⟨_, rfl⟩
        replace hW := hW inputs3 einputs2
        refine nx_set (v := (.int ((inputs3 : Nat) : Int))) (by rw [einputs2]) ?_
        refine hN7 _ _ ?_
        refine a_asgE ?_
        refine e_op ?_
        refine e_call ?_
        refine a_val (v := (.int (z1))) (val_var rfl) ?_
        refine a_val (v := (.int ((2 : Nat) : Int))) val_c ?_
        refine a_nil ?_
        refine ⟨F4, (z1), (2), _, rfl, w.f, hW, ?_⟩
        intro z5 hW F5 H5 s5
        replace r1 := Rep.mono _ s5.g r1
        replace w := w.tr s5
        replace gx1 := Ex.tr gx1 s5.g
        refine e_val (v := (.int ((7 : Nat) : Int))) val_c ?_
        refine rv2 (z := (.int ((z5 % 7 : Nat) : Int))) (vn_mod val_c val_c (by decide)) ?_
        obtain ⟨outputs3, eoutputs2⟩ : ∃ outputs3 : Nat, outputs3 = z5 % 7 := ⟨_, rfl⟩
        replace hW := hW outputs3 eoutputs2
        refine nx_set (v := (.int ((outputs3 : Nat) : Int))) (by rw [eoutputs2]) ?_
        exact hN6 (inputs3, outputs3) _ _ _ ⟨w, gx1, rfl⟩ hW
      · have hW := ifN hW hc1
        exact hN6 (inputs1, outputs1) _ _ _ ⟨w, gx1, rfl⟩ hW
    · intro s6 σ' F6 H6 hI1 hW
      obtain ⟨inputs2, outputs2⟩ := s6
      obtain ⟨w, gx2, rfl⟩ := hI1
      have r1 := Rep.mono _ gx2 r1
      refine q_sq fun N8 hN8 => ?_
      obtain ⟨digits1, edigits1⟩ : ∃ digits1 : Bool, digits1 = decide ((modN z1 2) = 0) := ⟨_, rfl⟩
      replace hW := hW digits1 edigits1
      refine a_asg (v := (.bl (digits1))) (v_eq (vb_dec (c_eqI (vm_mod (val_var rfl) val_c (by decide)) val_c) n_eq) (by rw [edigits1])) ?_
      refine hN8 _ _ ?_
      refine q_sq fun N9 hN9 => ?_
      refine a_asgE ?_
      refine e_op ?_
      refine e_call ?_
      refine a_val (v := (.int (z1))) (val_var rfl) ?_
      refine a_val (v := (.int ((3 : Nat) : Int))) val_c ?_
      refine a_nil ?_
      refine ⟨F6, (z1), (3), _, rfl, w.f, hW, ?_⟩
      intro z6 hW F7 H7 s7
      replace r1 := Rep.mono _ s7.g r1
      replace w := w.tr s7
      replace gx2 := Ex.tr gx2 s7.g
      refine e_val (v := (.int ((5 : Nat) : Int))) val_c ?_
      refine rv2 (z := (.int ((z6 % 5 : Nat) : Int))) (vn_mod val_c val_c (by decide)) ?_
      obtain ⟨way1, eway1⟩ : ∃ way1 : Nat, way1 = z6 % 5 := ⟨_, rfl⟩
      replace hW := hW way1 eway1
      refine nx_set (v := (.int ((way1 : Nat) : Int))) (by rw [eway1]) ?_
      refine hN9 _ _ ?_
      refine q_sq fun N10 hN10 => ?_
      refine a_asgE ?_
      refine e_call ?_
      refine a_cons ?_
      refine e_call ?_
      refine a_val (v := v1) (val_var rfl) ?_
      refine a_val (v := (.int ((start1 + 1 : Nat) : Int))) (vn_add (val_var rfl) val_c) ?_
      refine a_nil ?_
      refine ⟨F7, (v1), (script1), (start1 + 1), _, rfl, w.f, r1, hW, ?_⟩
      intro z7 hW F8 H8 s8
      replace r1 := Rep.mono _ s8.g r1
      replace w := w.tr s8
      replace gx2 := Ex.tr gx2 s8.g
      refine a_val (v := (.int ((100 : Nat) : Int))) val_c ?_
      refine a_val (v := (.int ((stores2 : Nat) : Int))) (val_var rfl) ?_
      refine a_val (v := (.int ((stores2 : Nat) : Int))) (val_var rfl) ?_
      refine a_val (v := (.bl (digits1))) (val_var rfl) ?_
      refine a_nil ?_
      refine ⟨F8, (z7), (100), (stores2), (stores2), (digits1), _, rfl, w.f, hW, ?_⟩
      intro z8 hW p1 F9 H9 s9 x1
      replace x1 := x1.base w
      replace r1 := Rep.mono _ s9.g r1
      replace w := w.tr s9
      replace gx2 := Ex.tr gx2 s9.g
      obtain ⟨F10, w1, g1, r2, fz1⟩ := x1.frzE w
      replace r1 := Rep.mono _ g1 r1
      replace w := w1
      replace gx2 := Ex.tr gx2 g1
      refine hN10 _ _ ?_
      refine q_sq fun N11 hN11 => ?_
      refine a_asgE ?_
      refine e_call ?_
      refine a_cons ?_
      refine e_call ?_
      refine a_val (v := v1) (val_var rfl) ?_
      refine a_val (v := (.int ((start1 + 2 : Nat) : Int))) (vn_add (val_var rfl) val_c) ?_
      refine a_nil ?_
      refine ⟨F10, (v1), (script1), (start1 + 2), _, rfl, w.f, r1, hW, ?_⟩
      intro z9 hW F11 H10 s10
      replace r1 := Rep.mono _ s10.g r1
      replace r2 := Rep.mono _ s10.g r2
      replace w := w.tr s10
      replace gx2 := Ex.tr gx2 s10.g
      refine a_val (v := (.int ((140 : Nat) : Int))) val_c ?_
      refine a_val (v := (.int ((stores2 : Nat) : Int))) (val_var rfl) ?_
      refine a_val (v := (.int ((inputs2 : Nat) : Int))) (val_var rfl) ?_
      refine a_val (v := (.bl (digits1))) (val_var rfl) ?_
      refine a_nil ?_
      refine ⟨F11, (z9), (140), (stores2), (inputs2), (digits1), _, rfl, w.f, hW, ?_⟩
      intro z10 hW p2 F12 H11 s11 x2
      replace x2 := x2.base w
      replace r1 := Rep.mono _ s11.g r1
      replace r2 := Rep.mono _ s11.g r2
      replace w := w.tr s11
      replace gx2 := Ex.tr gx2 s11.g
      obtain ⟨F13, w2, g2, r3, fz2⟩ := x2.frzE w
      replace r1 := Rep.mono _ g2 r1
      replace r2 := Rep.mono _ g2 r2
      replace w := w2
      replace gx2 := Ex.tr gx2 g2
      refine hN11 _ _ ?_
      refine q_jn (S := List Nat × List Nat) hW (fun s σ' F' H' => match s with | (one1, other1) => ∃ (v2 : V) (v3 : V), Wf F0 H0 F' H' ∧ Ex F13 F' ∧ σ' = [some v1, some (.int ((start1 : Nat) : Int)), some (.int ((most1 : Nat) : Int)), some (.int (z1)), some (.int ((stores2 : Nat) : Int)), some (.int ((inputs2 : Nat) : Int)), some (.int ((outputs2 : Nat) : Int)), some (.bl (digits1)), some (.int ((way1 : Nat) : Int)), some v2, some v3, none, none, none, none] ∧ (pL pN).r F' v2 one1 ∧ (pL pN).r F' v3 other1) ?_ ?_
      · intro N12 hN12 hW
        have gx3 : Ex F13 F13 := Ex.rfl'
        refine a_ifE ?_
        refine e_ans (b := decide (¬ (digits1 = true))) (t_not (t_ofB (vb_of (val_var rfl) dec_tt))) ?_
        refine b_if (fun hc2 => ?_) (fun hc2 => ?_)
        · have hW := ifP hW hc2
          refine q_sq fun N13 hN13 => ?_
          refine a_asgE ?_
          refine e_call ?_
          refine a_val (v := (.ref p1)) (val_var rfl) ?_
          refine a_cons ?_
          refine e_call ?_
          refine a_val (v := v1) (val_var rfl) ?_
          refine a_val (v := (.int ((start1 + 1 : Nat) : Int))) (vn_add (val_var rfl) val_c) ?_
          refine a_nil ?_
          refine ⟨F13, (v1), (script1), (start1 + 1), _, rfl, w.f, r1, hW, ?_⟩
          intro z11 hW F14 H12 s12
          replace r1 := Rep.mono _ s12.g r1
          replace r2 := Rep.mono _ s12.g r2
          replace r3 := Rep.mono _ s12.g r3
          replace w := w.tr s12
          replace gx3 := Ex.tr gx3 s12.g
          replace gx2 := Ex.tr gx2 s12.g
          refine a_val (v := (.int ((180 : Nat) : Int))) val_c ?_
          refine a_val (v := (.int ((way1 : Nat) : Int))) (val_var rfl) ?_
          refine a_nil ?_
          refine ⟨F14, ((.ref p1)), (z8), (z11), (180), (way1), _, rfl, w.f, r2, hW, ?_⟩
          intro z12 hW p3 F15 H13 s13 x3
          replace x3 := x3.base w
          replace r1 := Rep.mono _ s13.g r1
          replace r2 := Rep.mono _ s13.g r2
          replace r3 := Rep.mono _ s13.g r3
          replace w := w.tr s13
          replace gx3 := Ex.tr gx3 s13.g
          replace gx2 := Ex.tr gx2 s13.g
          obtain ⟨F16, w3, g3, r6, fz3⟩ := x3.frzE w
          replace r1 := Rep.mono _ g3 r1
          replace r2 := Rep.mono _ g3 r2
          replace r3 := Rep.mono _ g3 r3
          replace w := w3
          replace gx3 := Ex.tr gx3 g3
          replace gx2 := Ex.tr gx2 g3
          refine hN13 _ _ ?_
          refine a_ifE ?_
          refine e_ans (b := decide (0 < way1)) (t_of (vb_dec (c_gt (val_var rfl) val_c) n_lt)) ?_
          refine b_if (fun hc3 => ?_) (fun hc3 => ?_)
          · have hW := ifP hW hc3
            refine a_asgE ?_
            refine c_J ?_
            refine a_val (v := (.ref p2)) (val_var rfl) ?_
            refine a_nil ?_
            refine src_enum r3 w.f (fun a1 T1 => ?_)
            obtain ⟨c2, hW⟩ := hW
            refine w_compG (e := pN) T1 w c2 hW ?_ ?_
            · intro Qy Qn it1 u1 F17 H14 R1 q1 hx1 ru1 hW hy1 hn1
              have r1 := Rep.mono _ q1.g r1
              have r6 := Rep.mono _ q1.g r6
              have r3 := Rep.mono _ q1.g r3
              have w := Wf.id q1.f
              obtain ⟨p4, u2, u3, rfl, h1, rfl, rfl⟩ := ru1
              refine ⟨p4, _, rfl, SqT.of (w.f _ _ h1), rfl, _, _, rfl, _, _, rfl, rfl, ?_⟩
              refine ⟨rfl, ?_⟩
              refine c_yes ?_
              refine e_op ?_
              refine e_val (v := (.int ((it1.2 : Nat) : Int))) (val_var rfl) ?_
              refine e_call ?_
              refine a_cons ?_
              refine e_call ?_
              refine a_val (v := v1) (val_var rfl) ?_
              refine a_val (v := (.int ((start1 + 2 : Nat) : Int))) (vn_add (val_var rfl) val_c) ?_
              refine a_nil ?_
              refine ⟨F17, (v1), (script1), (start1 + 2), _, rfl, w.f, r1, hW, ?_⟩
              intro z13 hW F18 H15 s14
              replace r1 := Rep.mono _ s14.g r1
              replace r6 := Rep.mono _ s14.g r6
              replace r3 := Rep.mono _ s14.g r3
              replace w := w.tr s14
              refine a_val (v := (.int ((220 + it1.1 : Nat) : Int))) (vn_add val_c (val_var rfl)) ?_
              refine a_nil ?_
              refine ⟨F18, (z13), (220 + it1.1), _, rfl, w.f, hW, ?_⟩
              intro z14 hW F19 H16 s15
              replace r1 := Rep.mono _ s15.g r1
              replace r6 := Rep.mono _ s15.g r6
              replace r3 := Rep.mono _ s15.g r3
              replace w := w.tr s15
              refine rv2 (z := (.int ((it1.2 &&& z14 : Nat) : Int))) (vn_and val_c val_c) ?_
              exact hy1 _ _ _ _ w rfl hW
            intro p5 ys1 F20 H17 hp1 s16 x4 hW
            replace r1 := Rep.mono _ s16.g r1
            replace r6 := Rep.mono _ s16.g r6
            replace r3 := Rep.mono _ s16.g r3
            replace w := w.tr s16
            replace gx3 := Ex.tr gx3 s16.g
            replace gx2 := Ex.tr gx2 s16.g
            obtain ⟨F21, w4, g4, r7, fz4⟩ := x4.frzE w
            replace r1 := Rep.mono _ g4 r1
            replace r6 := Rep.mono _ g4 r6
            replace r3 := Rep.mono _ g4 r3
            replace w := w4
            replace gx3 := Ex.tr gx3 g4
            replace gx2 := Ex.tr gx2 g4
            exact hN12 (z12, ys1) _ _ _ ⟨_, _, w, gx3, rfl, r6, r7⟩ hW
          · have hW := ifN hW hc3
            exact hN12 (z12, z10) _ _ _ ⟨_, _, w, gx3, rfl, r6, r3⟩ hW
        · have hW := ifN hW hc2
          exact hN12 (z8, z10) _ _ _ ⟨_, _, w, gx3, rfl, r2, r3⟩ hW
      · intro s17 σ' F22 H18 hI2 hW
        obtain ⟨one1, other1⟩ := s17
        obtain ⟨v2, v3, w, gx4, rfl, r4, r5⟩ := hI2
        have r1 := Rep.mono _ gx4 r1
        have gx2 := Ex.tr gx2 gx4
        refine q_sq fun N14 hN14 => ?_
        refine a_asgE ?_
        refine e_call ?_
        refine a_cons ?_
        refine e_call ?_
        refine a_val (v := v1) (val_var rfl) ?_
        refine a_val (v := (.int ((start1 + 3 : Nat) : Int))) (vn_add (val_var rfl) val_c) ?_
        refine a_nil ?_
        refine ⟨F22, (v1), (script1), (start1 + 3), _, rfl, w.f, r1, hW, ?_⟩
        intro z15 hW F23 H19 s18
        replace r1 := Rep.mono _ s18.g r1
        replace r4 := Rep.mono _ s18.g r4
        replace r5 := Rep.mono _ s18.g r5
        replace w := w.tr s18
        replace gx4 := Ex.tr gx4 s18.g
        replace gx2 := Ex.tr gx2 s18.g
        refine a_val (v := (.int ((260 : Nat) : Int))) val_c ?_
        refine a_val (v := (.int ((outputs2 : Nat) : Int))) (val_var rfl) ?_
        refine a_val (v := (.int ((stores2 : Nat) : Int))) (val_var rfl) ?_
        refine a_val (v := (.bl (digits1))) (val_var rfl) ?_
        refine a_nil ?_
        refine ⟨F23, (z15), (260), (outputs2), (stores2), (digits1), _, rfl, w.f, hW, ?_⟩
        intro z16 hW p6 F24 H20 s19 x5
        replace x5 := x5.base w
        replace r1 := Rep.mono _ s19.g r1
        replace r4 := Rep.mono _ s19.g r4
        replace r5 := Rep.mono _ s19.g r5
        replace w := w.tr s19
        replace gx4 := Ex.tr gx4 s19.g
        replace gx2 := Ex.tr gx2 s19.g
        obtain ⟨F25, w5, g5, r8, fz5⟩ := x5.frzE w
        replace r1 := Rep.mono _ g5 r1
        replace r4 := Rep.mono _ g5 r4
        replace r5 := Rep.mono _ g5 r5
        replace w := w5
        replace gx4 := Ex.tr gx4 g5
        replace gx2 := Ex.tr gx2 g5
        refine hN14 _ _ ?_
        refine q_sq fun N15 hN15 => ?_
        refine a_asgE ?_
        refine e_call ?_
        refine a_cons ?_
        refine e_call ?_
        refine a_val (v := v1) (val_var rfl) ?_
        refine a_val (v := (.int ((start1 + 4 : Nat) : Int))) (vn_add (val_var rfl) val_c) ?_
        refine a_nil ?_
        refine ⟨F25, (v1), (script1), (start1 + 4), _, rfl, w.f, r1, hW, ?_⟩
        intro z17 hW F26 H21 s20
        replace r1 := Rep.mono _ s20.g r1
        replace r4 := Rep.mono _ s20.g r4
        replace r5 := Rep.mono _ s20.g r5
        replace r8 := Rep.mono _ s20.g r8
        replace w := w.tr s20
        replace gx4 := Ex.tr gx4 s20.g
        replace gx2 := Ex.tr gx2 s20.g
        refine a_val (v := (.int ((280 : Nat) : Int))) val_c ?_
        refine a_val (v := (.int ((outputs2 : Nat) : Int))) (val_var rfl) ?_
        refine a_val (v := (.int ((inputs2 : Nat) : Int))) (val_var rfl) ?_
        refine a_val (v := (.bl (digits1))) (val_var rfl) ?_
        refine a_nil ?_
        refine ⟨F26, (z17), (280), (outputs2), (inputs2), (digits1), _, rfl, w.f, hW, ?_⟩
        intro z18 hW p7 F27 H22 s21 x6
        replace x6 := x6.base w
        replace r1 := Rep.mono _ s21.g r1
        replace r4 := Rep.mono _ s21.g r4
        replace r5 := Rep.mono _ s21.g r5
        replace r8 := Rep.mono _ s21.g r8
        replace w := w.tr s21
        replace gx4 := Ex.tr gx4 s21.g
        replace gx2 := Ex.tr gx2 s21.g
        obtain ⟨F28, w6, g6, r9, fz6⟩ := x6.frzE w
        replace r1 := Rep.mono _ g6 r1
        replace r4 := Rep.mono _ g6 r4
        replace r5 := Rep.mono _ g6 r5
        replace r8 := Rep.mono _ g6 r8
        replace w := w6
        replace gx4 := Ex.tr gx4 g6
        replace gx2 := Ex.tr gx2 g6
        refine hN15 _ _ ?_
        refine q_jn (S := List Nat) hW (fun shown1 σ' F' H' => ∃ (v4 : V), Wf F0 H0 F' H' ∧ Ex F28 F' ∧ σ' = [some v1, some (.int ((start1 : Nat) : Int)), some (.int ((most1 : Nat) : Int)), some (.int (z1)), some (.int ((stores2 : Nat) : Int)), some (.int ((inputs2 : Nat) : Int)), some (.int ((outputs2 : Nat) : Int)), some (.bl (digits1)), some (.int ((way1 : Nat) : Int)), some v2, some v3, none, none, some v4, some (.ref p7)] ∧ (pL pN).r F' v4 shown1) ?_ ?_
        · intro N16 hN16 hW
          have gx5 : Ex F28 F28 := Ex.rfl'
          refine a_ifE ?_
          refine e_ans (b := decide ((¬ (digits1 = true)) ∧ (1 < way1))) (t_and (t_not (t_ofB (vb_of (val_var rfl) dec_tt))) (fun _ => (t_of (vb_dec (c_gt (val_var rfl) val_c) n_lt)))) ?_
          refine b_if (fun hc4 => ?_) (fun hc4 => ?_)
          · have hW := ifP hW hc4
            refine a_asgE ?_
            refine c_J ?_
            refine a_val (v := (.ref p6)) (val_var rfl) ?_
            refine a_nil ?_
            refine src_enum r8 w.f (fun a2 T2 => ?_)
            obtain ⟨c3, hW⟩ := hW
            refine w_compG (e := pN) T2 w c3 hW ?_ ?_
            · intro Qy Qn it2 u4 F29 H23 R2 q2 hx2 ru2 hW hy2 hn2
              have r1 := Rep.mono _ q2.g r1
              have r4 := Rep.mono _ q2.g r4
              have r5 := Rep.mono _ q2.g r5
              have r8 := Rep.mono _ q2.g r8
              have r9 := Rep.mono _ q2.g r9
              have w := Wf.id q2.f
              obtain ⟨p8, u5, u6, rfl, h2, rfl, rfl⟩ := ru2
              refine ⟨p8, _, rfl, SqT.of (w.f _ _ h2), rfl, _, _, rfl, _, _, rfl, rfl, ?_⟩
              refine ⟨rfl, ?_⟩
              refine c_yes ?_
              refine e_op ?_
              refine e_val (v := (.int ((it2.2 : Nat) : Int))) (val_var rfl) ?_
              refine e_call ?_
              refine a_cons ?_
              refine e_call ?_
              refine a_val (v := v1) (val_var rfl) ?_
              refine a_val (v := (.int ((start1 + 3 : Nat) : Int))) (vn_add (val_var rfl) val_c) ?_
              refine a_nil ?_
              refine ⟨F29, (v1), (script1), (start1 + 3), _, rfl, w.f, r1, hW, ?_⟩
              intro z19 hW F30 H24 s22
              replace r1 := Rep.mono _ s22.g r1
              replace r4 := Rep.mono _ s22.g r4
              replace r5 := Rep.mono _ s22.g r5
              replace r8 := Rep.mono _ s22.g r8
              replace r9 := Rep.mono _ s22.g r9
              replace w := w.tr s22
              refine a_val (v := (.int ((300 + it2.1 : Nat) : Int))) (vn_add val_c (val_var rfl)) ?_
              refine a_nil ?_
              refine ⟨F30, (z19), (300 + it2.1), _, rfl, w.f, hW, ?_⟩
              intro z20 hW F31 H25 s23
              replace r1 := Rep.mono _ s23.g r1
              replace r4 := Rep.mono _ s23.g r4
              replace r5 := Rep.mono _ s23.g r5
              replace r8 := Rep.mono _ s23.g r8
              replace r9 := Rep.mono _ s23.g r9
              replace w := w.tr s23
              refine rv2 (z := (.int ((it2.2 &&& z20 : Nat) : Int))) (vn_and val_c val_c) ?_
              exact hy2 _ _ _ _ w rfl hW
            intro p9 ys2 F32 H26 hp2 s24 x7 hW
            replace r1 := Rep.mono _ s24.g r1
            replace r4 := Rep.mono _ s24.g r4
            replace r5 := Rep.mono _ s24.g r5
            replace r8 := Rep.mono _ s24.g r8
            replace r9 := Rep.mono _ s24.g r9
            replace w := w.tr s24
            replace gx5 := Ex.tr gx5 s24.g
            replace gx4 := Ex.tr gx4 s24.g
            replace gx2 := Ex.tr gx2 s24.g
            obtain ⟨F33, w7, g7, r11, fz7⟩ := x7.frzE w
            replace r1 := Rep.mono _ g7 r1
            replace r4 := Rep.mono _ g7 r4
            replace r5 := Rep.mono _ g7 r5
            replace r8 := Rep.mono _ g7 r8
            replace r9 := Rep.mono _ g7 r9
            replace w := w7
            replace gx5 := Ex.tr gx5 g7
            replace gx4 := Ex.tr gx4 g7
            replace gx2 := Ex.tr gx2 g7
            exact hN16 ys2 _ _ _ ⟨_, w, gx5, rfl, r11⟩ hW
          · have hW := ifN hW hc4
            exact hN16 z16 _ _ _ ⟨_, w, gx5, rfl, r8⟩ hW
        · intro shown1 σ' F34 H27 hI3 hW
          obtain ⟨v4, w, gx6, rfl, r10⟩ := hI3
          have r1 := Rep.mono _ gx6 r1
          have r4 := Rep.mono _ gx6 r4
          have r5 := Rep.mono _ gx6 r5
          have r9 := Rep.mono _ gx6 r9
          have gx4 := Ex.tr gx4 gx6
          have gx2 := Ex.tr gx2 gx6
          refine q_jn (S := List Nat) hW (fun straight1 σ' F' H' => ∃ (v5 : V), Wf F0 H0 F' H' ∧ Ex F34 F' ∧ σ' = [some v1, some (.int ((start1 : Nat) : Int)), some (.int ((most1 : Nat) : Int)), some (.int (z1)), some (.int ((stores2 : Nat) : Int)), some (.int ((inputs2 : Nat) : Int)), some (.int ((outputs2 : Nat) : Int)), some (.bl (digits1)), some (.int ((way1 : Nat) : Int)), some v2, some v3, none, none, some v4, some v5] ∧ (pL pN).r F' v5 straight1) ?_ ?_
          · intro N17 hN17 hW
            have gx7 : Ex F34 F34 := Ex.rfl'
            refine a_ifE ?_
            refine e_ans (b := decide ((¬ (digits1 = true)) ∧ (2 < way1))) (t_and (t_not (t_ofB (vb_of (val_var rfl) dec_tt))) (fun _ => (t_of (vb_dec (c_gt (val_var rfl) val_c) n_lt)))) ?_
            refine b_if (fun hc5 => ?_) (fun hc5 => ?_)
            · have hW := ifP hW hc5
              refine a_asgE ?_
              refine c_LE ?_
              refine e_val (v := (.ref p7)) (val_var rfl) ?_
              obtain ⟨c4, hW⟩ := hW
              refine w_compL (e := pN) r9 w c4 hW ?_ ?_
              · intro Qy Qn mask3 u7 F35 H28 R3 q3 hx3 ru3 hW hy3 hn3
                have r1 := Rep.mono _ q3.g r1
                have r4 := Rep.mono _ q3.g r4
                have r5 := Rep.mono _ q3.g r5
                have r10 := Rep.mono _ q3.g r10
                have r9 := Rep.mono _ q3.g r9
                have w := Wf.id q3.f
                obtain rfl : u7 = (.int ((mask3 : Nat) : Int)) := ru3
                refine ⟨rfl, ?_⟩
                refine c_yes ?_
                refine e_val (v := (.int ((0 : Nat) : Int))) val_c ?_
                exact hy3 _ _ _ _ w rfl hW
              intro p10 ys3 F36 H29 hp3 s26 x8 hW
              replace r1 := Rep.mono _ s26.g r1
              replace r4 := Rep.mono _ s26.g r4
              replace r5 := Rep.mono _ s26.g r5
              replace r10 := Rep.mono _ s26.g r10
              replace r9 := Rep.mono _ s26.g r9
              replace w := w.tr s26
              replace gx7 := Ex.tr gx7 s26.g
              replace gx6 := Ex.tr gx6 s26.g
              replace gx4 := Ex.tr gx4 s26.g
              replace gx2 := Ex.tr gx2 s26.g
              obtain ⟨F37, w8, g8, r13, fz8⟩ := x8.frzE w
              replace r1 := Rep.mono _ g8 r1
              replace r4 := Rep.mono _ g8 r4
              replace r5 := Rep.mono _ g8 r5
              replace r10 := Rep.mono _ g8 r10
              replace r9 := Rep.mono _ g8 r9
              replace w := w8
              replace gx7 := Ex.tr gx7 g8
              replace gx6 := Ex.tr gx6 g8
              replace gx4 := Ex.tr gx4 g8
              replace gx2 := Ex.tr gx2 g8
              exact hN17 ys3 _ _ _ ⟨_, w, gx7, rfl, r13⟩ hW
            · have hW := ifN hW hc5
              exact hN17 z18 _ _ _ ⟨_, w, gx7, rfl, r9⟩ hW
          · intro straight1 σ' F38 H30 hI4 hW
            obtain ⟨v5, w, gx8, rfl, r12⟩ := hI4
            have r1 := Rep.mono _ gx8 r1
            have r4 := Rep.mono _ gx8 r4
            have r5 := Rep.mono _ gx8 r5
            have r10 := Rep.mono _ gx8 r10
            have gx6 := Ex.tr gx6 gx8
            have gx4 := Ex.tr gx4 gx8
            have gx2 := Ex.tr gx2 gx8
            refine a_retE ?_
            refine e_tup ?_
            refine a_val (v := (.int ((inputs2 : Nat) : Int))) (val_var rfl) ?_
            refine a_cons ?_
            refine e_lzip ?_
            refine a_val (v := v2) (val_var rfl) ?_
            refine a_val (v := v3) (val_var rfl) ?_
            refine a_nil ?_
            refine n_lzip r4 r5 w ?_
            intro p11 F39 H31 hp4 s28 x9
            replace r1 := Rep.mono _ s28.g r1
            replace r4 := Rep.mono _ s28.g r4
            replace r5 := Rep.mono _ s28.g r5
            replace r10 := Rep.mono _ s28.g r10
            replace r12 := Rep.mono _ s28.g r12
            replace w := w.tr s28
            replace gx8 := Ex.tr gx8 s28.g
            replace gx6 := Ex.tr gx6 s28.g
            replace gx4 := Ex.tr gx4 s28.g
            replace gx2 := Ex.tr gx2 s28.g
            refine a_cons ?_
            refine e_lzip ?_
            refine a_val (v := v4) (val_var rfl) ?_
            refine a_val (v := v5) (val_var rfl) ?_
            refine a_nil ?_
            refine n_lzip r10 r12 w ?_
            intro p12 F40 H32 hp5 s29 x10
            have ne1 := x9.ne hp5
            replace r1 := Rep.mono _ s29.g r1
            replace r4 := Rep.mono _ s29.g r4
            replace r5 := Rep.mono _ s29.g r5
            replace r10 := Rep.mono _ s29.g r10
            replace r12 := Rep.mono _ s29.g r12
            replace x9 := x9.step s29
            replace w := w.tr s29
            replace gx8 := Ex.tr gx8 s29.g
            replace gx6 := Ex.tr gx6 s29.g
            replace gx4 := Ex.tr gx4 s29.g
            replace gx2 := Ex.tr gx2 s29.g
            refine a_nil ?_
            obtain ⟨F41, w9, g9, r14, fz9⟩ := x9.frzE w
            replace r1 := Rep.mono _ g9 r1
            replace r4 := Rep.mono _ g9 r4
            replace r5 := Rep.mono _ g9 r5
            replace r10 := Rep.mono _ g9 r10
            replace r12 := Rep.mono _ g9 r12
            replace x10 := x10.frzO fz9 (Ne.symm ne1) g9
            replace w := w9
            replace gx8 := Ex.tr gx8 g9
            replace gx6 := Ex.tr gx6 g9
            replace gx4 := Ex.tr gx4 g9
            replace gx2 := Ex.tr gx2 g9
            obtain ⟨F42, w10, g10, r15, fz10⟩ := x10.frzE w
            replace r1 := Rep.mono _ g10 r1
            replace r4 := Rep.mono _ g10 r4
            replace r5 := Rep.mono _ g10 r5
            replace r10 := Rep.mono _ g10 r10
            replace r12 := Rep.mono _ g10 r12
            replace r14 := Rep.mono _ g10 r14
            replace w := w10
            replace gx8 := Ex.tr gx8 g10
            replace gx6 := Ex.tr gx6 g10
            replace gx4 := Ex.tr gx4 g10
            replace gx2 := Ex.tr gx2 g10
            refine n_tup3 (e := pN) (f := (pL (pT2 pN pN))) (g := (pL (pT2 pN pN))) (x := inputs2) (y := one1.zip other1) (z := shown1.zip straight1) rfl r14 r15 w ?_
            intro p13 F43 H33 s30 r16
            replace r1 := Rep.mono _ s30.g r1
            replace r4 := Rep.mono _ s30.g r4
            replace r5 := Rep.mono _ s30.g r5
            replace r10 := Rep.mono _ s30.g r10
            replace r12 := Rep.mono _ s30.g r12
            replace r14 := Rep.mono _ s30.g r14
            replace r15 := Rep.mono _ s30.g r15
            replace w := w.tr s30
            replace gx8 := Ex.tr gx8 s30.g
            replace gx6 := Ex.tr gx6 s30.g
            replace gx4 := Ex.tr gx4 s30.g
            replace gx2 := Ex.tr gx2 s30.g
            exact hQ _ hW _ _ _ w r16
abbrev s_odd : Stmt := topS 40
def W_odd (number1 : Nat) (R : Nat → Prop) : Prop := whileW (fun (many1, number2) T => T (decide (0 < number2))) (fun (many1, number2) nx1 bk1 => ∀ many2 : Nat, many2 = many1 + (number2 % 2) → ∀ number3 : Nat, number3 = number2 / 2 → nx1 (many2, number3)) (0, number1) fun (many1, number2) => R (many1 % 2)
def sp_odd (K : PySem.W.Frag) (cc : Cz) : Sp := fun vs H Q _ => ∃ (F : Hp) (number1 : Nat) (R : Nat → Prop), vs = [(.int ((number1 : Nat) : Int))] ∧ Ex F H ∧ W_odd number1 R ∧ ∀ z, R z → ∀ F' H', Wf F H F' H' → Q (.int ((z : Nat) : Int)) H'
abbrev N_odd : List Str := ["_law_number", "_law_many"]
theorem sc_odd : FnScope N_odd ["_law_number"] (defScope s_odd) := ⟨rfl, rfl, rfl, by decide +kernel, rfl, by decide +kernel, by decide +kernel⟩
theorem ok_odd {P : Program} {w0 : World} {K : PySem.W.Frag} {mg : Str → Option Value} {base : Heap} {f : Addr} {fd : FuncData} {cc : Cz} (T : Tz K mg cc) (FU : Fun K "_law_odd" "_law_odd" s_odd f fd) (hm : mg "_law_odd" = some (.ref f)) (hb : Binds K fd ["_law_number"] []) : Fn P w0 K mg base CX0 1 "_law_odd" ["_law_number"] (sp_odd K cc) := by
  refine ⟨f, fd, FU.ok sc_odd (fun vs H Q E h => ?_) (fun cdv A outer s H0 vs Q E hr h => ?_), hm, FU.kp, hb⟩
  · obtain ⟨_, _, _, rfl, _⟩ := h; rfl
  · obtain ⟨F0, number1, R, rfl, wf, hW, hQ⟩ := h
    have nd := sc_odd.nd
    refine ⟨(tSeq (tAsg (tC (.int 0)) (gName 1)) (tSeq (tWhile (tTest (tOp kGt (tVar 0) (tC (.int 0)))) (tSeq (tAsg (tOp kAdd (tVar 1) (tOp kMod (tVar 0) (tC (.int 2)))) (gName 1)) (tAsg (tOp kDiv (tVar 0) (tC (.int 2))) (gName 0)))) (tRet (tOp kMod (tVar 1) (tC (.int 2)))))), (pss_cons (ps_set (i := 1) nd rfl (Or.inl rfl) pe_int) (pss_cons (ps_while PassesOwn.never (pt_cmpR op_gt (pv 0) pe_int (nomark _)) (pss_cons (ps_set (i := 1) nd rfl (Or.inl rfl) (pe_op op_add (pv 1) (pe_op op_mod (pv 0) pe_int))) (pss_one (ps_set (i := 0) nd rfl (Or.inl rfl) (pe_op op_fdivW (pv 0) pe_int))))) (pss_one (ps_ret (pe_op op_mod (pv 1) pe_int))))), ?_⟩
    have w := Wf.id wf
    refine q_sq fun N1 hN1 => ?_
    refine a_asg (v := (.int ((0 : Nat) : Int))) val_c ?_
    refine hN1 _ _ ?_
    refine q_sq fun N2 hN2 => ?_
    refine w_while (S := Nat × Nat) (fun s σ' F' H' => match s with | (many1, number2) => Wf F0 H0 F' H' ∧ Ex F0 F' ∧ σ' = [some (.int ((number2 : Nat) : Int)), some (.int ((many1 : Nat) : Int))]) hW ⟨w, Ex.rfl', rfl⟩ ?_ ?_ ?_
    · intro s1 σ' F1 H1 T1 Qc1 hI1 hW hT1
      obtain ⟨many1, number2⟩ := s1
      obtain ⟨w, gx1, rfl⟩ := hI1
      refine e_ans (b := decide (0 < number2)) (t_of (vb_dec (c_gt (val_var rfl) val_c) n_lt)) ?_
      exact hT1 _ _ _ ⟨w, gx1, rfl⟩ hW
    · intro N3 Bk1 s2 σ' F2 H2 nx1 bk1 hI2 hW hN3 hB1
      obtain ⟨many1, number2⟩ := s2
      obtain ⟨w, gx2, rfl⟩ := hI2
      refine q_sq fun N4 hN4 => ?_
      obtain ⟨many2, emany1⟩ : ∃ many2 : Nat, many2 = many1 + (number2 % 2) := ⟨_, rfl⟩
      replace hW := hW many2 emany1
      refine a_asg (v := (.int ((many2 : Nat) : Int))) (v_eq (vn_add (val_var rfl) (vn_mod (val_var rfl) val_c (by decide))) (by rw [emany1])) ?_
      refine hN4 _ _ ?_
      obtain ⟨number3, enumber1⟩ : ∃ number3 : Nat, number3 = number2 / 2 := ⟨_, rfl⟩
      replace hW := hW number3 enumber1
      refine a_asg (v := (.int ((number3 : Nat) : Int))) (v_eq (vn_div (val_var rfl) val_c ⟨by decide, by decide +kernel⟩) (by rw [enumber1])) ?_
      exact hN3 (many2, number3) _ _ _ ⟨w, gx2, rfl⟩ hW
    · intro s3 σ' F3 H3 hI3 hW
      obtain ⟨many1, number2⟩ := s3
      obtain ⟨w, gx3, rfl⟩ := hI3
      refine hN2 _ _ ?_
      refine a_ret (v := (.int ((many1 % 2 : Nat) : Int))) (vn_mod (val_var rfl) val_c (by decide)) ?_
      exact hQ _ hW _ _ w
abbrev s_bits : Stmt := topS 41
def W_bits (pairs1 : List (Nat × Nat)) (state1 : Nat) (row1 : Nat) (R : Nat → Prop) : Prop := forW (enumT pairs1) 0 (fun it1 found1 nx1 bk1 => W_odd (it1.2.1 &&& state1) fun z1 => W_odd (it1.2.2 &&& row1) fun z2 => (it1.1 < 100000000) ∧ (NMul ((z1 + z2) % 2) (2 ^ it1.1)) ∧ ∀ found2 : Nat, found2 = found1 + (((z1 + z2) % 2) * (2 ^ it1.1)) → nx1 found2) fun found1 => R found1
def sp_bits (K : PySem.W.Frag) (cc : Cz) : Sp := fun vs H Q _ => ∃ (F : Hp) (v1 : V) (pairs1 : List (Nat × Nat)) (state1 : Nat) (row1 : Nat) (R : Nat → Prop), vs = [v1, (.int ((state1 : Nat) : Int)), (.int ((row1 : Nat) : Int))] ∧ Ex F H ∧ (pL (pT2 pN pN)).r F v1 pairs1 ∧ W_bits pairs1 state1 row1 R ∧ ∀ z, R z → ∀ F' H', Wf F H F' H' → Q (.int ((z : Nat) : Int)) H'
abbrev N_bits : List Str := ["_law_pairs", "_law_state", "_law_row", "_law_found", "_law_k", "_law_pair"]
theorem sc_bits : FnScope N_bits ["_law_pairs", "_law_state", "_law_row"] (defScope s_bits) := ⟨rfl, rfl, rfl, by decide +kernel, rfl, by decide +kernel, by decide +kernel⟩
theorem ok_bits {P : Program} {w0 : World} {K : PySem.W.Frag} {mg : Str → Option Value} {base : Heap} {f : Addr} {fd : FuncData} {cc : Cz} (T : Tz K mg cc) (FU : Fun K "_law_bits" "_law_bits" s_bits f fd) (hm : mg "_law_bits" = some (.ref f)) (hb : Binds K fd ["_law_pairs", "_law_state", "_law_row"] []) (c_odd : Fn P w0 K mg base CX0 1 "_law_odd" ["_law_number"] (sp_odd K cc)) (n_enumerate : mg "enumerate" = none) : Fn P w0 K mg base CX0 2 "_law_bits" ["_law_pairs", "_law_state", "_law_row"] (sp_bits K cc) := by
  refine ⟨f, fd, FU.ok sc_bits (fun vs H Q E h => ?_) (fun cdv A outer s H0 vs Q E hr h => ?_), hm, FU.kp, hb⟩
  · obtain ⟨_, _, _, _, _, _, rfl, _⟩ := h; rfl
  · obtain ⟨F0, v1, pairs1, state1, row1, R, rfl, wf, r1, hW, hQ⟩ := h
    have nd := sc_bits.nd
    refine ⟨(tSeq (tAsg (tC (.int 0)) (gName 3)) (tSeq (tFor (iEnum K (tCons (tVar 0) tNil)) (gTup K 2 (gCons (gName 4) (gCons (gName 5) gNil))) (tAsg (tOp kAdd (tVar 3) (tOp kMul (tOp kMod (tOp kAdd (tCall (sp_odd K cc) [] E0 (tCons (tOp kAnd (tOp (L2.rIxT K) (tVar 5) (tC (.int 0))) (tVar 1)) tNil)) (tCall (sp_odd K cc) [] E0 (tCons (tOp kAnd (tOp (L2.rIxT K) (tVar 5) (tC (.int 1))) (tVar 2)) tNil))) (tC (.int 2))) (tOp kShl (tC (.int 1)) (tVar 4)))) (gName 3))) (tRet (tVar 3)))), (pss_cons (ps_set (i := 3) nd rfl (Or.inl rfl) pe_int) (pss_cons (ps_for PassesOwn.never rfl (pi_enum (by rfl) n_enumerate (pa_cons (pv 0) pa_nil)) (pg_tup rfl (pgs_cons (pg_name (i := 4) nd rfl (Or.inl rfl)) (pgs_cons (pg_name (i := 5) nd rfl (Or.inl rfl)) pgs_nil)) (by rfl)) (pss_one (ps_set (i := 3) nd rfl (Or.inl rfl) (pe_op op_add (pv 3) (pe_op op_mul (pe_op op_mod (pe_op op_add (pe_fn c_odd (hr.mono (by decide)) rfl (pa_cons (pe_op op_and (pe_ix ix_tup (pv 5) pe_int (fun _ _ => rfl)) (pv 1)) pa_nil)) (pe_fn c_odd (hr.mono (by decide)) rfl (pa_cons (pe_op op_and (pe_ix ix_tup (pv 5) pe_int (fun _ _ => rfl)) (pv 2)) pa_nil))) pe_int) (pe_op op_shlW pe_int (pv 4))))))) (pss_one (ps_ret (pv 3))))), ?_⟩
    have w := Wf.id wf
    refine q_sq fun N1 hN1 => ?_
    refine a_asg (v := (.int ((0 : Nat) : Int))) val_c ?_
    refine hN1 _ _ ?_
    refine q_sq fun N2 hN2 => ?_
    refine f_J ?_
    refine a_val (v := v1) (val_var rfl) ?_
    refine a_nil ?_
    refine src_enum r1 w.f (fun a1 T1 => ?_)
    refine w_forG (S := Nat) T1 (fun found1 σ' F' H' => ∃ (o1 : Option V) (o2 : Option V), Wf F0 H0 F' H' ∧ Ex F0 F' ∧ σ' = [some v1, some (.int ((state1 : Nat) : Int)), some (.int ((row1 : Nat) : Int)), some (.int ((found1 : Nat) : Int)), o1, o2]) hW ⟨_, _, w, Ex.rfl', rfl⟩ (fun s σ' F' H' hI => by obtain ⟨_, _, w', gx', _⟩ := hI; exact ⟨gx', w'.f⟩) w.f ?_ ?_
    · intro N3 Bk1 it1 u1 found1 σ' F1 H1 F2 H2 nx1 bk1 hI1 hx1 s2 ru1 hW hN3 hB1
      obtain ⟨o1, o2, w, gx1, rfl⟩ := hI1
      have r1 := Rep.mono _ gx1 r1
      replace r1 := Rep.mono _ s2.g r1
      replace w := w.tr s2
      replace gx1 := Ex.tr gx1 s2.g
      obtain ⟨p1, u2, u3, rfl, h1, rfl, r2⟩ := ru1
      refine ⟨p1, _, rfl, SqT.of (w.f _ _ h1), rfl, _, _, rfl, _, _, rfl, rfl, ?_⟩
      refine a_asgE ?_
      refine e_op ?_
      refine e_val (v := (.int ((found1 : Nat) : Int))) (val_var rfl) ?_
      refine e_op ?_
      refine e_op ?_
      refine e_op ?_
      refine e_call ?_
      obtain ⟨_, rfl, ix1⟩ := ix_2a (K := K) r2 w.f
      refine a_val (v := (.int ((it1.2.1 &&& state1 : Nat) : Int))) (vn_and (ix1 (val_var rfl) val_c) (val_var rfl)) ?_
      refine a_nil ?_
      refine ⟨F2, (it1.2.1 &&& state1), _, rfl, w.f, hW, ?_⟩
      intro z1 hW F3 H3 s3
      replace r1 := Rep.mono _ s3.g r1
      replace r2 := Rep.mono _ s3.g r2
      replace w := w.tr s3
      replace gx1 := Ex.tr gx1 s3.g
      refine e_call ?_
      obtain ⟨_, rfl, ix2⟩ := ix_2b (K := K) r2 w.f
      refine a_val (v := (.int ((it1.2.2 &&& row1 : Nat) : Int))) (vn_and (ix2 (val_var rfl) val_c) (val_var rfl)) ?_
      refine a_nil ?_
      refine ⟨F3, (it1.2.2 &&& row1), _, rfl, w.f, hW, ?_⟩
      intro z2 hW F4 H4 s4
      replace r1 := Rep.mono _ s4.g r1
      replace r2 := Rep.mono _ s4.g r2
      replace w := w.tr s4
      replace gx1 := Ex.tr gx1 s4.g
      refine rv2 (z := (.int ((z1 + z2 : Nat) : Int))) (vn_add val_c val_c) ?_
      refine e_val (v := (.int ((2 : Nat) : Int))) val_c ?_
      refine rv2 (z := (.int (((z1 + z2) % 2 : Nat) : Int))) (vn_mod val_c val_c (by decide)) ?_
      obtain ⟨c1, hW⟩ := hW
      refine e_val (v := (.int ((2 ^ it1.1 : Nat) : Int))) (vn_one val_c (val_var rfl) c1) ?_
      obtain ⟨c2, hW⟩ := hW
      refine rv2 (z := (.int ((((z1 + z2) % 2) * (2 ^ it1.1) : Nat) : Int))) (vn_mul val_c val_c c2) ?_
      refine rv2 (z := (.int ((found1 + (((z1 + z2) % 2) * (2 ^ it1.1)) : Nat) : Int))) (vn_add val_c val_c) ?_
      obtain ⟨found2, efound1⟩ : ∃ found2 : Nat, found2 = found1 + (((z1 + z2) % 2) * (2 ^ it1.1)) := ⟨_, rfl⟩
      replace hW := hW found2 efound1
      refine nx_set (v := (.int ((found2 : Nat) : Int))) (by rw [efound1]) ?_
      exact hN3 found2 _ _ _ ⟨_, _, w, gx1, rfl⟩ hW
    · intro found1 σ' F5 H5 hI2 hW
      obtain ⟨o1, o2, w, gx2, rfl⟩ := hI2
      have r1 := Rep.mono _ gx2 r1
      refine hN2 _ _ ?_
      refine a_ret (v := (.int ((found1 : Nat) : Int))) (val_var rfl) ?_
      exact hQ _ hW _ _ w
abbrev s_steps : Stmt := topS 46
def W_steps (tables1 : Nat × List (Nat × Nat) × List (Nat × Nat)) (R : (List (List (Nat × Nat))) → Prop) : Prop := (tables1.2.1.length < 100000000) ∧ (2 ^ tables1.2.1.length < 1000000) ∧ forW (List.range (2 ^ tables1.2.1.length)) ([] : List (List (Nat × Nat))) (fun state1 found1 nx1 bk1 => (tables1.1 < 100000000) ∧ ((2 ^ tables1.1) < 1000000) ∧ ((List.range (2 ^ tables1.1)).length < 1000000) ∧ compW (List.range (2 ^ tables1.1)) (fun row1 kk => W_bits tables1.2.2 state1 row1 fun z1 => W_bits tables1.2.1 state1 row1 fun z2 => kk (some (z1, z2))) fun ys1 => (found1.length < 1000000) ∧ nx1 (found1 ++ [ys1])) fun found1 => R found1
def sp_steps (K : PySem.W.Frag) (cc : Cz) : Sp := fun vs H Q _ => ∃ (F : Hp) (v1 : V) (tables1 : Nat × List (Nat × Nat) × List (Nat × Nat)) (R : (List (List (Nat × Nat))) → Prop), vs = [v1] ∧ Ex F H ∧ (pT3 pN (pL (pT2 pN pN)) (pL (pT2 pN pN))).r F v1 tables1 ∧ W_steps tables1 R ∧ ∀ z, R z → ∀ p F' H', Wf F H F' H' → XL (pL (pT2 pN pN)) H F' H' p z → Q (.ref p) H'
abbrev N_steps : List Str := ["_law_tables", "_law_found", "_law_state", "_law_rows_here", "_law_row"]
theorem sc_steps : FnScope N_steps ["_law_tables"] (defScope s_steps) := ⟨rfl, rfl, rfl, by decide +kernel, rfl, by decide +kernel, by decide +kernel⟩
theorem ok_steps {P : Program} {w0 : World} {K : PySem.W.Frag} {mg : Str → Option Value} {base : Heap} {f : Addr} {fd : FuncData} {cc : Cz} (T : Tz K mg cc) (FU : Fun K "_law_steps" "_law_steps" s_steps f fd) (hm : mg "_law_steps" = some (.ref f)) (hb : Binds K fd ["_law_tables"] []) (c_bits : Fn P w0 K mg base CX0 2 "_law_bits" ["_law_pairs", "_law_state", "_law_row"] (sp_bits K cc)) (n_len : mg "len" = none) (n_list : mg "list" = none) (n_range : mg "range" = none) : Fn P w0 K mg base CX0 3 "_law_steps" ["_law_tables"] (sp_steps K cc) := by
  refine ⟨f, fd, FU.ok sc_steps (fun vs H Q E h => ?_) (fun cdv A outer s H0 vs Q E hr h => ?_), hm, FU.kp, hb⟩
  · obtain ⟨_, _, _, _, rfl, _⟩ := h; rfl
  · obtain ⟨F0, v1, tables1, R, rfl, wf, r1, hW, hQ⟩ := h
    have nd := sc_steps.nd
    refine ⟨(tSeq (tAsg (tLst tNil) (gName 1)) (tSeq (tFor (iRng1 (tCons (tOp kShl (tC (.int 1)) (tCB (Wk.rLen K) (tCons (tOp (L2.rIxT K) (tVar 0) (tC (.int 1))) tNil))) tNil)) (gName 2) (tSeq (tAsg (tLstRg (tRg1 (tOp kShl (tC (.int 1)) (tOp (L2.rIxT K) (tVar 0) (tC (.int 0)))))) (gName 3)) (tDrop (tBM K "list" rAppend (tVar 1) (tCons (tLc (iList K (tVar 3)) (gName 4) tYes (tTup (tCons (tCall (sp_bits K cc) [] E0 (tCons (tOp (L2.rIxT K) (tVar 0) (tC (.int 2))) (tCons (tVar 2) (tCons (tVar 4) tNil)))) (tCons (tCall (sp_bits K cc) [] E0 (tCons (tOp (L2.rIxT K) (tVar 0) (tC (.int 1))) (tCons (tVar 2) (tCons (tVar 4) tNil)))) tNil))) [4]) tNil))))) (tRet (tVar 1)))), (pss_cons (ps_set (i := 1) nd rfl (Or.inl rfl) (pe_lst pa_nil)) (pss_cons (ps_for PassesOwn.never rfl (pi_range1 rfl n_range (pa_cons (pe_op op_shlW pe_int (pe_callB call_len_seq (by rfl) n_len PySem.boot_len (pa_cons (pe_ix ix_tup (pv 0) pe_int (fun _ _ => rfl)) pa_nil))) pa_nil)) (pg_name (i := 2) nd rfl (Or.inr rfl)) (pss_cons (ps_set (i := 3) nd rfl (Or.inl rfl) (pe_listRg rfl (by rfl) n_list (prg_1 (by rfl) n_range (pe_op op_shlW pe_int (pe_ix ix_tup (pv 0) pe_int (fun _ _ => rfl))) rfl))) (pss_one (ps_expr (pe_bm PySem.F.plainAttrs_list PySem.F.slot_list_append PySem.F.type_list_append mt_append (pv 1) (pa_cons (pe_lc (own := [("_law_row", 4)]) (wi := (iList K (tVar 3))) (g := (gName 4)) (tt := tYes) (te := (tTup (tCons (tCall (sp_bits K cc) [] E0 (tCons (tOp (L2.rIxT K) (tVar 0) (tC (.int 2))) (tCons (tVar 2) (tCons (tVar 4) tNil)))) (tCons (tCall (sp_bits K cc) [] E0 (tCons (tOp (L2.rIxT K) (tVar 0) (tC (.int 1))) (tCons (tVar 2) (tCons (tVar 4) tNil)))) tNil)))) rfl nd (pi_list (pv 3)) (blkOk_by (N := N_steps) (sc := defScope s_steps) (by decide +kernel)) (fun _ _ _ _ _ => (pg_name (i := 4) nd rfl (Or.inl rfl))) (fun _ _ _ _ _ => pts_nil) (fun _ _ _ _ _ => (pe_tup (pa_cons (pe_fn c_bits (hr.mono (by decide)) rfl (pa_cons (pe_ix ix_tup (pv 0) pe_int (fun _ _ => rfl)) (pa_cons (pv 2) (pa_cons (pv 4) pa_nil)))) (pa_cons (pe_fn c_bits (hr.mono (by decide)) rfl (pa_cons (pe_ix ix_tup (pv 0) pe_int (fun _ _ => rfl)) (pa_cons (pv 2) (pa_cons (pv 4) pa_nil)))) pa_nil))))) pa_nil)))))) (pss_one (ps_ret (pv 1))))), ?_⟩
    have w := Wf.id wf
    refine q_sq fun N1 hN1 => ?_
    refine a_asgE ?_
    refine e_lst ?_
    refine a_nil ?_
    refine n_lstX (e := (pL (pT2 pN pN))) (xs := []) (vs := []) (show All (pL (pT2 pN pN)) _ [] [] from trivial) (show 0 < 1000000 from by decide) w ?_
    intro p1 H1 hp1 s1 x1
    replace r1 := Rep.mono _ s1.g r1
    replace w := w.tr s1
    refine hN1 _ _ ?_
    refine q_sq fun N2 hN2 => ?_
    refine f_RE ?_
    obtain ⟨v2, r2, ix1⟩ := ix_3b (K := K) r1 w.f
    obtain ⟨c1, hW⟩ := hW
    refine e_val (v := (.int ((2 ^ tables1.2.1.length : Nat) : Int))) (vn_one val_c (len_L r2 w.f (ix1 (val_var rfl) val_c)) c1) ?_
    obtain ⟨c2, hW⟩ := hW
    refine w_forR (S := List (List (Nat × Nat))) (fun found1 σ' F' H' => ∃ (o1 : Option V) (o2 : Option V), Wf F0 H0 F' H' ∧ Ex F0 F' ∧ σ' = [some v1, some ((.ref p1)), o1, o2, none] ∧ XL (pL (pT2 pN pN)) H0 F' H' p1 found1) c2 hW ⟨_, _, w, Ex.rfl', rfl, x1⟩ ?_ ?_
    · intro N3 Bk1 state1 found1 σ' F1 H2 nx1 bk1 hI1 hx1 hW hN3 hB1
      obtain ⟨o1, o2, w, gx1, rfl, x2⟩ := hI1
      have r1 := Rep.mono _ gx1 r1
      have r2 := Rep.mono _ gx1 r2
      refine g_name ?_
      refine q_sq fun N4 hN4 => ?_
      refine a_asgE ?_
      obtain ⟨_, rfl, ix2⟩ := ix_3a (K := K) r1 w.f
      obtain ⟨c3, hW⟩ := hW
      obtain ⟨c4, hW⟩ := hW
      refine t_listRg (n := 2 ^ tables1.1) w (vn_one val_c (ix2 (val_var rfl) val_c) c3) c4 ?_
      intro p2 H3 hp2 s3 x3
      have ne1 := x2.ne hp2
      replace r1 := Rep.mono _ s3.g r1
      replace x2 := x2.step s3
      replace w := w.tr s3
      replace gx1 := Ex.tr gx1 s3.g
      obtain ⟨F2, w1, g1, r4, fz1⟩ := x3.frzE w
      replace r1 := Rep.mono _ g1 r1
      replace x2 := x2.frzO fz1 ne1 g1
      replace w := w1
      replace gx1 := Ex.tr gx1 g1
      refine hN4 _ _ ?_
      refine a_dropE ?_
      refine m_list x2 (val_var rfl) ?_
      refine a_cons ?_
      refine c_LE ?_
      refine e_val (v := (.ref p2)) (val_var rfl) ?_
      obtain ⟨c5, hW⟩ := hW
      refine w_compL (e := (pT2 pN pN)) r4 w c5 hW ?_ ?_
      · intro Qy Qn row1 u2 F3 H4 R1 q1 hx2 ru2 hW hy1 hn1
        have r1 := Rep.mono _ q1.g r1
        have x2 := x2.step q1
        have r4 := Rep.mono _ q1.g r4
        have w := Wf.id q1.f
        obtain rfl : u2 = (.int ((row1 : Nat) : Int)) := ru2
        refine ⟨rfl, ?_⟩
        refine c_yes ?_
        refine e_tup ?_
        refine a_cons ?_
        refine e_call ?_
        obtain ⟨v4, r5, ix3⟩ := ix_3c (K := K) r1 w.f
        refine a_val (v := v4) (ix3 (val_var rfl) val_c) ?_
        refine a_val (v := (.int ((state1 : Nat) : Int))) (val_var rfl) ?_
        refine a_val (v := (.int ((row1 : Nat) : Int))) (val_var rfl) ?_
        refine a_nil ?_
        refine ⟨F3, (v4), (tables1.2.2), (state1), (row1), _, rfl, w.f, r5, hW, ?_⟩
        intro z1 hW F4 H5 s4
        replace r1 := Rep.mono _ s4.g r1
        replace x2 := x2.step s4
        replace r4 := Rep.mono _ s4.g r4
        replace r5 := Rep.mono _ s4.g r5
        replace w := w.tr s4
        refine a_cons ?_
        refine e_call ?_
        obtain ⟨v5, r6, ix4⟩ := ix_3b (K := K) r1 w.f
        refine a_val (v := v5) (ix4 (val_var rfl) val_c) ?_
        refine a_val (v := (.int ((state1 : Nat) : Int))) (val_var rfl) ?_
        refine a_val (v := (.int ((row1 : Nat) : Int))) (val_var rfl) ?_
        refine a_nil ?_
        refine ⟨F4, (v5), (tables1.2.1), (state1), (row1), _, rfl, w.f, r6, hW, ?_⟩
        intro z2 hW F5 H6 s5
        replace r1 := Rep.mono _ s5.g r1
        replace x2 := x2.step s5
        replace r4 := Rep.mono _ s5.g r4
        replace r5 := Rep.mono _ s5.g r5
        replace r6 := Rep.mono _ s5.g r6
        replace w := w.tr s5
        refine a_nil ?_
        refine n_tup2 (e := pN) (f := pN) (x := z1) (y := z2) rfl rfl w ?_
        intro p3 F6 H7 s6 r7
        replace r1 := Rep.mono _ s6.g r1
        replace x2 := x2.step s6
        replace r4 := Rep.mono _ s6.g r4
        replace r5 := Rep.mono _ s6.g r5
        replace r6 := Rep.mono _ s6.g r6
        replace w := w.tr s6
        exact hy1 _ _ _ _ w r7 hW
      intro p4 ys1 F7 H8 hp3 s7 x4 hW
      have ne2 := x2.ne hp3
      replace r1 := Rep.mono _ s7.g r1
      replace x2 := x2.step s7
      replace r4 := Rep.mono _ s7.g r4
      replace w := w.tr s7
      replace gx1 := Ex.tr gx1 s7.g
      refine a_nil ?_
      obtain ⟨F8, w2, g2, r8, fz2⟩ := x4.frzE w
      replace r1 := Rep.mono _ g2 r1
      replace x2 := x2.frzO fz2 ne2 g2
      replace r4 := Rep.mono _ g2 r4
      replace w := w2
      replace gx1 := Ex.tr gx1 g2
      obtain ⟨c6, hW⟩ := hW
      refine a_app x2 w c6 r8 (fun H9 w3 x5 kp1 => ?_)
      replace w := w3
      exact hN3 (found1 ++ [ys1]) _ _ _ ⟨_, _, w, gx1, rfl, x5⟩ hW
    · intro found1 σ' F9 H10 hI2 hW
      obtain ⟨o1, o2, w, gx2, rfl, x2⟩ := hI2
      have r1 := Rep.mono _ gx2 r1
      have r2 := Rep.mono _ gx2 r2
      refine hN2 _ _ ?_
      refine a_ret (v := (.ref p1)) (val_var rfl) ?_
      exact hQ _ hW _ _ _ w x2
abbrev s_least_turns : Stmt := topS 47
def W_least_turns (steps_here1 : List (List (Nat × Nat))) (R : (List (Nat × Nat)) → Prop) : Prop := whileW (fun (turns1, line1) T => T (decide (line1 ≠ ([] : List Nat)))) (fun (turns1, line1) nx1 bk1 => forW line1 (turns1, ([] : List Nat)) (fun state1 (turns2, ahead1) nx2 bk2 => ∃ x8, steps_here1[state1]? = some x8 ∧ forW x8 (turns2, ahead1) (fun it1 (turns3, ahead2) nx3 bk3 => if ¬ (hasT turns3 it1.2 = true) then (∃ x11, valT turns3 state1 = some x11 ∧ (turns3.length < 1000000) ∧ (ahead2.length < 1000000) ∧ nx3 (putT turns3 it1.2 (x11 + 1), ahead2 ++ [it1.2])) else (nx3 (turns3, ahead2))) fun (turns3, ahead2) => nx2 (turns3, ahead2)) fun (turns2, ahead1) => nx1 (turns2, ahead1)) ([(0, 0)], [0]) fun (turns1, line1) => R turns1
def sp_least_turns (K : PySem.W.Frag) (cc : Cz) : Sp := fun vs H Q _ => ∃ (F : Hp) (v1 : V) (steps_here1 : List (List (Nat × Nat))) (R : (List (Nat × Nat)) → Prop), vs = [v1] ∧ Ex F H ∧ (pL (pL (pT2 pN pN))).r F v1 steps_here1 ∧ W_least_turns steps_here1 R ∧ ∀ z, R z → ∀ p F' H', Wf F H F' H' → XD pN H F' H' p z → Q (.ref p) H'
abbrev N_least_turns : List Str := ["_law_steps_here", "_law_turns", "_law_line", "_law_ahead", "_law_state", "_law_answer", "_law_later"]
theorem sc_least_turns : FnScope N_least_turns ["_law_steps_here"] (defScope s_least_turns) := ⟨rfl, rfl, rfl, by decide +kernel, rfl, by decide +kernel, by decide +kernel⟩
theorem ok_least_turns {P : Program} {w0 : World} {K : PySem.W.Frag} {mg : Str → Option Value} {base : Heap} {f : Addr} {fd : FuncData} {cc : Cz} (T : Tz K mg cc) (FU : Fun K "_law_least_turns" "_law_least_turns" s_least_turns f fd) (hm : mg "_law_least_turns" = some (.ref f)) (hb : Binds K fd ["_law_steps_here"] []) : Fn P w0 K mg base CX0 1 "_law_least_turns" ["_law_steps_here"] (sp_least_turns K cc) := by
  refine ⟨f, fd, FU.ok sc_least_turns (fun vs H Q E h => ?_) (fun cdv A outer s H0 vs Q E hr h => ?_), hm, FU.kp, hb⟩
  · obtain ⟨_, _, _, _, rfl, _⟩ := h; rfl
  · obtain ⟨F0, v1, steps_here1, R, rfl, wf, r1, hW, hQ⟩ := h
    have nd := sc_least_turns.nd
    refine ⟨(tSeq (tAsg (tDisp (((tC (.int 0)), (tC (.int 0))) :: [])) (gName 1)) (tSeq (tAsg (tLst (tCons (tC (.int 0)) tNil)) (gName 2)) (tSeq (tWhile (tTest (tOp (L2.rNeD K) (tVar 2) (tLst tNil))) (tSeq (tAsg (tLst tNil) (gName 3)) (tSeq (tFor (iList K (tVar 2)) (gName 4) (tFor (iList K (tOp (L2.rIxL K) (tVar 0) (tVar 4))) (gTup K 2 (gCons (gName 5) (gCons (gName 6) gNil))) (tIfS (tB (tDNotIn (tVar 6) (tVar 1))) (tSeq (sDPut (tVar 1) (tVar 6) (tOp kAdd (tDGet (tVar 1) (tVar 4)) (tC (.int 1)))) (tDrop (tBM K "list" rAppend (tVar 3) (tCons (tVar 6) tNil)))) tNext))) (tAsg (tVar 3) (gName 2))))) (tRet (tVar 1))))), (pss_cons (ps_set (i := 1) nd rfl (Or.inl rfl) (pe_disp (pps_cons pe_int pe_int pps_nil) (by rfl) (by rfl) (fun z => by cases z) (by decide))) (pss_cons (ps_set (i := 2) nd rfl (Or.inl rfl) (pe_lst (pa_cons pe_int pa_nil))) (pss_cons (ps_while PassesOwn.never (pt_cmpR (op_neD hr.units) (pv 2) (pe_lst pa_nil) (nomark _)) (pss_cons (ps_set (i := 3) nd rfl (Or.inl rfl) (pe_lst pa_nil)) (pss_cons (ps_for PassesOwn.never rfl (pi_list (pv 2)) (pg_name (i := 4) nd rfl (Or.inl rfl)) (pss_one (ps_for PassesOwn.never rfl (pi_list (pe_ix ix_list (pv 0) (pv 4) (fun _ _ => rfl))) (pg_tup rfl (pgs_cons (pg_name (i := 5) nd rfl (Or.inl rfl)) (pgs_cons (pg_name (i := 6) nd rfl (Or.inl rfl)) pgs_nil)) (by rfl)) (pss_one (ps_if (pt_cmp (pc_dnotin (hu_of hr) (pv 6) (pv 1))) (pss_cons (ps_dput (hu_of hr) (pv 1) (pv 6) (pe_op op_add (pe_dget (hu_of hr) (pv 1) (pv 4) (fun _ _ => rfl)) pe_int) rfl) (pss_one (ps_expr (pe_bm PySem.F.plainAttrs_list PySem.F.slot_list_append PySem.F.type_list_append mt_append (pv 3) (pa_cons (pv 6) pa_nil))))) pss_nil))))) (pss_one (ps_set (i := 2) nd rfl (Or.inl rfl) (pv 3)))))) (pss_one (ps_ret (pv 1)))))), ?_⟩
    have w := Wf.id wf
    refine q_sq fun N1 hN1 => ?_
    refine a_asgE ?_
    refine n_disp1 (κ := Nat) (e := pN) (j := 0) (x := 0) (v := (.int ((0 : Nat) : Int))) (fun _ => val_c) (fun _ => val_c) rfl w ?_
    intro p1 H1 hp1 s1 x1
    replace r1 := Rep.mono _ s1.g r1
    replace w := w.tr s1
    refine hN1 _ _ ?_
    refine q_sq fun N2 hN2 => ?_
    refine a_asgE ?_
    refine e_lst ?_
    refine a_val (v := (.int ((0 : Nat) : Int))) val_c ?_
    refine a_nil ?_
    refine n_lstX (e := pN) (xs := [0]) (vs := [(.int ((0 : Nat) : Int))]) (show All pN _ [(.int ((0 : Nat) : Int))] [0] from ⟨rfl, trivial⟩) (show 1 < 1000000 from by decide) w ?_
    intro p2 H2 hp2 s2 x2
    have ne1 := x1.ne hp2
    replace r1 := Rep.mono _ s2.g r1
    replace x1 := x1.step s2
    replace w := w.tr s2
    obtain ⟨F1, w1, g1, r2, fz1⟩ := x2.frzE w
    replace r1 := Rep.mono _ g1 r1
    replace x1 := x1.frzO fz1 ne1 g1
    replace w := w1
    refine hN2 _ _ ?_
    refine q_sq fun N3 hN3 => ?_
    refine w_while (S := (List (Nat × Nat)) × List Nat) (fun s σ' F' H' => match s with | (turns1, line1) => ∃ (v2 : V) (o1 : Option V) (o2 : Option V) (o3 : Option V) (o4 : Option V), Wf F0 H0 F' H' ∧ Ex F1 F' ∧ σ' = [some v1, some ((.ref p1)), some v2, o1, o2, o3, o4] ∧ XD pN H0 F' H' p1 turns1 ∧ (pL pN).r F' v2 line1) hW ⟨_, _, _, _, _, w, Ex.rfl', rfl, x1, r2⟩ ?_ ?_ ?_
    · intro s3 σ' F2 H3 T1 Qc1 hI1 hW hT1
      obtain ⟨turns1, line1⟩ := s3
      obtain ⟨v2, o1, o2, o3, o4, w, gx1, rfl, x3, r3⟩ := hI1
      have r1 := Rep.mono _ gx1 r1
      refine e_tT ?_
      refine e_op ?_
      refine e_val (v := v2) (val_var rfl) ?_
      refine e_lst ?_
      refine a_nil ?_
      refine n_lstX (e := pN) (xs := []) (vs := []) (show All pN _ [] [] from trivial) (show 0 < 1000000 from by decide) w ?_
      intro p3 H4 hp3 s4 x4
      have ne2 := x3.ne hp3
      replace r1 := Rep.mono _ s4.g r1
      replace x3 := x3.step s4
      replace r3 := Rep.mono _ s4.g r3
      replace w := w.tr s4
      replace gx1 := Ex.tr gx1 s4.g
      obtain ⟨F3, w2, g2, r4, fz2⟩ := x4.frzE w
      replace r1 := Rep.mono _ g2 r1
      replace x3 := x3.frzO fz2 ne2 g2
      replace r3 := Rep.mono _ g2 r3
      replace w := w2
      replace gx1 := Ex.tr gx1 g2
      refine rv2T (b := decide (line1 ≠ ([] : List Nat))) (c_neD (K := K) (e := (pL pN)) val_c val_c w.f r3 w.f r4) ?_
      exact hT1 _ _ _ ⟨_, _, _, _, _, w, gx1, rfl, x3, r3⟩ hW
    · intro N4 Bk1 s5 σ' F4 H5 nx1 bk1 hI2 hW hN4 hB1
      obtain ⟨turns1, line1⟩ := s5
      obtain ⟨v2, o1, o2, o3, o4, w, gx2, rfl, x3, r3⟩ := hI2
      have r1 := Rep.mono _ gx2 r1
      refine q_sq fun N5 hN5 => ?_
      refine a_asgE ?_
      refine e_lst ?_
      refine a_nil ?_
      refine n_lstX (e := pN) (xs := []) (vs := []) (show All pN _ [] [] from trivial) (show 0 < 1000000 from by decide) w ?_
      intro p4 H6 hp4 s6 x5
      have ne3 := x3.ne hp4
      replace r1 := Rep.mono _ s6.g r1
      replace x3 := x3.step s6
      replace r3 := Rep.mono _ s6.g r3
      replace w := w.tr s6
      replace gx2 := Ex.tr gx2 s6.g
      refine hN5 _ _ ?_
      refine q_sq fun N6 hN6 => ?_
      refine f_LE ?_
      refine e_val (v := v2) (val_var rfl) ?_
      refine w_forL (S := (List (Nat × Nat)) × List Nat) (fun s σ' F' H' => match s with | (turns2, ahead1) => ∃ (o5 : Option V) (o6 : Option V) (o7 : Option V), Wf F0 H0 F' H' ∧ Ex F4 F' ∧ σ' = [some v1, some ((.ref p1)), some v2, some ((.ref p4)), o5, o6, o7] ∧ XD pN H0 F' H' p1 turns2 ∧ XL pN H0 F' H' p4 ahead1) r3 hW ⟨_, _, _, w, Ex.rfl', rfl, x3, x5⟩ (fun s σ' F' H' hI => by obtain ⟨turns2, ahead1⟩ := s; obtain ⟨_, _, _, w', gx', _⟩ := hI; exact ⟨gx', w'.f⟩) w.f ?_ ?_
      · intro N7 Bk2 state1 u1 s7 σ' F5 H7 nx2 bk2 hI3 hx1 ru1 hW hN7 hB2
        obtain ⟨turns2, ahead1⟩ := s7
        obtain ⟨o5, o6, o7, w, gx3, rfl, x6, x7⟩ := hI3
        have r1 := Rep.mono _ gx3 r1
        have r3 := Rep.mono _ gx3 r3
        have gx2 := Ex.tr gx2 gx3
        obtain rfl : u1 = (.int ((state1 : Nat) : Int)) := ru1
        refine g_name ?_
        refine f_LE ?_
        obtain ⟨x8, hx8_1, hW⟩ := hW
        obtain ⟨v3, r5, ix1⟩ := ix_L (K := K) r1 w.f hx8_1
        refine e_val (v := v3) (ix1 (val_var rfl) (val_var rfl)) ?_
        refine w_forL (S := (List (Nat × Nat)) × List Nat) (fun s σ' F' H' => match s with | (turns3, ahead2) => ∃ (o8 : Option V) (o9 : Option V), Wf F0 H0 F' H' ∧ Ex F5 F' ∧ σ' = [some v1, some ((.ref p1)), some v2, some ((.ref p4)), some (.int ((state1 : Nat) : Int)), o8, o9] ∧ XD pN H0 F' H' p1 turns3 ∧ XL pN H0 F' H' p4 ahead2) r5 hW ⟨_, _, w, Ex.rfl', rfl, x6, x7⟩ (fun s σ' F' H' hI => by obtain ⟨turns3, ahead2⟩ := s; obtain ⟨_, _, w', gx', _⟩ := hI; exact ⟨gx', w'.f⟩) w.f ?_ ?_
        · intro N8 Bk3 it1 u2 s8 σ' F6 H8 nx3 bk3 hI4 hx2 ru2 hW hN8 hB3
          obtain ⟨turns3, ahead2⟩ := s8
          obtain ⟨o8, o9, w, gx4, rfl, x9, x10⟩ := hI4
          have r1 := Rep.mono _ gx4 r1
          have r3 := Rep.mono _ gx4 r3
          have r5 := Rep.mono _ gx4 r5
          have gx3 := Ex.tr gx3 gx4
          have gx2 := Ex.tr gx2 gx4
          obtain ⟨p5, u3, u4, rfl, h1, rfl, rfl⟩ := ru2
          refine ⟨p5, _, rfl, SqT.of (w.f _ _ h1), rfl, _, _, rfl, _, _, rfl, rfl, ?_⟩
          refine a_ifE ?_
          refine e_ans (b := decide (¬ (hasT turns3 it1.2 = true))) (t_ofB (vb_of (nin_XD (j := it1.2) x9 (val_var rfl) (val_var rfl)) dec_nt)) ?_
          refine b_if (fun hc1 => ?_) (fun hc1 => ?_)
          · have hW := ifP hW hc1
            refine q_sq fun N9 hN9 => ?_
            refine e_dput ?_
            obtain ⟨x11, hx3, hW⟩ := hW
            obtain ⟨_, rfl, ix2⟩ := ix_XD x9 hx3
            refine e_val (v := (.int ((x11 + 1 : Nat) : Int))) (vn_add (ix2 (val_var rfl) (val_var rfl)) val_c) ?_
            obtain ⟨c1, hW⟩ := hW
            refine d_put (j := it1.2) x9 w c1 rfl (val_var rfl) (val_var rfl) (fun H9 w3 x12 kp1 => ?_)
            replace x10 := x10.kept kp1 (Ne.symm ne3)
            replace w := w3
            refine hN9 _ _ ?_
            refine a_dropE ?_
            refine m_list x10 (val_var rfl) ?_
            refine a_val (v := (.int ((it1.2 : Nat) : Int))) (val_var rfl) ?_
            refine a_nil ?_
            obtain ⟨c2, hW⟩ := hW
            refine a_app x10 w c2 rfl (fun H10 w4 x13 kp2 => ?_)
            replace x12 := x12.kept kp2 ne3
            replace w := w4
            exact hN8 (putT turns3 it1.2 (x11 + 1), ahead2 ++ [it1.2]) _ _ _ ⟨_, _, w, gx4, rfl, x12, x13⟩ hW
          · have hW := ifN hW hc1
            exact hN8 (turns3, ahead2) _ _ _ ⟨_, _, w, gx4, rfl, x9, x10⟩ hW
        · intro s9 σ' F7 H11 hI5 hW
          obtain ⟨turns3, ahead2⟩ := s9
          obtain ⟨o8, o9, w, gx5, rfl, x9, x10⟩ := hI5
          have r1 := Rep.mono _ gx5 r1
          have r3 := Rep.mono _ gx5 r3
          have r5 := Rep.mono _ gx5 r5
          have gx3 := Ex.tr gx3 gx5
          have gx2 := Ex.tr gx2 gx5
          exact hN7 (turns3, ahead2) _ _ _ ⟨_, _, _, w, gx3, rfl, x9, x10⟩ hW
      · intro s10 σ' F8 H12 hI6 hW
        obtain ⟨turns2, ahead1⟩ := s10
        obtain ⟨o5, o6, o7, w, gx6, rfl, x6, x7⟩ := hI6
        have r1 := Rep.mono _ gx6 r1
        have r3 := Rep.mono _ gx6 r3
        have gx2 := Ex.tr gx2 gx6
        refine hN6 _ _ ?_
        obtain ⟨F9, w5, g3, r6, fz3⟩ := x7.frzE w
        replace r1 := Rep.mono _ g3 r1
        replace x6 := x6.frzO fz3 ne3 g3
        replace r3 := Rep.mono _ g3 r3
        replace w := w5
        replace gx6 := Ex.tr gx6 g3
        replace gx2 := Ex.tr gx2 g3
        refine a_asg (v := (.ref p4)) (val_var rfl) ?_
        exact hN4 (turns2, ahead1) _ _ _ ⟨_, _, _, _, _, w, gx2, rfl, x6, r6⟩ hW
    · intro s11 σ' F10 H13 hI7 hW
      obtain ⟨turns1, line1⟩ := s11
      obtain ⟨v2, o1, o2, o3, o4, w, gx7, rfl, x3, r3⟩ := hI7
      have r1 := Rep.mono _ gx7 r1
      refine hN3 _ _ ?_
      refine a_ret (v := (.ref p1)) (val_var rfl) ?_
      exact hQ _ hW _ _ _ w x3
abbrev s_is_unlike : Stmt := topS 49
def W_is_unlike (steps_here1 : List (List (Nat × Nat))) (found1 : List ((Nat × Nat) × Nat)) (one1 : Nat) (other1 : Nat) (turn1 : Nat) (R : Bool → Prop) : Prop := ∃ x1, steps_here1[one1]? = some x1 ∧ ∃ x2, steps_here1[other1]? = some x2 ∧ forW (x1.zip x2) () (fun it1 _ nx1 bk1 => jn (fun kk => if turn1 = 0 then (kk (decide (it1.1.1 ≠ it1.2.1))) else (kk false)) fun b1 => if b1 = true then (R true) else (jn (fun kk => if 0 < turn1 then (kk (decide ((getZ (valT found1 (it1.1.2, it1.2.2)) (-1)) = (((turn1 : Nat) : Int) - ((1 : Nat) : Int))))) else (kk false)) fun b2 => if b2 = true then (R true) else (nx1 ()))) fun _ => R false
def sp_is_unlike (K : PySem.W.Frag) (cc : Cz) : Sp := fun vs H Q _ => ∃ (F : Hp) (v1 : V) (steps_here1 : List (List (Nat × Nat))) (v2 : V) (found1 : List ((Nat × Nat) × Nat)) (one1 : Nat) (other1 : Nat) (turn1 : Nat) (R : Bool → Prop), vs = [v1, v2, (.int ((one1 : Nat) : Int)), (.int ((other1 : Nat) : Int)), (.int ((turn1 : Nat) : Int))] ∧ Ex F H ∧ (pL (pL (pT2 pN pN))).r F v1 steps_here1 ∧ (pDT pN).r F v2 found1 ∧ W_is_unlike steps_here1 found1 one1 other1 turn1 R ∧ ∀ z, R z → ∀ F' H', Wf F H F' H' → Q (.bl (z)) H'
abbrev N_is_unlike : List Str := ["_law_steps_here", "_law_found", "_law_one", "_law_other", "_law_turn", "_law_first", "_law_second"]
theorem sc_is_unlike : FnScope N_is_unlike ["_law_steps_here", "_law_found", "_law_one", "_law_other", "_law_turn"] (defScope s_is_unlike) := ⟨rfl, rfl, rfl, by decide +kernel, rfl, by decide +kernel, by decide +kernel⟩
theorem ok_is_unlike {P : Program} {w0 : World} {K : PySem.W.Frag} {mg : Str → Option Value} {base : Heap} {f : Addr} {fd : FuncData} {cc : Cz} (T : Tz K mg cc) (FU : Fun K "_law_is_unlike" "_law_is_unlike" s_is_unlike f fd) (hm : mg "_law_is_unlike" = some (.ref f)) (hb : Binds K fd ["_law_steps_here", "_law_found", "_law_one", "_law_other", "_law_turn"] []) (n_zip : mg "zip" = none) : Fn P w0 K mg base CX0 1 "_law_is_unlike" ["_law_steps_here", "_law_found", "_law_one", "_law_other", "_law_turn"] (sp_is_unlike K cc) := by
  refine ⟨f, fd, FU.ok sc_is_unlike (fun vs H Q E h => ?_) (fun cdv A outer s H0 vs Q E hr h => ?_), hm, FU.kp, hb⟩
  · obtain ⟨_, _, _, _, _, _, _, _, _, rfl, _⟩ := h; rfl
  · obtain ⟨F0, v1, steps_here1, v2, found1, one1, other1, turn1, R, rfl, wf, r1, r2, hW, hQ⟩ := h
    have nd := sc_is_unlike.nd
    refine ⟨(tSeq (tFor (iZip K (tCons (tOp (L2.rIxL K) (tVar 0) (tVar 2)) (tCons (tOp (L2.rIxL K) (tVar 0) (tVar 3)) tNil))) (gTup K 2 (gCons (gName 5) (gCons (gName 6) gNil))) (tSeq (tIfS (tAnd (tTest (tOp L2.rEq (tVar 4) (tC (.int 0)))) (tTest (tOp L2.rNe (tOp (L2.rIxT K) (tVar 5) (tC (.int 0))) (tOp (L2.rIxT K) (tVar 6) (tC (.int 0)))))) (tRet (tC (.bl true))) tNext) (tIfS (tAnd (tTest (tOp kGt (tVar 4) (tC (.int 0)))) (tTest (tOp L2.rEq (tDGet2 (tVar 1) (tTup (tCons (tOp (L2.rIxT K) (tVar 5) (tC (.int 1))) (tCons (tOp (L2.rIxT K) (tVar 6) (tC (.int 1))) tNil))) (tUn kNeg (tC (.int 1)))) (tOp kSub (tVar 4) (tC (.int 1)))))) (tRet (tC (.bl true))) tNext))) (tRet (tC (.bl false)))), (pss_cons (ps_for PassesOwn.never rfl (pi_zip (by rfl) n_zip (pa_cons (pe_ix ix_list (pv 0) (pv 2) (fun _ _ => rfl)) (pa_cons (pe_ix ix_list (pv 0) (pv 3) (fun _ _ => rfl)) pa_nil))) (pg_tup rfl (pgs_cons (pg_name (i := 5) nd rfl (Or.inl rfl)) (pgs_cons (pg_name (i := 6) nd rfl (Or.inl rfl)) pgs_nil)) (by rfl)) (pss_cons (ps_if (PW.pt (pw_and (pt_cmpR op_eq (pv 4) pe_int (nomark _)) (pw_and1 (pt_cmpR op_ne (pe_ix ix_tup (pv 5) pe_int (fun _ _ => rfl)) (pe_ix ix_tup (pv 6) pe_int (fun _ _ => rfl)) (nomark _))))) (pss_one (ps_ret pe_bl)) pss_nil) (pss_one (ps_if (PW.pt (pw_and (pt_cmpR op_gt (pv 4) pe_int (nomark _)) (pw_and1 (pt_cmpR op_eq (pe_dget2 (hu_of hr) (pv 1) (pe_tup (pa_cons (pe_ix ix_tup (pv 5) pe_int (fun _ _ => rfl)) (pa_cons (pe_ix ix_tup (pv 6) pe_int (fun _ _ => rfl)) pa_nil))) (pe_un un_neg pe_int) ⟨by rfl, by rfl, by rfl, by rfl⟩) (pe_op op_sub (pv 4) pe_int) (nomark _))))) (pss_one (ps_ret pe_bl)) pss_nil)))) (pss_one (ps_ret pe_bl))), ?_⟩
    have w := Wf.id wf
    refine q_sq fun N1 hN1 => ?_
    refine f_J ?_
    obtain ⟨x1, hx1_1, hW⟩ := hW
    obtain ⟨v3, r3, ix1⟩ := ix_L (K := K) r1 w.f hx1_1
    refine a_val (v := v3) (ix1 (val_var rfl) (val_var rfl)) ?_
    obtain ⟨x2, hx2_1, hW⟩ := hW
    obtain ⟨v4, r4, ix2⟩ := ix_L (K := K) r1 w.f hx2_1
    refine a_val (v := v4) (ix2 (val_var rfl) (val_var rfl)) ?_
    refine a_nil ?_
    refine src_zip r3 r4 w.f (fun a1 a2 T1 => ?_)
    refine w_forG (S := Unit) T1 (fun _ σ' F' H' => ∃ (o1 : Option V) (o2 : Option V), Wf F0 H0 F' H' ∧ Ex F0 F' ∧ σ' = [some v1, some v2, some (.int ((one1 : Nat) : Int)), some (.int ((other1 : Nat) : Int)), some (.int ((turn1 : Nat) : Int)), o1, o2]) hW ⟨_, _, w, Ex.rfl', rfl⟩ (fun s σ' F' H' hI => by obtain ⟨_, _, w', gx', _⟩ := hI; exact ⟨gx', w'.f⟩) w.f ?_ ?_
    · intro N2 Bk1 it1 u1 s1 σ' F1 H1 F2 H2 nx1 bk1 hI1 hx1 s2 ru1 hW hN2 hB1
      obtain ⟨o1, o2, w, gx1, rfl⟩ := hI1
      have r1 := Rep.mono _ gx1 r1
      have r2 := Rep.mono _ gx1 r2
      have r3 := Rep.mono _ gx1 r3
      have r4 := Rep.mono _ gx1 r4
      replace r1 := Rep.mono _ s2.g r1
      replace r2 := Rep.mono _ s2.g r2
      replace r3 := Rep.mono _ s2.g r3
      replace r4 := Rep.mono _ s2.g r4
      replace w := w.tr s2
      replace gx1 := Ex.tr gx1 s2.g
      obtain ⟨p1, u2, u3, rfl, h1, r5, r6⟩ := ru1
      refine ⟨p1, _, rfl, SqT.of (w.f _ _ h1), rfl, _, _, rfl, _, _, rfl, rfl, ?_⟩
      refine q_sq fun N3 hN3 => ?_
      refine a_ifE ?_
      refine e_jnT hW (fun b F' H' => b = b ∧ Wf F0 H0 F' H' ∧ Ex F2 F') ?_ ?_
      · intro N4 hN4 hW
        have gx2 : Ex F2 F2 := Ex.rfl'
        refine e_tAnd ?_
        refine e_ans (b := decide (turn1 = 0)) (t_of (vb_dec (c_eqI (val_var rfl) val_c) n_eq)) ?_
        refine b_if (fun hc1 => ?_) (fun hc1 => ?_)
        · have hW := ifP hW hc1
          obtain ⟨_, rfl, ix3⟩ := ix_2a (K := K) r5 w.f
          obtain ⟨_, rfl, ix4⟩ := ix_2a (K := K) r6 w.f
          refine e_ans (b := decide (it1.1.1 ≠ it1.2.1)) (t_of (vb_dec (c_neI (ix3 (val_var rfl) val_c) (ix4 (val_var rfl) val_c)) n_ne)) ?_
          exact hN4 (decide (it1.1.1 ≠ it1.2.1)) _ _ ⟨rfl, w, gx2⟩ hW
        · have hW := ifN hW hc1
          exact hN4 false _ _ ⟨rfl, w, gx2⟩ hW
      intro b1 F3 H3 hI2 hW
      obtain ⟨_, w, gx3⟩ := hI2
      have r1 := Rep.mono _ gx3 r1
      have r2 := Rep.mono _ gx3 r2
      have r5 := Rep.mono _ gx3 r5
      have r6 := Rep.mono _ gx3 r6
      have gx1 := Ex.tr gx1 gx3
      refine bb_if (fun hc2 => ?_) (fun hc2 => ?_)
      · have hW := ifP hW hc2
        refine a_ret (v := (.bl (true))) val_c ?_
        exact hQ _ hW _ _ w
      · have hW := ifN hW hc2
        refine hN3 _ _ ?_
        refine a_ifE ?_
        refine e_jnT hW (fun b F' H' => b = b ∧ Wf F0 H0 F' H' ∧ Ex F3 F') ?_ ?_
        · intro N5 hN5 hW
          have gx4 : Ex F3 F3 := Ex.rfl'
          refine e_tAnd ?_
          refine e_ans (b := decide (0 < turn1)) (t_of (vb_dec (c_gt (val_var rfl) val_c) n_lt)) ?_
          refine b_if (fun hc3 => ?_) (fun hc3 => ?_)
          · have hW := ifP hW hc3
            refine e_tT ?_
            refine e_op ?_
            refine e_dget2P ?_
            refine e_val (v := v2) (val_var rfl) ?_
            obtain ⟨pd1, hv1, hi1⟩ := isd_P r2 w.f
            refine ⟨_, hv1, hi1, ?_⟩
            refine e_tup ?_
            obtain ⟨_, rfl, ix5⟩ := ix_2b (K := K) r5 w.f
            refine a_val (v := (.int ((it1.1.2 : Nat) : Int))) (ix5 (val_var rfl) val_c) ?_
            obtain ⟨_, rfl, ix6⟩ := ix_2b (K := K) r6 w.f
            refine a_val (v := (.int ((it1.2.2 : Nat) : Int))) (ix6 (val_var rfl) val_c) ?_
            refine a_nil ?_
            refine n_tup2 (e := pN) (f := pN) (x := it1.1.2) (y := it1.2.2) rfl rfl w ?_
            intro p2 F4 H4 s3 r11
            replace r1 := Rep.mono _ s3.g r1
            replace r2 := Rep.mono _ s3.g r2
            replace r5 := Rep.mono _ s3.g r5
            replace r6 := Rep.mono _ s3.g r6
            replace w := w.tr s3
            replace gx4 := Ex.tr gx4 s3.g
            replace gx1 := Ex.tr gx1 s3.g
            refine e_val (v := .int (-1)) (v_neg val_c) ?_
            refine get2_P (p := pd1) (d := -1) (hv1 ▸ r2) r11 w.f ?_
            refine e_val (v := (.int (((turn1 : Nat) : Int) - ((1 : Nat) : Int)))) (vi0 (val_var rfl) val_c) ?_
            refine rv2T (b := decide ((getZ (valT found1 (it1.1.2, it1.2.2)) (-1)) = (((turn1 : Nat) : Int) - ((1 : Nat) : Int)))) (c_eqI val_c val_c) ?_
            exact hN5 (decide ((getZ (valT found1 (it1.1.2, it1.2.2)) (-1)) = (((turn1 : Nat) : Int) - ((1 : Nat) : Int)))) _ _ ⟨rfl, w, gx4⟩ hW
          · have hW := ifN hW hc3
            exact hN5 false _ _ ⟨rfl, w, gx4⟩ hW
        intro b2 F5 H5 hI3 hW
        obtain ⟨_, w, gx5⟩ := hI3
        have r1 := Rep.mono _ gx5 r1
        have r2 := Rep.mono _ gx5 r2
        have r5 := Rep.mono _ gx5 r5
        have r6 := Rep.mono _ gx5 r6
        have gx1 := Ex.tr gx1 gx5
        refine bb_if (fun hc4 => ?_) (fun hc4 => ?_)
        · have hW := ifP hW hc4
          refine a_ret (v := (.bl (true))) val_c ?_
          exact hQ _ hW _ _ w
        · have hW := ifN hW hc4
          exact hN2 () _ _ _ ⟨_, _, w, gx1, rfl⟩ hW
    · intro s4 σ' F6 H6 hI4 hW
      obtain ⟨o1, o2, w, gx6, rfl⟩ := hI4
      have r1 := Rep.mono _ gx6 r1
      have r2 := Rep.mono _ gx6 r2
      have r3 := Rep.mono _ gx6 r3
      have r4 := Rep.mono _ gx6 r4
      refine hN1 _ _ ?_
      refine a_ret (v := (.bl (false))) val_c ?_
      exact hQ _ hW _ _ w
abbrev s_first_unlike : Stmt := topS 48
def W_first_unlike (steps_here1 : List (List (Nat × Nat))) (R : (List ((Nat × Nat) × Nat)) → Prop) : Prop := ∀ many1 : Nat, many1 = steps_here1.length → whileW (fun (more1, found1, turn1) T => T (decide (more1 = true))) (fun (more1, found1, turn1) nx1 bk1 => (many1 < 1000000) ∧ forW (List.range many1) ([] : List (Nat × Nat)) (fun one1 fresh1 nx2 bk2 => (many1 < 1000000) ∧ forW (List.range many1) fresh1 (fun other1 fresh2 nx3 bk3 => jn (fun kk => if (!(hasT found1 (one1, other1))) = true then (W_is_unlike steps_here1 found1 one1 other1 turn1 fun z1 => kk z1) else (kk false)) fun b1 => if b1 = true then ((fresh2.length < 1000000) ∧ nx3 (fresh2 ++ [(one1, other1)])) else (nx3 fresh2)) fun fresh2 => nx2 fresh2) fun fresh1 => forW fresh1 (found1, false) (fun pair1 (found2, more2) nx4 bk4 => (found2.length < 1000000) ∧ nx4 (putT found2 pair1 turn1, true)) fun (found2, more2) => ∀ turn2 : Nat, turn2 = turn1 + 1 → nx1 (more2, found2, turn2)) (true, ([] : List ((Nat × Nat) × Nat)), 0) fun (more1, found1, turn1) => R found1
def sp_first_unlike (K : PySem.W.Frag) (cc : Cz) : Sp := fun vs H Q _ => ∃ (F : Hp) (v1 : V) (steps_here1 : List (List (Nat × Nat))) (R : (List ((Nat × Nat) × Nat)) → Prop), vs = [v1] ∧ Ex F H ∧ (pL (pL (pT2 pN pN))).r F v1 steps_here1 ∧ W_first_unlike steps_here1 R ∧ ∀ z, R z → ∀ p F' H', Wf F H F' H' → XDT pN H F' H' p z → Q (.ref p) H'
abbrev N_first_unlike : List Str := ["_law_steps_here", "_law_found", "_law_many", "_law_turn", "_law_more", "_law_fresh", "_law_one", "_law_other", "_law_pair"]
theorem sc_first_unlike : FnScope N_first_unlike ["_law_steps_here"] (defScope s_first_unlike) := ⟨rfl, rfl, rfl, by decide +kernel, rfl, by decide +kernel, by decide +kernel⟩
theorem ok_first_unlike {P : Program} {w0 : World} {K : PySem.W.Frag} {mg : Str → Option Value} {base : Heap} {f : Addr} {fd : FuncData} {cc : Cz} (T : Tz K mg cc) (FU : Fun K "_law_first_unlike" "_law_first_unlike" s_first_unlike f fd) (hm : mg "_law_first_unlike" = some (.ref f)) (hb : Binds K fd ["_law_steps_here"] []) (c_is_unlike : Fn P w0 K mg base CX0 1 "_law_is_unlike" ["_law_steps_here", "_law_found", "_law_one", "_law_other", "_law_turn"] (sp_is_unlike K cc)) (n_len : mg "len" = none) (n_range : mg "range" = none) : Fn P w0 K mg base CX0 2 "_law_first_unlike" ["_law_steps_here"] (sp_first_unlike K cc) := by
  refine ⟨f, fd, FU.ok sc_first_unlike (fun vs H Q E h => ?_) (fun cdv A outer s H0 vs Q E hr h => ?_), hm, FU.kp, hb⟩
  · obtain ⟨_, _, _, _, rfl, _⟩ := h; rfl
  · obtain ⟨F0, v1, steps_here1, R, rfl, wf, r1, hW, hQ⟩ := h
    have nd := sc_first_unlike.nd
    refine ⟨(tSeq (tAsg tDNewT (gName 1)) (tSeq (tAsg (tCB (Wk.rLen K) (tCons (tVar 0) tNil)) (gName 2)) (tSeq (tAsg (tC (.int 0)) (gName 3)) (tSeq (tAsg (tC (.bl true)) (gName 4)) (tSeq (tWhile (tB (tVar 4)) (tSeq (tAsg (tC (.bl false)) (gName 4)) (tSeq (tAsg (tLst tNil) (gName 5)) (tSeq (tFor (iRng1 (tCons (tVar 2) tNil)) (gName 6) (tFor (iRng1 (tCons (tVar 2) tNil)) (gName 7) (tIfS (tAnd (tB (tDNotIn (tTup (tCons (tVar 6) (tCons (tVar 7) tNil))) (tVar 1))) (tB (tCall (sp_is_unlike K cc) [] E0 (tCons (tVar 0) (tCons (tVar 1) (tCons (tVar 6) (tCons (tVar 7) (tCons (tVar 3) tNil)))))))) (tDrop (tBM K "list" rAppend (tVar 5) (tCons (tTup (tCons (tVar 6) (tCons (tVar 7) tNil))) tNil))) tNext))) (tSeq (tFor (iList K (tVar 5)) (gName 8) (tSeq (sDPut (tVar 1) (tVar 8) (tVar 3)) (tAsg (tC (.bl true)) (gName 4)))) (tAsg (tOp kAdd (tVar 3) (tC (.int 1))) (gName 3))))))) (tRet (tVar 1))))))), (pss_cons (ps_set (i := 1) nd rfl (Or.inl rfl) pe_dnewT) (pss_cons (ps_set (i := 2) nd rfl (Or.inl rfl) (pe_callB call_len_seq (by rfl) n_len PySem.boot_len (pa_cons (pv 0) pa_nil))) (pss_cons (ps_set (i := 3) nd rfl (Or.inl rfl) pe_int) (pss_cons (ps_set (i := 4) nd rfl (Or.inl rfl) pe_bl) (pss_cons (ps_while PassesOwn.never (pt_val (pv 4)) (pss_cons (ps_set (i := 4) nd rfl (Or.inl rfl) pe_bl) (pss_cons (ps_set (i := 5) nd rfl (Or.inl rfl) (pe_lst pa_nil)) (pss_cons (ps_for PassesOwn.never rfl (pi_range1 rfl n_range (pa_cons (pv 2) pa_nil)) (pg_name (i := 6) nd rfl (Or.inl rfl)) (pss_one (ps_for PassesOwn.never rfl (pi_range1 rfl n_range (pa_cons (pv 2) pa_nil)) (pg_name (i := 7) nd rfl (Or.inl rfl)) (pss_one (ps_if (PW.pt (pw_and (pt_cmp (pc_dnotin (hu_of hr) (pe_tup (pa_cons (pv 6) (pa_cons (pv 7) pa_nil))) (pv 1))) (pw_and1 (pt_val (pe_fn c_is_unlike (hr.mono (by decide)) rfl (pa_cons (pv 0) (pa_cons (pv 1) (pa_cons (pv 6) (pa_cons (pv 7) (pa_cons (pv 3) pa_nil)))))))))) (pss_one (ps_expr (pe_bm PySem.F.plainAttrs_list PySem.F.slot_list_append PySem.F.type_list_append mt_append (pv 5) (pa_cons (pe_tup (pa_cons (pv 6) (pa_cons (pv 7) pa_nil))) pa_nil)))) pss_nil))))) (pss_cons (ps_for PassesOwn.never rfl (pi_list (pv 5)) (pg_name (i := 8) nd rfl (Or.inl rfl)) (pss_cons (ps_dput (hu_of hr) (pv 1) (pv 8) (pv 3) rfl) (pss_one (ps_set (i := 4) nd rfl (Or.inl rfl) pe_bl)))) (pss_one (ps_set (i := 3) nd rfl (Or.inl rfl) (pe_op op_add (pv 3) pe_int)))))))) (pss_one (ps_ret (pv 1)))))))), ?_⟩
    have w := Wf.id wf
    refine q_sq fun N1 hN1 => ?_
    refine a_asgE ?_
    refine n_dictP (e := pN) w ?_
    intro p1 H1 hp1 s1 x1
    replace r1 := Rep.mono _ s1.g r1
    replace w := w.tr s1
    refine hN1 _ _ ?_
    refine q_sq fun N2 hN2 => ?_
    obtain ⟨many1, emany1⟩ : ∃ many1 : Nat, many1 = steps_here1.length := ⟨_, rfl⟩
    replace hW := hW many1 emany1
    refine a_asg (v := (.int ((many1 : Nat) : Int))) (v_eq (len_L r1 w.f (val_var rfl)) (by rw [emany1])) ?_
    refine hN2 _ _ ?_
    refine q_sq fun N3 hN3 => ?_
    refine a_asg (v := (.int ((0 : Nat) : Int))) val_c ?_
    refine hN3 _ _ ?_
    refine q_sq fun N4 hN4 => ?_
    refine a_asg (v := (.bl (true))) val_c ?_
    refine hN4 _ _ ?_
    refine q_sq fun N5 hN5 => ?_
    refine w_while (S := Bool × (List ((Nat × Nat) × Nat)) × Nat) (fun s σ' F' H' => match s with | (more1, found1, turn1) => ∃ (o1 : Option V) (o2 : Option V) (o3 : Option V) (o4 : Option V), Wf F0 H0 F' H' ∧ Ex F0 F' ∧ σ' = [some v1, some ((.ref p1)), some (.int ((many1 : Nat) : Int)), some (.int ((turn1 : Nat) : Int)), some (.bl (more1)), o1, o2, o3, o4] ∧ XDT pN H0 F' H' p1 found1) hW ⟨_, _, _, _, w, Ex.rfl', rfl, x1⟩ ?_ ?_ ?_
    · intro s2 σ' F1 H2 T1 Qc1 hI1 hW hT1
      obtain ⟨more1, found1, turn1⟩ := s2
      obtain ⟨o1, o2, o3, o4, w, gx1, rfl, x2⟩ := hI1
      have r1 := Rep.mono _ gx1 r1
      refine e_ans (b := decide (more1 = true)) (t_ofB (vb_of (val_var rfl) dec_tt)) ?_
      exact hT1 _ _ _ ⟨_, _, _, _, w, gx1, rfl, x2⟩ hW
    · intro N6 Bk1 s3 σ' F2 H3 nx1 bk1 hI2 hW hN6 hB1
      obtain ⟨more1, found1, turn1⟩ := s3
      obtain ⟨o1, o2, o3, o4, w, gx2, rfl, x2⟩ := hI2
      have r1 := Rep.mono _ gx2 r1
      refine q_sq fun N7 hN7 => ?_
      refine a_asg (v := (.bl (false))) val_c ?_
      refine hN7 _ _ ?_
      refine q_sq fun N8 hN8 => ?_
      refine a_asgE ?_
      refine e_lst ?_
      refine a_nil ?_
      refine n_lstX (e := (pT2 pN pN)) (xs := []) (vs := []) (show All (pT2 pN pN) _ [] [] from trivial) (show 0 < 1000000 from by decide) w ?_
      intro p2 H4 hp2 s4 x3
      have ne1 := x2.ne hp2
      replace r1 := Rep.mono _ s4.g r1
      replace x2 := x2.step s4
      replace w := w.tr s4
      replace gx2 := Ex.tr gx2 s4.g
      refine hN8 _ _ ?_
      refine q_sq fun N9 hN9 => ?_
      refine f_RE ?_
      refine e_val (v := (.int ((many1 : Nat) : Int))) (val_var rfl) ?_
      obtain ⟨c1, hW⟩ := hW
      refine w_forR (S := List (Nat × Nat)) (fun fresh1 σ' F' H' => ∃ (o5 : Option V) (o6 : Option V), Wf F0 H0 F' H' ∧ Ex F2 F' ∧ σ' = [some v1, some (.ref p1), some (.int ((many1 : Nat) : Int)), some (.int ((turn1 : Nat) : Int)), some (.bl (false)), some ((.ref p2)), o5, o6, o4] ∧ XL (pT2 pN pN) H0 F' H' p2 fresh1 ∧ XDT pN H0 F' H' p1 found1) c1 hW ⟨_, _, w, Ex.rfl', rfl, x3, x2⟩ ?_ ?_
      · intro N10 Bk2 one1 fresh1 σ' F3 H5 nx2 bk2 hI3 hx1 hW hN10 hB2
        obtain ⟨o5, o6, w, gx3, rfl, x4, x5⟩ := hI3
        have r1 := Rep.mono _ gx3 r1
        have gx2 := Ex.tr gx2 gx3
        refine g_name ?_
        refine f_RE ?_
        refine e_val (v := (.int ((many1 : Nat) : Int))) (val_var rfl) ?_
        obtain ⟨c2, hW⟩ := hW
        refine w_forR (S := List (Nat × Nat)) (fun fresh2 σ' F' H' => ∃ (o7 : Option V), Wf F0 H0 F' H' ∧ Ex F3 F' ∧ σ' = [some v1, some (.ref p1), some (.int ((many1 : Nat) : Int)), some (.int ((turn1 : Nat) : Int)), some (.bl (false)), some ((.ref p2)), some (.int ((one1 : Nat) : Int)), o7, o4] ∧ XL (pT2 pN pN) H0 F' H' p2 fresh2 ∧ XDT pN H0 F' H' p1 found1) c2 hW ⟨_, w, Ex.rfl', rfl, x4, x5⟩ ?_ ?_
        · intro N11 Bk3 other1 fresh2 σ' F4 H6 nx3 bk3 hI4 hx2 hW hN11 hB3
          obtain ⟨o7, w, gx4, rfl, x6, x7⟩ := hI4
          have r1 := Rep.mono _ gx4 r1
          have gx3 := Ex.tr gx3 gx4
          have gx2 := Ex.tr gx2 gx4
          refine g_name ?_
          refine a_ifE ?_
          refine e_jnT hW (fun b F' H' => b = b ∧ Wf F0 H0 F' H' ∧ Ex F4 F' ∧ XDT pN H0 F' H' p1 found1 ∧ XL (pT2 pN pN) H0 F' H' p2 fresh2) ?_ ?_
          · intro N12 hN12 hW
            have gx5 : Ex F4 F4 := Ex.rfl'
            refine e_tAnd ?_
            refine e_tB ?_
            refine e_dninP ?_
            refine e_tup ?_
            refine a_val (v := (.int ((one1 : Nat) : Int))) (val_var rfl) ?_
            refine a_val (v := (.int ((other1 : Nat) : Int))) (val_var rfl) ?_
            refine a_nil ?_
            refine n_tup2 (e := pN) (f := pN) (x := one1) (y := other1) rfl rfl w ?_
            intro p3 F5 H7 s7 r2
            replace r1 := Rep.mono _ s7.g r1
            replace x7 := x7.step s7
            replace x6 := x6.step s7
            replace w := w.tr s7
            replace gx5 := Ex.tr gx5 s7.g
            replace gx4 := Ex.tr gx4 s7.g
            replace gx3 := Ex.tr gx3 s7.g
            replace gx2 := Ex.tr gx2 s7.g
            refine e_val (v := (.ref p1)) (val_var rfl) ?_
            refine nin_XP x7 r2 w.f ?_
            refine bl_v ?_
            refine bb_if (fun hc1 => ?_) (fun hc1 => ?_)
            · have hW := ifP hW hc1
              refine e_tB ?_
              refine e_call ?_
              refine a_val (v := v1) (val_var rfl) ?_
              refine a_val (v := (.ref p1)) (val_var rfl) ?_
              refine a_val (v := (.int ((one1 : Nat) : Int))) (val_var rfl) ?_
              refine a_val (v := (.int ((other1 : Nat) : Int))) (val_var rfl) ?_
              refine a_val (v := (.int ((turn1 : Nat) : Int))) (val_var rfl) ?_
              refine a_nil ?_
              obtain ⟨Fl1, lf1, lg1, lr1⟩ := x7.lend w
              refine ⟨Fl1, (v1), (steps_here1), ((.ref p1)), (found1), (one1), (other1), (turn1), _, rfl, lf1, (Rep.mono _ lg1 r1), lr1, hW, ?_⟩
              intro z1 hW F6 H8 s8
              replace s8 := Wf.grow w.f s8.h
              replace r1 := Rep.mono _ s8.g r1
              replace x7 := x7.step s8
              replace x6 := x6.step s8
              replace r2 := Rep.mono _ s8.g r2
              replace w := w.tr s8
              replace gx5 := Ex.tr gx5 s8.g
              replace gx4 := Ex.tr gx4 s8.g
              replace gx3 := Ex.tr gx3 s8.g
              replace gx2 := Ex.tr gx2 s8.g
              refine bl_v ?_
              exact hN12 z1 _ _ ⟨rfl, w, gx5, x7, x6⟩ hW
            · have hW := ifN hW hc1
              exact hN12 false _ _ ⟨rfl, w, gx5, x7, x6⟩ hW
          intro b1 F7 H9 hI5 hW
          obtain ⟨_, w, gx6, x8, x9⟩ := hI5
          have r1 := Rep.mono _ gx6 r1
          have gx4 := Ex.tr gx4 gx6
          have gx3 := Ex.tr gx3 gx6
          have gx2 := Ex.tr gx2 gx6
          refine bb_if (fun hc2 => ?_) (fun hc2 => ?_)
          · have hW := ifP hW hc2
            refine a_dropE ?_
            refine m_list x9 (val_var rfl) ?_
            refine a_cons ?_
            refine e_tup ?_
            refine a_val (v := (.int ((one1 : Nat) : Int))) (val_var rfl) ?_
            refine a_val (v := (.int ((other1 : Nat) : Int))) (val_var rfl) ?_
            refine a_nil ?_
            refine n_tup2 (e := pN) (f := pN) (x := one1) (y := other1) rfl rfl w ?_
            intro p4 F8 H10 s9 r3
            replace r1 := Rep.mono _ s9.g r1
            replace x8 := x8.step s9
            replace x9 := x9.step s9
            replace w := w.tr s9
            replace gx4 := Ex.tr gx4 s9.g
            replace gx3 := Ex.tr gx3 s9.g
            replace gx2 := Ex.tr gx2 s9.g
            refine a_nil ?_
            obtain ⟨c3, hW⟩ := hW
            refine a_app x9 w c3 r3 (fun H11 w1 x10 kp1 => ?_)
            replace x8 := x8.kept kp1 ne1
            replace w := w1
            exact hN11 (fresh2 ++ [(one1, other1)]) _ _ _ ⟨_, w, gx4, rfl, x10, x8⟩ hW
          · have hW := ifN hW hc2
            exact hN11 fresh2 _ _ _ ⟨_, w, gx4, rfl, x9, x8⟩ hW
        · intro fresh2 σ' F9 H12 hI6 hW
          obtain ⟨o7, w, gx7, rfl, x6, x7⟩ := hI6
          have r1 := Rep.mono _ gx7 r1
          have gx3 := Ex.tr gx3 gx7
          have gx2 := Ex.tr gx2 gx7
          exact hN10 fresh2 _ _ _ ⟨_, _, w, gx3, rfl, x6, x7⟩ hW
      · intro fresh1 σ' F10 H13 hI7 hW
        obtain ⟨o5, o6, w, gx8, rfl, x4, x5⟩ := hI7
        have r1 := Rep.mono _ gx8 r1
        have gx2 := Ex.tr gx2 gx8
        refine hN9 _ _ ?_
        refine q_sq fun N13 hN13 => ?_
        refine f_LE ?_
        refine e_val (v := (.ref p2)) (val_var rfl) ?_
        obtain ⟨F11, w2, g1, r4, fz1⟩ := x4.frzE w
        replace r1 := Rep.mono _ g1 r1
        replace x5 := x5.frzO fz1 ne1 g1
        replace w := w2
        replace gx8 := Ex.tr gx8 g1
        replace gx2 := Ex.tr gx2 g1
        refine w_forL (S := (List ((Nat × Nat) × Nat)) × Bool) (fun s σ' F' H' => match s with | (found2, more2) => ∃ (o8 : Option V), Wf F0 H0 F' H' ∧ Ex F11 F' ∧ σ' = [some v1, some ((.ref p1)), some (.int ((many1 : Nat) : Int)), some (.int ((turn1 : Nat) : Int)), some (.bl (more2)), some (.ref p2), o5, o6, o8] ∧ XDT pN H0 F' H' p1 found2) r4 hW ⟨_, w, Ex.rfl', rfl, x5⟩ (fun s σ' F' H' hI => by obtain ⟨found2, more2⟩ := s; obtain ⟨_, w', gx', _⟩ := hI; exact ⟨gx', w'.f⟩) w.f ?_ ?_
        · intro N14 Bk4 pair1 u3 s12 σ' F12 H14 nx4 bk4 hI8 hx3 ru3 hW hN14 hB4
          obtain ⟨found2, more2⟩ := s12
          obtain ⟨o8, w, gx9, rfl, x11⟩ := hI8
          have r1 := Rep.mono _ gx9 r1
          have r4 := Rep.mono _ gx9 r4
          have gx8 := Ex.tr gx8 gx9
          have gx2 := Ex.tr gx2 gx9
          refine g_name ?_
          refine q_sq fun N15 hN15 => ?_
          refine e_dputP ?_
          refine e_val (v := (.int ((turn1 : Nat) : Int))) (val_var rfl) ?_
          refine e_val (v := (.ref p1)) (val_var rfl) ?_
          refine e_val (v := u3) (val_var rfl) ?_
          obtain ⟨c4, hW⟩ := hW
          refine d_putP x11 w c4 ru3 rfl (fun H15 w3 x12 kp2 => ?_)
          replace w := w3
          refine hN15 _ _ ?_
          refine a_asg (v := (.bl (true))) val_c ?_
          exact hN14 (putT found2 pair1 turn1, true) _ _ _ ⟨_, w, gx9, rfl, x12⟩ hW
        · intro s13 σ' F13 H16 hI9 hW
          obtain ⟨found2, more2⟩ := s13
          obtain ⟨o8, w, gx10, rfl, x11⟩ := hI9
          have r1 := Rep.mono _ gx10 r1
          have r4 := Rep.mono _ gx10 r4
          have gx8 := Ex.tr gx8 gx10
          have gx2 := Ex.tr gx2 gx10
          refine hN13 _ _ ?_
          obtain ⟨turn2, eturn1⟩ : ∃ turn2 : Nat, turn2 = turn1 + 1 := ⟨_, rfl⟩
          replace hW := hW turn2 eturn1
          refine a_asg (v := (.int ((turn2 : Nat) : Int))) (v_eq (vn_add (val_var rfl) val_c) (by rw [eturn1])) ?_
          exact hN6 (more2, found2, turn2) _ _ _ ⟨_, _, _, _, w, gx2, rfl, x11⟩ hW
    · intro s14 σ' F14 H17 hI10 hW
      obtain ⟨more1, found1, turn1⟩ := s14
      obtain ⟨o1, o2, o3, o4, w, gx11, rfl, x2⟩ := hI10
      have r1 := Rep.mono _ gx11 r1
      refine hN5 _ _ ?_
      refine a_ret (v := (.ref p1)) (val_var rfl) ?_
      exact hQ _ hW _ _ _ w x2
abbrev s_come_right : Stmt := topS 50
def W_come_right (machine_here1 : Nat × List (Nat × Nat) × List (Nat × Nat)) (steps_here1 : List (List (Nat × Nat))) (R : Bool → Prop) : Prop := W_least_turns steps_here1 fun z1 => (steps_here1.length < 1000000) ∧ forW (List.range steps_here1.length) () (fun state1 _ nx1 bk1 => W_come_to machine_here1 state1 fun z2 => jn (fun kk => if hasT z1 state1 = true then (if z2.1 ≠ (PySem.Str.ofString "come") then (kk true) else (∃ x5, valT z1 state1 = some x5 ∧ kk (decide (z2.2.1.length ≠ x5)))) else (kk false)) fun b1 => if b1 = true then (R false) else (jn (fun kk => if ¬ (hasT z1 state1 = true) then (kk (decide (z2.1 ≠ (PySem.Str.ofString "never")))) else (kk false)) fun b2 => if b2 = true then (R false) else (nx1 ()))) fun _ => R true
def sp_come_right (K : PySem.W.Frag) (cc : Cz) : Sp := fun vs H Q _ => ∃ (F : Hp) (v1 : V) (machine_here1 : Nat × List (Nat × Nat) × List (Nat × Nat)) (v2 : V) (steps_here1 : List (List (Nat × Nat))) (R : Bool → Prop), vs = [v1, v2] ∧ Ex F H ∧ (pO3 cc.Machine "inputs" "nexts" "outs" pN (pTL (pT2 pN pN)) (pTL (pT2 pN pN))).r F v1 machine_here1 ∧ (pL (pL (pT2 pN pN))).r F v2 steps_here1 ∧ XT (woL H [cc.t_come_to]) F H cc.t_come_to (("come_to" : Str) ++ (".<locals>." : Str) ++ ("<lambda>" : Str)) ∧ W_come_right machine_here1 steps_here1 R ∧ ∀ z, R z → ∀ F' H', Wf F (woL H [cc.t_come_to]) F' H' → XT (woL H [cc.t_come_to]) F' H' cc.t_come_to (("come_to" : Str) ++ (".<locals>." : Str) ++ ("<lambda>" : Str)) → Q (.bl (z)) H'
abbrev N_come_right : List Str := ["_law_machine_here", "_law_steps_here", "_law_turns", "_law_state", "_law_found"]
theorem sc_come_right : FnScope N_come_right ["_law_machine_here", "_law_steps_here"] (defScope s_come_right) := ⟨rfl, rfl, rfl, by decide +kernel, rfl, by decide +kernel, by decide +kernel⟩
theorem ok_come_right {P : Program} {w0 : World} {K : PySem.W.Frag} {mg : Str → Option Value} {base : Heap} {f : Addr} {fd : FuncData} {cc : Cz} (T : Tz K mg cc) (FU : Fun K "_law_come_right" "_law_come_right" s_come_right f fd) (hm : mg "_law_come_right" = some (.ref f)) (hb : Binds K fd ["_law_machine_here", "_law_steps_here"] []) (c_least_turns : Fn P w0 K mg base CX0 1 "_law_least_turns" ["_law_steps_here"] (sp_least_turns K cc)) (c_come_to : Fn P w0 K mg base CX0 9 "come_to" ["machine", "state"] (sp_come_to K cc)) (n_len : mg "len" = none) (n_range : mg "range" = none) : Fn P w0 K mg base CX0 10 "_law_come_right" ["_law_machine_here", "_law_steps_here"] (sp_come_right K cc) := by
  refine ⟨f, fd, FU.ok sc_come_right (fun vs H Q E h => ?_) (fun cdv A outer s H0 vs Q E hr h => ?_), hm, FU.kp, hb⟩
  · obtain ⟨_, _, _, _, _, _, rfl, _⟩ := h; rfl
  · obtain ⟨F0, v1, machine_here1, v2, steps_here1, R, rfl, wf, r1, r2, xt_come_to, hW, hQ⟩ := h
    have nd := sc_come_right.nd
    refine ⟨(tSeq (tAsg (tCall (sp_least_turns K cc) [] E0 (tCons (tVar 1) tNil)) (gName 2)) (tSeq (tFor (iRng1 (tCons (tCB (Wk.rLen K) (tCons (tVar 1) tNil)) tNil)) (gName 3) (tSeq (tAsg (tCall (sp_come_to K cc) [] E0 (tCons (tVar 0) (tCons (tVar 3) tNil))) (gName 4)) (tSeq (tIfS (tAnd (tB (tDIn (tVar 3) (tVar 2))) (tOr (tTest (tOp L2.rNe (tOp (L2.rIxT K) (tVar 4) (tC (.int 0))) (tC (.str (PySem.Str.ofString "come"))))) (tTest (tOp L2.rNe (tCB (Wk.rLen K) (tCons (tOp (L2.rIxT K) (tVar 4) (tC (.int 1))) tNil)) (tDGet (tVar 2) (tVar 3)))))) (tRet (tC (.bl false))) tNext) (tIfS (tAnd (tB (tDNotIn (tVar 3) (tVar 2))) (tTest (tOp L2.rNe (tOp (L2.rIxT K) (tVar 4) (tC (.int 0))) (tC (.str (PySem.Str.ofString "never")))))) (tRet (tC (.bl false))) tNext)))) (tRet (tC (.bl true))))), (pss_cons (ps_set (i := 2) nd rfl (Or.inl rfl) (pe_fn c_least_turns (hr.mono (by decide)) rfl (pa_cons (pv 1) pa_nil))) (pss_cons (ps_for PassesOwn.never rfl (pi_range1 rfl n_range (pa_cons (pe_callB call_len_seq (by rfl) n_len PySem.boot_len (pa_cons (pv 1) pa_nil)) pa_nil)) (pg_name (i := 3) nd rfl (Or.inl rfl)) (pss_cons (ps_set (i := 4) nd rfl (Or.inl rfl) (pe_fn c_come_to (hr.mono (by decide)) rfl (pa_cons (pv 0) (pa_cons (pv 3) pa_nil)))) (pss_cons (ps_if (PW.pt (pw_and (pt_cmp (pc_din (hu_of hr) (pv 3) (pv 2))) (pw_and1 (PW.pt (pw_or (pt_cmpR op_ne (pe_ix ix_tup (pv 4) pe_int (fun _ _ => rfl)) pe_str (nomark _)) (pw_or1 (pt_cmpR op_ne (pe_callB call_len_seq (by rfl) n_len PySem.boot_len (pa_cons (pe_ix ix_tup (pv 4) pe_int (fun _ _ => rfl)) pa_nil)) (pe_dget (hu_of hr) (pv 2) (pv 3) (fun _ _ => rfl)) (nomark _)))))))) (pss_one (ps_ret pe_bl)) pss_nil) (pss_one (ps_if (PW.pt (pw_and (pt_cmp (pc_dnotin (hu_of hr) (pv 3) (pv 2))) (pw_and1 (pt_cmpR op_ne (pe_ix ix_tup (pv 4) pe_int (fun _ _ => rfl)) pe_str (nomark _))))) (pss_one (ps_ret pe_bl)) pss_nil))))) (pss_one (ps_ret pe_bl)))), ?_⟩
    have w := Wf.startL (L := [cc.t_come_to]) wf (allL1 xt_come_to.nF)
    generalize hH0 : woL H0 [cc.t_come_to] = Hb at w hQ xt_come_to
    refine q_sq fun N1 hN1 => ?_
    refine a_asgE ?_
    refine e_call ?_
    refine a_val (v := v2) (val_var rfl) ?_
    refine a_nil ?_
    refine ⟨F0, (v2), (steps_here1), _, rfl, w.f, r2, hW, ?_⟩
    intro z1 hW p1 F1 H1 s1 x1
    have ne1 := xt_come_to.ne x1.zero
    replace x1 := x1.base w
    replace r1 := Rep.mono _ s1.g r1
    replace r2 := Rep.mono _ s1.g r2
    replace xt_come_to := xt_come_to.step s1
    replace w := w.tr s1
    obtain ⟨F2, w1, g1, r3, fz1⟩ := x1.frzE w
    replace r1 := Rep.mono _ g1 r1
    replace r2 := Rep.mono _ g1 r2
    replace xt_come_to := xt_come_to.frzO fz1 ne1 g1
    replace w := w1
    refine hN1 _ _ ?_
    refine q_sq fun N2 hN2 => ?_
    refine f_RE ?_
    refine e_val (v := (.int ((steps_here1.length : Nat) : Int))) (len_L r2 w.f (val_var rfl)) ?_
    obtain ⟨c1, hW⟩ := hW
    refine w_forR (S := Unit) (fun _ σ' F' H' => ∃ (o1 : Option V) (o2 : Option V), Wf F0 Hb F' H' ∧ Ex F2 F' ∧ σ' = [some v1, some v2, some (.ref p1), o1, o2] ∧ XT Hb F' H' cc.t_come_to (("come_to" : Str) ++ (".<locals>." : Str) ++ ("<lambda>" : Str))) c1 hW ⟨_, _, w, Ex.rfl', rfl, xt_come_to⟩ ?_ ?_
    · intro N3 Bk1 state1 s2 σ' F3 H2 nx1 bk1 hI1 hx1 hW hN3 hB1
      obtain ⟨o1, o2, w, gx1, rfl, x2⟩ := hI1
      have r1 := Rep.mono _ gx1 r1
      have r2 := Rep.mono _ gx1 r2
      have r3 := Rep.mono _ gx1 r3
      refine g_name ?_
      refine q_sq fun N4 hN4 => ?_
      refine a_asgE ?_
      refine e_call ?_
      refine a_val (v := v1) (val_var rfl) ?_
      refine a_val (v := (.int ((state1 : Nat) : Int))) (val_var rfl) ?_
      refine a_nil ?_
      refine ⟨F3, (v1), (machine_here1), (state1), _, rfl, w.f, r1, (x2.toL (List.mem_cons_self ..)), hW, ?_⟩
      intro z2 hW v3 F4 H3 s3 r4 x3
      have z3 := x2.zero
      replace w := w.mcall (L := [cc.t_come_to]) (allL1 z3) s3 (allL1 x3.nF)
      replace r1 := Rep.mono _ s3.g r1
      replace r2 := Rep.mono _ s3.g r2
      replace r3 := Rep.mono _ s3.g r3
      replace gx1 := Ex.tr gx1 s3.g
      replace x3 := XT.fromL x3 z3
      refine hN4 _ _ ?_
      refine q_sq fun N5 hN5 => ?_
      refine a_ifE ?_
      refine e_jnT hW (fun b F' H' => b = b ∧ Wf F0 Hb F' H' ∧ Ex F4 F' ∧ XT Hb F' H' cc.t_come_to (("come_to" : Str) ++ (".<locals>." : Str) ++ ("<lambda>" : Str))) ?_ ?_
      · intro N6 hN6 hW
        have gx2 : Ex F4 F4 := Ex.rfl'
        refine e_tAnd ?_
        refine e_ans (b := decide (hasT z1 state1 = true)) (t_ofB (vb_of (in_D (j := state1) r3 w.f (val_var rfl) (val_var rfl)) dec_tt)) ?_
        refine b_if (fun hc1 => ?_) (fun hc1 => ?_)
        · have hW := ifP hW hc1
          refine e_tOr ?_
          obtain ⟨_, rfl, ix1⟩ := ix_3a (K := K) r4 w.f
          refine e_ans (b := decide (z2.1 ≠ (PySem.Str.ofString "come"))) (t_of (c_neS (ix1 (val_var rfl) val_c) val_c)) ?_
          refine b_if (fun hc2 => ?_) (fun hc2 => ?_)
          · have hW := ifP hW hc2
            exact hN6 true _ _ ⟨rfl, w, gx2, x3⟩ hW
          · have hW := ifN hW hc2
            obtain ⟨v5, r6, ix2⟩ := ix_3b (K := K) r4 w.f
            obtain ⟨x5, hx2, hW⟩ := hW
            obtain ⟨_, rfl, ix3⟩ := ix_D r3 w.f hx2
            refine e_ans (b := decide (z2.2.1.length ≠ x5)) (t_of (vb_dec (c_neI (len_L r6 w.f (ix2 (val_var rfl) val_c)) (ix3 (val_var rfl) (val_var rfl))) n_ne)) ?_
            exact hN6 (decide (z2.2.1.length ≠ x5)) _ _ ⟨rfl, w, gx2, x3⟩ hW
        · have hW := ifN hW hc1
          exact hN6 false _ _ ⟨rfl, w, gx2, x3⟩ hW
      intro b1 F5 H4 hI2 hW
      obtain ⟨_, w, gx3, x4⟩ := hI2
      have r1 := Rep.mono _ gx3 r1
      have r2 := Rep.mono _ gx3 r2
      have r3 := Rep.mono _ gx3 r3
      have r4 := Rep.mono _ gx3 r4
      have gx1 := Ex.tr gx1 gx3
      refine bb_if (fun hc3 => ?_) (fun hc3 => ?_)
      · have hW := ifP hW hc3
        refine a_ret (v := (.bl (false))) val_c ?_
        exact hQ _ hW _ _ w x4
      · have hW := ifN hW hc3
        refine hN5 _ _ ?_
        refine a_ifE ?_
        refine e_jnT hW (fun b F' H' => b = b ∧ Wf F0 Hb F' H' ∧ Ex F5 F' ∧ XT Hb F' H' cc.t_come_to (("come_to" : Str) ++ (".<locals>." : Str) ++ ("<lambda>" : Str))) ?_ ?_
        · intro N7 hN7 hW
          have gx4 : Ex F5 F5 := Ex.rfl'
          refine e_tAnd ?_
          refine e_ans (b := decide (¬ (hasT z1 state1 = true))) (t_ofB (vb_of (nin_D (j := state1) r3 w.f (val_var rfl) (val_var rfl)) dec_nt)) ?_
          refine b_if (fun hc4 => ?_) (fun hc4 => ?_)
          · have hW := ifP hW hc4
            obtain ⟨_, rfl, ix4⟩ := ix_3a (K := K) r4 w.f
            refine e_ans (b := decide (z2.1 ≠ (PySem.Str.ofString "never"))) (t_of (c_neS (ix4 (val_var rfl) val_c) val_c)) ?_
            exact hN7 (decide (z2.1 ≠ (PySem.Str.ofString "never"))) _ _ ⟨rfl, w, gx4, x4⟩ hW
          · have hW := ifN hW hc4
            exact hN7 false _ _ ⟨rfl, w, gx4, x4⟩ hW
        intro b2 F6 H5 hI3 hW
        obtain ⟨_, w, gx5, x6⟩ := hI3
        have r1 := Rep.mono _ gx5 r1
        have r2 := Rep.mono _ gx5 r2
        have r3 := Rep.mono _ gx5 r3
        have r4 := Rep.mono _ gx5 r4
        have gx1 := Ex.tr gx1 gx5
        refine bb_if (fun hc5 => ?_) (fun hc5 => ?_)
        · have hW := ifP hW hc5
          refine a_ret (v := (.bl (false))) val_c ?_
          exact hQ _ hW _ _ w x6
        · have hW := ifN hW hc5
          exact hN3 () _ _ _ ⟨_, _, w, gx1, rfl, x6⟩ hW
    · intro s4 σ' F7 H6 hI4 hW
      obtain ⟨o1, o2, w, gx6, rfl, x2⟩ := hI4
      have r1 := Rep.mono _ gx6 r1
      have r2 := Rep.mono _ gx6 r2
      have r3 := Rep.mono _ gx6 r3
      refine hN2 _ _ ?_
      refine a_ret (v := (.bl (true))) val_c ?_
      exact hQ _ hW _ _ w x2
abbrev s_apart_right : Stmt := topS 51
def W_apart_right (machine_here1 : Nat × List (Nat × Nat) × List (Nat × Nat)) (unlike1 : List ((Nat × Nat) × Nat)) (one1 : Nat) (other1 : Nat) (R : Bool → Prop) : Prop := W_told_apart machine_here1 one1 other1 fun z1 => if (hasT unlike1 (one1, other1)) = true then (jn (fun kk => if (Sum.elim (fun z => z.1) (fun z => z.1) z1) = (PySem.Str.ofString "apart") then (∃ y1, z1 = Sum.inl y1 ∧ ∃ x3, valT unlike1 (one1, other1) = some x3 ∧ kk (decide (y1.2.1 = x3))) else (kk false)) fun b1 => R b1) else (R (decide ((Sum.elim (fun z => z.1) (fun z => z.1) z1) = (PySem.Str.ofString "alike"))))
def sp_apart_right (K : PySem.W.Frag) (cc : Cz) : Sp := fun vs H Q _ => ∃ (F : Hp) (v1 : V) (machine_here1 : Nat × List (Nat × Nat) × List (Nat × Nat)) (v2 : V) (unlike1 : List ((Nat × Nat) × Nat)) (one1 : Nat) (other1 : Nat) (R : Bool → Prop), vs = [v1, v2, (.int ((one1 : Nat) : Int)), (.int ((other1 : Nat) : Int))] ∧ Ex F H ∧ (pO3 cc.Machine "inputs" "nexts" "outs" pN (pTL (pT2 pN pN)) (pTL (pT2 pN pN))).r F v1 machine_here1 ∧ (pDT pN).r F v2 unlike1 ∧ XT (woL H [cc.t_told_apart]) F H cc.t_told_apart (("told_apart" : Str) ++ (".<locals>." : Str) ++ ("<lambda>" : Str)) ∧ W_apart_right machine_here1 unlike1 one1 other1 R ∧ ∀ z, R z → ∀ F' H', Wf F (woL H [cc.t_told_apart]) F' H' → XT (woL H [cc.t_told_apart]) F' H' cc.t_told_apart (("told_apart" : Str) ++ (".<locals>." : Str) ++ ("<lambda>" : Str)) → Q (.bl (z)) H'
abbrev N_apart_right : List Str := ["_law_machine_here", "_law_unlike", "_law_one", "_law_other", "_law_found"]
theorem sc_apart_right : FnScope N_apart_right ["_law_machine_here", "_law_unlike", "_law_one", "_law_other"] (defScope s_apart_right) := ⟨rfl, rfl, rfl, by decide +kernel, rfl, by decide +kernel, by decide +kernel⟩
theorem ok_apart_right {P : Program} {w0 : World} {K : PySem.W.Frag} {mg : Str → Option Value} {base : Heap} {f : Addr} {fd : FuncData} {cc : Cz} (T : Tz K mg cc) (FU : Fun K "_law_apart_right" "_law_apart_right" s_apart_right f fd) (hm : mg "_law_apart_right" = some (.ref f)) (hb : Binds K fd ["_law_machine_here", "_law_unlike", "_law_one", "_law_other"] []) (c_told_apart : Fn P w0 K mg base CX0 9 "told_apart" ["machine", "one", "other"] (sp_told_apart K cc)) : Fn P w0 K mg base CX0 10 "_law_apart_right" ["_law_machine_here", "_law_unlike", "_law_one", "_law_other"] (sp_apart_right K cc) := by
  refine ⟨f, fd, FU.ok sc_apart_right (fun vs H Q E h => ?_) (fun cdv A outer s H0 vs Q E hr h => ?_), hm, FU.kp, hb⟩
  · obtain ⟨_, _, _, _, _, _, _, _, rfl, _⟩ := h; rfl
  · obtain ⟨F0, v1, machine_here1, v2, unlike1, one1, other1, R, rfl, wf, r1, r2, xt_told_apart, hW, hQ⟩ := h
    have nd := sc_apart_right.nd
    refine ⟨(tSeq (tAsg (tCall (sp_told_apart K cc) [] E0 (tCons (tVar 0) (tCons (tVar 2) (tCons (tVar 3) tNil)))) (gName 4)) (tSeq (tIfS (tB (tDIn (tTup (tCons (tVar 2) (tCons (tVar 3) tNil))) (tVar 1))) (tRet (tAndV (tOp L2.rEq (tOp (L2.rIxT K) (tVar 4) (tC (.int 0))) (tC (.str (PySem.Str.ofString "apart")))) (tOp L2.rEq (tOp (L2.rIxT K) (tVar 4) (tC (.int 1))) (tDGet (tVar 1) (tTup (tCons (tVar 2) (tCons (tVar 3) tNil))))))) tNext) (tRet (tOp L2.rEq (tOp (L2.rIxT K) (tVar 4) (tC (.int 0))) (tC (.str (PySem.Str.ofString "alike"))))))), (pss_cons (ps_set (i := 4) nd rfl (Or.inl rfl) (pe_fn c_told_apart (hr.mono (by decide)) rfl (pa_cons (pv 0) (pa_cons (pv 2) (pa_cons (pv 3) pa_nil))))) (pss_cons (ps_if (pt_cmp (pc_din (hu_of hr) (pe_tup (pa_cons (pv 2) (pa_cons (pv 3) pa_nil))) (pv 1))) (pss_one (ps_ret (pe_and (pe_cmpR op_eq (pe_ix ix_tup (pv 4) pe_int (fun _ _ => rfl)) pe_str (nomark _)) (pe_one (pe_cmpR op_eq (pe_ix ix_tup (pv 4) pe_int (fun _ _ => rfl)) (pe_dget (hu_of hr) (pv 1) (pe_tup (pa_cons (pv 2) (pa_cons (pv 3) pa_nil))) (fun _ _ => rfl)) (nomark _)))))) pss_nil) (pss_one (ps_ret (pe_cmpR op_eq (pe_ix ix_tup (pv 4) pe_int (fun _ _ => rfl)) pe_str (nomark _)))))), ?_⟩
    have w := Wf.startL (L := [cc.t_told_apart]) wf (allL1 xt_told_apart.nF)
    generalize hH0 : woL H0 [cc.t_told_apart] = Hb at w hQ xt_told_apart
    refine q_sq fun N1 hN1 => ?_
    refine a_asgE ?_
    refine e_call ?_
    refine a_val (v := v1) (val_var rfl) ?_
    refine a_val (v := (.int ((one1 : Nat) : Int))) (val_var rfl) ?_
    refine a_val (v := (.int ((other1 : Nat) : Int))) (val_var rfl) ?_
    refine a_nil ?_
    refine ⟨F0, (v1), (machine_here1), (one1), (other1), _, rfl, w.f, r1, (xt_told_apart.toL (List.mem_cons_self ..)), hW, ?_⟩
    intro z1 hW v3 F1 H1 s1 r3 x1
    have z2 := xt_told_apart.zero
    replace w := w.mcall (L := [cc.t_told_apart]) (allL1 z2) s1 (allL1 x1.nF)
    replace r1 := Rep.mono _ s1.g r1
    replace r2 := Rep.mono _ s1.g r2
    replace x1 := XT.fromL x1 z2
    refine hN1 _ _ ?_
    refine q_sq fun N2 hN2 => ?_
    refine a_ifE ?_
    refine e_tB ?_
    refine e_dinP ?_
    refine e_tup ?_
    refine a_val (v := (.int ((one1 : Nat) : Int))) (val_var rfl) ?_
    refine a_val (v := (.int ((other1 : Nat) : Int))) (val_var rfl) ?_
    refine a_nil ?_
    refine n_tup2 (e := pN) (f := pN) (x := one1) (y := other1) rfl rfl w ?_
    intro p1 F2 H2 s2 r4
    replace r1 := Rep.mono _ s2.g r1
    replace r2 := Rep.mono _ s2.g r2
    replace x1 := x1.step s2
    replace r3 := Rep.mono _ s2.g r3
    replace w := w.tr s2
    refine e_val (v := v2) (val_var rfl) ?_
    refine in_P r2 r4 w.f ?_
    refine bl_v ?_
    refine bb_if (fun hc1 => ?_) (fun hc1 => ?_)
    · have hW := ifP hW hc1
      refine a_retE ?_
      refine e_jnV hW (fun b F' H' => b = b ∧ Wf F0 Hb F' H' ∧ Ex F2 F' ∧ XT Hb F' H' cc.t_told_apart (("told_apart" : Str) ++ (".<locals>." : Str) ++ ("<lambda>" : Str))) ?_ ?_
      · intro N3 hN3 hW
        have gx1 : Ex F2 F2 := Ex.rfl'
        refine e_AndV ?_
        obtain ⟨_, rfl, ix1⟩ := ix_alt (K := K) (pa := fun z => z.1) (pb := fun z => z.1) r3 (fun _ q => ix_3a q w.f) (fun _ q => ix_3a q w.f)
        refine e_val (v := .bl (decide ((Sum.elim (fun z => z.1) (fun z => z.1) z1) = (PySem.Str.ofString "apart")))) (c_eqS (ix1 (val_var rfl) val_c) val_c) ?_
        refine bl_if ?_
        refine b_if (fun hc2 => ?_) (fun hc2 => ?_)
        · have hW := ifP hW hc2
          refine e_op ?_
          obtain ⟨y1, hy1, hW⟩ := hW
          have r5 := alt_l r3 hy1
          obtain ⟨_, rfl, ix2⟩ := ix_3b (K := K) r5 w.f
          refine e_val (v := (.int ((y1.2.1 : Nat) : Int))) (ix2 (val_var rfl) val_c) ?_
          refine e_dgetP ?_
          refine e_val (v := v2) (val_var rfl) ?_
          refine e_tup ?_
          refine a_val (v := (.int ((one1 : Nat) : Int))) (val_var rfl) ?_
          refine a_val (v := (.int ((other1 : Nat) : Int))) (val_var rfl) ?_
          refine a_nil ?_
          refine n_tup2 (e := pN) (f := pN) (x := one1) (y := other1) rfl rfl w ?_
          intro p2 F3 H3 s3 r7
          replace r1 := Rep.mono _ s3.g r1
          replace r2 := Rep.mono _ s3.g r2
          replace x1 := x1.step s3
          replace r5 := Rep.mono _ s3.g r5
          replace w := w.tr s3
          replace gx1 := Ex.tr gx1 s3.g
          obtain ⟨x3, hx1, hW⟩ := hW
          refine get_P r2 r7 w.f hx1 ?_
          refine rv2 (z := .bl (decide (y1.2.1 = x3))) (vb_dec (c_eqI val_c val_c) n_eq) ?_
          exact hN3 (decide (y1.2.1 = x3)) _ _ ⟨rfl, w, gx1, x1⟩ hW
        · have hW := ifN hW hc2
          exact hN3 false _ _ ⟨rfl, w, gx1, x1⟩ hW
      intro b1 F4 H4 hI1 hW
      obtain ⟨_, w, gx2, x2⟩ := hI1
      have r1 := Rep.mono _ gx2 r1
      have r2 := Rep.mono _ gx2 r2
      have r3 := Rep.mono _ gx2 r3
      exact hQ _ hW _ _ w x2
    · have hW := ifN hW hc1
      refine hN2 _ _ ?_
      obtain ⟨_, rfl, ix3⟩ := ix_alt (K := K) (pa := fun z => z.1) (pb := fun z => z.1) r3 (fun _ q => ix_3a q w.f) (fun _ q => ix_3a q w.f)
      refine a_ret (v := (.bl (decide ((Sum.elim (fun z => z.1) (fun z => z.1) z1) = (PySem.Str.ofString "alike"))))) (c_eqS (ix3 (val_var rfl) val_c) val_c) ?_
      exact hQ _ hW _ _ w x1
abbrev s_brought_right : Stmt := topS 52
def W_brought_right (machine_here1 : Nat × List (Nat × Nat) × List (Nat × Nat)) (steps_here1 : List (List (Nat × Nat))) (one1 : Nat) (other1 : Nat) (turns1 : Nat) (R : Bool → Prop) : Prop := (turns1 < 1000000) ∧ forW (List.range turns1) [(one1, true)] (fun k1 here1 nx1 bk1 => forW (here1.map (·.1)) ([] : List (Nat × Bool)) (fun state1 later1 nx2 bk2 => ∃ x5, steps_here1[state1]? = some x5 ∧ forW x5 later1 (fun it1 later2 nx3 bk3 => (later2.length < 1000000) ∧ nx3 (putT later2 it1.2 true)) fun later2 => nx2 later2) fun later1 => nx1 later1) fun here1 => W_brought machine_here1 (An.i ((one1 : Nat) : Int)) (An.i ((other1 : Nat) : Int)) (An.i ((turns1 : Nat) : Int)) False False fun z1 => R (decide ((decide (z1.1 = (PySem.Str.ofString "rows"))) = (decide (hasT here1 other1 = true))))
def sp_brought_right (K : PySem.W.Frag) (cc : Cz) : Sp := fun vs H Q _ => ∃ (F : Hp) (v1 : V) (machine_here1 : Nat × List (Nat × Nat) × List (Nat × Nat)) (v2 : V) (steps_here1 : List (List (Nat × Nat))) (one1 : Nat) (other1 : Nat) (turns1 : Nat) (R : Bool → Prop), vs = [v1, v2, (.int ((one1 : Nat) : Int)), (.int ((other1 : Nat) : Int)), (.int ((turns1 : Nat) : Int))] ∧ Ex F H ∧ (pO3 cc.Machine "inputs" "nexts" "outs" pN (pTL (pT2 pN pN)) (pTL (pT2 pN pN))).r F v1 machine_here1 ∧ (pL (pL (pT2 pN pN))).r F v2 steps_here1 ∧ W_brought_right machine_here1 steps_here1 one1 other1 turns1 R ∧ ∀ z, R z → ∀ F' H', Wf F H F' H' → Q (.bl (z)) H'
abbrev N_brought_right : List Str := ["_law_machine_here", "_law_steps_here", "_law_one", "_law_other", "_law_turns", "_law_here", "_law_k", "_law_later", "_law_state", "_law_answer", "_law_goal"]
theorem sc_brought_right : FnScope N_brought_right ["_law_machine_here", "_law_steps_here", "_law_one", "_law_other", "_law_turns"] (defScope s_brought_right) := ⟨rfl, rfl, rfl, by decide +kernel, rfl, by decide +kernel, by decide +kernel⟩
theorem ok_brought_right {P : Program} {w0 : World} {K : PySem.W.Frag} {mg : Str → Option Value} {base : Heap} {f : Addr} {fd : FuncData} {cc : Cz} (T : Tz K mg cc) (FU : Fun K "_law_brought_right" "_law_brought_right" s_brought_right f fd) (hm : mg "_law_brought_right" = some (.ref f)) (hb : Binds K fd ["_law_machine_here", "_law_steps_here", "_law_one", "_law_other", "_law_turns"] []) (c_brought : Fn P w0 K mg base (L2.CX P w0) 8 "brought" ["machine", "start", "wish", "turns"] (sp_brought K cc)) (n_range : mg "range" = none) : Fn P w0 K mg base CX0 9 "_law_brought_right" ["_law_machine_here", "_law_steps_here", "_law_one", "_law_other", "_law_turns"] (sp_brought_right K cc) := by
  refine ⟨f, fd, FU.ok sc_brought_right (fun vs H Q E h => ?_) (fun cdv A outer s H0 vs Q E hr h => ?_), hm, FU.kp, hb⟩
  · obtain ⟨_, _, _, _, _, _, _, _, _, rfl, _⟩ := h; rfl
  · obtain ⟨F0, v1, machine_here1, v2, steps_here1, one1, other1, turns1, R, rfl, wf, r1, r2, hW, hQ⟩ := h
    have nd := sc_brought_right.nd
    refine ⟨(tSeq (tAsg (tDisp (((tVar 2), (tC (.bl true))) :: [])) (gName 5)) (tSeq (tFor (iRng1 (tCons (tVar 4) tNil)) (gName 6) (tSeq (tAsg tDNewK (gName 7)) (tSeq (tLock (tFor (iKeys (tVar 5)) (gName 8) (tFor (iList K (tOp (L2.rIxL K) (tVar 1) (tVar 8))) (gTup K 2 (gCons (gName 9) (gCons (gName 10) gNil))) (sDPut (tVar 7) (tVar 10) (tC (.bl true)))))) (tAsg (tVar 7) (gName 5))))) (tRet (tOp L2.rEq (tOp L2.rEq (tOp (L2.rIxT K) (tCall (sp_brought K cc) [] E0 (tCons (tVar 0) (tCons (tVar 2) (tCons (tVar 3) (tCons (tVar 4) tNil))))) (tC (.int 0))) (tC (.str (PySem.Str.ofString "rows")))) (tDIn (tVar 3) (tVar 5)))))), (pss_cons (ps_set (i := 5) nd rfl (Or.inl rfl) (pe_disp (pps_cons (pv 2) pe_bl pps_nil) (by rfl) (by rfl) (fun z => by cases z) (by decide))) (pss_cons (ps_for PassesOwn.never rfl (pi_range1 rfl n_range (pa_cons (pv 4) pa_nil)) (pg_name (i := 6) nd rfl (Or.inl rfl)) (pss_cons (ps_set (i := 7) nd rfl (Or.inl rfl) pe_dnewK) (pss_cons (ps_lock (ps_for PassesOwn.never rfl (pi_keys (pv 5)) (pg_name (i := 8) nd rfl (Or.inl rfl)) (pss_one (ps_for PassesOwn.never rfl (pi_list (pe_ix ix_list (pv 1) (pv 8) (fun _ _ => rfl))) (pg_tup rfl (pgs_cons (pg_name (i := 9) nd rfl (Or.inl rfl)) (pgs_cons (pg_name (i := 10) nd rfl (Or.inl rfl)) pgs_nil)) (by rfl)) (pss_one (ps_dput (hu_of hr) (pv 7) (pv 10) pe_bl rfl)))))) (pss_one (ps_set (i := 5) nd rfl (Or.inl rfl) (pv 7)))))) (pss_one (ps_ret (pe_cmpR op_eq (pe_cmpR op_eq (pe_ix ix_tup (pe_fnL c_brought (hr.mono (by decide)) rfl (pa_cons (pv 0) (pa_cons (pv 2) (pa_cons (pv 3) (pa_cons (pv 4) pa_nil))))) pe_int (fun _ _ => rfl)) pe_str (nomark _)) (pe_cmp (pc_din (hu_of hr) (pv 3) (pv 5))) (nomark _)))))), ?_⟩
    have w := Wf.id wf
    refine q_sq fun N1 hN1 => ?_
    refine a_asgE ?_
    refine n_disp1 (κ := Nat) (e := pB) (j := one1) (x := true) (v := (.bl (true))) (fun _ => (val_var rfl)) (fun _ => val_c) rfl w ?_
    intro p1 H1 hp1 s1 x1
    replace r1 := Rep.mono _ s1.g r1
    replace r2 := Rep.mono _ s1.g r2
    replace w := w.tr s1
    refine hN1 _ _ ?_
    refine q_sq fun N2 hN2 => ?_
    refine f_RE ?_
    refine e_val (v := (.int ((turns1 : Nat) : Int))) (val_var rfl) ?_
    obtain ⟨c1, hW⟩ := hW
    refine w_forR (S := List (Nat × Bool)) (fun here1 σ' F' H' => ∃ (p2 : Addr) (o1 : Option V) (o2 : Option V) (o3 : Option V) (o4 : Option V) (o5 : Option V), Wf F0 H0 F' H' ∧ Ex F0 F' ∧ σ' = [some v1, some v2, some (.int ((one1 : Nat) : Int)), some (.int ((other1 : Nat) : Int)), some (.int ((turns1 : Nat) : Int)), some (.ref p2), o1, o2, o3, o4, o5] ∧ XD pB H0 F' H' p2 here1) c1 hW ⟨_, _, _, _, _, _, w, Ex.rfl', rfl, x1⟩ ?_ ?_
    · intro N3 Bk1 k1 here1 σ' F1 H2 nx1 bk1 hI1 hx1 hW hN3 hB1
      obtain ⟨p2, o1, o2, o3, o4, o5, w, gx1, rfl, x2⟩ := hI1
      have r1 := Rep.mono _ gx1 r1
      have r2 := Rep.mono _ gx1 r2
      refine g_name ?_
      refine q_sq fun N4 hN4 => ?_
      refine a_asgE ?_
      refine n_dict (κ := Nat) (e := pB) w ?_
      intro p3 H3 hp2 s3 x3
      have ne1 := x2.ne hp2
      replace r1 := Rep.mono _ s3.g r1
      replace r2 := Rep.mono _ s3.g r2
      replace x2 := x2.step s3
      replace w := w.tr s3
      replace gx1 := Ex.tr gx1 s3.g
      refine hN4 _ _ ?_
      refine q_sq fun N5 hN5 => ?_
      have hF1 := x2.nF
      have hZ1 := x2.zero
      refine f_lockK (fun _ => val_var rfl) x2.bw (fun od1 kvs1 hd1 da1 => ?_)
      have w1 := w
      have gL1 : Ex F1 (lk1 F1 p2 od1 kvs1) := Ex.new hF1
      have gs1 := gx1
      have gx1 := Ex.tr gx1 gL1
      have r3 := Rep.mono _ gL1 r1
      have r4 := Rep.mono _ gL1 r2
      have r6 := x3.lko (od := od1) (kvs := kvs1) (Ne.symm ne1) hF1
      have r7 := lk_dz (od := od1) hF1 da1
      have T1 := twk_keys (d := p2) (od := od1) (b := pN) (fun _ _ => rfl) da1
      have w := lko_w (od := od1) (kvs := kvs1) w1 hZ1 hF1
      refine w_forG (S := List (Nat × Bool)) T1 (fun later1 σ' F' H' => ∃ (o6 : Option V) (o7 : Option V) (o8 : Option V), Wf F0 H0 F' H' ∧ Ex (lk1 F1 p2 od1 kvs1) F' ∧ σ' = [some v1, some v2, some (.int ((one1 : Nat) : Int)), some (.int ((other1 : Nat) : Int)), some (.int ((turns1 : Nat) : Int)), some (.ref p2), some (.int ((k1 : Nat) : Int)), some ((.ref p3)), o6, o7, o8] ∧ XD pB H0 F' H' p3 later1) hW ⟨_, _, _, w, Ex.rfl', rfl, r6⟩ (fun s σ' F' H' hI => by obtain ⟨_, _, _, w', gx', _⟩ := hI; exact ⟨gx', w'.f⟩) w.f ?_ ?_
      · intro N6 Bk2 state1 u2 later1 σ' F2 H4 F3 H5 nx2 bk2 hI2 hx2 s5 ru2 hW hN6 hB2
        obtain ⟨o6, o7, o8, w, gx2, rfl, x4⟩ := hI2
        have r3 := Rep.mono _ gx2 r3
        have r4 := Rep.mono _ gx2 r4
        have r7 := Rep.mono _ gx2 r7
        have gx1 := Ex.tr gx1 gx2
        replace r3 := Rep.mono _ s5.g r3
        replace r4 := Rep.mono _ s5.g r4
        replace r7 := Rep.mono _ s5.g r7
        replace x4 := x4.step s5
        replace w := w.tr s5
        replace gx2 := Ex.tr gx2 s5.g
        replace gx1 := Ex.tr gx1 s5.g
        obtain rfl : u2 = (.int ((state1 : Nat) : Int)) := ru2
        refine g_name ?_
        refine f_LE ?_
        obtain ⟨x5, hx5_1, hW⟩ := hW
        obtain ⟨v3, r8, ix1⟩ := ix_L (K := K) r4 w.f hx5_1
        refine e_val (v := v3) (ix1 (val_var rfl) (val_var rfl)) ?_
        refine w_forL (S := List (Nat × Bool)) (fun later2 σ' F' H' => ∃ (o9 : Option V) (o10 : Option V), Wf F0 H0 F' H' ∧ Ex F3 F' ∧ σ' = [some v1, some v2, some (.int ((one1 : Nat) : Int)), some (.int ((other1 : Nat) : Int)), some (.int ((turns1 : Nat) : Int)), some (.ref p2), some (.int ((k1 : Nat) : Int)), some ((.ref p3)), some (.int ((state1 : Nat) : Int)), o9, o10] ∧ XD pB H0 F' H' p3 later2) r8 hW ⟨_, _, w, Ex.rfl', rfl, x4⟩ (fun s σ' F' H' hI => by obtain ⟨_, _, w', gx', _⟩ := hI; exact ⟨gx', w'.f⟩) w.f ?_ ?_
        · intro N7 Bk3 it1 u3 later2 σ' F4 H6 nx3 bk3 hI3 hx3 ru3 hW hN7 hB3
          obtain ⟨o9, o10, w, gx3, rfl, x6⟩ := hI3
          have r3 := Rep.mono _ gx3 r3
          have r4 := Rep.mono _ gx3 r4
          have r7 := Rep.mono _ gx3 r7
          have r8 := Rep.mono _ gx3 r8
          have gx2 := Ex.tr gx2 gx3
          have gx1 := Ex.tr gx1 gx3
          obtain ⟨p4, u4, u5, rfl, h1, rfl, rfl⟩ := ru3
          refine ⟨p4, _, rfl, SqT.of (w.f _ _ h1), rfl, _, _, rfl, _, _, rfl, rfl, ?_⟩
          refine e_dput ?_
          refine e_val (v := (.bl (true))) val_c ?_
          obtain ⟨c2, hW⟩ := hW
          refine d_put (j := it1.2) x6 w c2 rfl (val_var rfl) (val_var rfl) (fun H7 w2 x7 kp1 => ?_)
          replace w := w2
          exact hN7 (putT later2 it1.2 true) _ _ _ ⟨_, _, w, gx3, rfl, x7⟩ hW
        · intro later2 σ' F5 H8 hI4 hW
          obtain ⟨o9, o10, w, gx4, rfl, x6⟩ := hI4
          have r3 := Rep.mono _ gx4 r3
          have r4 := Rep.mono _ gx4 r4
          have r7 := Rep.mono _ gx4 r7
          have r8 := Rep.mono _ gx4 r8
          have gx2 := Ex.tr gx2 gx4
          have gx1 := Ex.tr gx1 gx4
          exact hN6 later2 _ _ _ ⟨_, _, _, w, gx2, rfl, x6⟩ hW
      · intro later1 σ' F6 H9 hI5 hW
        obtain ⟨o6, o7, o8, w, gx5, rfl, x4⟩ := hI5
        have r3 := Rep.mono _ gx5 r3
        have r4 := Rep.mono _ gx5 r4
        have r7 := Rep.mono _ gx5 r7
        have gx1 := Ex.tr gx1 gx5
        refine ⟨lk_at w gx5, ?_⟩
        have w3 := lko_end (od := od1) (kvs := kvs1) w1 hZ1 hF1 w gx5
        have x8 := x2.lkMe (H' := H9) hd1 da1
        have x9 := x4.lkoE (od := od1) (kvs := kvs1) (Ne.symm ne1) hF1 gx5 ScR.B
        have w := w3
        have gx1 := gs1
        refine hN5 _ _ ?_
        refine a_asg (v := (.ref p3)) (val_var rfl) ?_
        exact hN3 later1 _ _ _ ⟨_, _, _, _, _, _, w, gx1, rfl, x9⟩ hW
    · intro here1 σ' F7 H10 hI6 hW
      obtain ⟨p2, o1, o2, o3, o4, o5, w, gx6, rfl, x2⟩ := hI6
      have r1 := Rep.mono _ gx6 r1
      have r2 := Rep.mono _ gx6 r2
      refine hN2 _ _ ?_
      refine a_retE ?_
      refine e_op ?_
      refine e_op ?_
      refine e_op ?_
      refine e_call ?_
      refine a_val (v := v1) (val_var rfl) ?_
      refine a_val (v := (.int ((one1 : Nat) : Int))) (val_var rfl) ?_
      refine a_val (v := (.int ((other1 : Nat) : Int))) (val_var rfl) ?_
      refine a_val (v := (.int ((turns1 : Nat) : Int))) (val_var rfl) ?_
      refine a_nil ?_
      refine ⟨F7, (v1), (machine_here1), ((.int ((one1 : Nat) : Int))), ((An.i ((one1 : Nat) : Int))), ((.int ((other1 : Nat) : Int))), ((An.i ((other1 : Nat) : Int))), ((.int ((turns1 : Nat) : Int))), ((An.i ((turns1 : Nat) : Int))), _, _, _, rfl, w.f, r1, (show pA.r _ (.int ((one1 : Nat) : Int)) (An.i ((one1 : Nat) : Int)) from rfl), (show pA.r _ (.int ((other1 : Nat) : Int)) (An.i ((other1 : Nat) : Int)) from rfl), (show pA.r _ (.int ((turns1 : Nat) : Int)) (An.i ((turns1 : Nat) : Int)) from rfl), hW, ?_, ?_, ?_⟩
      · intro hW; exact hW.elim
      · intro hW; exact hW.elim
      intro z1 hW v4 F8 H11 s10 fr1
      have r9 := fr1.r
      replace r1 := Rep.mono _ s10.g r1
      replace r2 := Rep.mono _ s10.g r2
      replace x2 := x2.step s10
      replace w := w.tr s10
      replace gx6 := Ex.tr gx6 s10.g
      refine e_val (v := (.int ((0 : Nat) : Int))) val_c ?_
      obtain ⟨_, rfl, ix2⟩ := ix_2a (K := K) r9 w.f
      refine rv2 (z := (.str (z1.1))) (ix2 val_c val_c) ?_
      refine e_val (v := (.str ((PySem.Str.ofString "rows")))) val_c ?_
      refine rv2 (z := .bl (decide (z1.1 = (PySem.Str.ofString "rows")))) (c_eqS val_c val_c) ?_
      refine e_val (v := (.bl (decide (hasT here1 other1 = true)))) (vb_of (in_XD (j := other1) x2 (val_var rfl) (val_var rfl)) dec_tt) ?_
      refine rv2 (z := .bl (decide ((decide (z1.1 = (PySem.Str.ofString "rows"))) = (decide (hasT here1 other1 = true))))) (c_eqB val_c val_c) ?_
      exact hQ _ hW _ _ w
abbrev s_law : Stmt := topS 53
def W_law (script1 : List Int) (R : Bool → Prop) : Prop := W_machine script1 0 4 fun z1 => jn (fun kk => jn (fun kk => if 4 < z1.2.1.length then (kk true) else (kk (decide (3 < z1.1)))) fun b1 => if b1 = true then (kk (0, ([] : List (Nat × Nat)), [(0, 0)])) else (kk z1)) fun tables1 => W_Machine___init__ tables1.1 tables1.2.1 tables1.2.2 fun z2 => W_steps tables1 fun z3 => W_first_unlike z3 fun z4 => W_come_right z2 z3 fun z5 => if z5 = true then (((cutT script1 (some 5) (some 11)).length + [((1 : Nat) : Int)].length < 1000000) ∧ forW ((cutT script1 (some 5) (some 11)) ++ [((1 : Nat) : Int)]) () (fun cell_here1 _ nx2 bk1 => (0 < z3.length) ∧ ∀ one1 : Nat, one1 = modN (cell_here1 / ((8 : Nat) : Int)) z3.length → (0 < z3.length) ∧ ∀ other1 : Nat, other1 = modN (cell_here1 / ((256 : Nat) : Int)) z3.length → W_apart_right z2 z4 one1 other1 fun z7 => if z7 = true then (W_brought_right z2 z3 one1 other1 (modN cell_here1 8) fun z9 => if z9 = true then (nx2 ()) else (R false)) else (R false)) fun _ => R true) else (R false)
def sp_law (K : PySem.W.Frag) (cc : Cz) : Sp := fun vs H Q _ => ∃ (F : Hp) (v1 : V) (script1 : List Int) (R : Bool → Prop), vs = [v1] ∧ Ex F H ∧ (pScr K).r F v1 script1 ∧ XT (woL H [cc.t_come_to, cc.t_told_apart]) F H cc.t_come_to (("come_to" : Str) ++ (".<locals>." : Str) ++ ("<lambda>" : Str)) ∧ XT (woL H [cc.t_come_to, cc.t_told_apart]) F H cc.t_told_apart (("told_apart" : Str) ++ (".<locals>." : Str) ++ ("<lambda>" : Str)) ∧ W_law script1 R ∧ ∀ z, R z → ∀ F' H', Wf F (woL H [cc.t_come_to, cc.t_told_apart]) F' H' → XT (woL H [cc.t_come_to, cc.t_told_apart]) F' H' cc.t_come_to (("come_to" : Str) ++ (".<locals>." : Str) ++ ("<lambda>" : Str)) → XT (woL H [cc.t_come_to, cc.t_told_apart]) F' H' cc.t_told_apart (("told_apart" : Str) ++ (".<locals>." : Str) ++ ("<lambda>" : Str)) → Q (.bl (z)) H'
abbrev N_law : List Str := ["_law_script", "_law_tables", "_law_machine_here", "_law_steps_here", "_law_unlike", "_law_cell_here", "_law_one", "_law_other"]
theorem sc_law : FnScope N_law ["_law_script"] (defScope s_law) := ⟨rfl, rfl, rfl, by decide +kernel, rfl, by decide +kernel, by decide +kernel⟩
theorem ok_law {P : Program} {w0 : World} {K : PySem.W.Frag} {mg : Str → Option Value} {base : Heap} {f : Addr} {fd : FuncData} {cc : Cz} (T : Tz K mg cc) (FU : Fun K "law" "law" s_law f fd) (c_machine : Fn P w0 K mg base CX0 3 "_law_machine" ["_law_script", "_law_start", "_law_most"] (sp_machine K cc)) (c_Machine___init__ : Nw P w0 K mg base CX0 4 cc.Machine "Machine" ["self", "inputs", "nexts", "outs"] (sp_Machine___init__ K cc)) (c_steps : Fn P w0 K mg base CX0 3 "_law_steps" ["_law_tables"] (sp_steps K cc)) (c_first_unlike : Fn P w0 K mg base CX0 2 "_law_first_unlike" ["_law_steps_here"] (sp_first_unlike K cc)) (c_come_right : Fn P w0 K mg base CX0 10 "_law_come_right" ["_law_machine_here", "_law_steps_here"] (sp_come_right K cc)) (c_apart_right : Fn P w0 K mg base CX0 10 "_law_apart_right" ["_law_machine_here", "_law_unlike", "_law_one", "_law_other"] (sp_apart_right K cc)) (c_brought_right : Fn P w0 K mg base CX0 9 "_law_brought_right" ["_law_machine_here", "_law_steps_here", "_law_one", "_law_other", "_law_turns"] (sp_brought_right K cc)) (n_len : mg "len" = none) (n_list : mg "list" = none) : FnOk P w0 K mg base CX0 11 f fd ["_law_script"] (sp_law K cc) := by
  refine FU.ok sc_law (fun vs H Q E h => ?_) (fun cdv A outer s H0 vs Q E hr h => ?_)
  · obtain ⟨_, _, _, _, rfl, _⟩ := h; rfl
  · obtain ⟨F0, v1, script1, R, rfl, wf, r1, xt_come_to, xt_told_apart, hW, hQ⟩ := h
    have nd := sc_law.nd
    refine ⟨(tSeq (tAsg (tCall (sp_machine K cc) [] E0 (tCons (tVar 0) (tCons (tC (.int 0)) (tCons (tC (.int 4)) tNil)))) (gName 1)) (tSeq (tIfS (tOr (tTest (tOp kGt (tCB (Wk.rLen K) (tCons (tOp (L2.rIxT K) (tVar 1) (tC (.int 1))) tNil)) (tC (.int 4)))) (tTest (tOp kGt (tOp (L2.rIxT K) (tVar 1) (tC (.int 0))) (tC (.int 3))))) (tAsg (tTup (tCons (tC (.int 0)) (tCons (tLst tNil) (tCons (tLst (tCons (tTup (tCons (tC (.int 0)) (tCons (tC (.int 0)) tNil))) tNil)) tNil)))) (gName 1)) tNext) (tSeq (tAsg (tMake cc.Machine (sp_Machine___init__ K cc) [] E0 (tCons (tOp (L2.rIxT K) (tVar 1) (tC (.int 0))) (tCons (tCB (rListOf K) (tCons (tOp (L2.rIxT K) (tVar 1) (tC (.int 1))) tNil)) (tCons (tCB (rListOf K) (tCons (tOp (L2.rIxT K) (tVar 1) (tC (.int 2))) tNil)) tNil)))) (gName 2)) (tSeq (tAsg (tCall (sp_steps K cc) [] E0 (tCons (tVar 1) tNil)) (gName 3)) (tSeq (tAsg (tCall (sp_first_unlike K cc) [] E0 (tCons (tVar 3) tNil)) (gName 4)) (tSeq (tIfS (tNot (tB (tCall (sp_come_right K cc) [] E0 (tCons (tVar 2) (tCons (tVar 3) tNil))))) (tRet (tC (.bl false))) tNext) (tSeq (tFor (iList K (tOp L2.rCat (tSl (rSlL K) (tVar 0) (tPart (tC (.int 5))) (tPart (tC (.int 11)))) (tLst (tCons (tC (.int 1)) tNil)))) (gName 5) (tSeq (tAsg (tOp kMod (tOp kDiv (tVar 5) (tC (.int 8))) (tCB (Wk.rLen K) (tCons (tVar 3) tNil))) (gName 6)) (tSeq (tAsg (tOp kMod (tOp kDiv (tVar 5) (tC (.int 256))) (tCB (Wk.rLen K) (tCons (tVar 3) tNil))) (gName 7)) (tSeq (tIfS (tNot (tB (tCall (sp_apart_right K cc) [] E0 (tCons (tVar 2) (tCons (tVar 4) (tCons (tVar 6) (tCons (tVar 7) tNil))))))) (tRet (tC (.bl false))) tNext) (tIfS (tNot (tB (tCall (sp_brought_right K cc) [] E0 (tCons (tVar 2) (tCons (tVar 3) (tCons (tVar 6) (tCons (tVar 7) (tCons (tOp kMod (tVar 5) (tC (.int 8))) tNil)))))))) (tRet (tC (.bl false))) tNext))))) (tRet (tC (.bl true)))))))))), (pss_cons (ps_set (i := 1) nd rfl (Or.inl rfl) (pe_fn c_machine (hr.mono (by decide)) rfl (pa_cons (pv 0) (pa_cons pe_int (pa_cons pe_int pa_nil))))) (pss_cons (ps_if (PW.pt (pw_or (pt_cmpR op_gt (pe_callB call_len_seq (by rfl) n_len PySem.boot_len (pa_cons (pe_ix ix_tup (pv 1) pe_int (fun _ _ => rfl)) pa_nil)) pe_int (nomark _)) (pw_or1 (pt_cmpR op_gt (pe_ix ix_tup (pv 1) pe_int (fun _ _ => rfl)) pe_int (nomark _))))) (pss_one (ps_set (i := 1) nd rfl (Or.inl rfl) (pe_tup (pa_cons pe_int (pa_cons (pe_lst pa_nil) (pa_cons (pe_lst (pa_cons (pe_tup (pa_cons pe_int (pa_cons pe_int pa_nil))) pa_nil)) pa_nil)))))) pss_nil) (pss_cons (ps_set (i := 2) nd rfl (Or.inl rfl) (pe_nw c_Machine___init__ (hr.mono (by decide)) rfl (pa_cons (pe_ix ix_tup (pv 1) pe_int (fun _ _ => rfl)) (pa_cons (pe_callTy call_list_of (by rfl) n_list PyProof.Rows.boot_list (pa_cons (pe_ix ix_tup (pv 1) pe_int (fun _ _ => rfl)) pa_nil)) (pa_cons (pe_callTy call_list_of (by rfl) n_list PyProof.Rows.boot_list (pa_cons (pe_ix ix_tup (pv 1) pe_int (fun _ _ => rfl)) pa_nil)) pa_nil))))) (pss_cons (ps_set (i := 3) nd rfl (Or.inl rfl) (pe_fn c_steps (hr.mono (by decide)) rfl (pa_cons (pv 1) pa_nil))) (pss_cons (ps_set (i := 4) nd rfl (Or.inl rfl) (pe_fn c_first_unlike (hr.mono (by decide)) rfl (pa_cons (pv 3) pa_nil))) (pss_cons (ps_if (pt_not (pt_val (pe_fn c_come_right (hr.mono (by decide)) rfl (pa_cons (pv 2) (pa_cons (pv 3) pa_nil))))) (pss_one (ps_ret pe_bl)) pss_nil) (pss_cons (ps_for PassesOwn.never rfl (pi_list (pe_op op_cat (pe_slice sl_list (pv 0) (po_some pe_int) (po_some pe_int)) (pe_lst (pa_cons pe_int pa_nil)))) (pg_name (i := 5) nd rfl (Or.inl rfl)) (pss_cons (ps_set (i := 6) nd rfl (Or.inl rfl) (pe_op op_mod (pe_op op_fdivW (pv 5) pe_int) (pe_callB call_len_seq (by rfl) n_len PySem.boot_len (pa_cons (pv 3) pa_nil)))) (pss_cons (ps_set (i := 7) nd rfl (Or.inl rfl) (pe_op op_mod (pe_op op_fdivW (pv 5) pe_int) (pe_callB call_len_seq (by rfl) n_len PySem.boot_len (pa_cons (pv 3) pa_nil)))) (pss_cons (ps_if (pt_not (pt_val (pe_fn c_apart_right (hr.mono (by decide)) rfl (pa_cons (pv 2) (pa_cons (pv 4) (pa_cons (pv 6) (pa_cons (pv 7) pa_nil))))))) (pss_one (ps_ret pe_bl)) pss_nil) (pss_one (ps_if (pt_not (pt_val (pe_fn c_brought_right (hr.mono (by decide)) rfl (pa_cons (pv 2) (pa_cons (pv 3) (pa_cons (pv 6) (pa_cons (pv 7) (pa_cons (pe_op op_mod (pv 5) pe_int) pa_nil)))))))) (pss_one (ps_ret pe_bl)) pss_nil)))))) (pss_one (ps_ret pe_bl))))))))), ?_⟩
    have w := Wf.startL (L := [cc.t_come_to, cc.t_told_apart]) wf (allL2 xt_come_to.nF xt_told_apart.nF)
    generalize hH0 : woL H0 [cc.t_come_to, cc.t_told_apart] = Hb at w hQ xt_come_to xt_told_apart
    refine q_sq fun N1 hN1 => ?_
    refine a_asgE ?_
    refine e_call ?_
    refine a_val (v := v1) (val_var rfl) ?_
    refine a_val (v := (.int ((0 : Nat) : Int))) val_c ?_
    refine a_val (v := (.int ((4 : Nat) : Int))) val_c ?_
    refine a_nil ?_
    refine ⟨F0, (v1), (script1), (0), (4), _, rfl, w.f, r1, hW, ?_⟩
    intro z1 hW v2 F1 H1 s1 r2
    replace r1 := Rep.mono _ s1.g r1
    replace xt_come_to := xt_come_to.step s1
    replace xt_told_apart := xt_told_apart.step s1
    replace w := w.tr s1
    refine hN1 _ _ ?_
    refine q_jn (S := Nat × List (Nat × Nat) × List (Nat × Nat)) hW (fun tables1 σ' F' H' => ∃ (v3 : V), Wf F0 Hb F' H' ∧ Ex F1 F' ∧ σ' = [some v1, some v3, none, none, none, none, none, none] ∧ (pT3 pN (pL (pT2 pN pN)) (pL (pT2 pN pN))).r F' v3 tables1 ∧ XT Hb F' H' cc.t_come_to (("come_to" : Str) ++ (".<locals>." : Str) ++ ("<lambda>" : Str)) ∧ XT Hb F' H' cc.t_told_apart (("told_apart" : Str) ++ (".<locals>." : Str) ++ ("<lambda>" : Str))) ?_ ?_
    · intro N2 hN2 hW
      have gx1 : Ex F1 F1 := Ex.rfl'
      refine a_ifE ?_
      refine e_jnT hW (fun b F' H' => b = b ∧ Wf F0 Hb F' H' ∧ Ex F1 F' ∧ XT Hb F' H' cc.t_come_to (("come_to" : Str) ++ (".<locals>." : Str) ++ ("<lambda>" : Str)) ∧ XT Hb F' H' cc.t_told_apart (("told_apart" : Str) ++ (".<locals>." : Str) ++ ("<lambda>" : Str))) ?_ ?_
      · intro N3 hN3 hW
        have gx2 : Ex F1 F1 := Ex.rfl'
        refine e_tOr ?_
        obtain ⟨v4, r4, ix1⟩ := ix_3b (K := K) r2 w.f
        refine e_ans (b := decide (4 < z1.2.1.length)) (t_of (vb_dec (c_gt (len_L r4 w.f (ix1 (val_var rfl) val_c)) val_c) n_lt)) ?_
        refine b_if (fun hc1 => ?_) (fun hc1 => ?_)
        · have hW := ifP hW hc1
          exact hN3 true _ _ ⟨rfl, w, gx2, xt_come_to, xt_told_apart⟩ hW
        · have hW := ifN hW hc1
          obtain ⟨_, rfl, ix2⟩ := ix_3a (K := K) r2 w.f
          refine e_ans (b := decide (3 < z1.1)) (t_of (vb_dec (c_gt (ix2 (val_var rfl) val_c) val_c) n_lt)) ?_
          exact hN3 (decide (3 < z1.1)) _ _ ⟨rfl, w, gx2, xt_come_to, xt_told_apart⟩ hW
      intro b1 F2 H2 hI1 hW
      obtain ⟨_, w, gx3, x3, x4⟩ := hI1
      have r1 := Rep.mono _ gx3 r1
      have r2 := Rep.mono _ gx3 r2
      have gx1 := Ex.tr gx1 gx3
      refine bb_if (fun hc2 => ?_) (fun hc2 => ?_)
      · have hW := ifP hW hc2
        refine a_asgE ?_
        refine e_tup ?_
        refine a_val (v := (.int ((0 : Nat) : Int))) val_c ?_
        refine a_cons ?_
        refine e_lst ?_
        refine a_nil ?_
        refine n_lstX (e := (pT2 pN pN)) (xs := []) (vs := []) (show All (pT2 pN pN) _ [] [] from trivial) (show 0 < 1000000 from by decide) w ?_
        intro p1 H3 hp1 s2 x5
        have ne1 := x3.ne hp1
        have ne2 := x4.ne hp1
        replace r1 := Rep.mono _ s2.g r1
        replace x3 := x3.step s2
        replace x4 := x4.step s2
        replace r2 := Rep.mono _ s2.g r2
        replace w := w.tr s2
        replace gx1 := Ex.tr gx1 s2.g
        refine a_cons ?_
        refine e_lst ?_
        refine a_cons ?_
        refine e_tup ?_
        refine a_val (v := (.int ((0 : Nat) : Int))) val_c ?_
        refine a_val (v := (.int ((0 : Nat) : Int))) val_c ?_
        refine a_nil ?_
        refine n_tup2 (e := pN) (f := pN) (x := 0) (y := 0) rfl rfl w ?_
        intro p2 F3 H4 s3 r6
        replace r1 := Rep.mono _ s3.g r1
        replace x3 := x3.step s3
        replace x4 := x4.step s3
        replace r2 := Rep.mono _ s3.g r2
        replace x5 := x5.step s3
        replace w := w.tr s3
        replace gx1 := Ex.tr gx1 s3.g
        refine a_nil ?_
        refine n_lstX (e := (pT2 pN pN)) (xs := [(0, 0)]) (vs := [(.ref p2)]) (show All (pT2 pN pN) _ [(.ref p2)] [(0, 0)] from ⟨r6, trivial⟩) (show 1 < 1000000 from by decide) w ?_
        intro p3 H5 hp2 s4 x6
        have ne3 := x3.ne hp2
        have ne4 := x4.ne hp2
        have ne5 := x5.ne hp2
        replace r1 := Rep.mono _ s4.g r1
        replace x3 := x3.step s4
        replace x4 := x4.step s4
        replace r2 := Rep.mono _ s4.g r2
        replace x5 := x5.step s4
        replace r6 := Rep.mono _ s4.g r6
        replace w := w.tr s4
        replace gx1 := Ex.tr gx1 s4.g
        refine a_nil ?_
        obtain ⟨F4, w1, g1, r7, fz1⟩ := x5.frzE w
        replace r1 := Rep.mono _ g1 r1
        replace x3 := x3.frzO fz1 ne1 g1
        replace x4 := x4.frzO fz1 ne2 g1
        replace r2 := Rep.mono _ g1 r2
        replace r6 := Rep.mono _ g1 r6
        replace x6 := x6.frzO fz1 (Ne.symm ne5) g1
        replace w := w1
        replace gx1 := Ex.tr gx1 g1
        obtain ⟨F5, w2, g2, r8, fz2⟩ := x6.frzE w
        replace r1 := Rep.mono _ g2 r1
        replace x3 := x3.frzO fz2 ne3 g2
        replace x4 := x4.frzO fz2 ne4 g2
        replace r2 := Rep.mono _ g2 r2
        replace r7 := Rep.mono _ g2 r7
        replace r6 := Rep.mono _ g2 r6
        replace w := w2
        replace gx1 := Ex.tr gx1 g2
        refine n_tup3 (e := pN) (f := (pL (pT2 pN pN))) (g := (pL (pT2 pN pN))) (x := 0) (y := ([] : List (Nat × Nat))) (z := [(0, 0)]) rfl r7 r8 w ?_
        intro p4 F6 H6 s5 r9
        replace r1 := Rep.mono _ s5.g r1
        replace x3 := x3.step s5
        replace x4 := x4.step s5
        replace r2 := Rep.mono _ s5.g r2
        replace r7 := Rep.mono _ s5.g r7
        replace r6 := Rep.mono _ s5.g r6
        replace r8 := Rep.mono _ s5.g r8
        replace w := w.tr s5
        replace gx1 := Ex.tr gx1 s5.g
        exact hN2 (0, ([] : List (Nat × Nat)), [(0, 0)]) _ _ _ ⟨_, w, gx1, rfl, r9, x3, x4⟩ hW
      · have hW := ifN hW hc2
        exact hN2 z1 _ _ _ ⟨_, w, gx1, rfl, r2, x3, x4⟩ hW
    · intro tables1 σ' F7 H7 hI2 hW
      obtain ⟨v3, w, gx4, rfl, r3, x1, x2⟩ := hI2
      have r1 := Rep.mono _ gx4 r1
      refine q_sq fun N4 hN4 => ?_
      refine a_asgE ?_
      refine e_nw ?_
      obtain ⟨_, rfl, ix3⟩ := ix_3a (K := K) r3 w.f
      refine a_val (v := (.int ((tables1.1 : Nat) : Int))) (ix3 (val_var rfl) val_c) ?_
      refine a_cons ?_
      refine e_cb ?_
      obtain ⟨v7, r11, ix4⟩ := ix_3b (K := K) r3 w.f
      refine a_val (v := v7) (ix4 (val_var rfl) val_c) ?_
      refine a_nil ?_
      refine n_listX r11 w ?_
      intro p5 H8 hp3 s7 x7
      have ne6 := x1.ne hp3
      have ne7 := x2.ne hp3
      replace r1 := Rep.mono _ s7.g r1
      replace x1 := x1.step s7
      replace x2 := x2.step s7
      replace r3 := Rep.mono _ s7.g r3
      replace r11 := Rep.mono _ s7.g r11
      replace w := w.tr s7
      replace gx4 := Ex.tr gx4 s7.g
      refine a_cons ?_
      refine e_cb ?_
      obtain ⟨v8, r12, ix5⟩ := ix_3c (K := K) r3 w.f
      refine a_val (v := v8) (ix5 (val_var rfl) val_c) ?_
      refine a_nil ?_
      refine n_listX r12 w ?_
      intro p6 H9 hp4 s8 x8
      have ne8 := x1.ne hp4
      have ne9 := x2.ne hp4
      have ne10 := x7.ne hp4
      replace r1 := Rep.mono _ s8.g r1
      replace x1 := x1.step s8
      replace x2 := x2.step s8
      replace r3 := Rep.mono _ s8.g r3
      replace r11 := Rep.mono _ s8.g r11
      replace x7 := x7.step s8
      replace r12 := Rep.mono _ s8.g r12
      replace w := w.tr s8
      replace gx4 := Ex.tr gx4 s8.g
      refine a_nil ?_
      obtain ⟨F8, w3, g3, r13, fz3⟩ := x7.frzE w
      replace r1 := Rep.mono _ g3 r1
      replace x1 := x1.frzO fz3 ne6 g3
      replace x2 := x2.frzO fz3 ne7 g3
      replace r3 := Rep.mono _ g3 r3
      replace r11 := Rep.mono _ g3 r11
      replace r12 := Rep.mono _ g3 r12
      replace x8 := x8.frzO fz3 (Ne.symm ne10) g3
      replace w := w3
      replace gx4 := Ex.tr gx4 g3
      obtain ⟨F9, w4, g4, r14, fz4⟩ := x8.frzE w
      replace r1 := Rep.mono _ g4 r1
      replace x1 := x1.frzO fz4 ne8 g4
      replace x2 := x2.frzO fz4 ne9 g4
      replace r3 := Rep.mono _ g4 r3
      replace r11 := Rep.mono _ g4 r11
      replace r13 := Rep.mono _ g4 r13
      replace r12 := Rep.mono _ g4 r12
      replace w := w4
      replace gx4 := Ex.tr gx4 g4
      intro ob1 dx1 nx1 nd1 ne11
      refine ⟨F9, ob1, dx1, (tables1.1), ((.ref p5)), (tables1.2.1), ((.ref p6)), (tables1.2.2), _, rfl, upd_same, (w.f.non nx1), (Ex.made w.f nx1 nd1), r13, r14, hW, ?_⟩
      intro z2 hW F10 H10 s9 r15
      refine ⟨rfl, ?_⟩
      replace s9 := Wf.made nx1 nd1 s9
      replace r1 := Rep.mono _ s9.g r1
      replace x1 := x1.step s9
      replace x2 := x2.step s9
      replace r3 := Rep.mono _ s9.g r3
      replace r11 := Rep.mono _ s9.g r11
      replace r13 := Rep.mono _ s9.g r13
      replace r12 := Rep.mono _ s9.g r12
      replace r14 := Rep.mono _ s9.g r14
      replace w := w.tr s9
      replace gx4 := Ex.tr gx4 s9.g
      refine hN4 _ _ ?_
      refine q_sq fun N5 hN5 => ?_
      refine a_asgE ?_
      refine e_call ?_
      refine a_val (v := v3) (val_var rfl) ?_
      refine a_nil ?_
      refine ⟨F10, (v3), (tables1), _, rfl, w.f, r3, hW, ?_⟩
      intro z3 hW p7 F11 H11 s10 x9
      have ne12 := x1.ne x9.zero
      have ne13 := x2.ne x9.zero
      replace x9 := x9.base w
      replace r1 := Rep.mono _ s10.g r1
      replace x1 := x1.step s10
      replace x2 := x2.step s10
      replace r3 := Rep.mono _ s10.g r3
      replace r15 := Rep.mono _ s10.g r15
      replace w := w.tr s10
      replace gx4 := Ex.tr gx4 s10.g
      obtain ⟨F12, w5, g5, r16, fz5⟩ := x9.frzE w
      replace r1 := Rep.mono _ g5 r1
      replace x1 := x1.frzO fz5 ne12 g5
      replace x2 := x2.frzO fz5 ne13 g5
      replace r3 := Rep.mono _ g5 r3
      replace r15 := Rep.mono _ g5 r15
      replace w := w5
      replace gx4 := Ex.tr gx4 g5
      refine hN5 _ _ ?_
      refine q_sq fun N6 hN6 => ?_
      refine a_asgE ?_
      refine e_call ?_
      refine a_val (v := (.ref p7)) (val_var rfl) ?_
      refine a_nil ?_
      refine ⟨F12, ((.ref p7)), (z3), _, rfl, w.f, r16, hW, ?_⟩
      intro z4 hW p8 F13 H12 s11 x10
      have ne14 := x1.ne x10.zero
      have ne15 := x2.ne x10.zero
      replace x10 := x10.base w
      replace r1 := Rep.mono _ s11.g r1
      replace x1 := x1.step s11
      replace x2 := x2.step s11
      replace r3 := Rep.mono _ s11.g r3
      replace r15 := Rep.mono _ s11.g r15
      replace r16 := Rep.mono _ s11.g r16
      replace w := w.tr s11
      replace gx4 := Ex.tr gx4 s11.g
      obtain ⟨F14, w6, g6, r17, fz6⟩ := x10.frzE w
      replace r1 := Rep.mono _ g6 r1
      replace x1 := x1.frzO fz6 ne14 g6
      replace x2 := x2.frzO fz6 ne15 g6
      replace r3 := Rep.mono _ g6 r3
      replace r15 := Rep.mono _ g6 r15
      replace r16 := Rep.mono _ g6 r16
      replace w := w6
      replace gx4 := Ex.tr gx4 g6
      refine hN6 _ _ ?_
      refine q_sq fun N7 hN7 => ?_
      refine a_ifE ?_
      refine e_tNot ?_
      refine e_tB ?_
      refine e_call ?_
      refine a_val (v := (.ref ob1)) (val_var rfl) ?_
      refine a_val (v := (.ref p7)) (val_var rfl) ?_
      refine a_nil ?_
      refine ⟨F14, ((.ref ob1)), (z2), ((.ref p7)), (z3), _, rfl, w.f, r15, r16, (x1.toL (List.mem_cons_self ..)), hW, ?_⟩
      intro z5 hW F15 H13 s12 x11
      have z6 := x1.zero
      replace w := w.mcall (L := [cc.t_come_to]) (allL1 z6) s12 (allL1 x11.nF)
      replace r1 := Rep.mono _ s12.g r1
      replace x2 := x2.away (nin1 (Ne.symm T.ne_come_to_told_apart)) s12
      replace r3 := Rep.mono _ s12.g r3
      replace r15 := Rep.mono _ s12.g r15
      replace r16 := Rep.mono _ s12.g r16
      replace r17 := Rep.mono _ s12.g r17
      replace gx4 := Ex.tr gx4 s12.g
      replace x11 := XT.fromL x11 z6
      refine bl_v ?_
      refine bb_ifn (fun hc3 => ?_) (fun hc3 => ?_)
      · have hW := ifP hW hc3
        refine hN7 _ _ ?_
        refine q_sq fun N8 hN8 => ?_
        refine f_LE ?_
        refine e_op ?_
        refine n_cutS (lo := (some 5)) (hi := (some 11)) r1 (val_var rfl) (po_s (n := 5) val_c) (po_s (n := 11) val_c) w ?_
        intro p9 H14 hp5 s13 x12
        have ne16 := x11.ne hp5
        have ne17 := x2.ne hp5
        replace r1 := Rep.mono _ s13.g r1
        replace x11 := x11.step s13
        replace x2 := x2.step s13
        replace r3 := Rep.mono _ s13.g r3
        replace r15 := Rep.mono _ s13.g r15
        replace r16 := Rep.mono _ s13.g r16
        replace r17 := Rep.mono _ s13.g r17
        replace w := w.tr s13
        replace gx4 := Ex.tr gx4 s13.g
        refine e_lst ?_
        refine a_val (v := (.int (((1 : Nat) : Int)))) val_c ?_
        refine a_nil ?_
        refine n_lstX (e := pI) (xs := [((1 : Nat) : Int)]) (vs := [(.int (((1 : Nat) : Int)))]) (show All pI _ [(.int (((1 : Nat) : Int)))] [((1 : Nat) : Int)] from ⟨rfl, trivial⟩) (show 1 < 1000000 from by decide) w ?_
        intro p10 H15 hp6 s14 x13
        have ne18 := x11.ne hp6
        have ne19 := x2.ne hp6
        have ne20 := x12.ne hp6
        replace r1 := Rep.mono _ s14.g r1
        replace x11 := x11.step s14
        replace x2 := x2.step s14
        replace r3 := Rep.mono _ s14.g r3
        replace r15 := Rep.mono _ s14.g r15
        replace r16 := Rep.mono _ s14.g r16
        replace r17 := Rep.mono _ s14.g r17
        replace x12 := x12.step s14
        replace w := w.tr s14
        replace gx4 := Ex.tr gx4 s14.g
        obtain ⟨F16, w7, g7, r18, fz7⟩ := x12.frzE w
        replace r1 := Rep.mono _ g7 r1
        replace x11 := x11.frzO fz7 ne16 g7
        replace x2 := x2.frzO fz7 ne17 g7
        replace r3 := Rep.mono _ g7 r3
        replace r15 := Rep.mono _ g7 r15
        replace r16 := Rep.mono _ g7 r16
        replace r17 := Rep.mono _ g7 r17
        replace x13 := x13.frzO fz7 (Ne.symm ne20) g7
        replace w := w7
        replace gx4 := Ex.tr gx4 g7
        obtain ⟨F17, w8, g8, r19, fz8⟩ := x13.frzE w
        replace r1 := Rep.mono _ g8 r1
        replace x11 := x11.frzO fz8 ne18 g8
        replace x2 := x2.frzO fz8 ne19 g8
        replace r3 := Rep.mono _ g8 r3
        replace r15 := Rep.mono _ g8 r15
        replace r16 := Rep.mono _ g8 r16
        replace r17 := Rep.mono _ g8 r17
        replace r18 := Rep.mono _ g8 r18
        replace w := w8
        replace gx4 := Ex.tr gx4 g8
        obtain ⟨c1, hW⟩ := hW
        refine n_cat r18 r19 w c1 ?_
        intro p11 H16 hp7 s15 x14
        have ne21 := x11.ne hp7
        have ne22 := x2.ne hp7
        replace r1 := Rep.mono _ s15.g r1
        replace x11 := x11.step s15
        replace x2 := x2.step s15
        replace r3 := Rep.mono _ s15.g r3
        replace r15 := Rep.mono _ s15.g r15
        replace r16 := Rep.mono _ s15.g r16
        replace r17 := Rep.mono _ s15.g r17
        replace r18 := Rep.mono _ s15.g r18
        replace r19 := Rep.mono _ s15.g r19
        replace w := w.tr s15
        replace gx4 := Ex.tr gx4 s15.g
        obtain ⟨F18, w9, g9, r20, fz9⟩ := x14.frzE w
        replace r1 := Rep.mono _ g9 r1
        replace x11 := x11.frzO fz9 ne21 g9
        replace x2 := x2.frzO fz9 ne22 g9
        replace r3 := Rep.mono _ g9 r3
        replace r15 := Rep.mono _ g9 r15
        replace r16 := Rep.mono _ g9 r16
        replace r17 := Rep.mono _ g9 r17
        replace r18 := Rep.mono _ g9 r18
        replace r19 := Rep.mono _ g9 r19
        replace w := w9
        replace gx4 := Ex.tr gx4 g9
        refine w_forL (S := Unit) (fun _ σ' F' H' => ∃ (o1 : Option V) (o2 : Option V) (o3 : Option V), Wf F0 Hb F' H' ∧ Ex F18 F' ∧ σ' = [some v1, some v3, some (.ref ob1), some (.ref p7), some (.ref p8), o1, o2, o3] ∧ XT Hb F' H' cc.t_come_to (("come_to" : Str) ++ (".<locals>." : Str) ++ ("<lambda>" : Str)) ∧ XT Hb F' H' cc.t_told_apart (("told_apart" : Str) ++ (".<locals>." : Str) ++ ("<lambda>" : Str))) r20 hW ⟨_, _, _, w, Ex.rfl', rfl, x11, x2⟩ (fun s σ' F' H' hI => by obtain ⟨_, _, _, w', gx', _⟩ := hI; exact ⟨gx', w'.f⟩) w.f ?_ ?_
        · intro N9 Bk1 cell_here1 u1 s16 σ' F19 H17 nx2 bk1 hI3 hx1 ru1 hW hN9 hB1
          obtain ⟨o1, o2, o3, w, gx5, rfl, x15, x16⟩ := hI3
          have r1 := Rep.mono _ gx5 r1
          have r3 := Rep.mono _ gx5 r3
          have r15 := Rep.mono _ gx5 r15
          have r16 := Rep.mono _ gx5 r16
          have r17 := Rep.mono _ gx5 r17
          have r18 := Rep.mono _ gx5 r18
          have r19 := Rep.mono _ gx5 r19
          have r20 := Rep.mono _ gx5 r20
          have gx4 := Ex.tr gx4 gx5
          obtain rfl : u1 = (.int (cell_here1)) := ru1
          refine g_name ?_
          refine q_sq fun N10 hN10 => ?_
          obtain ⟨c2, hW⟩ := hW
          obtain ⟨one1, eone1⟩ : ∃ one1 : Nat, one1 = modN (cell_here1 / ((8 : Nat) : Int)) z3.length := ⟨_, rfl⟩
          replace hW := hW one1 eone1
          refine a_asg (v := (.int ((one1 : Nat) : Int))) (v_eq (vm_mod (vi_div (val_var rfl) val_c ⟨by decide, by decide +kernel⟩) (len_L r16 w.f (val_var rfl)) c2) (by rw [eone1])) ?_
          refine hN10 _ _ ?_
          refine q_sq fun N11 hN11 => ?_
          obtain ⟨c3, hW⟩ := hW
          obtain ⟨other1, eother1⟩ : ∃ other1 : Nat, other1 = modN (cell_here1 / ((256 : Nat) : Int)) z3.length := ⟨_, rfl⟩
          replace hW := hW other1 eother1
          refine a_asg (v := (.int ((other1 : Nat) : Int))) (v_eq (vm_mod (vi_div (val_var rfl) val_c ⟨by decide, by decide +kernel⟩) (len_L r16 w.f (val_var rfl)) c3) (by rw [eother1])) ?_
          refine hN11 _ _ ?_
          refine q_sq fun N12 hN12 => ?_
          refine a_ifE ?_
          refine e_tNot ?_
          refine e_tB ?_
          refine e_call ?_
          refine a_val (v := (.ref ob1)) (val_var rfl) ?_
          refine a_val (v := (.ref p8)) (val_var rfl) ?_
          refine a_val (v := (.int ((one1 : Nat) : Int))) (val_var rfl) ?_
          refine a_val (v := (.int ((other1 : Nat) : Int))) (val_var rfl) ?_
          refine a_nil ?_
          refine ⟨F19, ((.ref ob1)), (z2), ((.ref p8)), (z4), (one1), (other1), _, rfl, w.f, r15, r17, (x16.toL (List.mem_cons_self ..)), hW, ?_⟩
          intro z7 hW F20 H18 s17 x17
          have z8 := x16.zero
          replace w := w.mcall (L := [cc.t_told_apart]) (allL1 z8) s17 (allL1 x17.nF)
          replace r1 := Rep.mono _ s17.g r1
          replace x15 := x15.away (nin1 T.ne_come_to_told_apart) s17
          replace r3 := Rep.mono _ s17.g r3
          replace r15 := Rep.mono _ s17.g r15
          replace r16 := Rep.mono _ s17.g r16
          replace r17 := Rep.mono _ s17.g r17
          replace gx5 := Ex.tr gx5 s17.g
          replace gx4 := Ex.tr gx4 s17.g
          replace x17 := XT.fromL x17 z8
          refine bl_v ?_
          refine bb_ifn (fun hc4 => ?_) (fun hc4 => ?_)
          · have hW := ifP hW hc4
            refine hN12 _ _ ?_
            refine a_ifE ?_
            refine e_tNot ?_
            refine e_tB ?_
            refine e_call ?_
            refine a_val (v := (.ref ob1)) (val_var rfl) ?_
            refine a_val (v := (.ref p7)) (val_var rfl) ?_
            refine a_val (v := (.int ((one1 : Nat) : Int))) (val_var rfl) ?_
            refine a_val (v := (.int ((other1 : Nat) : Int))) (val_var rfl) ?_
            refine a_val (v := (.int ((modN cell_here1 8 : Nat) : Int))) (vm_mod (val_var rfl) val_c (by decide)) ?_
            refine a_nil ?_
            refine ⟨F20, ((.ref ob1)), (z2), ((.ref p7)), (z3), (one1), (other1), (modN cell_here1 8), _, rfl, w.f, r15, r16, hW, ?_⟩
            intro z9 hW F21 H19 s18
            replace r1 := Rep.mono _ s18.g r1
            replace x15 := x15.step s18
            replace x17 := x17.step s18
            replace r3 := Rep.mono _ s18.g r3
            replace r15 := Rep.mono _ s18.g r15
            replace r16 := Rep.mono _ s18.g r16
            replace r17 := Rep.mono _ s18.g r17
            replace w := w.tr s18
            replace gx5 := Ex.tr gx5 s18.g
            replace gx4 := Ex.tr gx4 s18.g
            refine bl_v ?_
            refine bb_ifn (fun hc5 => ?_) (fun hc5 => ?_)
            · have hW := ifP hW hc5
              exact hN9 () _ _ _ ⟨_, _, _, w, gx5, rfl, x15, x17⟩ hW
            · have hW := ifN hW hc5
              refine a_ret (v := (.bl (false))) val_c ?_
              exact hQ _ hW _ _ w x15 x17
          · have hW := ifN hW hc4
            refine a_ret (v := (.bl (false))) val_c ?_
            exact hQ _ hW _ _ w x15 x17
        · intro s19 σ' F22 H20 hI4 hW
          obtain ⟨o1, o2, o3, w, gx6, rfl, x15, x16⟩ := hI4
          have r1 := Rep.mono _ gx6 r1
          have r3 := Rep.mono _ gx6 r3
          have r15 := Rep.mono _ gx6 r15
          have r16 := Rep.mono _ gx6 r16
          have r17 := Rep.mono _ gx6 r17
          have r18 := Rep.mono _ gx6 r18
          have r19 := Rep.mono _ gx6 r19
          have r20 := Rep.mono _ gx6 r20
          have gx4 := Ex.tr gx4 gx6
          refine hN8 _ _ ?_
          refine a_ret (v := (.bl (true))) val_c ?_
          exact hQ _ hW _ _ w x15 x16
      · have hW := ifN hW hc3
        refine a_ret (v := (.bl (false))) val_c ?_
        exact hQ _ hW _ _ w x11 x2
end My
namespace My
open Wk
theorem w_even {n : Nat} {R : Bool → Prop} (h : R (!par n)) : W_even n R := by
  refine whileW_ind (fun s => s.1 ≤ 1 ∧ xor (decide (s.1 = 1)) (par s.2) = par n) (fun s => s.2) ⟨by show 0 ≤ 1; decide, by simp⟩ ?_
  rintro ⟨many, number⟩ nx ⟨h1, h2⟩ hn
  by_cases hp : 0 < number
  · show if decide (0 < number) = true then _ else _
    rw [if_pos (decide_eq_true hp)]
    rintro _ rfl _ rfl
    refine hn _ ⟨?_, ?_⟩ ?_
    · show many ^^^ (number &&& 1) ≤ 1
      rw [Nat.and_one_is_mod]
      have : many = 0 ∨ many = 1 := by simp at h1; omega
      rcases Nat.mod_two_eq_zero_or_one number with e | e <;> rcases this with f | f <;> rw [e, f] <;> decide
    · show xor (decide (many ^^^ (number &&& 1) = 1)) (par (number >>> 1)) = par n
      rw [← h2, Nat.and_one_is_mod, par_step number, Nat.shiftRight_eq_div_pow, Nat.testBit_zero]
      simp only [Nat.pow_one]
      have : many = 0 ∨ many = 1 := by simp at h1; omega
      rcases Nat.mod_two_eq_zero_or_one number with e | e <;> rcases this with f | f <;> simp [e, f]
    · show number >>> 1 < number
      rw [Nat.shiftRight_eq_div_pow]; omega
  · show if decide (0 < number) = true then _ else _
    rw [if_neg (by simpa using hp)]
    have : number = 0 := by omega
    subst this
    show R (decide (many = 0))
    simp [par_zero] at h2
    rw [← h2] at h
    have e : many = 0 ∨ many = 1 := by simp at h1; omega
    rcases e with f | f <;> subst f <;> simpa using h
end My
namespace My
open Wk
theorem w_bits_of {k n : Nat} {R : List Nat → Prop} (hk : k < 1000000) (hn : n < 2 ^ k) (h : R (bl k n)) : W_bits_of n R := by
  refine whileW_ind (fun s => s.2.1 = n >>> s.2.2 ∧ s.1 = bl s.2.2 n ∧ s.2.2 ≤ k) (fun s => k - s.2.2) ⟨rfl, rfl, Nat.zero_le _⟩ ?_
  rintro ⟨found, mask, place⟩ nx ⟨(rfl : mask = n >>> place), (rfl : found = bl place n), (h3 : place ≤ k)⟩ hx
  show if decide (0 < n >>> place) = true then _ else _
  by_cases hp : 0 < n >>> place
  · rw [if_pos (decide_eq_true hp)]
    have hl : place < k := by
      refine Nat.lt_of_not_le fun z => ?_
      rw [Nat.shiftRight_eq_div_pow, Nat.div_eq_of_lt (Nat.lt_of_lt_of_le hn (Nat.pow_le_pow_right (by decide) z))] at hp
      exact Nat.lt_irrefl _ hp
    have nxt : ∀ (s' : List Nat × Nat × Nat), s' = (bl (place + 1) n, n >>> (place + 1), place + 1) → nx s' := fun s' e => hx s' (by subst e; exact ⟨rfl, rfl, hl⟩) (by
      subst e
      show k - (place + 1) < k - place
      omega)
    have e1 : (n >>> place &&& 1 = 1) ↔ n.testBit place = true := by
      rw [Nat.and_one_is_mod, Nat.testBit_eq_decide_div_mod_eq, Nat.shiftRight_eq_div_pow, decide_eq_true_iff]
    have e2 : n >>> place >>> 1 = n >>> (place + 1) := (Nat.shiftRight_add ..).symm
    show if _ then _ else _
    by_cases hb : n.testBit place = true
    · rw [if_pos (e1.mpr hb)]
      refine ⟨Nat.lt_of_le_of_lt (bl_len _ _) (Nat.lt_of_le_of_lt h3 hk), ?_⟩
      rintro _ rfl _ rfl
      exact nxt _ (by rw [bl_snoc, if_pos hb, e2])
    · rw [if_neg (fun z => hb (e1.mp z))]
      rintro _ rfl _ rfl
      exact nxt _ (by rw [bl_snoc, if_neg hb, e2, List.append_nil])
  · rw [if_neg (by simpa using hp)]
    show R (bl place n)
    rw [← bl_more h3 (Nat.eq_zero_of_not_pos hp)]; exact h
end My
namespace My
open Wk
def cellV (s : List Int) (k : Nat) : Int := if h : k < s.length then s[k] else ((41 * k + 3 : Nat) : Int)
theorem w_cell {s : List Int} {k : Nat} {R : Int → Prop} (h : R (cellV s k)) : W_cell s k R := by
  unfold W_cell
  unfold cellV at h
  by_cases e : k < s.length
  · rw [dif_pos e] at h; rw [if_pos e]; exact ⟨_, List.getElem?_eq_getElem e, h⟩
  · rw [dif_neg e] at h; rw [if_neg e]; exact h
def mixN (c : Int) (k : Nat) : Nat := (((modN c 2147483647) * 48271) + (7919 * k) + 11) % 2147483647
def mixV (c : Int) (k : Nat) : Nat := ((mixN c k * mixN c k % 2147483629) * ((mixN c k * mixN c k % 2147483629 + 48271 * k) + 7)) % 2147483587
theorem w_mix {c : Int} {k : Nat} {R : Nat → Prop} (h : R (mixV c k)) : W_mix c k R := by
  rintro _ rfl
  have b : mixN c k < 2 ^ 64 := Nat.lt_trans (Nat.mod_lt _ (by decide)) (by decide)
  refine ⟨.inl b, ?_⟩
  rintro _ rfl
  exact ⟨.inl (Nat.lt_trans (Nat.mod_lt _ (by decide)) (by decide)), h⟩
end My
namespace My
open Wk
/-- what is kept, behind the rows pre -/
structure KI (pre : List Nat) (kept : List (Nat × (Nat × Nat))) : Prop where
  ent : ∀ t l p, valT kept t = some (l, p) → l ≠ 0 ∧ bits l = t ∧ comb pre p = l ∧ p < 2 ^ pre.length
  top : ∀ v, v ≠ 0 → Span pre v → hasT kept (bits v) = true
theorem KI.nil : KI [] [] := ⟨fun t l p h => (by cases h), fun v h s => absurd (Span.nil.mp s) h⟩
/-- behind lowered -/
structure Low (pre : List Nat) (kept : List (Nat × (Nat × Nat))) (row places left more : Nat) : Prop where
  no : hasT kept (bits left) = false
  by_ : ∃ D, D < 2 ^ pre.length ∧ left = row ^^^ comb pre D ∧ more = places ^^^ D
theorem w_lowered {pre : List Nat} {kept : List (Nat × (Nat × Nat))} (K : KI pre kept) {row places : Nat} {R : Nat × Nat → Prop} (h : ∀ z : Nat × Nat, Low pre kept row places z.1 z.2 → R z) : W_Steps_lowered kept row places R := by
  refine whileW_ind (fun s => ∃ D, D < 2 ^ pre.length ∧ s.1 = row ^^^ comb pre D ∧ s.2 = places ^^^ D) (fun s => bits s.1) ⟨0, Nat.two_pow_pos _, by rw [comb_zero, Nat.xor_zero], by rw [Nat.xor_zero]⟩ ?_
  rintro ⟨r, p⟩ nx ⟨D, hD, (e1 : r = _), (e2 : p = _)⟩ hn
  show if decide (hasT kept (bits r) = true) = true then _ else _
  by_cases q : hasT kept (bits r) = true
  · rw [if_pos (decide_eq_true q)]
    obtain ⟨⟨l, pl⟩, hx⟩ : ∃ x, valT kept (bits r) = some x := by
      unfold hasT at q
      cases hv : valT kept (bits r) with
      | none => rw [hv] at q; cases q
      | some x => exact ⟨x, rfl⟩
    refine ⟨(l, pl), hx, ?_⟩
    rintro _ rfl _ rfl
    obtain ⟨h0, hb, hc, hp⟩ := K.ent _ _ _ hx
    have hr : r ≠ 0 := fun z => by rw [z, bits_zero] at hb; exact h0 (bits_eq_zero.mp hb)
    refine hn _ ⟨D ^^^ pl, Nat.xor_lt_two_pow hD hp, ?_, ?_⟩ (bits_xor_eq hb.symm hr)
    · show r ^^^ l = _
      rw [e1, comb_xor, hc, Nat.xor_assoc]
    · show p ^^^ pl = _
      rw [e2, Nat.xor_assoc]
  · rw [if_neg (by simpa using q)]
    exact h (r, p) ⟨by simpa using q, D, hD, e1, e2⟩
theorem Low.zero {pre : List Nat} {kept : List (Nat × (Nat × Nat))} {row places left more : Nat} (K : KI pre kept) (L : Low pre kept row places left more) : left = 0 ↔ Span pre row := by
  obtain ⟨D, hD, e1, e2⟩ := L.by_
  constructor
  · intro h
    rw [h] at e1
    exact ⟨D, (xor0 e1.symm).symm⟩
  · intro h
    refine Classical.byContradiction fun z => ?_
    have hs : Span pre left := by rw [e1]; exact h.xor ⟨D, rfl⟩
    have := K.top left z hs
    rw [L.no] at this; cases this
/-- what Steps(rows) holds -/
structure StepsOk (rows : List Nat) (z : List (Nat × (Nat × Nat)) × List Nat × List Nat) : Prop where
  ki : KI rows z.1
  nd : (z.1.map (·.1)).Nodup
  kl : z.1.length = z.2.1.length
  fnd : z.2.1 = fndP rows
  gon : ∀ g ∈ z.2.2, g ≠ 0 ∧ comb rows g = 0 ∧ g < 2 ^ rows.length
  inc : z.2.2.Pairwise (fun a b => bits a < bits b)
  len : z.2.1.length + z.2.2.length = rows.length
theorem KI.up {pre : List Nat} {kept : List (Nat × (Nat × Nat))} (K : KI pre kept) {x : Nat} : ∀ t l p, valT kept t = some (l, p) → l ≠ 0 ∧ bits l = t ∧ comb (pre ++ [x]) p = l ∧ p < 2 ^ (pre ++ [x]).length := fun t l p h => by
  obtain ⟨a, b, c, d⟩ := K.ent t l p h
  refine ⟨a, b, by rw [comb_snoc, testBit_big d (Nat.le_refl _), c]; simp, Nat.lt_of_lt_of_le d (Nat.pow_le_pow_right (by decide) (by simp))⟩
theorem keys_putT {κ α : Type} [DecidableEq κ] [KeyT κ] {m : List (κ × α)} {j : κ} {x : α} (hn : (m.map (·.1)).Nodup) : ((putT m j x).map (·.1)).Nodup := by
  unfold putT
  by_cases h : hasT m j = true
  · rw [if_pos h, List.map_map]
    have : ((fun q : κ × α => q.1) ∘ fun q => if q.1 = j then (q.1, x) else q) = fun q => q.1 := by
      funext q
      show (if q.1 = j then (q.1, x) else q).1 = q.1
      by_cases e : q.1 = j
      · rw [if_pos e]
      · rw [if_neg e]
    rw [this]; exact hn
  · rw [if_neg h, List.map_append]
    refine List.nodup_append.mpr ⟨hn, by simp, fun a ha b hb e => ?_⟩
    rw [List.mem_singleton.mp (show b ∈ [j] from hb)] at e
    subst e
    exact h (hasT_iff.mpr ha)
theorem w_Steps_init {rows : List Nat} (hl : rows.length < 1000000) {R : (List (Nat × (Nat × Nat)) × List Nat × List Nat) → Prop} (h : ∀ z, StepsOk rows z → R z) : W_Steps___init__ rows R := by
  refine forW_ind (fun pre (s : List Nat × List (Nat × (Nat × Nat)) × List Nat) => ∃ us, rows = us ++ rows.drop us.length ∧ us.length = pre.length ∧ StepsOk us (s.2.1, s.2.2, s.1)) ⟨[], rfl, rfl, ⟨KI.nil, List.nodup_nil, rfl, rfl, fun g hg => (by cases hg), List.Pairwise.nil, rfl⟩⟩ ?_ ?_
  · rintro pre ⟨i, x⟩ post ⟨gone, kept, found⟩ nx bk e ⟨us, hu, hul, S⟩ hn _
    have hget : (enumT rows)[pre.length]? = some (i, x) := by rw [e, List.getElem?_append_right (Nat.le_refl _), Nat.sub_self]; rfl
    rw [enumT_get] at hget
    obtain ⟨y, hy, ey⟩ := Option.map_eq_some_iff.mp hget
    obtain ⟨rfl, rfl⟩ := Prod.ext_iff.mp ey
    have hlt : pre.length < rows.length := (List.getElem?_eq_some_iff.mp hy).1
    have hus : us ++ [y] = rows.take (us.length + 1) := by
      have e1 : us = rows.take us.length := by
        conv => rhs; rw [hu]
        rw [List.take_append_of_le_length (Nat.le_refl _), List.take_length]
      have e2 : rows[us.length]'(by omega) = y := by
        have := (List.getElem?_eq_some_iff.mp hy).2
        simp only [hul]; exact this
      rw [List.take_succ_eq_append_getElem (by omega), e2, ← e1]
    have hnew : rows = (us ++ [y]) ++ rows.drop (us ++ [y]).length := by
      rw [hus, List.length_take, Nat.min_eq_left (by omega), List.take_append_drop]
    have hsl := S.len
    have hsk := S.kl
    have hi : (pre.length : Nat) = us.length := hul.symm
    show (pre.length < 100000000) ∧ _
    refine ⟨by omega, w_lowered S.ki fun z L => ?_⟩
    have hz := L.zero S.ki
    obtain ⟨D, hD, e1, e2⟩ := L.by_
    have hc : comb (us ++ [y]) z.2 = z.1 := by
      show comb (us ++ [y]) z.2 = z.1
      rw [e2, hi, comb_xor, comb_snoc, comb_pow_len, Nat.testBit_two_pow, decide_eq_true rfl, if_pos rfl, comb_snoc, testBit_big hD (Nat.le_refl _), if_neg (by simp), Nat.zero_xor, Nat.xor_zero, e1]
    have hzb : z.2.testBit us.length = true := by rw [e2, hi, Nat.testBit_xor, Nat.testBit_two_pow, decide_eq_true rfl, testBit_big hD (Nat.le_refl _)]; rfl
    have hzl : z.2 < 2 ^ (us.length + 1) := by
      rw [e2, hi]
      exact Nat.xor_lt_two_pow (Nat.pow_lt_pow_right (by decide) (Nat.lt_succ_self _)) (Nat.lt_of_lt_of_le hD (Nat.pow_le_pow_right (by decide) (Nat.le_succ _)))
    have hzz : bits z.2 = us.length + 1 := bits_of_bit hzb hzl
    have ll : (us ++ [y]).length = us.length + 1 := by simp
    by_cases q : z.1 = 0
    · rw [if_pos q]
      have hs := hz.mp q
      refine ⟨by simp only at hsl; omega, hn _ ⟨us ++ [y], hnew, by simp [hul], ?_⟩⟩
      refine ⟨⟨S.ki.up, fun v hv sv => ?_⟩, S.nd, S.kl, ?_, ?_, ?_, ?_⟩
      · rcases Span.snoc.mp sv with a | a
        · exact S.ki.top v hv a
        · refine S.ki.top v hv ?_
          have := a.xor hs
          rwa [Nat.xor_assoc, Nat.xor_self, Nat.xor_zero] at this
      · rw [fndP_snoc, if_pos hs, List.append_nil]; exact S.fnd
      · intro g hg
        rcases List.mem_append.mp hg with m | m
        · obtain ⟨a, b, c⟩ := S.gon g m
          exact ⟨a, by rw [comb_snoc, testBit_big c (Nat.le_refl _), b]; simp, Nat.lt_of_lt_of_le c (Nat.pow_le_pow_right (by decide) (by simp))⟩
        · rw [List.mem_singleton.mp m]
          exact ⟨fun z0 => by rw [z0, bits_zero] at hzz; omega, by rw [hc, q], by rw [ll]; exact hzl⟩
      · refine List.pairwise_append.mpr ⟨S.inc, List.pairwise_singleton _ _, fun a ha b hb => ?_⟩
        rw [List.mem_singleton.mp hb, hzz]
        exact Nat.lt_succ_of_le (bits_le.mpr (S.gon a ha).2.2)
      · simp only [List.length_append, List.length_singleton] at hsl ⊢; omega
    · rw [if_neg q]
      have hs : ¬ Span us y := fun z0 => q (hz.mpr z0)
      refine ⟨by simp only at hsk hsl; omega, by simp only at hsl; omega, hn _ ⟨us ++ [y], hnew, by simp [hul], ?_⟩⟩
      have hno := L.no
      refine ⟨⟨fun t l p hv => ?_, fun v hv sv => ?_⟩, keys_putT S.nd, ?_, ?_, ?_, S.inc, ?_⟩
      · rw [valT_putT] at hv
        by_cases e : bits z.1 = t
        · rw [if_pos e] at hv
          obtain ⟨rfl, rfl⟩ := Prod.ext_iff.mp (Option.some.inj hv)
          exact ⟨q, e, hc, by rw [ll]; exact hzl⟩
        · rw [if_neg e] at hv
          exact S.ki.up t l p hv
      · show hasT (putT kept (bits z.1) (z.1, z.2)) (bits v) = true
        rw [hasT_putT]
        have key : ∀ u, u ≠ 0 → Span us u → hasT kept (bits u) = true := S.ki.top
        rcases Span.snoc.mp sv with a | a
        · rw [key v hv a, Bool.or_true]
        · have a' : Span us (v ^^^ z.1) := by
            have := a.xor ⟨D, rfl⟩
            rw [e1]; rwa [Nat.xor_assoc] at this
          by_cases hu0 : v ^^^ z.1 = 0
          · rw [xor0 hu0, decide_eq_true rfl]; rfl
          · have hk := key _ hu0 a'
            have hne : bits (v ^^^ z.1) ≠ bits z.1 := fun e => by rw [e, hno] at hk; cases hk
            have hm : bits v = max (bits (v ^^^ z.1)) (bits z.1) := by
              rw [← bits_xor_max hne, Nat.xor_assoc, Nat.xor_self, Nat.xor_zero]
            rcases Nat.le_total (bits (v ^^^ z.1)) (bits z.1) with o | o
            · rw [hm, Nat.max_eq_right o, decide_eq_true rfl]; rfl
            · rw [hm, Nat.max_eq_left o, hk, Bool.or_true]
      · show (putT kept (bits z.1) (z.1, z.2)).length = (found ++ [pre.length]).length
        unfold putT
        rw [if_neg (by rw [hno]; simp), List.length_append, List.length_append]
        simp only at hsk
        rw [hsk]; rfl
      · show found ++ [pre.length] = _
        rw [fndP_snoc, if_neg hs, hi]
        have := S.fnd
        simp only at this
        rw [this]
      · intro g hg
        obtain ⟨a, b, c⟩ := S.gon g hg
        exact ⟨a, by rw [comb_snoc, testBit_big c (Nat.le_refl _), b]; simp, Nat.lt_of_lt_of_le c (Nat.pow_le_pow_right (by decide) (by simp))⟩
      · simp only [List.length_append, List.length_singleton] at hsl ⊢; omega
  · rintro ⟨gone, kept, found⟩ ⟨us, hu, hul, S⟩
    have : us = rows := by
      rw [enumT_len] at hul
      rw [hul, List.drop_length, List.append_nil] at hu
      exact hu.symm
    rw [this] at S
    exact h _ S
end My
namespace My
open Wk
/-- a mask that is even with all rows, and of the bits that no kept row has for its highest has bit alone -/
structure Crs (rows : List Nat) (kept : List (Nat × (Nat × Nat))) (bit m : Nat) : Prop where
  ev : ∀ v, Span rows v → par (v &&& m) = false
  own : ∀ b, hasT kept (b + 1) = false → (m.testBit b = true ↔ b = bit)
  lowz : ∀ j, j < bit → m.testBit j = false
  low : ∀ w, bit < w → (∀ t, hasT kept t = true → t ≤ w) → m < 2 ^ w
theorem and_xor (a b c : Nat) : (a ^^^ b) &&& c = (a &&& c) ^^^ (b &&& c) := Nat.eq_of_testBit_eq fun i => by
  rw [Nat.testBit_and, Nat.testBit_xor, Nat.testBit_xor, Nat.testBit_and, Nat.testBit_and]
  cases a.testBit i <;> cases b.testBit i <;> cases c.testBit i <;> rfl
theorem and_xor' (a b c : Nat) : a &&& (b ^^^ c) = (a &&& b) ^^^ (a &&& c) := by rw [Nat.and_comm, and_xor, Nat.and_comm b, Nat.and_comm c]
theorem and_pow {a k : Nat} : a &&& 2 ^ k = if a.testBit k = true then 2 ^ k else 0 := Nat.eq_of_testBit_eq fun i => by
  rw [Nat.testBit_and, Nat.testBit_two_pow]
  by_cases e : k = i
  · subst e
    by_cases q : a.testBit k = true
    · rw [if_pos q, q, Nat.testBit_two_pow]; simp
    · rw [if_neg q]; simp [q]
  · by_cases q : a.testBit k = true
    · rw [if_pos q, Nat.testBit_two_pow, decide_eq_false e]; simp
    · rw [if_neg q, decide_eq_false e]; simp
theorem w_crossing {rows : List Nat} {z : List (Nat × (Nat × Nat)) × List Nat × List Nat} (S : StepsOk rows z) {bit : Nat} (hb : bit < 100000000) (hbt : hasT z.1 (bit + 1) = false) (hk : z.1.length < 1000000) (ht : ∀ t, hasT z.1 t = true → t < 100000000) {R : Nat → Prop} (h : ∀ m, Crs rows z.1 bit m → R m) : W_Steps_crossing z bit R := by
  refine ⟨hb, ?_⟩
  rintro _ rfl
  refine ⟨hk, fun ys hp hs => ?_⟩
  have key : ∀ t, t ∈ ys ↔ hasT z.1 t = true := fun t => by rw [hp.mem_iff, hasT_iff]
  have nd : ys.Nodup := hp.nodup_iff.mpr S.nd
  refine forW_ind (fun pre (m : Nat) => (∀ t l p, t ∈ pre → valT z.1 t = some (l, p) → par (l &&& m) = false) ∧ (∀ b, m.testBit b = true → b = bit ∨ (b + 1) ∈ pre) ∧ m.testBit bit = true ∧ ∀ j, j < bit → m.testBit j = false) ⟨fun t l p ht => (by cases ht), fun b hb => .inl ?_, by rw [Nat.testBit_two_pow]; simp, fun j hj => by rw [Nat.testBit_two_pow, decide_eq_false (by omega)]⟩ ?_ ?_
  · rw [Nat.testBit_two_pow] at hb; exact (of_decide_eq_true hb).symm
  · rintro pre t post m nx bk e ⟨h1, h2, h3, h4⟩ hx _
    have tm : t ∈ ys := by rw [e]; exact List.mem_append_right _ (List.mem_cons_self ..)
    have tk := (key t).mp tm
    obtain ⟨⟨l, p⟩, hv⟩ : ∃ x, valT z.1 t = some x := by
      unfold hasT at tk
      cases hv : valT z.1 t with
      | none => rw [hv] at tk; cases tk
      | some x => exact ⟨x, rfl⟩
    obtain ⟨l0, lb, lc, lp⟩ := S.ki.ent t l p hv
    have tpos : 0 < t := by rw [← lb]; exact bits_pos l0
    have prelt : ∀ t' ∈ pre, t' < t := fun t' ht' => by
      rw [e, List.pairwise_append] at hs
      have a := hs.2.2 t' ht' t (List.mem_cons_self ..)
      rw [e, List.nodup_append] at nd
      have b := nd.2.2 t' ht' t (List.mem_cons_self ..)
      omega
    refine ⟨(l, p), hv, (l, p), hv, fun row1 erow => ?_⟩
    rw [show row1 = l from erow]
    refine w_even ?_
    have tlt : l.testBit (t - 1) = true := by rw [← lb]; exact bits_bit l0
    have mt : t ∈ pre ++ [t] := List.mem_append_right _ (List.mem_singleton_self _)
    by_cases q : par (l &&& m) = true
    · rw [q, if_neg (by simp)]
      refine ⟨tpos, by have := ht t tk; omega, ?_⟩
      rintro _ rfl
      have tge : bit ≤ t - 1 := by
        refine Nat.le_of_not_lt fun z0 => ?_
        have : l &&& m = 0 := Nat.eq_of_testBit_eq fun i => by
          rw [Nat.testBit_and, Nat.zero_testBit]
          by_cases o : i < bit
          · rw [h4 i o, Bool.and_false]
          · rw [testBit_big (lt_bits l) (by omega), Bool.false_and]
        rw [this, par_zero] at q; cases q
      refine hx _ ⟨fun t' l' p' ht' hv' => ?_, fun b hb' => ?_, ?_, fun j hj => by rw [Nat.testBit_xor, h4 j hj, Nat.testBit_two_pow, decide_eq_false (by omega)]; rfl⟩
      · rw [and_xor', par_xor, and_pow]
        rcases List.mem_append.mp ht' with g | g
        · obtain ⟨l0', lb', _, _⟩ := S.ki.ent t' l' p' hv'
          have := prelt t' g
          rw [h1 t' l' p' g hv', testBit_big (lt_bits l') (by omega), if_neg (by simp), par_zero]; rfl
        · rw [List.mem_singleton.mp g, hv] at hv'
          obtain ⟨rfl, rfl⟩ := Prod.ext_iff.mp (Option.some.inj hv')
          show xor (par (l &&& m)) (par (if l.testBit (t - 1) = true then 2 ^ (t - 1) else 0)) = false
          rw [q, tlt, if_pos rfl, par_two_pow]; rfl
      · rw [Nat.testBit_xor, Nat.testBit_two_pow] at hb'
        by_cases eb : t - 1 = b
        · right
          have : b + 1 = t := by omega
          rw [this]; exact mt
        · rw [decide_eq_false eb, Bool.xor_false] at hb'
          exact (h2 b hb').imp id fun g => List.mem_append_left _ g
      · rw [Nat.testBit_xor, h3, Nat.testBit_two_pow, decide_eq_false (fun eb => ?_)]; rfl
        have : bit + 1 = t := by omega
        rw [this, tk] at hbt; cases hbt
    · have q' : par (l &&& m) = false := by simpa using q
      rw [q', if_pos (by rfl)]
      refine hx _ ⟨fun t' l' p' ht' hv' => ?_, fun b hb' => (h2 b hb').imp id fun g => List.mem_append_left _ g, h3, h4⟩
      rcases List.mem_append.mp ht' with g | g
      · exact h1 t' l' p' g hv'
      · rw [List.mem_singleton.mp g, hv] at hv'
        obtain ⟨rfl, rfl⟩ := Prod.ext_iff.mp (Option.some.inj hv')
        exact q'
  · rintro m ⟨h1, h2, h3, h4⟩
    refine h m ⟨fun v => ?_, fun b hb' => ⟨fun hm => ?_, fun e => by subst e; exact h3⟩, h4, fun w hw hw2 => ?_⟩
    · -- each sum is taken down by what is kept
      induction hn : bits v using Nat.strongRecOn generalizing v with
      | ind n ih =>
        intro hs'
        by_cases v0 : v = 0
        · subst v0; rw [Nat.zero_and, par_zero]
        · have hk' := S.ki.top v v0 hs'
          obtain ⟨⟨l, p⟩, hv⟩ : ∃ x, valT z.1 (bits v) = some x := by
            unfold hasT at hk'
            cases hv : valT z.1 (bits v) with
            | none => rw [hv] at hk'; cases hk'
            | some x => exact ⟨x, rfl⟩
          obtain ⟨l0, lb, lc, lp⟩ := S.ki.ent _ l p hv
          have e : v = (v ^^^ l) ^^^ l := by rw [Nat.xor_assoc, Nat.xor_self, Nat.xor_zero]
          have := ih (bits (v ^^^ l)) (by rw [← hn]; exact bits_xor_eq lb.symm v0) _ rfl (hs'.xor ⟨p, lc⟩)
          rw [e, and_xor, par_xor, this, h1 _ l p ((key _).mpr hk') hv]; rfl
    · rcases h2 b hm with g | g
      · exact g
      · rw [(key _).mp g] at hb'; cases hb'
    · refine Nat.lt_pow_two_of_testBit _ fun j hj => ?_
      refine Bool.eq_false_iff.mpr fun hm => ?_
      rcases h2 j hm with g | g
      · omega
      · have := hw2 _ ((key _).mp g); omega
end My
namespace My
open Wk
theorem kept_has {kept : List (Nat × (Nat × Nat))} {t : Nat} (h : hasT kept t = true) : ∃ l p, valT kept t = some (l, p) := by
  unfold hasT at h
  cases hv : valT kept t with
  | none => rw [hv] at h; cases h
  | some x => exact ⟨x.1, x.2, rfl⟩
theorem Span.mem {rows : List Nat} {r : Nat} (hr : r ∈ rows) : Span rows r := by
  obtain ⟨us, vs, er⟩ := List.append_of_mem hr
  rw [er]
  have : ∀ (vs us : List Nat), Span us r → Span (us ++ vs) r := by
    intro vs
    induction vs with
    | nil => intro us h; rwa [List.append_nil]
    | cons v vs ih => intro us h; rw [show us ++ v :: vs = (us ++ [v]) ++ vs by simp]; exact ih _ (Span.snoc.mpr (.inl h))
  rw [show us ++ r :: vs = (us ++ [r]) ++ vs by simp]
  exact this vs _ (Span.snoc.mpr (.inr (by rw [Nat.xor_self]; exact Span.zero _)))
end My
namespace My
open Wk
theorem w_sum_for {rows : List Nat} {wish w : Nat} (hl : rows.length < 1000000) (hw : w < 1000000) (hr : ∀ r ∈ rows, r < 2 ^ w) (hwi : wish < 2 ^ w) {R : PySem.Str × (Sum (List Nat) Nat) → Prop}
    (hs : Span rows wish → ∀ D, D < 2 ^ rows.length → comb rows D = wish → R (PySem.Str.ofString "sum", Sum.inl (bl rows.length D)))
    (hn : ¬ Span rows wish → ∀ m, (∀ v, Span rows v → par (v &&& m) = false) → par (wish &&& m) = true → m < 2 ^ w → R (PySem.Str.ofString "no", Sum.inr m)) : W_sum_for rows wish R := by
  refine w_Steps_init hl fun z S => w_lowered S.ki fun y L => ?_
  have hz := L.zero S.ki
  obtain ⟨D, hD, e1, e2⟩ := L.by_
  rw [Nat.zero_xor] at e2
  by_cases q : y.1 = 0
  · rw [if_pos q]
    rw [e2]
    have hc : comb rows D = wish := (xor0 (by rw [← e1]; exact q)).symm
    exact w_bits_of hl hD (hs (hz.mp q) D hD hc)
  · rw [if_neg q]
    have bp := bits_pos q
    have tw : ∀ t, hasT z.1 t = true → t ≤ w := fun t ht => by
      obtain ⟨l, p, hv⟩ := kept_has ht
      obtain ⟨l0, lb, lc, lp⟩ := S.ki.ent t l p hv
      rw [← lb]
      exact bits_le.mpr (by rw [← lc]; exact comb_lt hr)
    have yl : y.1 < 2 ^ w := by rw [e1]; exact Nat.xor_lt_two_pow hwi (comb_lt hr)
    have yb : bits y.1 ≤ w := bits_le.mpr yl
    have no := L.no
    refine ⟨bp, w_crossing S (by omega) (by rw [Nat.sub_add_cancel bp]; exact no) (by have := S.kl; have := S.len; omega) (fun t ht => by have := tw t ht; omega) fun m C => hn (fun z0 => q (hz.mpr z0)) m C.ev ?_ (C.low w (by omega) tw)⟩
    have e3 : wish = y.1 ^^^ comb rows D := by rw [e1, Nat.xor_assoc, Nat.xor_self, Nat.xor_zero]
    rw [e3, and_xor, par_xor, C.ev _ ⟨D, rfl⟩, Bool.xor_false]
    have e4 : y.1 &&& m = 2 ^ (bits y.1 - 1) := Nat.eq_of_testBit_eq fun i => by
      rw [Nat.testBit_and, Nat.testBit_two_pow]
      rcases Nat.lt_trichotomy i (bits y.1 - 1) with o | o | o
      · rw [C.lowz i o, Bool.and_false, decide_eq_false (by omega)]
      · subst o
        rw [bits_bit q, (C.own _ (by rw [Nat.sub_add_cancel bp]; exact no)).mpr rfl, decide_eq_true rfl]; rfl
      · rw [testBit_big (lt_bits y.1) (by omega), Bool.false_and, decide_eq_false (by omega)]
    rw [e4, par_two_pow]
end My
namespace My
open Wk PySem
theorem det_even (number1 : Nat) : Det (W_even number1) := by
  show Det (fun R => W_even number1 R)
  unfold W_even
  exact (Det.while_ (fun ⟨many1, number2⟩ => (Det.lf0a _)) (fun ⟨many1, number2⟩ => (Det.alleq (Det.alleq (Det.lf0rl _)))) (fun ⟨many1, number2⟩ => (Det.lf0a _)) _)
theorem det_bits_of (mask1 : Nat) : Det (W_bits_of mask1) := by
  show Det (fun R => W_bits_of mask1 R)
  unfold W_bits_of
  exact (Det.while_ (fun ⟨found1, mask2, place1⟩ => (Det.lf0a _)) (fun ⟨found1, mask2, place1⟩ => (Det.jn (Det.ite (Det.and fun _ => (Det.lf0r _)) (Det.lf0r _)) fun found2 => (Det.alleq (Det.alleq (Det.lf0rl _))))) (fun ⟨found1, mask2, place1⟩ => (Det.lf0a _)) _)
theorem det_Steps_lowered (kept1 : List (Nat × (Nat × Nat))) (row1 : Nat) (places1 : Nat) : Det (W_Steps_lowered kept1 row1 places1) := by
  show Det (fun R => W_Steps_lowered kept1 row1 places1 R)
  unfold W_Steps_lowered
  exact (Det.while_ (fun ⟨row2, places2⟩ => (Det.lf0a _)) (fun ⟨row2, places2⟩ => (Det.ex fun x3 => (Det.and fun _ => (Det.alleq (Det.alleq (Det.lf0rl _)))))) (fun ⟨row2, places2⟩ => (Det.lf0a _)) _)
theorem det_Steps_crossing (self1 : List (Nat × (Nat × Nat)) × List Nat × List Nat) (bit1 : Nat) : Det (W_Steps_crossing self1 bit1) := by
  show Det (fun R => W_Steps_crossing self1 bit1 R)
  unfold W_Steps_crossing
  exact (Det.and fun _ => (Det.alleq (Det.and fun _ => (Det.sorted fun ys1 => (Det.for_ (fun top1 mask2 => (Det.ex fun x2 => (Det.and fun _ => (Det.ex fun x3 => (Det.and fun _ => (Det.alleq (Det.call (det_even _) fun z1 => (Det.ite (Det.lf0rl _) (Det.and fun _ => (Det.and fun _ => (Det.alleq (Det.lf0rl _)))))))))))) (fun mask2 => (Det.lf0a _)) _ _)))))
theorem det_Steps___init__ (rows1 : List Nat) : Det (W_Steps___init__ rows1) := by
  show Det (fun R => W_Steps___init__ rows1 R)
  unfold W_Steps___init__
  exact (Det.for_ (fun it1 ⟨self_gone1, self_kept1, self_found1⟩ => (Det.and fun _ => (Det.call (det_Steps_lowered _ _ _) fun z1 => (Det.ite (Det.and fun _ => (Det.lf0rl _)) (Det.and fun _ => (Det.and fun _ => (Det.lf0rl _))))))) (fun ⟨self_gone1, self_kept1, self_found1⟩ => (Det.lf0a _)) _ _)
theorem det_sum_for (rows1 : List Nat) (wish1 : Nat) : Det (W_sum_for rows1 wish1) := by
  show Det (fun R => W_sum_for rows1 wish1 R)
  unfold W_sum_for
  exact (Det.call (det_Steps___init__ _) fun z1 => (Det.call (det_Steps_lowered _ _ _) fun z2 => (Det.ite (Det.call (det_bits_of _) fun z3 => (Det.lf0a _)) (Det.and fun _ => (Det.call (det_Steps_crossing _ _) fun z4 => (Det.lf0a _))))))
end My
namespace My
open Wk
theorem fine_i {z : Int} : fineA (An.i z) := trivial
theorem w_is_whole {x : An} (hf : fineA x) {R : Bool → Prop} (h1 : ∀ z : Int, x = An.i z → R true) (h0 : (∀ z : Int, x ≠ An.i z) → R false) : W_is_whole x R := by
  show R (decide (_ ∧ _))
  by_cases h : ∃ z : Int, x = An.i z
  · rw [decide_eq_true ((isA_int x hf).mpr h)]
    obtain ⟨z, e⟩ := h
    exact h1 z e
  · rw [decide_eq_false (fun q => h ((isA_int x hf).mp q))]
    exact h0 fun z e => h ⟨z, e⟩
theorem w_is_mask {x : An} {w : Nat} (hf : fineA x) (hw : w < 100000000) {R : Bool → Prop} (h1 : okA x w → R true) (h0 : ¬ okA x w → R false) : W_is_mask x w R := by
  refine jnI (w_is_whole hf (fun z e => ?_) fun hn => ?_)
  · rw [if_pos rfl]
    refine ⟨z, e, hw, ?_⟩
    have hp : ((2 ^ w : Nat) : Int) = ((2 ^ w : Nat) : Int) := rfl
    by_cases h : ((0 : Nat) : Int) ≤ z ∧ z < ((2 ^ w : Nat) : Int)
    · rw [decide_eq_true h]
      refine h1 ⟨z.toNat, ?_, ?_⟩
      · rw [e, Int.toNat_of_nonneg (by have := h.1; omega)]
      · have := h.1; have := h.2; omega
    · rw [decide_eq_false h]
      refine h0 fun ⟨n, e2, hn⟩ => h ?_
      rw [e] at e2
      have e3 : z = (n : Int) := An.i.inj e2
      rw [e3]
      exact ⟨by omega, by omega⟩
  · rw [if_neg (by simp)]
    exact h0 fun ⟨n, e, _⟩ => hn _ e
theorem okA_nat {n w : Nat} : okA (An.i (n : Int)) w ↔ n < 2 ^ w := by
  constructor
  · rintro ⟨m, e, h⟩
    have e2 : (n : Int) = (m : Int) := An.i.inj e
    have : n = m := by omega
    rw [this]; exact h
  · exact fun h => ⟨n, rfl, h⟩
end My
namespace My
open Wk
theorem w_is_pairs {ps : List (Nat × Nat)} {most st inp : Nat} (hl : ps.length ≤ most) (hs : st < 100000000) (hi : inp < 100000000) (h : ∀ p ∈ ps, p.1 < 2 ^ st ∧ p.2 < 2 ^ inp) {R : Bool → Prop} (hR : R true) : W_is_pairs ps most st inp R := by
  unfold W_is_pairs
  rw [if_neg (by omega)]
  refine forW_unit (fun p hp nx bk hn => ?_) hR
  rw [if_neg (by simp)]
  refine jnI (w_is_mask fine_i hs (fun _ => ?_) fun q => absurd (okA_nat.mpr (h p hp).1) q)
  rw [if_pos rfl]
  refine w_is_mask fine_i hi (fun _ => ?_) fun q => absurd (okA_nat.mpr (h p hp).2) q
  show if (!true) = true then _ else _
  rw [if_neg (by simp)]; exact hn
theorem w_machine_init {M : Mach} (h : MOk M) {R : Mach → Prop} (hR : R M) : W_Machine___init__ M.1 M.2.1 M.2.2 R := by
  have h1 := h.i; have h2 := h.n; have h3 := h.o
  refine jnI (w_is_whole fine_i (fun z _ => ?_) fun q => absurd rfl (q _))
  rw [if_pos rfl, decide_eq_false (fun q => q ⟨Nat.zero_le _, h1⟩)]
  show if false = true then _ else _
  rw [if_neg (by simp)]
  refine jnI (w_is_pairs h2 (by omega) (by omega) h.mn ?_)
  rw [if_pos rfl]
  refine w_is_pairs h3 (by omega) (by omega) h.mo ?_
  show if (!true) = true then _ else _
  rw [if_neg (by simp)]; exact hR
theorem w_bit_of {p : Nat × Nat} {s r : Nat} {R : Nat → Prop} (h : R (bitf p s r).toNat) : W_bit_of p s r R := by
  refine w_even (w_even ?_)
  have e : decide ((!par (p.1 &&& s)) ≠ (!par (p.2 &&& r))) = bitf p s r := by
    unfold bitf
    cases par (p.1 &&& s) <;> cases par (p.2 &&& r) <;> decide
  rw [e]; exact h
theorem w_bits_by {ps : List (Nat × Nat)} {s r : Nat} (hl : ps.length ≤ 1000) {R : Nat → Prop} (h : R (bitsV ps s r)) : W_bits_by ps s r R := by
  refine w_bits (fun p => bitf p s r) (fun pre p post nx bk e hn => w_bit_of ?_) h
  have hp : pre.length < 1000000 := by rw [e, List.length_append] at hl; omega
  refine ⟨NShl_bit hp, ?_⟩
  rintro _ rfl
  rw [List.map_append] at hn
  have e2 := maskB_snoc (pre.map fun p => bitf p s r) (bitf p s r)
  rw [List.length_map] at e2
  rw [← e2]; exact hn
theorem w_need {M : Mach} {x : An} {w : Nat} {E : Prop} {R : Unit → Prop} (hf : fineA x) (hw : w < 100000000) (h1 : okA x w → R ()) (h0 : ¬ okA x w → E) : W_Machine_need M x w E R := by
  refine w_is_mask hf hw (fun q => ?_) fun q => ?_
  · rw [if_pos rfl]; exact h1 q
  · rw [if_neg (by simp)]; exact h0 q
/-- a turn -/
theorem w_step {M : Mach} (hM : MOk M) {x y : An} {E : Prop} {R : Nat × Nat → Prop} (fx : fineA x) (fy : fineA y) (h1 : ∀ s r : Nat, x = An.i (s : Int) → s < 2 ^ M.2.1.length → y = An.i (r : Int) → r < 2 ^ M.1 → R (outV M s r, nextV M s r)) (h0 : ¬ okA x M.2.1.length ∨ ¬ okA y M.1 → E) : W_Machine_step M x y E R := by
  have m1 := hM.i; have m2 := hM.n; have m3 := hM.o
  unfold W_Machine_step W_Machine_stores
  refine w_need fx (by omega) (fun ⟨s, ex, hs⟩ => ?_) fun q => h0 (.inl q)
  refine w_need fy (by omega) (fun ⟨r, ey, hr⟩ => ?_) fun q => h0 (.inr q)
  refine ⟨s, ex, r, ey, w_bits_by (by omega) ⟨s, ex, r, ey, w_bits_by (by omega) ?_⟩⟩
  exact h1 s r ex hs ey hr
theorem need_rows {M : Mach} (hM : MOk M) {E : Prop} {k : Unit → Prop} : ∀ {rows : List An}, (∀ r ∈ rows, fineA r) → ((∀ r ∈ rows, okA r M.1) → k ()) → ((∃ r ∈ rows, ¬ okA r M.1) → E) → forW rows () (fun row1 _ nx1 bk1 => W_Machine_need M row1 M.1 E fun z3 => nx1 ()) k
  | [], _, h1, _ => h1 (fun r hr => by cases hr)
  | r :: rows, hf, h1, h0 => by
    have m1 := hM.i
    show W_Machine_need M r M.1 E _
    refine w_need (hf r (List.mem_cons_self ..)) (by omega) (fun q => ?_) fun q => h0 ⟨r, List.mem_cons_self .., q⟩
    exact need_rows hM (fun x hx => hf x (List.mem_cons_of_mem _ hx)) (fun h => h1 fun x hx => (List.mem_cons.mp hx).elim (fun e => e ▸ q) (h x)) fun ⟨x, hx, hq⟩ => h0 ⟨x, List.mem_cons_of_mem _ hx, hq⟩
theorem rows_nat : ∀ {rows : List An} {w : Nat}, (∀ r ∈ rows, okA r w) → ∃ rs : List Nat, rows = rs.map anN ∧ ∀ r ∈ rs, r < 2 ^ w
  | [], _, _ => ⟨[], rfl, fun r hr => by cases hr⟩
  | r :: rows, w, h => by
    obtain ⟨n, e, hn⟩ := h r (List.mem_cons_self ..)
    obtain ⟨rs, e2, h2⟩ := rows_nat (rows := rows) fun x hx => h x (List.mem_cons_of_mem _ hx)
    exact ⟨n :: rs, by rw [e, e2]; rfl, fun x hx => (List.mem_cons.mp hx).elim (fun q => by rw [q]; exact hn) (h2 x)⟩
theorem map_anN_inj {rs qs : List Nat} (h : rs.map anN = qs.map anN) : rs = qs := by
  induction rs generalizing qs with
  | nil => cases qs with
    | nil => rfl
    | cons q qs => cases h
  | cons r rs ih =>
    cases qs with
    | nil => cases h
    | cons q qs =>
      rw [List.map_cons, List.map_cons] at h
      injection h with h1 h2
      have : (r : Int) = (q : Int) := An.i.inj h1
      rw [ih h2, show r = q by omega]
/-- a walk over rows -/
theorem w_walk {M : Mach} (hM : MOk M) {rows : List An} {x : An} {E : Prop} {R : List Nat × Nat → Prop} (hl : rows.length < 1000000) (fr : ∀ r ∈ rows, fineA r) (fx : fineA x)
    (h1 : ∀ (rs : List Nat) (s : Nat), rows = rs.map anN → (∀ r ∈ rs, r < 2 ^ M.1) → x = An.i (s : Int) → s < 2 ^ M.2.1.length → R (walkV M rs s)) (h0 : ¬ okA x M.2.1.length ∨ (∃ r ∈ rows, ¬ okA r M.1) → E) : W_Machine_walk M rows x E R := by
  have m1 := hM.i; have m2 := hM.n
  unfold W_Machine_walk W_Machine_stores
  refine w_need fx (by omega) (fun ⟨s, ex, hs⟩ => ?_) fun q => h0 (.inl q)
  refine need_rows hM fr (fun hr => ?_) fun q => h0 (.inr q)
  refine ⟨s, ex, ?_⟩
  obtain ⟨rs, er, hrs⟩ := rows_nat hr
  have fin := h1 rs s er hrs ex hs
  subst er
  rw [List.length_map] at hl
  refine forW_ind (fun pre (t : Nat × List Nat) => ∃ ps, pre = ps.map anN ∧ t = ((walkV M ps s).2, (walkV M ps s).1)) ⟨[], rfl, rfl⟩ (fun pre y post t nx bk e ⟨ps, ep, et⟩ hn _ => ?_) fun t ⟨ps, ep, et⟩ => ?_
  · subst ep et
    have hy : y ∈ rs.map anN := by rw [e]; simp
    obtain ⟨r, hr, ey⟩ := List.mem_map.mp hy
    have le : ps.length < rs.length := by
      have := congrArg List.length e
      rw [List.length_map, List.length_append, List.length_map, List.length_cons] at this; omega
    show W_Machine_step _ _ _ _ _
    refine w_step hM fine_i (by rw [← ey]; exact fine_i) (fun s' r' es hs' er' hr' => ?_) fun q => ?_
    · have es' : (((walkV M ps s).2 : Nat) : Int) = (s' : Int) := An.i.inj es
      have es2 : s' = (walkV M ps s).2 := by omega
      subst es2
      refine ⟨by show (walkV M ps s).1.length < 1000000; rw [walkV_len]; omega, hn _ ⟨ps ++ [r'], by rw [er', List.map_append]; rfl, ?_⟩⟩
      rw [walkV_snoc]
    · rcases q with q | q
      · exact absurd (okA_nat.mpr (walkV_lt hs)) q
      · rw [← ey] at q; exact absurd (okA_nat.mpr (hrs r hr)) q
  · subst et
    have : rs = ps := map_anN_inj ep
    subst this
    exact fin
theorem fine_nats (rs : List Nat) : ∀ r ∈ rs.map anN, fineA r := fun r hr => by
  obtain ⟨n, _, e⟩ := List.mem_map.mp hr
  rw [← e]; exact fine_i
/-- .. of numbers that are masks -/
theorem w_walkN {M : Mach} (hM : MOk M) {rs : List Nat} {s : Nat} {E : Prop} {R : List Nat × Nat → Prop} (hl : rs.length < 1000000) (hr : ∀ r ∈ rs, r < 2 ^ M.1) (hs : s < 2 ^ M.2.1.length) (h : R (walkV M rs s)) : W_Machine_walk M (rs.map anN) (An.i (s : Int)) E R := by
  refine w_walk hM (by rw [List.length_map]; exact hl) (fine_nats rs) fine_i (fun rs' s' e _ es _ => ?_) fun q => ?_
  · have e1 := map_anN_inj e
    have e2 : (s : Int) = (s' : Int) := An.i.inj es
    have e3 : s = s' := by omega
    subst e1 e3; exact h
  · rcases q with q | ⟨r, hr', q⟩
    · exact absurd (okA_nat.mpr hs) q
    · obtain ⟨n, hn, e⟩ := List.mem_map.mp hr'
      rw [← e] at q; exact absurd (okA_nat.mpr (hr n hn)) q
theorem w_stepN {M : Mach} (hM : MOk M) {s r : Nat} {E : Prop} {R : Nat × Nat → Prop} (hs : s < 2 ^ M.2.1.length) (hr : r < 2 ^ M.1) (h : R (outV M s r, nextV M s r)) : W_Machine_step M (An.i (s : Int)) (An.i (r : Int)) E R := by
  refine w_step hM fine_i fine_i (fun s' r' e1 _ e2 _ => ?_) fun q => ?_
  · have e3 : (s : Int) = (s' : Int) := An.i.inj e1
    have e4 : (r : Int) = (r' : Int) := An.i.inj e2
    have e5 : s = s' := by omega
    have e6 : r = r' := by omega
    subst e5 e6; exact h
  · rcases q with q | q
    · exact absurd (okA_nat.mpr hs) q
    · exact absurd (okA_nat.mpr hr) q
end My
namespace My
open Wk
theorem flat_rep (n : Nat) : (List.replicate n [0]).flatten = List.replicate n (0 : Nat) := by
  induction n with
  | zero => rfl
  | succ n ih => rw [List.replicate_succ, List.flatten_cons, ih, List.replicate_succ]; rfl
end My
namespace My
open Wk
theorem w_back {M : Mach} (hM : MOk M) {x : An} {E : Prop} {R : Nat × Nat → Prop} (fx : fineA x) (h1 : ∀ m : Nat, x = An.i (m : Int) → m < 2 ^ M.2.1.length → R (backV M m)) (h0 : ¬ okA x M.2.1.length → E) : W_Machine_back M x E R := by
  have m2 := hM.n
  unfold W_Machine_back W_Machine_stores
  refine w_need fx (by omega) (fun ⟨m, ex, hm⟩ => ?_) fun q => h0 q
  refine ⟨m, ex, w_bits_of (k := M.2.1.length) (by omega) hm ?_⟩
  refine forW_fold (fun (t : Nat × Nat) p => (t.1 ^^^ (M.2.1.getD p (0, 0)).1, t.2 ^^^ (M.2.1.getD p (0, 0)).2)) (fun p hp s nx bk hn => ?_) ?_
  · obtain ⟨hp1, _⟩ := mem_bl.mp hp
    have e : M.2.1[p]? = some (M.2.1.getD p (0, 0)) := by rw [List.getD_eq_getElem?_getD, List.getElem?_eq_getElem hp1]; rfl
    refine ⟨_, e, _, e, ?_⟩
    rintro _ rfl
    refine ⟨_, e, _, e, ?_⟩
    rintro _ rfl
    exact hn
  · have q := h1 m ex hm
    rw [back_fold M.2.1 m _ (Nat.le_refl _), List.take_length]
    exact q
theorem w_backN {M : Mach} (hM : MOk M) {m : Nat} {E : Prop} {R : Nat × Nat → Prop} (hm : m < 2 ^ M.2.1.length) (h : R (backV M m)) : W_Machine_back M (An.i (m : Int)) E R :=
  w_back hM fine_i (fun m' e _ => by
    have e2 : (m : Int) = (m' : Int) := An.i.inj e
    have e3 : m = m' := by omega
    subst e3; exact h) fun q => absurd (okA_nat.mpr hm) q
end My
namespace My
open Wk
/-- turns are linear -/
theorem next_lin (ps : List (Nat × Nat)) (s t r q : Nat) : bitsV ps (s ^^^ t) (r ^^^ q) = bitsV ps s r ^^^ bitsV ps t q := Nat.eq_of_testBit_eq fun j => by
  have ax : ∀ c a b : Nat, c &&& (a ^^^ b) = (c &&& a) ^^^ (c &&& b) := fun c a b => Nat.eq_of_testBit_eq fun i => by
    rw [Nat.testBit_and, Nat.testBit_xor, Nat.testBit_xor, Nat.testBit_and, Nat.testBit_and]
    cases a.testBit i <;> cases b.testBit i <;> cases c.testBit i <;> rfl
  rw [Nat.testBit_xor, bitsV_bit, bitsV_bit, bitsV_bit]
  have e : ∀ p : Nat × Nat, bitf p (s ^^^ t) (r ^^^ q) = xor (bitf p s r) (bitf p t q) := fun p => by
    unfold bitf
    rw [ax, ax, par_xor, par_xor]
    cases par (p.1 &&& s) <;> cases par (p.1 &&& t) <;> cases par (p.2 &&& r) <;> cases par (p.2 &&& q) <;> rfl
  rw [e]
  cases decide (j < ps.length) <;> simp
/-- the state alone -/
def stV (M : Mach) (rows : List Nat) (s : Nat) : Nat := rows.foldl (fun s r => nextV M s r) s
theorem walk_st (M : Mach) : ∀ (rows : List Nat) (t : List Nat × Nat), (rows.foldl (fun t r => (t.1 ++ [outV M t.2 r], nextV M t.2 r)) t).2 = stV M rows t.2
  | [], t => rfl
  | r :: rows, t => by
    rw [List.foldl_cons, walk_st M rows]; rfl
theorem walkV_st (M : Mach) (rows : List Nat) (s : Nat) : (walkV M rows s).2 = stV M rows s := walk_st M rows ([], s)
end My
namespace My
open Wk
/-- sums of sums -/
theorem Span.comb_in {vs : List Nat} : ∀ {rs : List Nat} (S : Nat), (∀ r ∈ rs, Span vs r) → Span vs (comb rs S)
  | [], S, _ => Span.zero vs
  | r :: rs, S, h => by
    have a := Span.comb_in (rs := rs) (S / 2) fun x hx => h x (List.mem_cons_of_mem _ hx)
    show Span vs ((if S.testBit 0 = true then r else 0) ^^^ _)
    by_cases q : S.testBit 0 = true
    · rw [if_pos q]; exact (h r (List.mem_cons_self ..)).xor a
    · rw [if_neg q, Nat.zero_xor]; exact a
theorem Span.sub {vs ws : List Nat} {v : Nat} (h : ∀ r ∈ ws, Span vs r) : Span ws v → Span vs v := fun ⟨S, e⟩ => by rw [← e]; exact Span.comb_in S h
end My
namespace My
open Wk
def nxV (M : Mach) (s : Nat) : Nat := nextV M s 0
def inV (M : Mach) (w : Nat) : Nat := nextV M 0 (2 ^ w)
theorem nx_lin (M : Mach) : Lin (nxV M) := lin_bits M.2.1
theorem nx_lt (M : Mach) (s : Nat) : nxV M s < 2 ^ M.2.1.length := bitsV_lt ..
theorem in_lt (M : Mach) (w : Nat) : inV M w < 2 ^ M.2.1.length := bitsV_lt ..
theorem it_lt (M : Mach) {v : Nat} (hv : v < 2 ^ M.2.1.length) (t : Nat) : itV (nxV M) v t < 2 ^ M.2.1.length := itV_lt (nx_lt M) hv t
theorem next_split (M : Mach) (s r : Nat) : nextV M s r = nxV M s ^^^ nextV M 0 r := by
  have := next_lin M.2.1 s 0 0 r
  rw [Nat.xor_zero, Nat.zero_xor] at this
  exact this
theorem row_lin (M : Mach) : Lin (fun r => nextV M 0 r) := by
  have ad : ∀ a b, nextV M 0 (a ^^^ b) = nextV M 0 a ^^^ nextV M 0 b := fun a b => by
    have := next_lin M.2.1 0 0 a b
    rw [Nat.xor_self] at this
    exact this
  exact ⟨(nx_lin M).z, ad⟩
/-- the states behind t turns more than the one that takes a sign in -/
def layV (M : Mach) (t : Nat) : List Nat := (List.range M.1).map fun w => itV (nxV M) (inV M w) t
def rbV (M : Mach) : Nat → List Nat
  | 0 => []
  | T + 1 => rbV M T ++ layV M T
theorem lay_len (M : Mach) (t : Nat) : (layV M t).length = M.1 := by unfold layV; rw [List.length_map, List.length_range]
theorem rb_len (M : Mach) : ∀ T, (rbV M T).length = T * M.1
  | 0 => by show 0 = _; omega
  | T + 1 => by show (_ ++ _ : List Nat).length = _; rw [List.length_append, rb_len M T, lay_len, Nat.add_mul, Nat.one_mul]
theorem lay_lt (M : Mach) (t : Nat) : ∀ r ∈ layV M t, r < 2 ^ M.2.1.length := fun r hr => by
  obtain ⟨w, _, e⟩ := List.mem_map.mp (show r ∈ List.map _ _ from hr)
  rw [← e]; exact it_lt M (in_lt M w) t
theorem rb_lt (M : Mach) : ∀ T, ∀ r ∈ rbV M T, r < 2 ^ M.2.1.length
  | 0, r, hr => by cases hr
  | T + 1, r, hr => (List.mem_append.mp hr).elim (rb_lt M T r) (lay_lt M T r)
theorem lay_next (M : Mach) (t : Nat) : (layV M t).map (nxV M) = layV M (t + 1) := by unfold layV; rw [List.map_map]; rfl
theorem lay_mem {M : Mach} {w t : Nat} (hw : w < M.1) : itV (nxV M) (inV M w) t ∈ layV M t := List.mem_map.mpr ⟨w, List.mem_range.mpr hw, rfl⟩
theorem rb_mem {M : Mach} {w t : Nat} (hw : w < M.1) : ∀ {T : Nat}, t < T → itV (nxV M) (inV M w) t ∈ rbV M T
  | 0, h => absurd h (Nat.not_lt_zero _)
  | T + 1, h => by
    show _ ∈ _ ++ _
    by_cases q : t = T
    · subst q; exact List.mem_append_right _ (lay_mem hw)
    · exact List.mem_append_left _ (rb_mem hw (by omega))
theorem comb_app : ∀ (rs qs : List Nat) (S : Nat), comb (rs ++ qs) S = comb rs S ^^^ comb qs (S >>> rs.length)
  | [], qs, S => by show comb qs S = 0 ^^^ comb qs (S >>> 0); rw [Nat.zero_xor]; rfl
  | r :: rs, qs, S => by
    show (if S.testBit 0 = true then r else 0) ^^^ comb (rs ++ qs) (S / 2) = ((if S.testBit 0 = true then r else 0) ^^^ comb rs (S / 2)) ^^^ comb qs (S >>> (rs.length + 1))
    rw [comb_app rs qs (S / 2), Nat.xor_assoc, Nat.shiftRight_succ_inside]
/-- rows by the figures of a mask, the last one first in it -/
def rwsV (i D : Nat) : Nat → List Nat
  | 0 => []
  | T + 1 => (D >>> (T * i)) % 2 ^ i :: rwsV i D T
theorem rws_len (i D : Nat) : ∀ T, (rwsV i D T).length = T
  | 0 => rfl
  | T + 1 => by show (rwsV i D T).length + 1 = _; rw [rws_len i D T]
theorem rws_lt (i D : Nat) : ∀ T, ∀ r ∈ rwsV i D T, r < 2 ^ i
  | 0, r, hr => by cases hr
  | T + 1, r, hr => by
    rcases List.mem_cons.mp hr with q | q
    · rw [q]; exact Nat.mod_lt _ (Nat.two_pow_pos i)
    · exact rws_lt i D T r q
theorem rws_getD (i D : Nat) : ∀ T j, j < T → (rwsV i D T).getD j 0 = (D >>> ((T - 1 - j) * i)) % 2 ^ i
  | 0, j, h => absurd h (Nat.not_lt_zero _)
  | T + 1, 0, _ => by show (D >>> (T * i)) % 2 ^ i = (D >>> ((T + 1 - 1 - 0) * i)) % 2 ^ i; rw [show T + 1 - 1 - 0 = T by omega]
  | T + 1, j + 1, h => by
    show (rwsV i D T).getD j 0 = _
    rw [rws_getD i D T j (by omega), show T + 1 - 1 - (j + 1) = T - 1 - j by omega]
theorem lay_comb (M : Mach) (t S : Nat) : comb (layV M t) S = itV (nxV M) (nextV M 0 (S % 2 ^ M.1)) t := by
  have e1 : comb (layV M t) S = comb (layV M t) (S % 2 ^ M.1) := comb_ext fun j hj => by
    rw [lay_len] at hj
    rw [Nat.testBit_mod_two_pow, decide_eq_true hj, Bool.true_and]
  have L : Lin (fun r => itV (nxV M) (nextV M 0 r) t) := by
    have a := (nx_lin M).it t
    have b := row_lin M
    exact ⟨by show itV (nxV M) (nextV M 0 0) t = 0; rw [show nextV M 0 0 = 0 from b.z]; exact a.z, fun x y => by
      show itV (nxV M) (nextV M 0 (x ^^^ y)) t = _
      rw [show nextV M 0 (x ^^^ y) = _ from b.x x y]
      exact a.x _ _⟩
  rw [e1]
  exact two_pow_range L (Nat.mod_lt _ (Nat.two_pow_pos _))
theorem st_rws (M : Mach) (D : Nat) : ∀ (T s : Nat), stV M (rwsV M.1 D T) s = itV (nxV M) s T ^^^ comb (rbV M T) D
  | 0, s => by show s = s ^^^ 0; rw [Nat.xor_zero]
  | T + 1, s => by
    show stV M (rwsV M.1 D T) (nextV M s _) = _ ^^^ comb (rbV M T ++ layV M T) D
    rw [st_rws M D T, comb_app, rb_len, lay_comb, next_split, show itV (nxV M) (nxV M s ^^^ nextV M 0 ((D >>> (T * M.1)) % 2 ^ M.1)) T = itV (nxV M) (nxV M s) T ^^^ itV (nxV M) (nextV M 0 ((D >>> (T * M.1)) % 2 ^ M.1)) T from ((nx_lin M).it T).x _ _, itV_succ, Nat.xor_assoc, Nat.xor_comm (comb (rbV M T) D)]
theorem st_app (M : Mach) (rs qs : List Nat) (s : Nat) : stV M (rs ++ qs) s = stV M qs (stV M rs s) := by unfold stV; rw [List.foldl_append]
theorem st_zeros (M : Mach) : ∀ (k s : Nat), stV M (List.replicate k 0) s = itV (nxV M) s k
  | 0, s => rfl
  | k + 1, s => by
    rw [List.replicate_succ]
    show stV M (List.replicate k 0) (nextV M s 0) = _
    rw [st_zeros M k, itV_succ]; rfl
theorem st_lt {M : Mach} {rs : List Nat} {s : Nat} (h : s < 2 ^ M.2.1.length) : stV M rs s < 2 ^ M.2.1.length := by rw [← walkV_st]; exact walkV_lt h
/-- what comes behind as many turns as there are stores is a sum of what came ahead -/
theorem krylov {f : Nat → Nat} (hf : Lin f) {n v : Nat} (hb : ∀ s, f s < 2 ^ n) (hv : v < 2 ^ n) (k : Nat) : Span (orb f v n) (itV f v k) := by
  have ol : ∀ m, ∀ r ∈ orb f v m, r < 2 ^ n := fun m r hr => by
    obtain ⟨i, _, e⟩ := List.mem_map.mp (show r ∈ List.map _ _ from hr)
    rw [← e]; exact itV_lt hb hv i
  obtain ⟨j, hj, hsp⟩ := some_sum (n := n) (vs := orb f v (n + 1)) (orb_len ..) (ol _)
  rw [orb_take v (by omega), orb_getD v (by omega)] at hsp
  have mem : ∀ {t m : Nat}, t < m → itV f v t ∈ orb f v m := fun h => List.mem_map.mpr ⟨_, List.mem_range.mpr h, rfl⟩
  have all : ∀ k, Span (orb f v j) (itV f v k) := fun k => by
    induction k with
    | zero =>
      by_cases q : j = 0
      · rw [q] at hsp ⊢; exact hsp
      · exact Span.mem (mem (by omega))
    | succ k ih =>
      obtain ⟨S, e⟩ := ih
      show Span _ (f (itV f v k))
      rw [← e, ← comb_map f hf.z hf.x]
      refine Span.comb_in S fun r hr => ?_
      obtain ⟨x, hx, e2⟩ := List.mem_map.mp hr
      obtain ⟨t, ht, e3⟩ := List.mem_map.mp (show x ∈ List.map _ _ from hx)
      have ht := List.mem_range.mp ht
      have e4 : r = itV f v (t + 1) := by rw [← e2, ← e3]; rfl
      rw [e4]
      by_cases q : t + 1 = j
      · rw [q]; exact hsp
      · exact Span.mem (mem (by omega))
  refine Span.sub (fun r hr => ?_) (all k)
  obtain ⟨t, ht, e3⟩ := List.mem_map.mp (show r ∈ List.map _ _ from hr)
  have ht := List.mem_range.mp ht
  rw [← e3]
  exact Span.mem (mem (by omega))
theorem rb_late {M : Mach} {w k T : Nat} (hw : w < M.1) (hk : k < T) : Span (rbV M (min T M.2.1.length)) (itV (nxV M) (inV M w) k) := by
  by_cases q : k < min T M.2.1.length
  · exact Span.mem (rb_mem hw q)
  · have e : min T M.2.1.length = M.2.1.length := by omega
    rw [e]
    refine Span.sub (fun r hr => ?_) (krylov (nx_lin M) (nx_lt M) (in_lt M w) k)
    obtain ⟨t, ht, e3⟩ := List.mem_map.mp (show r ∈ List.map _ _ from hr)
    have ht := List.mem_range.mp ht
    rw [← e3]
    exact Span.mem (rb_mem hw ht)
theorem st_late (M : Mach) (T : Nat) : ∀ (rows : List Nat) (s : Nat), rows.length ≤ T → (∀ r ∈ rows, r < 2 ^ M.1) → Span (rbV M (min T M.2.1.length)) (stV M rows s ^^^ itV (nxV M) s rows.length)
  | [], s, _, _ => by show Span _ (s ^^^ s); rw [Nat.xor_self]; exact Span.zero _
  | r :: rows, s, hl, hr => by
    have hl : rows.length + 1 ≤ T := hl
    have a := st_late M T rows (nextV M s r) (by omega) fun x hx => hr x (List.mem_cons_of_mem _ hx)
    have hr0 := hr r (List.mem_cons_self ..)
    have b : Span (rbV M (min T M.2.1.length)) (itV (nxV M) (nextV M 0 r) rows.length) := by
      have e := lay_comb M rows.length r
      rw [Nat.mod_eq_of_lt hr0] at e
      rw [← e]
      refine Span.comb_in _ fun x hx => ?_
      obtain ⟨w, hw, e2⟩ := List.mem_map.mp (show x ∈ List.map _ _ from hx)
      rw [← e2]
      exact rb_late (List.mem_range.mp hw) (by omega)
    have e : stV M (r :: rows) s ^^^ itV (nxV M) s (r :: rows).length = (stV M rows (nextV M s r) ^^^ itV (nxV M) (nextV M s r) rows.length) ^^^ itV (nxV M) (nextV M 0 r) rows.length := by
      show stV M rows (nextV M s r) ^^^ itV (nxV M) s (rows.length + 1) = _
      rw [itV_succ]
      conv => rhs; rw [next_split M s r]
      rw [show itV (nxV M) (nxV M s ^^^ nextV M 0 r) rows.length = itV (nxV M) (nxV M s) rows.length ^^^ itV (nxV M) (nextV M 0 r) rows.length from ((nx_lin M).it _).x _ _, Nat.xor_assoc, Nat.xor_assoc, Nat.xor_self, Nat.xor_zero, ← next_split]
    rw [e]; exact a.xor b
end My
namespace My
open Wk
theorem w_afterN {M : Mach} (hM : MOk M) {rs : List Nat} {s : Nat} {E : Prop} {R : Nat → Prop} (hl : rs.length < 1000000) (hr : ∀ r ∈ rs, r < 2 ^ M.1) (hs : s < 2 ^ M.2.1.length) (h : R (stV M rs s)) : W_Machine_after M (rs.map anN) (An.i (s : Int)) E R := by
  refine w_walkN hM hl hr hs ?_
  show R (walkV M rs s).2
  rw [walkV_st]; exact h
theorem w_reached {M : Mach} (hM : MOk M) {T : Nat} (hT : T ≤ 1000) {E : Prop} {R : List Nat → Prop} (h : R (rbV M T)) : W_reached_by M T E R := by
  have m1 := hM.i; have m2 := hM.n
  refine ⟨by omega, compW_map (fun w => inV M w) (fun w hw kk hk => ?_) ⟨by omega, ?_⟩⟩
  · have hw := List.mem_range.mp hw
    refine ⟨by omega, ?_⟩
    show W_Machine_after M ([2 ^ w].map anN) (An.i ((0 : Nat) : Int)) False _
    exact w_afterN hM (by show 1 < 1000000; decide) (fun r hr => by rw [List.mem_singleton.mp hr]; exact Nat.pow_lt_pow_right (by decide) hw) (Nat.two_pow_pos _) hk
  · refine forW_ind (fun pre (s : List Nat × List Nat) => s = (rbV M pre.length, layV M pre.length)) rfl (fun pre t post s nx bk e hs hn _ => ?_) fun s hs => ?_
    · subst hs
      have hlt : pre.length < T := by
        have := congrArg List.length e
        rw [List.length_range, List.length_append, List.length_cons] at this; omega
      have l1 := rb_len M pre.length
      have l2 := lay_len M pre.length
      have l3 : pre.length * M.1 ≤ 1000 * 6 := Nat.mul_le_mul (by omega) m1
      refine ⟨by omega, by omega, compW_map (fun x => nxV M x) (fun x hx kk hk => ?_) ?_⟩
      · show W_Machine_after M ([0].map anN) (An.i ((x : Nat) : Int)) False _
        exact w_afterN hM (by decide) (fun r hr => by rw [List.mem_singleton.mp hr]; exact Nat.two_pow_pos _) (lay_lt M _ x hx) hk
      · refine hn _ ?_
        rw [List.length_append]
        show (rbV M pre.length ++ layV M pre.length, (layV M pre.length).map (nxV M)) = (rbV M (pre.length + 1), layV M (pre.length + 1))
        rw [lay_next]; rfl
    · subst hs
      show R (rbV M (List.range T).length)
      rw [List.length_range]; exact h
theorem w_rows_at {M : Mach} (hM : MOk M) {D T : Nat} (hT : T ≤ 1000) {R : List Nat → Prop} (h : R (rwsV M.1 D T)) : W_rows_at M (bl (T * M.1) D) T R := by
  have m1 := hM.i
  refine ⟨by omega, compW_map (fun _ => 0) (fun x _ kk hk => hk) ?_⟩
  refine forW_ind (fun pre (rows : List Nat) => rows.length = T ∧ ∀ j, j < T → ∀ w, (rows.getD j 0).testBit w = (decide (w < M.1) && decide ((T - 1 - j) * M.1 + w ∈ pre))) ⟨by rw [List.length_map, List.length_range], fun j hj w => ?_⟩ (fun pre p post rows nx bk e hs hn _ => ?_) fun rows hs => ?_
  · rw [List.getD_eq_getElem?_getD, List.getElem?_map, List.getElem?_range hj]
    show (0 : Nat).testBit w = _
    rw [Nat.zero_testBit, decide_eq_false (p := _ ∈ []) (fun z => by cases z), Bool.and_false]
  · obtain ⟨hl, hb⟩ := hs
    have hp : p ∈ bl (T * M.1) D := by rw [e]; simp
    obtain ⟨hp, _⟩ := mem_bl.mp hp
    have ip : 0 < M.1 := Nat.pos_of_ne_zero fun z => by rw [z, Nat.mul_zero] at hp; omega
    have hq : p / M.1 < T := (Nat.div_lt_iff_lt_mul ip).mpr hp
    have hr : p % M.1 < M.1 := Nat.mod_lt _ ip
    have ep : M.1 * (p / M.1) + p % M.1 = p := Nat.div_add_mod p M.1
    have nd : NDiv M.1 := ⟨ip, by have : M.1.log2 ≤ M.1 := Nat.log2_le_self _; omega⟩
    have hq1 : p / M.1 ≤ T - 1 := Nat.le_sub_one_of_lt hq
    have h1T : 1 ≤ T := Nat.lt_of_le_of_lt (Nat.zero_le _) hq
    refine ⟨nd, h1T, hq1, ?_⟩
    have idx : (T - 1) - p / M.1 < rows.length := by rw [hl]; exact Nat.lt_of_le_of_lt (Nat.sub_le _ _) (Nat.sub_one_lt_of_lt h1T)
    refine ⟨rows.getD ((T - 1) - p / M.1) 0, by rw [List.getD_eq_getElem?_getD, List.getElem?_eq_getElem idx]; rfl, by omega, hn _ ⟨by rw [List.length_set]; exact hl, fun j hj w => ?_⟩⟩
    rw [List.getD_eq_getElem?_getD, List.getElem?_set]
    have mp : ∀ x, decide (x ∈ pre ++ [p]) = (decide (x ∈ pre) || decide (x = p)) := fun x => by
      rw [← Bool.decide_or]; exact decide_eq_decide.mpr (by rw [List.mem_append, List.mem_singleton])
    rw [mp]
    by_cases q : (T - 1) - p / M.1 = j
    · rw [if_pos q, if_pos idx]
      show (rows.getD ((T - 1) - p / M.1) 0 ||| 2 ^ (p % M.1)).testBit w = _
      rw [Nat.testBit_or, hb _ (by omega), Nat.testBit_two_pow, q]
      have ej : T - 1 - j = p / M.1 := by omega
      rw [ej, Nat.mul_comm (p / M.1)]
      by_cases hw : w < M.1
      · rw [decide_eq_true hw, Bool.true_and, Bool.true_and]
        congr 1
        exact decide_eq_decide.mpr ⟨fun z => by rw [← z]; exact ep, fun z => Nat.add_left_cancel (ep.trans z.symm)⟩
      · rw [decide_eq_false hw, Bool.false_and, Bool.false_and, Bool.false_or]
        exact decide_eq_false fun z => hw (z ▸ hr)
    · rw [if_neg q, ← List.getD_eq_getElem?_getD, hb j hj]
      by_cases hw : w < M.1
      · rw [decide_eq_true hw, Bool.true_and, Bool.true_and, decide_eq_false (p := _ = p) fun z => q ?_, Bool.or_false]
        have : p / M.1 = T - 1 - j := by
          rw [← z, Nat.mul_comm, Nat.mul_add_div ip, Nat.div_eq_of_lt hw, Nat.add_zero]
        omega
      · rw [decide_eq_false hw, Bool.false_and, Bool.false_and]
  · obtain ⟨hl, hb⟩ := hs
    have e : rows = rwsV M.1 D T := by
      refine List.ext_getElem (by rw [hl, rws_len]) fun j h1 h2 => ?_
      have g1 : rows[j] = rows.getD j 0 := by rw [List.getD_eq_getElem?_getD, List.getElem?_eq_getElem h1]; rfl
      have g2 : (rwsV M.1 D T)[j] = (rwsV M.1 D T).getD j 0 := by rw [List.getD_eq_getElem?_getD, List.getElem?_eq_getElem h2]; rfl
      have hj : j < T := by omega
      rw [g1, g2, rws_getD _ _ _ _ hj]
      refine Nat.eq_of_testBit_eq fun w => ?_
      rw [hb j hj, Nat.testBit_mod_two_pow, Nat.testBit_shiftRight]
      by_cases hw : w < M.1
      · rw [decide_eq_true hw, Bool.true_and, Bool.true_and]
        have lt : (T - 1 - j) * M.1 + w < T * M.1 := by
          have : (T - 1 - j + 1) * M.1 ≤ T * M.1 := Nat.mul_le_mul_right _ (by omega)
          rw [Nat.add_mul, Nat.one_mul] at this; omega
        cases hd : D.testBit ((T - 1 - j) * M.1 + w)
        · exact decide_eq_false fun z => by rw [(mem_bl.mp z).2] at hd; cases hd
        · exact decide_eq_true (mem_bl.mpr ⟨lt, hd⟩)
      · rw [decide_eq_false hw, Bool.false_and, Bool.false_and]
    rw [e]; exact h
theorem w_within {M : Mach} (hM : MOk M) {m : Nat} (hm : m < 2 ^ M.2.1.length) {R : Nat → Prop} (h : R m) : W_within M m R := by
  have m2 := hM.n
  refine ⟨by show M.2.1.length < 100000000; omega, ?_⟩
  show R (m &&& (2 ^ M.2.1.length - 1))
  rw [Nat.and_two_pow_sub_one_of_lt_two_pow hm]; exact h
theorem w_need_state {M : Mach} (hM : MOk M) {x : An} {E : Prop} {R : Unit → Prop} (fx : fineA x) (h1 : okA x M.2.1.length → R ()) (h0 : ¬ okA x M.2.1.length → E) : W_need_state M x E R := by
  have m2 := hM.n
  unfold W_need_state W_Machine_stores
  refine w_is_mask fx (by omega) (fun q => ?_) fun q => ?_
  · rw [if_pos rfl]; exact h1 q
  · rw [if_neg (by simp)]; exact h0 q
end My
namespace My
open Wk
theorem w_masks {c : Int} {st n w : Nat} {d : Bool} (hn : n ≤ 64) (hw : w ≤ 16) {R : List Nat → Prop} (h : ∀ l : List Nat, l.length = n → (∀ x ∈ l, x < 2 ^ w) → R l) : W_masks c st n w d R := by
  have hm : n * w ≤ 1024 := Nat.mul_le_mul hn hw
  refine ⟨.inl (by omega), by omega, ?_⟩
  rintro _ rfl
  refine ⟨by omega, forW_ind (fun pre (s : List Nat × Nat) => s.1.length = pre.length ∧ ∀ x ∈ s.1, x < 2 ^ w) ⟨rfl, fun x hx => by cases hx⟩ (fun pre k post s nx bk e hs hnx _ => ?_) fun s hs => ?_⟩
  · obtain ⟨found, left⟩ := s
    obtain ⟨h1, h2⟩ := hs
    have h1 : found.length = pre.length := h1
    have hl : pre.length < n := by
      have := congrArg List.length e
      rw [List.length_range, List.length_append, List.length_cons] at this; omega
    have snoc : ∀ y, y < 2 ^ w → (found ++ [y]).length = (pre ++ [k]).length ∧ ∀ x ∈ found ++ [y], x < 2 ^ w := fun y hy => by
      refine ⟨by rw [List.length_append, List.length_append, h1]; rfl, fun x hx => ?_⟩
      rcases List.mem_append.mp hx with q | q
      · exact h2 x q
      · rw [List.mem_singleton.mp q]; exact hy
    show if d = true then _ else _
    by_cases hd : d = true
    · rw [if_pos hd]
      refine ⟨by omega, by omega, by omega, NDiv_pow (by omega), ?_⟩
      rintro _ rfl
      exact hnx _ (snoc _ (Nat.mod_lt _ (Nat.two_pow_pos w)))
    · rw [if_neg hd]
      refine w_mix ⟨by omega, by omega, hnx _ (snoc _ (Nat.mod_lt _ (Nat.two_pow_pos w)))⟩
  · refine h _ ?_ hs.2
    rw [hs.1, List.length_range]
theorem and_lt {a b w : Nat} (h : a < 2 ^ w) : a &&& b < 2 ^ w := Nat.lt_of_le_of_lt Nat.and_le_left h
theorem w_thinned {l : List Nat} {c : Int} {st way w : Nat} (hl : l.length ≤ 16) (hw : l.length ≤ w) (hm : ∀ x ∈ l, x < 2 ^ w) {R : List Nat → Prop} (h : ∀ l' : List Nat, l'.length = l.length → (∀ x ∈ l', x < 2 ^ w) → R l') : W_thinned l c st way R := by
  refine forW_enum (fun pre (s : List Nat) => s.length = pre.length ∧ ∀ x ∈ s, x < 2 ^ w) ⟨rfl, fun x hx => by cases hx⟩ (fun pre p post s nx bk e hs hnx => ?_) fun s hs => h s hs.1 hs.2
  obtain ⟨h1, h2⟩ := hs
  have hlen : pre.length < l.length := by rw [e, List.length_append, List.length_cons]; omega
  have hp : p < 2 ^ w := hm p (by rw [e]; simp)
  have fin : ∀ y, y < 2 ^ w → s.length < 1000000 ∧ nx (s ++ [y]) := fun y hy => by
    refine ⟨by omega, hnx _ ⟨by rw [List.length_append, List.length_append, h1]; rfl, fun x hx => ?_⟩⟩
    rcases List.mem_append.mp hx with q | q
    · exact h2 x q
    · rw [List.mem_singleton.mp q]; exact hy
  have s3 : ∀ y, y < 2 ^ w → jn (fun kk => if way = 3 then (∃ x7, [43690, 21845][pre.length % 2]? = some x7 ∧ ∀ mask7 : Nat, mask7 = y &&& x7 → kk mask7) else (kk y)) fun mask6 => (s.length < 1000000) ∧ nx (s ++ [mask6]) := fun y hy => by
    refine jnI ?_
    by_cases q : way = 3
    · rw [if_pos q]
      rcases Nat.mod_two_eq_zero_or_one pre.length with f | f
      · rw [f]; refine ⟨_, rfl, ?_⟩; rintro _ rfl; exact fin _ (and_lt hy)
      · rw [f]; refine ⟨_, rfl, ?_⟩; rintro _ rfl; exact fin _ (and_lt hy)
    · rw [if_neg q]; exact fin _ hy
  have s2 : ∀ y, y < 2 ^ w → jn (fun kk => if (way = 2) ∧ (0 < pre.length) then ((1 ≤ pre.length) ∧ (pre.length - 1 < 100000000) ∧ ∀ mask5 : Nat, mask5 = 2 ^ (pre.length - 1) → kk mask5) else (kk y)) fun mask4 => jn (fun kk => if way = 3 then (∃ x7, [43690, 21845][pre.length % 2]? = some x7 ∧ ∀ mask7 : Nat, mask7 = mask4 &&& x7 → kk mask7) else (kk mask4)) fun mask6 => (s.length < 1000000) ∧ nx (s ++ [mask6]) := fun y hy => by
    refine jnI ?_
    by_cases q : (way = 2) ∧ (0 < pre.length)
    · rw [if_pos q]
      have q2 := q.2
      refine ⟨by omega, by omega, ?_⟩
      rintro _ rfl
      exact s3 _ (Nat.pow_lt_pow_right (by decide) (by omega))
    · rw [if_neg q]; exact s3 _ hy
  refine jnI ?_
  show if way = 1 then _ else _
  by_cases q : way = 1
  · rw [if_pos q]
    refine w_mix ?_
    rintro _ rfl
    exact s2 _ (and_lt hp)
  · rw [if_neg q]; exact s2 _ hp
theorem comp_and {l : List Nat} {w : Nat} (hl : l.length ≤ 16) (hm : ∀ x ∈ l, x < 2 ^ w) {bd : Nat × Nat → (Option Nat → Prop) → Prop} {K : List Nat → Prop} (hb : ∀ it kk, (∀ y, kk (some (it.2 &&& y))) → bd it kk) (h : ∀ l' : List Nat, l'.length = l.length → (∀ x ∈ l', x < 2 ^ w) → K l') : (enumT l).length < 1000000 ∧ compW (enumT l) bd K := by
  refine ⟨by rw [enumT_len]; omega, compW_rel (fun it o => ∃ y, o = some (it.2 &&& y)) (fun it hit kk hk => hb it kk fun y => hk _ ⟨y, rfl⟩) fun ys hys => ?_⟩
  have key : ∀ (xs : List (Nat × Nat)) (ys : List Nat), CR (fun (it : Nat × Nat) (o : Option Nat) => ∃ y, o = some (it.2 &&& y)) xs ys → (∀ x ∈ xs, x.2 < 2 ^ w) → ys.length = xs.length ∧ ∀ x ∈ ys, x < 2 ^ w := by
    intro xs
    induction xs with
    | nil => rintro ys rfl _; exact ⟨rfl, fun x hx => by cases hx⟩
    | cons x xs ih =>
      rintro ys ⟨o, ys', ⟨y, eo⟩, ey, hc⟩ hx
      obtain ⟨a, b⟩ := ih ys' hc fun z hz => hx z (List.mem_cons_of_mem _ hz)
      subst eo ey
      refine ⟨by show (_ :: ys').length = _; rw [List.length_cons, a]; rfl, fun z hz => ?_⟩
      have hz' : z = x.2 &&& y ∨ z ∈ ys' := List.mem_cons.mp hz
      rcases hz' with q | q
      · rw [q]; exact and_lt (hx x (List.mem_cons_self ..))
      · exact b z q
  obtain ⟨a, b⟩ := key _ _ hys fun x hx => hm _ (by rw [← enumT_snd l]; exact List.mem_map_of_mem hx)
  exact h ys (by rw [a, enumT_len]) b
theorem zip_ok {n w v : Nat} {a b : List Nat} (ha : a.length = n) (hb : b.length = n) (h1 : ∀ x ∈ a, x < 2 ^ w) (h2 : ∀ x ∈ b, x < 2 ^ v) : (a.zip b).length = n ∧ ∀ p ∈ a.zip b, p.1 < 2 ^ w ∧ p.2 < 2 ^ v := by
  refine ⟨by rw [List.length_zip, ha, hb, Nat.min_self], fun p hp => ?_⟩
  obtain ⟨x, y⟩ := p
  have := List.of_mem_zip hp
  exact ⟨h1 _ this.1, h2 _ this.2⟩
/-- a drawn machine -/
structure Drawn (most : Nat) (M : Mach) : Prop extends MOk M where
  n16 : M.2.1.length ≤ 16
theorem w_lmachine {s : List Int} {st most : Nat} (hmost : most ≤ 16) {R : Mach → Prop} (h : ∀ M, Drawn most M → R M) : W_machine s st most R := by
  refine w_cell ⟨by omega, ?_⟩
  rintro _ rfl
  rintro stores he
  have hst : stores ≤ 16 := by
    rw [he]
    have a : ∀ z : Int, modN z (most + 1) < most + 1 := fun z => modN_lt (by omega)
    have b : ∀ z : Int, modN z 17 < 17 := fun z => modN_lt (by decide)
    have a1 := a (cellV s st / ((2 : Nat) : Int))
    have b1 := b (cellV s st / ((512 : Nat) : Int))
    by_cases q : modN (cellV s st / ((64 : Nat) : Int)) 8 = 5
    · rw [if_pos q]; omega
    · rw [if_neg q]; omega
  clear he
  refine w_mix ?_
  rintro inp0 hi0
  refine w_mix ?_
  rintro out0 ho0
  have rest : ∀ inp out, inp ≤ 6 → out ≤ 6 → ∀ digits1 : Bool, digits1 = decide ((modN (cellV s st) 2) = 0) → W_mix (cellV s st) 3 fun z6 => ∀ way1 : Nat, way1 = z6 % 5 → W_cell s (st + 1) fun z7 => W_masks z7 100 stores stores digits1 fun z8 => W_cell s (st + 2) fun z9 => W_masks z9 140 stores inp digits1 fun z10 => jn (fun kk => if ¬ (digits1 = true) then (W_cell s (st + 1) fun z11 => W_thinned z8 z11 180 way1 fun z12 => if 0 < way1 then (((enumT z10).length < 1000000) ∧ compW (enumT z10) (fun it1 kk => W_cell s (st + 2) fun z13 => W_mix z13 (220 + it1.1) fun z14 => kk (some (it1.2 &&& z14))) fun ys1 => kk (z12, ys1)) else (kk (z12, z10))) else (kk (z8, z10))) fun (one1, other1) => W_cell s (st + 3) fun z15 => W_masks z15 260 out stores digits1 fun z16 => W_cell s (st + 4) fun z17 => W_masks z17 280 out inp digits1 fun z18 => jn (fun kk => if (¬ (digits1 = true)) ∧ (1 < way1) then (((enumT z16).length < 1000000) ∧ compW (enumT z16) (fun it2 kk => W_cell s (st + 3) fun z19 => W_mix z19 (300 + it2.1) fun z20 => kk (some (it2.2 &&& z20))) fun ys2 => kk ys2) else (kk z16)) fun shown1 => jn (fun kk => if (¬ (digits1 = true)) ∧ (2 < way1) then ((z18.length < 1000000) ∧ compW z18 (fun mask3 kk => kk (some 0)) fun ys3 => kk ys3) else (kk z18)) fun straight1 => R (inp, one1.zip other1, shown1.zip straight1) := by
    intro inp out hi ho d _
    refine w_mix ?_
    intro way _
    refine w_cell (w_masks (by omega) hst fun z8 l8 m8 => w_cell (w_masks (by omega) (by omega) fun z10 l10 m10 => jnI ?_))
    have fin : ∀ one other : List Nat, one.length = stores → (∀ x ∈ one, x < 2 ^ stores) → other.length = stores → (∀ x ∈ other, x < 2 ^ inp) → W_cell s (st + 3) fun z15 => W_masks z15 260 out stores d fun z16 => W_cell s (st + 4) fun z17 => W_masks z17 280 out inp d fun z18 => jn (fun kk => if (¬ (d = true)) ∧ (1 < way) then (((enumT z16).length < 1000000) ∧ compW (enumT z16) (fun it2 kk => W_cell s (st + 3) fun z19 => W_mix z19 (300 + it2.1) fun z20 => kk (some (it2.2 &&& z20))) fun ys2 => kk ys2) else (kk z16)) fun shown1 => jn (fun kk => if (¬ (d = true)) ∧ (2 < way) then ((z18.length < 1000000) ∧ compW z18 (fun mask3 kk => kk (some 0)) fun ys3 => kk ys3) else (kk z18)) fun straight1 => R (inp, one.zip other, shown1.zip straight1) := by
      intro one other l1 m1 l2 m2
      refine w_cell (w_masks (by omega) hst fun z16 l16 m16 => w_cell (w_masks (by omega) (by omega) fun z18 l18 m18 => jnI ?_))
      have end2 : ∀ shown : List Nat, shown.length = out → (∀ x ∈ shown, x < 2 ^ stores) → jn (fun kk => if (¬ (d = true)) ∧ (2 < way) then ((z18.length < 1000000) ∧ compW z18 (fun mask3 kk => kk (some 0)) fun ys3 => kk ys3) else (kk z18)) fun straight1 => R (inp, one.zip other, shown.zip straight1) := by
        intro shown l3 m3
        refine jnI ?_
        have end3 : ∀ str : List Nat, str.length = out → (∀ x ∈ str, x < 2 ^ inp) → R (inp, one.zip other, shown.zip str) := by
          intro str l4 m4
          obtain ⟨a1, a2⟩ := zip_ok l1 l2 m1 m2
          obtain ⟨b1, b2⟩ := zip_ok l3 l4 m3 m4
          exact h _ { i := hi, n := by show (one.zip other).length ≤ 120; omega, o := by show (shown.zip str).length ≤ 6; omega, mn := by show ∀ p ∈ one.zip other, p.1 < 2 ^ (one.zip other).length ∧ p.2 < 2 ^ inp; rw [a1]; exact a2, mo := by show ∀ p ∈ shown.zip str, p.1 < 2 ^ (one.zip other).length ∧ p.2 < 2 ^ inp; rw [a1]; exact b2, n16 := by show (one.zip other).length ≤ 16; omega }
        by_cases q : (¬ (d = true)) ∧ (2 < way)
        · rw [if_pos q]
          refine ⟨by omega, compW_map (fun _ => 0) (fun x _ kk hk => hk) (end3 _ (by rw [List.length_map, l18]) fun x hx => ?_)⟩
          obtain ⟨_, _, e⟩ := List.mem_map.mp hx
          rw [← e]; exact Nat.two_pow_pos _
        · rw [if_neg q]; exact end3 _ l18 m18
      by_cases q : (¬ (d = true)) ∧ (1 < way)
      · rw [if_pos q]
        exact comp_and (by omega) m16 (fun it kk hk => w_cell (w_mix (hk _))) fun l' a b => end2 l' (by omega) b
      · rw [if_neg q]; exact end2 _ l16 m16
    by_cases q : ¬ (d = true)
    · rw [if_pos q]
      refine w_cell (w_thinned (by omega) (by omega) m8 fun z12 l12 m12 => ?_)
      by_cases q2 : 0 < way
      · rw [if_pos q2]
        exact comp_and (by omega) m10 (fun it kk hk => w_cell (w_mix (hk _))) fun l' a b => fin _ _ (by omega) m12 (by omega) b
      · rw [if_neg q2]; exact fin _ _ (by omega) m12 l10 m10
    · rw [if_neg q]; exact fin _ _ l8 m8 l10 m10
  refine jnI ?_
  by_cases q : modN (cellV s st / ((64 : Nat) : Int)) 8 = 6
  · rw [if_pos q]
    refine w_mix ?_
    intro i3 hi3
    refine w_mix ?_
    intro o3 ho3
    exact rest i3 o3 (by omega) (by omega)
  · rw [if_neg q]; exact rest inp0 out0 (by omega) (by omega)
end My
namespace My
open Wk
theorem w_oddm {n : Nat} {R : Nat → Prop} (h : R (par n).toNat) : W_odd n R := by
  refine whileW_ind (fun s => xor (decide (s.1 % 2 = 1)) (par s.2) = par n) (fun s => s.2) (by simp) ?_
  rintro ⟨m, k⟩ nx (h1 : xor (decide (m % 2 = 1)) (par k) = par n) hn
  show if decide (0 < k) = true then _ else _
  by_cases hp : 0 < k
  · rw [if_pos (decide_eq_true hp)]
    rintro _ rfl _ rfl
    refine hn _ ?_ (by show k / 2 < k; omega)
    show xor (decide ((m + k % 2) % 2 = 1)) (par (k / 2)) = par n
    rw [← h1, par_step k, Nat.testBit_zero]
    rcases Nat.mod_two_eq_zero_or_one k with e | e <;> rcases Nat.mod_two_eq_zero_or_one m with f | f
    · rw [e, show (m + 0) % 2 = 0 by omega, f]; simp
    · rw [e, show (m + 0) % 2 = 1 by omega, f]; simp
    · rw [e, show (m + 1) % 2 = 1 by omega, f]; simp
    · rw [e, show (m + 1) % 2 = 0 by omega, f]; simp
  · rw [if_neg (by simpa using hp)]
    have : k = 0 := by omega
    subst this
    rw [par_zero] at h1
    show R (m % 2)
    have e : (par n).toNat = m % 2 := by
      rw [← h1]
      rcases Nat.mod_two_eq_zero_or_one m with f | f <;> rw [f] <;> rfl
    rw [← e]; exact h
theorem w_lbits {ps : List (Nat × Nat)} {s r : Nat} (hl : ps.length ≤ 1000) {R : Nat → Prop} (h : R (bitsV ps s r)) : W_bits ps s r R := by
  have sum : ∀ p : Nat × Nat, ((par (p.1 &&& s)).toNat + (par (p.2 &&& r)).toNat) % 2 = (bitf p s r).toNat := fun p => by
    unfold bitf; cases par (p.1 &&& s) <;> cases par (p.2 &&& r) <;> rfl
  refine w_bits (fun p => bitf p s r) (fun pre p post nx bk e hn => w_oddm (w_oddm ?_)) h
  have hp : pre.length < 1000000 := by rw [e, List.length_append] at hl; omega
  rw [sum p]
  refine ⟨by show pre.length < 100000000; omega, .inl (by cases bitf p s r <;> decide), ?_⟩
  rintro _ rfl
  rw [List.map_append] at hn
  have e2 := maskB_snoc (pre.map fun p => bitf p s r) (bitf p s r)
  rw [List.length_map, Nat.shiftLeft_eq] at e2
  rw [← e2]; exact hn
end My
namespace My
open Wk
def Rise (ps : List Nat) (n : Nat) : Prop := ps.Pairwise (· < ·) ∧ ∀ p ∈ ps, p < n
def sumAt (vs ps : List Nat) : Nat := ps.foldl (fun t p => t ^^^ vs.getD p 0) 0
theorem Rise.le {ps : List Nat} {n m : Nat} (h : Rise ps n) (q : n ≤ m) : Rise ps m := ⟨h.1, fun p hp => Nat.lt_of_lt_of_le (h.2 p hp) q⟩
theorem bl_rise (k S : Nat) : Rise (bl k S) k := ⟨by
  unfold bl
  exact (List.pairwise_lt_range).filter _, fun p hp => (mem_bl.mp hp).1⟩
theorem sumAt_app (vs ws ps : List Nat) (h : ∀ p ∈ ps, p < vs.length) : sumAt (vs ++ ws) ps = sumAt vs ps := by
  have go : ∀ (ps : List Nat) (z : Nat), (∀ p ∈ ps, p < vs.length) → ps.foldl (fun t p => t ^^^ (vs ++ ws).getD p 0) z = ps.foldl (fun t p => t ^^^ vs.getD p 0) z := fun ps => by
    induction ps with
    | nil => exact fun _ _ => rfl
    | cons p ps ih =>
      intro z h
      rw [List.foldl_cons, List.foldl_cons, ih _ fun q hq => h q (List.mem_cons_of_mem _ hq)]
      rw [List.getD_eq_getElem?_getD, List.getElem?_append_left (h p (List.mem_cons_self ..)), ← List.getD_eq_getElem?_getD]
  exact go ps 0 h
theorem sumAt_bl (vs : List Nat) (S : Nat) : ∀ k, k ≤ vs.length → sumAt vs (bl k S) = comb (vs.take k) S
  | 0, _ => rfl
  | k + 1, hk => by
    have e2 : vs.take (k + 1) = vs.take k ++ [vs[k]'(by omega)] := List.take_succ_eq_append_getElem (by omega)
    have eg : vs.getD k 0 = vs[k]'(by omega) := by rw [List.getD_eq_getElem?_getD, List.getElem?_eq_getElem (by omega)]; rfl
    have el : (vs.take k).length = k := by rw [List.length_take]; omega
    have ih := sumAt_bl vs S k (by omega)
    unfold sumAt at ih ⊢
    rw [bl_snoc, List.foldl_append, ih, e2, comb_snoc, el]
    by_cases q : S.testBit k = true
    · rw [if_pos q, if_pos q, ← eg]; rfl
    · rw [if_neg q, if_neg q, Nat.xor_zero]; rfl
theorem ind_len {n : Nat} {vs : List Nat} (hi : ∀ j, j < vs.length → ¬ Span (vs.take j) (vs.getD j 0)) (hv : ∀ v ∈ vs, v < 2 ^ n) : vs.length ≤ n := by
  refine Nat.le_of_not_lt fun q => ?_
  obtain ⟨j, hj, hs⟩ := some_sum (n := n) (vs := vs.take (n + 1)) (by rw [List.length_take]; omega) fun v hm => hv v (List.mem_of_mem_take hm)
  rw [List.take_take, show min j (n + 1) = j by omega, List.getD_eq_getElem?_getD, List.getElem?_take, if_pos (by omega), ← List.getD_eq_getElem?_getD] at hs
  exact hi j (by omega) hs
theorem getD_snoc_lt {α : Type} {xs : List α} {x d : α} {j : Nat} (h : j < xs.length) : (xs ++ [x]).getD j d = xs.getD j d := by
  rw [List.getD_eq_getElem?_getD, List.getElem?_append_left h, ← List.getD_eq_getElem?_getD]
theorem getD_snoc_eq {α : Type} {xs : List α} {x d : α} {j : Nat} (h : j = xs.length) : (xs ++ [x]).getD j d = x := by
  subst h
  rw [List.getD_eq_getElem?_getD, List.getElem?_append_right (Nat.le_refl _), Nat.sub_self]; rfl
theorem getD_some {α : Type} {xs : List α} {d : α} {j : Nat} (h : j < xs.length) : xs[j]? = some (xs.getD j d) := by
  rw [List.getD_eq_getElem?_getD, List.getElem?_eq_getElem h]; rfl
end My
namespace My
open Wk
structure Clo (n : Nat) (f : Nat → Nat) (x0 : Nat) (ms : List Nat) (su : List (List Nat)) : Prop where
  h0 : ms.getD 0 0 = x0
  pos : 0 < ms.length
  ls : su.length = ms.length
  le : ms.length ≤ n
  lt : ∀ m ∈ ms, m < 2 ^ n
  cl : ∀ P : Nat → Prop, P x0 → (∀ x, x < 2 ^ n → P x → P (f x)) → ∀ m ∈ ms, P m
  sums : ∀ i, i < ms.length → Rise (su.getD i []) ms.length ∧ sumAt ms (su.getD i []) = f (ms.getD i 0)
structure CloI (n : Nat) (f : Nat → Nat) (x0 : Nat) (ms : List Nat) (su : List (List Nat)) : Prop where
  h0 : ms.getD 0 0 = x0
  pos : 0 < ms.length
  ls : su.length = ms.length ∨ su.length + 1 = ms.length
  lt : ∀ m ∈ ms, m < 2 ^ n
  ind : ∀ j, j < ms.length → ¬ Span (ms.take j) (ms.getD j 0)
  cl : ∀ P : Nat → Prop, P x0 → (∀ x, x < 2 ^ n → P x → P (f x)) → ∀ m ∈ ms, P m
  sums : ∀ i, i < su.length → Rise (su.getD i []) ms.length ∧ sumAt ms (su.getD i []) = f (ms.getD i 0)
theorem span_nil {x : Nat} (h : Span [] x) : x = 0 := by
  obtain ⟨S, e⟩ := h
  exact e.symm
theorem no_sum2 : ¬ (PySem.Str.ofString "sum" = PySem.Str.ofString "no") := by decide +kernel
theorem w_closed {n x0 : Nat} {f : Nat → Nat} (hn : n ≤ 1000) (z0 : x0 ≠ 0) (hx : x0 < 2 ^ n) {wl : Nat → (Nat → Prop) → Prop} (hwl : ∀ (x : Nat) (k : Nat → Prop), x < 2 ^ n → k (f x) → wl x k) (hf : ∀ x, x < 2 ^ n → f x < 2 ^ n)
    {R : List Nat × List (List Nat) → Prop} (h : ∀ ms su, Clo n f x0 ms su → R (ms, su)) : W_closed x0 wl R := by
  refine whileW_ind (fun s => CloI n f x0 s.1 s.2) (fun s => n + 1 - s.2.length) ⟨rfl, Nat.zero_lt_one, .inr rfl, fun m hm => by rw [List.mem_singleton.mp hm]; exact hx, fun j hj q => ?_, fun P p0 _ m hm => by rw [List.mem_singleton.mp hm]; exact p0, fun i hi => absurd hi (Nat.not_lt_zero i)⟩ ?_
  · have hj : j < 1 := hj
    obtain rfl : j = 0 := by omega
    exact z0 (span_nil q)
  rintro ⟨ms, su⟩ nx (I : CloI n f x0 ms su) hnx
  have le := ind_len I.ind I.lt
  have ls := I.ls
  show if decide (su.length < ms.length) = true then _ else _
  by_cases q : su.length < ms.length
  · rw [if_pos (decide_eq_true q)]
    have e : su.length + 1 = ms.length := by omega
    have e2 : ms.length - 1 = su.length := by omega
    have hl : ms.getLast? = some (ms.getD su.length 0) := by
      rw [List.getLast?_eq_getElem?, e2, getD_some q]
    have xm : ms.getD su.length 0 ∈ ms := by
      rw [List.getD_eq_getElem?_getD, List.getElem?_eq_getElem q]; exact List.getElem_mem _
    have xl := I.lt _ xm
    refine ⟨_, hl, hwl _ _ xl ?_⟩
    refine w_sum_for (w := n) (by omega) (by omega) I.lt (hf _ xl) (fun _ D _ hc => ?_) fun hs m _ _ _ => ?_
    · refine jnI ?_
      show if PySem.Str.ofString "sum" = PySem.Str.ofString "no" then _ else _
      rw [if_neg no_sum2]
      refine ⟨_, rfl, by omega, hnx _ ⟨I.h0, I.pos, .inl ?_, I.lt, I.ind, I.cl, fun i hi => ?_⟩ ?_⟩
      · show (su ++ [_]).length = _
        rw [List.length_append]; exact e
      · have hi : i < (su ++ [bl ms.length D]).length := hi
        rw [List.length_append] at hi
        have hi : i < su.length + 1 := hi
        by_cases z : i < su.length
        · rw [getD_snoc_lt z]; exact I.sums i z
        · have z : i = su.length := by omega
          rw [getD_snoc_eq z, z]
          exact ⟨bl_rise _ _, by rw [sumAt_bl _ _ _ (Nat.le_refl _), List.take_length]; exact hc⟩
      · show n + 1 - (su ++ [_]).length < n + 1 - su.length
        rw [List.length_append]
        show n + 1 - (su.length + 1) < _
        omega
    · refine jnI ?_
      show if PySem.Str.ofString "no" = PySem.Str.ofString "no" then _ else _
      rw [if_pos rfl]
      have ne : ms ≠ [] := fun z => by rw [z] at q; exact absurd q (Nat.not_lt_zero _)
      refine ⟨by omega, by omega, hnx _ ⟨?_, ?_, .inr ?_, fun m hm => ?_, fun j hj => ?_, fun P p0 pf m hm => ?_, fun i hi => ?_⟩ ?_⟩
      · show (ms ++ [_]).getD 0 0 = x0
        rw [getD_snoc_lt I.pos]; exact I.h0
      · show 0 < (ms ++ [_]).length
        rw [List.length_append]; exact Nat.succ_pos _
      · show (su ++ [_]).length + 1 = (ms ++ [_]).length
        rw [List.length_append, List.length_append]; show su.length + 1 + 1 = ms.length + 1; omega
      · rcases List.mem_append.mp hm with hm | hm
        · exact I.lt m hm
        · rw [List.mem_singleton.mp hm]; exact hf _ xl
      · have hj : j < (ms ++ [f (ms.getD su.length 0)]).length := hj
        rw [List.length_append] at hj
        have hj : j < ms.length + 1 := hj
        show ¬ Span ((ms ++ [_]).take j) ((ms ++ [_]).getD j 0)
        by_cases z : j < ms.length
        · rw [getD_snoc_lt z, List.take_append_of_le_length (by omega)]; exact I.ind j z
        · have z : j = ms.length := by omega
          rw [getD_snoc_eq z, z, List.take_append_of_le_length (Nat.le_refl _), List.take_length]
          exact hs
      · rcases List.mem_append.mp hm with hm | hm
        · exact I.cl P p0 pf m hm
        · rw [List.mem_singleton.mp hm]; exact pf _ xl (I.cl P p0 pf _ xm)
      · have hi : i < (su ++ [[ms.length]]).length := hi
        rw [List.length_append] at hi
        have hi : i < su.length + 1 := hi
        show Rise ((su ++ [_]).getD i []) (ms ++ [_]).length ∧ sumAt (ms ++ [_]) ((su ++ [_]).getD i []) = f ((ms ++ [_]).getD i 0)
        have im : i < ms.length := by omega
        rw [getD_snoc_lt im]
        have l2 : (ms ++ [f (ms.getD su.length 0)]).length = ms.length + 1 := by rw [List.length_append]; rfl
        by_cases z : i < su.length
        · rw [getD_snoc_lt z]
          obtain ⟨a, b⟩ := I.sums i z
          exact ⟨a.le (by omega), by rw [sumAt_app _ _ _ a.2]; exact b⟩
        · have z : i = su.length := by omega
          rw [getD_snoc_eq z, z]
          refine ⟨⟨List.pairwise_singleton _ _, fun p hp => by rw [List.mem_singleton.mp hp]; omega⟩, ?_⟩
          show 0 ^^^ (ms ++ [_]).getD ms.length 0 = _
          rw [getD_snoc_eq rfl, Nat.zero_xor]
      · show n + 1 - (su ++ [_]).length < n + 1 - su.length
        rw [List.length_append]
        show n + 1 - (su.length + 1) < _
        omega
  · rw [if_neg (by rw [decide_eq_false q]; simp)]
    have e : su.length = ms.length := by omega
    exact h ms su ⟨I.h0, I.pos, e, le, I.lt, I.cl, fun i hi => I.sums i (by omega)⟩
end My
namespace My
open Wk
/-- m is even with all states that are come to in j turns -/
def EvM (M : Mach) (m j : Nat) : Prop := ∀ w k, w < M.1 → k < j → par (m &&& itV (nxV M) (inV M w) k) = false
theorem EvM.of {M : Mach} {m j : Nat} (h : ∀ v, Span (rbV M j) v → par (v &&& m) = false) : EvM M m j := fun w k hw hk => by
  rw [Nat.and_comm]; exact h _ (Span.mem (rb_mem hw hk))
theorem EvM.all {M : Mach} {m : Nat} (h : ∀ v, Span (rbV M M.2.1.length) v → par (v &&& m) = false) (j : Nat) : EvM M m j := fun w k hw hk => by
  by_cases q : k < M.2.1.length
  · exact EvM.of h w k hw q
  · have a := rb_late (M := M) (T := k + 1) hw (Nat.lt_succ_self k)
    rw [show min (k + 1) M.2.1.length = M.2.1.length by omega] at a
    rw [Nat.and_comm]; exact h _ a
abbrev CTld := PySem.Str × List Nat × Sum Nat (List (List Nat))
/-- what is told, as it has to be -/
def CGood (M : Mach) (s : Nat) (z : CTld) : Prop :=
  (∃ (rows : List Nat) (m : Nat), z = (PySem.Str.ofString "come", rows, Sum.inl m) ∧ rows.length ≤ M.2.1.length ∧ (∀ r ∈ rows, r < 2 ^ M.1) ∧ stV M rows 0 = s ∧ m < 2 ^ M.2.1.length ∧ (rows = [] → m = 0) ∧ (rows ≠ [] → par (s &&& m) = true ∧ EvM M m (rows.length - 1) ∧ ¬ Span (rbV M (rows.length - 1)) s)) ∨
  (∃ (ms : List Nat) (su : List (List Nat)) (x0 : Nat), z = (PySem.Str.ofString "never", ms, Sum.inr su) ∧ Clo M.2.1.length (fun x => (backV M x).1) x0 ms su ∧ par (s &&& x0) = true ∧ (∀ j, EvM M x0 j) ∧ ¬ Span (rbV M M.2.1.length) s)
theorem it_zero (M : Mach) : ∀ t, itV (nxV M) 0 t = 0 := fun t => by
  have := ((nx_lin M).it t).x 0 0
  rw [Nat.xor_self, Nat.xor_self] at this
  exact this
theorem w_come_to {M : Mach} (hM : MOk M) {s : Nat} (hs : s < 2 ^ M.2.1.length) {R : CTld → Prop} (h : ∀ z, CGood M s z → R z) : W_come_to M s R := by
  have m1 := hM.i; have m2 := hM.n
  refine w_need_state hM fine_i (fun _ => ?_) fun q => absurd (okA_nat.mpr hs) q
  show (M.2.1.length + 1 < 1000000) ∧ _
  refine ⟨by omega, ?_⟩
  refine forW_ind (fun pre (m : Nat) => m < 2 ^ M.2.1.length ∧ (pre = [] → m = 0) ∧ (pre ≠ [] → par (s &&& m) = true ∧ (∀ v, Span (rbV M (pre.length - 1)) v → par (v &&& m) = false) ∧ ¬ Span (rbV M (pre.length - 1)) s)) ⟨Nat.two_pow_pos _, fun _ => rfl, fun q => absurd rfl q⟩ (fun pre t post m nx bk e hI hn _ => ?_) fun m hI => ?_
  · obtain ⟨i1, i2, i3⟩ := hI
    have hlen : pre.length < M.2.1.length + 1 := by
      have := congrArg List.length e
      rw [List.length_range, List.length_append, List.length_cons] at this; omega
    have et : t = pre.length := by
      have : (List.range (M.2.1.length + 1))[pre.length]? = some t := by rw [e]; simp
      rw [List.getElem?_range hlen] at this
      exact (Option.some.inj this).symm
    subst et
    have l1 := rb_len M pre.length
    have l2 : pre.length * M.1 ≤ 120 * 6 := Nat.mul_le_mul (by omega) m1
    refine w_reached hM (by omega) (w_sum_for (w := M.2.1.length) (by omega) (by omega) (rb_lt M _) hs (fun _ D hD hc => ?_) fun hns m' h1 h2 h3 => ?_)
    · show if PySem.Str.ofString "sum" = PySem.Str.ofString "sum" then _ else _
      rw [if_pos rfl]
      refine ⟨_, rfl, ?_⟩
      rw [l1]
      refine w_rows_at hM (by omega) (h _ (.inl ⟨_, m, rfl, by rw [rws_len]; omega, rws_lt _ _ _, by rw [st_rws, it_zero, Nat.zero_xor]; exact hc, i1, fun z => i2 ?_, fun z => ?_⟩))
      · have := congrArg List.length z
        rw [rws_len] at this
        exact List.length_eq_zero_iff.mp this
      · have ne : pre ≠ [] := fun q => z (by rw [q]; rfl)
        obtain ⟨a, b, c⟩ := i3 ne
        rw [rws_len]
        exact ⟨a, EvM.of b, c⟩
    · show if PySem.Str.ofString "no" = PySem.Str.ofString "sum" then _ else _
      rw [if_neg (fun z => no_sum2 z.symm)]
      refine ⟨m', rfl, w_within hM h3 (hn _ ⟨h3, fun z => absurd z (by simp), fun _ => ⟨h2, fun v hv => ?_, fun hv => ?_⟩⟩)⟩
      · rw [List.length_append] at hv; exact h1 v hv
      · rw [List.length_append] at hv; exact hns hv
  · obtain ⟨i1, _, i3⟩ := hI
    obtain ⟨a, b, c⟩ := i3 (by intro z; have := congrArg List.length z; rw [List.length_range] at this; cases this)
    rw [List.length_range] at b c
    have z0 : m ≠ 0 := fun z => by rw [z, Nat.and_zero, par_zero] at a; cases a
    exact w_closed (f := fun x => (backV M x).1) (by omega) z0 i1 (fun x k hx hk => w_backN hM hx hk) (fun x _ => (back_lt hM _).1) fun ms su C => h _ (.inr ⟨ms, su, m, rfl, C, a, EvM.all b, c⟩)
end My
namespace My
open Wk
theorem out_diff (M : Mach) (a b r : Nat) : outV M a r ^^^ outV M b r = outV M (a ^^^ b) 0 := by
  have := next_lin M.2.2 a b r r
  rw [Nat.xor_self] at this
  exact this.symm
theorem nx_diff (M : Mach) (a b r : Nat) : nextV M a r ^^^ nextV M b r = nxV M (a ^^^ b) := by
  have := next_lin M.2.1 a b r r
  rw [Nat.xor_self] at this
  exact this.symm
abbrev ATld := Sum (PySem.Str × Nat × Nat) (PySem.Str × List Nat × List (List Nat))
/-- what is told, as it has to be; d: both states' sum -/
def AGood (M : Mach) (d : Nat) (z : ATld) : Prop :=
  (∃ t o : Nat, z = Sum.inl (PySem.Str.ofString "apart", t, o) ∧ t < M.2.1.length ∧ (∀ k, k < t → outV M (itV (nxV M) d k) 0 = 0) ∧ (outV M (itV (nxV M) d t) 0).testBit o = true) ∨
  (z = Sum.inr (PySem.Str.ofString "alike", [], []) ∧ d = 0) ∨
  (∃ (ms : List Nat) (su : List (List Nat)), z = Sum.inr (PySem.Str.ofString "alike", ms, su) ∧ d ≠ 0 ∧ Clo M.2.1.length (nxV M) d ms su ∧ ∀ k, outV M (itV (nxV M) d k) 0 = 0)
theorem out_lin (M : Mach) : Lin (fun s => outV M s 0) := lin_bits M.2.2
theorem out_zero (M : Mach) : outV M 0 0 = 0 := by
  have := (out_lin M).x 0 0
  rw [Nat.xor_self, Nat.xor_self] at this
  exact this
theorem it_zero0 (M : Mach) : ∀ t, itV (nxV M) 0 t = 0 := fun t => by
  have := ((nx_lin M).it t).x 0 0
  rw [Nat.xor_self, Nat.xor_self] at this
  exact this
theorem out_comb (M : Mach) : ∀ (vs : List Nat) (S : Nat), (∀ v ∈ vs, outV M v 0 = 0) → outV M (comb vs S) 0 = 0
  | [], S, _ => out_zero M
  | v :: vs, S, h => by
    show outV M ((if S.testBit 0 = true then v else 0) ^^^ comb vs (S / 2)) 0 = 0
    rw [(out_lin M).x, out_comb M vs (S / 2) fun x hx => h x (List.mem_cons_of_mem _ hx), Nat.xor_zero]
    by_cases q : S.testBit 0 = true
    · rw [if_pos q]; exact h v (List.mem_cons_self ..)
    · rw [if_neg q]; exact out_zero M
theorem quiet_all {M : Mach} {d : Nat} (hd : d < 2 ^ M.2.1.length) (h : ∀ k, k < M.2.1.length → outV M (itV (nxV M) d k) 0 = 0) (k : Nat) : outV M (itV (nxV M) d k) 0 = 0 := by
  obtain ⟨S, e⟩ := krylov (nx_lin M) (nx_lt M) hd k
  rw [← e]
  refine out_comb M _ S fun v hv => ?_
  obtain ⟨t, ht, e2⟩ := List.mem_map.mp (show v ∈ List.map _ _ from hv)
  rw [← e2]; exact h t (List.mem_range.mp ht)
theorem bl_head {k n : Nat} (hn : n < 2 ^ k) (z : n ≠ 0) : ∃ o, (bl k n)[0]? = some o ∧ o < k ∧ n.testBit o = true := by
  cases h : bl k n with
  | nil =>
    refine absurd (Nat.eq_of_testBit_eq fun j => ?_) z
    rw [Nat.zero_testBit]
    cases q : n.testBit j
    · rfl
    · by_cases hj : j < k
      · have : j ∈ bl k n := mem_bl.mpr ⟨hj, q⟩
        rw [h] at this; cases this
      · rw [testBit_big hn (by omega)] at q; cases q
  | cons o os =>
    have : o ∈ bl k n := by rw [h]; exact List.mem_cons_self ..
    exact ⟨o, rfl, mem_bl.mp this⟩
theorem w_told_apart {M : Mach} (hM : MOk M) {a b : Nat} (ha : a < 2 ^ M.2.1.length) (hb : b < 2 ^ M.2.1.length) {R : ATld → Prop} (h : ∀ z, AGood M (a ^^^ b) z → (∀ t, z = t → True) → R z) : W_told_apart M a b R := by
  have m1 := hM.i; have m2 := hM.n; have m3 := hM.o
  refine w_need_state hM fine_i (fun _ => w_need_state hM fine_i (fun _ => ?_) fun q => absurd (okA_nat.mpr hb) q) fun q => absurd (okA_nat.mpr ha) q
  rintro _ rfl
  show (M.2.1.length < 1000000) ∧ _
  have hd := Nat.xor_lt_two_pow ha hb
  refine ⟨by omega, ?_⟩
  refine forW_ind (fun pre (s : Nat) => s = itV (nxV M) (a ^^^ b) pre.length ∧ ∀ k, k < pre.length → outV M (itV (nxV M) (a ^^^ b) k) 0 = 0) ⟨rfl, fun k hk => absurd hk (Nat.not_lt_zero _)⟩ (fun pre t post s nx bk e hI hn _ => ?_) fun s hI => ?_
  · obtain ⟨rfl, i2⟩ := hI
    have hlen : pre.length < M.2.1.length := by
      have := congrArg List.length e
      rw [List.length_range, List.length_append, List.length_cons] at this; omega
    have et : t = pre.length := by
      have : (List.range M.2.1.length)[pre.length]? = some t := by rw [e]; simp
      rw [List.getElem?_range hlen] at this
      exact (Option.some.inj this).symm
    subst et
    have hs := it_lt M hd pre.length
    refine w_stepN hM hs (Nat.two_pow_pos _) ?_
    show if outV M (itV (nxV M) (a ^^^ b) pre.length) 0 ≠ 0 then _ else _
    by_cases q : outV M (itV (nxV M) (a ^^^ b) pre.length) 0 = 0
    · rw [if_neg (fun z => z q)]
      refine hn _ ⟨?_, fun k hk => ?_⟩
      · rw [List.length_append]
        show nxV M _ = itV (nxV M) _ (pre.length + 1)
        rfl
      · rw [List.length_append] at hk
        have hk : k < pre.length + 1 := hk
        by_cases z : k < pre.length
        · exact i2 k z
        · obtain rfl : k = pre.length := by omega
          exact q
    · rw [if_pos q]
      have lt : outV M (itV (nxV M) (a ^^^ b) pre.length) 0 < 2 ^ M.2.2.length := bitsV_lt ..
      refine w_bits_of (k := M.2.2.length) (by omega) lt ?_
      obtain ⟨o, e1, _, e3⟩ := bl_head lt q
      exact ⟨o, e1, h _ (.inl ⟨_, o, rfl, hlen, i2, e3⟩) fun _ _ => trivial⟩
  · obtain ⟨_, i2⟩ := hI
    rw [List.length_range] at i2
    by_cases q : a = b
    · rw [if_pos q]
      exact h _ (.inr (.inl ⟨rfl, by rw [q, Nat.xor_self]⟩)) fun _ _ => trivial
    · rw [if_neg q]
      have z0 : a ^^^ b ≠ 0 := fun z => q (by
        have := congrArg (fun x => x ^^^ b) z
        simp only [Nat.xor_assoc, Nat.xor_self, Nat.xor_zero, Nat.zero_xor] at this
        exact this)
      refine w_closed (f := nxV M) (by omega) z0 hd (fun x k hx hk => ?_) (fun x _ => nx_lt M x) fun ms su C => h _ (.inr (.inr ⟨ms, su, rfl, z0, C, quiet_all hd i2⟩)) fun _ _ => trivial
      show W_Machine_after M ([0].map anN) (An.i ((x : Nat) : Int)) False _
      exact w_afterN hM (by decide) (fun r hr => by rw [List.mem_singleton.mp hr]; exact Nat.two_pow_pos _) hx hk
/-- one turn alone -/
theorem AGood.one {M : Mach} {d : Nat} {y y' : PySem.Str × Nat × Nat} (h : AGood M d (Sum.inl y)) (h' : AGood M d (Sum.inl y')) : y.2.1 = y'.2.1 := by
  rcases h with ⟨t, o, e, _, h1, h2⟩ | ⟨e, _⟩ | ⟨_, _, e, _⟩
  · rcases h' with ⟨t', o', e', _, h1', h2'⟩ | ⟨e, _⟩ | ⟨_, _, e, _⟩
    · cases e; cases e'
      show t = t'
      rcases Nat.lt_trichotomy t t' with q | q | q
      · rw [h1' t q, Nat.zero_testBit] at h2; cases h2
      · exact q
      · rw [h1 t' q, Nat.zero_testBit] at h2'; cases h2'
    · cases e
    · cases e
  · cases e
  · cases e
end My
namespace My
open Wk
abbrev Tld := PySem.Str × (Sum (List Nat) Nat)
def leftV (M : Mach) (s w T : Nat) : Nat := w ^^^ itV (nxV M) s T
/-- what is told, as it has to be -/
def Good (M : Mach) (s w T : Nat) (z : Tld) : Prop :=
  (∃ rows : List Nat, z = (PySem.Str.ofString "rows", Sum.inl rows) ∧ rows.length = T ∧ (∀ r ∈ rows, r < 2 ^ M.1) ∧ stV M rows s = w) ∨
  (∃ m : Nat, z = (PySem.Str.ofString "no", Sum.inr m) ∧ m < 2 ^ M.2.1.length ∧ ¬ Span (rbV M (min T M.2.1.length)) (leftV M s w T) ∧ (∀ v, Span (rbV M (min T M.2.1.length)) v → par (v &&& m) = false) ∧ par (leftV M s w T &&& m) = true)
theorem sum_no : ¬ (PySem.Str.ofString "sum" = PySem.Str.ofString "no") := by decide +kernel
theorem no_rows : ¬ (PySem.Str.ofString "no" = PySem.Str.ofString "rows") := by decide +kernel
/-- what a sum told makes of it -/
def SGood (M : Mach) (s w T : Nat) (z : Tld) : Prop :=
  (∃ D, D < 2 ^ (min T M.2.1.length * M.1) ∧ comb (rbV M (min T M.2.1.length)) D = leftV M s w T ∧ z = (PySem.Str.ofString "sum", Sum.inl (bl (min T M.2.1.length * M.1) D))) ∨
  (∃ m : Nat, z = (PySem.Str.ofString "no", Sum.inr m) ∧ m < 2 ^ M.2.1.length ∧ ¬ Span (rbV M (min T M.2.1.length)) (leftV M s w T) ∧ (∀ v, Span (rbV M (min T M.2.1.length)) v → par (v &&& m) = false) ∧ par (leftV M s w T &&& m) = true)
theorem w_sgood {M : Mach} (hM : MOk M) {s w T : Nat} (hs : s < 2 ^ M.2.1.length) (hw : w < 2 ^ M.2.1.length) (hT : T ≤ 40) (R : Tld → Prop) (h : ∀ z, SGood M s w T z → R z) : W_sum_for (rbV M (min T M.2.1.length)) (leftV M s w T) R := by
  have m1 := hM.i; have m2 := hM.n
  have l1 := rb_len M (min T M.2.1.length)
  have l2 : min T M.2.1.length * M.1 ≤ 40 * 6 := Nat.mul_le_mul (by omega) m1
  refine w_sum_for (w := M.2.1.length) (by omega) (by omega) (rb_lt M _) (Nat.xor_lt_two_pow hw (it_lt M hs T)) (fun _ D hD hc => ?_) fun hn m h1 h2 h3 => h _ (.inr ⟨m, rfl, h3, hn, h1, h2⟩)
  rw [l1] at hD ⊢
  exact h _ (.inl ⟨D, hD, hc, rfl⟩)
theorem lead_law {M : Mach} {s w T L D : Nat} (hL : L ≤ T) (hc : comb (rbV M L) D = leftV M s w T) : stV M (List.replicate (T - L) 0 ++ rwsV M.1 D L) s = w := by
  rw [st_app, st_zeros, st_rws, hc, ← itV_add, show T - L + L = T by omega]
  unfold leftV
  rw [Nat.xor_comm, Nat.xor_assoc, Nat.xor_self, Nat.xor_zero]
theorem w_broughtN {M : Mach} (hM : MOk M) {s w T : Nat} (hs : s < 2 ^ M.2.1.length) (hw : w < 2 ^ M.2.1.length) (hT : T ≤ 40) :
    (∀ (E1 E2 : Prop) (R : Tld → Prop), W_brought M (An.i (s : Int)) (An.i (w : Int)) (An.i (T : Int)) E1 E2 R) ∨
    ∃ z, Good M s w T z ∧ ∀ (E1 E2 : Prop) (R : Tld → Prop), R z → W_brought M (An.i (s : Int)) (An.i (w : Int)) (An.i (T : Int)) E1 E2 R := by
  have m1 := hM.i; have m2 := hM.n
  have pre : ∀ (E1 E2 : Prop) (R : Tld → Prop), (W_sum_for (rbV M (min T M.2.1.length)) (leftV M s w T) fun z7 => if z7.1 = (PySem.Str.ofString "no") then (∃ y4 : Nat, z7.2 = Sum.inr y4 ∧ W_within M y4 fun z8 => R ((PySem.Str.ofString "no"), (Sum.inr z8))) else ((min T M.2.1.length ≤ T) ∧ ([0].length * (T - min T M.2.1.length) < 1000000 ∧ T - min T M.2.1.length < 1000000) ∧ ∃ y5, z7.2 = Sum.inl y5 ∧ W_rows_at M y5 (min T M.2.1.length) fun z9 => (((List.replicate (T - min T M.2.1.length) [0]).flatten).length + z9.length < 1000000) ∧ R ((PySem.Str.ofString "rows"), (Sum.inl (((List.replicate (T - min T M.2.1.length) [0]).flatten) ++ z9))))) → W_brought M (An.i (s : Int)) (An.i (w : Int)) (An.i (T : Int)) E1 E2 R := by
    intro E1 E2 R h
    refine w_need_state hM fine_i (fun _ => ?_) fun q => absurd (okA_nat.mpr hs) q
    refine w_need_state hM fine_i (fun _ => ?_) fun q => absurd (okA_nat.mpr hw) q
    refine ⟨w, rfl, jnI (w_is_whole fine_i (fun z ez => ?_) fun q => absurd rfl (q _))⟩
    rw [if_pos rfl]
    refine ⟨z, ez, ?_⟩
    have ez2 : (T : Int) = z := An.i.inj ez
    rw [decide_eq_false (fun q => q ⟨by omega, by omega⟩)]
    show if false = true then _ else _
    rw [if_neg (by simp)]
    refine ⟨T, rfl, ⟨by show 1 * T < 1000000; omega, by omega⟩, ?_⟩
    rw [flat_rep]
    refine w_afterN hM (by rw [List.length_replicate]; omega) (fun r hr => by rw [List.eq_of_mem_replicate hr]; exact Nat.two_pow_pos _) hs ?_
    rw [st_zeros]
    rintro _ rfl
    show ∀ late1 : Nat, late1 = min T M.2.1.length → _
    rintro _ rfl
    exact w_reached hM (by omega) h
  rcases Det.tells' (det_sum_for (rbV M (min T M.2.1.length)) (leftV M s w T)) (P := SGood M s w T) (w_sgood hM hs hw hT) with a | ⟨z, hz, a⟩
  · exact .inl fun E1 E2 R => pre E1 E2 R (a _)
  · right
    rcases hz with ⟨D, hD, hc, ez⟩ | ⟨m, ez, hm, h1, h2, h3⟩
    · have hL : min T M.2.1.length ≤ T := Nat.min_le_left ..
      refine ⟨(PySem.Str.ofString "rows", Sum.inl (List.replicate (T - min T M.2.1.length) 0 ++ rwsV M.1 D (min T M.2.1.length))), .inl ⟨_, rfl, by rw [List.length_append, List.length_replicate, rws_len]; omega, fun r hr => ?_, lead_law hL hc⟩, fun E1 E2 R h => pre E1 E2 R (a _ ?_)⟩
      · rcases List.mem_append.mp hr with q | q
        · rw [List.eq_of_mem_replicate q]; exact Nat.two_pow_pos _
        · exact rws_lt _ _ _ _ q
      · subst ez
        show if PySem.Str.ofString "sum" = PySem.Str.ofString "no" then _ else _
        rw [if_neg sum_no]
        refine ⟨hL, ⟨by show 1 * (T - _) < 1000000; omega, by omega⟩, _, rfl, ?_⟩
        refine w_rows_at hM (by omega) ?_
        rw [flat_rep]
        exact ⟨by rw [List.length_replicate, rws_len]; omega, h⟩
    · refine ⟨(PySem.Str.ofString "no", Sum.inr m), .inr ⟨m, rfl, hm, h1, h2, h3⟩, fun E1 E2 R h => pre E1 E2 R (a _ ?_)⟩
      subst ez
      show if PySem.Str.ofString "no" = PySem.Str.ofString "no" then _ else _
      rw [if_pos rfl]
      exact ⟨m, rfl, w_within hM hm h⟩
end My
namespace My
open Wk PySem
def Rch (M : Mach) (t s : Nat) : Prop := ∃ rows : List Nat, rows.length = t ∧ (∀ r ∈ rows, r < 2 ^ M.1) ∧ stV M rows 0 = s
theorem nx0 (M : Mach) : nextV M 0 0 = 0 := by
  have := (nx_lin M).x 0 0
  rw [Nat.xor_self, Nat.xor_self] at this
  exact this
section
variable {M : Mach} {s t : Nat}
theorem Rch.zero : Rch M 0 s ↔ s = 0 := ⟨fun ⟨rows, l, _, e⟩ => by rw [List.length_eq_zero_iff.mp l] at e; exact e.symm, fun e => ⟨[], rfl, fun r hr => (by cases hr), e.symm⟩⟩
theorem Rch.succ : Rch M (t + 1) s ↔ ∃ s0 r, Rch M t s0 ∧ r < 2 ^ M.1 ∧ nextV M s0 r = s := by
  constructor
  · rintro ⟨rows, l, h, e⟩
    have ne : rows ≠ [] := fun z => by rw [z] at l; cases l
    have eq := List.dropLast_concat_getLast ne
    rw [← eq, st_app] at e
    refine ⟨stV M rows.dropLast 0, rows.getLast ne, ⟨rows.dropLast, by rw [List.length_dropLast]; omega, fun r hr => h r (List.dropLast_subset _ hr), rfl⟩, h _ (List.getLast_mem ne), e⟩
  · rintro ⟨s0, r, ⟨rows, l, h, e⟩, hr, e2⟩
    refine ⟨rows ++ [r], by rw [List.length_append, l]; rfl, fun q hq => ?_, by rw [st_app, e]; exact e2⟩
    rcases List.mem_append.mp hq with z | z
    · exact h q z
    · rw [List.mem_singleton.mp z]; exact hr
theorem Rch.up (h : Rch M t s) : Rch M (t + 1) s := let ⟨rows, l, h, e⟩ := h
  ⟨0 :: rows, by rw [List.length_cons, l], fun r hr => by
    rcases List.mem_cons.mp hr with z | z
    · rw [z]; exact Nat.two_pow_pos _
    · exact h r z, by
    show stV M rows (nextV M 0 0) = s
    rw [nx0]; exact e⟩
theorem Rch.le {t' : Nat} (h : Rch M t s) (l : t ≤ t') : Rch M t' s := by
  induction l with
  | refl => exact h
  | step _ ih => exact ih.up
theorem Rch.lt (h : Rch M t s) : s < 2 ^ M.2.1.length := let ⟨_, _, _, e⟩ := h; by rw [← e]; exact st_lt (Nat.two_pow_pos _)
theorem it0 (M : Mach) : ∀ t, itV (nxV M) 0 t = 0 := fun t => by
  have := ((nx_lin M).it t).x 0 0
  rw [Nat.xor_self, Nat.xor_self] at this
  exact this
theorem Rch.of_span (h : Span (rbV M t) s) : Rch M t s := let ⟨D, e⟩ := h
  ⟨rwsV M.1 D t, rws_len .., rws_lt _ _ _, by rw [st_rws, it0, Nat.zero_xor]; exact e⟩
theorem Rch.min (h : Rch M t s) : Rch M (min t M.2.1.length) s := by
  obtain ⟨rows, l, hr, e⟩ := h
  have := st_late M t rows 0 (by omega) hr
  rw [it0, Nat.xor_zero, e] at this
  exact Rch.of_span this
theorem Rch.span (h : Rch M t s) (ht : t ≤ M.2.1.length) : Span (rbV M t) s := by
  obtain ⟨rows, l, hr, e⟩ := h
  have := st_late M t rows 0 (by omega) hr
  rw [it0, Nat.xor_zero, e, show Min.min t M.2.1.length = t by omega] at this
  exact this
/-- the least turns -/
def Lst (M : Mach) (t s : Nat) : Prop := Rch M t s ∧ ∀ t', t' < t → ¬ Rch M t' s
theorem Lst.ex (h : Rch M t s) : ∃ t', t' ≤ t ∧ Lst M t' s := by
  induction t using Nat.strongRecOn with
  | ind t ih =>
    by_cases q : ∃ t', t' < t ∧ Rch M t' s
    · obtain ⟨t', l, r⟩ := q
      obtain ⟨t2, l2, h2⟩ := ih t' l r
      exact ⟨t2, by omega, h2⟩
    · exact ⟨t, Nat.le_refl _, h, fun t' l r => q ⟨t', l, r⟩⟩
theorem Lst.one {t' : Nat} (h : Lst M t s) (h' : Lst M t' s) : t = t' := Nat.le_antisymm (Nat.le_of_not_lt fun q => h.2 t' q h'.1) (Nat.le_of_not_lt fun q => h'.2 t q h.1)
theorem Lst.small (h : Lst M t s) : t ≤ M.2.1.length := Nat.le_of_not_lt fun q => h.2 _ (by omega) h.1.min
theorem Lst.pred (h : Lst M (t + 1) s) : ∃ s0 r, Lst M t s0 ∧ r < 2 ^ M.1 ∧ nextV M s0 r = s := by
  obtain ⟨s0, r, a, b, c⟩ := Rch.succ.mp h.1
  exact ⟨s0, r, ⟨a, fun t' l q => h.2 (t' + 1) (by omega) (Rch.succ.mpr ⟨s0, r, q, b, c⟩)⟩, b, c⟩
theorem Lst.down (h : ∀ s, ¬ Lst M t s) : ∀ k s, ¬ Lst M (t + k) s
  | 0, s, q => h s q
  | k + 1, s, q => let ⟨s0, _, a, _⟩ := q.pred; Lst.down h k s0 a
end
/-- all steps -/
def stepL (M : Mach) (s : Nat) : List (Nat × Nat) := (List.range (2 ^ M.1)).map fun r => (outV M s r, nextV M s r)
def stepsL (M : Mach) : List (List (Nat × Nat)) := (List.range (2 ^ M.2.1.length)).map (stepL M)
theorem stepsL_at {M : Mach} {s : Nat} (h : s < 2 ^ M.2.1.length) : (stepsL M)[s]? = some (stepL M s) := by
  unfold stepsL
  rw [List.getElem?_map, List.getElem?_range h]; rfl
theorem stepsL_len (M : Mach) : (stepsL M).length = 2 ^ M.2.1.length := by unfold stepsL; rw [List.length_map, List.length_range]
theorem stepL_mem {M : Mach} {s : Nat} {x : Nat × Nat} : x ∈ stepL M s ↔ ∃ r, r < 2 ^ M.1 ∧ x = (outV M s r, nextV M s r) := by
  unfold stepL
  rw [List.mem_map]
  exact ⟨fun ⟨r, a, b⟩ => ⟨r, List.mem_range.mp a, b.symm⟩, fun ⟨r, a, b⟩ => ⟨r, List.mem_range.mpr a, b.symm⟩⟩
theorem p4 {n k : Nat} (h : n ≤ k) (hk : k ≤ 19) : 2 ^ n < 1000000 := Nat.lt_of_le_of_lt (Nat.pow_le_pow_right (by decide) (Nat.le_trans h hk)) (by decide)
theorem w_steps {M : Mach} (hM : MOk M) (hn : M.2.1.length ≤ 16) {R : List (List (Nat × Nat)) → Prop} (h : R (stepsL M)) : W_steps M R := by
  have hi := hM.i; have ho := hM.o
  have p1 : 2 ^ M.2.1.length < 1000000 := p4 hn (by decide)
  have p2 : 2 ^ M.1 < 1000000 := p4 hi (by decide)
  refine ⟨by omega, p1, forW_ind (fun pre f => f = pre.map (stepL M)) rfl (fun pre s post f nx bk e hf hx _ => ?_) fun f hf => by rw [hf]; exact h⟩
  have hs : s < 2 ^ M.2.1.length := List.mem_range.mp (by rw [e]; simp)
  have pl : pre.length < 2 ^ M.2.1.length := by
    have := congrArg List.length e
    rw [List.length_range, List.length_append, List.length_cons] at this; omega
  refine ⟨by omega, p2, by rw [List.length_range]; exact p2, compW_map (fun r => (outV M s r, nextV M s r)) (fun r _ kk hk => w_lbits (by omega) (w_lbits (by have := hM.n; omega) hk)) ⟨by rw [hf, List.length_map]; omega, hx _ (by rw [hf, List.map_append]; rfl)⟩⟩
theorem putT_keys {α : Type} {m : List (Nat × α)} {j : Nat} {x : α} : (putT m j x).map (·.1) = if hasT m j = true then m.map (·.1) else m.map (·.1) ++ [j] := by
  unfold putT
  by_cases h : hasT m j = true
  · rw [if_pos h, if_pos h, List.map_map]
    refine List.map_congr_left fun q _ => ?_
    show (if q.1 = j then (q.1, x) else q).1 = q.1
    by_cases c : q.1 = j
    · rw [if_pos c]
    · rw [if_neg c]
  · rw [if_neg h, if_neg h, List.map_append]; rfl
theorem putT_nd {α : Type} {m : List (Nat × α)} {j : Nat} {x : α} (h : (m.map (·.1)).Nodup) : ((putT m j x).map (·.1)).Nodup := by
  rw [putT_keys]
  by_cases q : hasT m j = true
  · rw [if_pos q]; exact h
  · rw [if_neg q]
    refine List.nodup_append.mpr ⟨h, by simp, fun a ha b hb e => ?_⟩
    rw [List.mem_singleton.mp hb] at e
    exact q (hasT_iff.mpr (by rw [← e]; exact ha))
theorem putT_in {α : Type} {m : List (Nat × α)} {j i : Nat} {x : α} : i ∈ (putT m j x).map (·.1) ↔ i = j ∨ i ∈ m.map (·.1) := by
  rw [← hasT_iff, hasT_putT, Bool.or_eq_true, decide_eq_true_iff, hasT_iff]
  exact ⟨fun h => h.imp Eq.symm id, fun h => h.imp Eq.symm id⟩
structure BJ (M : Mach) (l : Nat) (d : List (Nat × Nat)) (ah : List Nat) : Prop where
  v : ∀ s t, valT d s = some t ↔ (t ≤ l ∧ Lst M t s) ∨ (t = l + 1 ∧ s ∈ ah)
  a : ∀ s ∈ ah, Lst M (l + 1) s
  nd : (d.map (·.1)).Nodup
  kb : ∀ s ∈ d.map (·.1), s < 2 ^ M.2.1.length
  la : ah.length ≤ d.length
theorem BJ.len {M : Mach} {l : Nat} {d : List (Nat × Nat)} {a : List Nat} (B : BJ M l d a) : d.length ≤ 2 ^ M.2.1.length := by
  have := nodup_len B.nd B.kb
  rwa [List.length_map] at this
theorem has_val {α : Type} {d : List (Nat × α)} {s : Nat} : hasT d s = true ↔ ∃ t, valT d s = some t := by
  unfold hasT
  cases valT d s with
  | none => exact ⟨fun z => (by cases z), fun ⟨_, z⟩ => (by cases z)⟩
  | some t => exact ⟨fun _ => ⟨t, rfl⟩, fun _ => rfl⟩
/-- one step more -/
theorem BJ.put {M : Mach} {l : Nat} {d : List (Nat × Nat)} {a : List Nat} (B : BJ M l d a) {s0 r : Nat} (h0 : Lst M l s0) (hr : r < 2 ^ M.1) (hn : ¬ hasT d (nextV M s0 r) = true) : BJ M l (putT d (nextV M s0 r) (l + 1)) (a ++ [nextV M s0 r]) := by
  have rs : Rch M (l + 1) (nextV M s0 r) := Rch.succ.mpr ⟨s0, r, h0.1, hr, rfl⟩
  have ls : Lst M (l + 1) (nextV M s0 r) := ⟨rs, fun t' q c => by
    obtain ⟨t2, l2, h2⟩ := Lst.ex c
    exact hn (has_val.mpr ⟨t2, (B.v _ _).mpr (.inl ⟨by omega, h2⟩)⟩)⟩
  refine ⟨fun s t => ?_, fun s hs => ?_, putT_nd B.nd, fun s hs => ?_, ?_⟩
  · rw [valT_putT]
    by_cases e : nextV M s0 r = s
    · rw [if_pos e]
      constructor
      · intro z
        exact .inr ⟨(Option.some.inj z).symm, by rw [← e]; simp⟩
      · rintro (⟨z, q⟩ | ⟨z, _⟩)
        · rw [← e] at q
          have := q.one ls
          omega
        · rw [z]
    · rw [if_neg e, B.v]
      refine or_congr Iff.rfl (and_congr Iff.rfl ?_)
      rw [List.mem_append, List.mem_singleton]
      exact ⟨.inl, fun z => z.resolve_right fun c => e c.symm⟩
  · rcases List.mem_append.mp hs with z | z
    · exact B.a s z
    · rw [List.mem_singleton.mp z]; exact ls
  · rcases putT_in.mp hs with z | z
    · rw [z]; exact rs.lt
    · exact B.kb s z
  · have e : (putT d (nextV M s0 r) (l + 1)).length = d.length + 1 := by
      unfold putT
      rw [if_neg hn, List.length_append]; rfl
    have := B.la
    rw [e, List.length_append]
    show a.length + 1 ≤ d.length + 1
    omega
structure BI (M : Mach) (l : Nat) (d : List (Nat × Nat)) (line : List Nat) : Prop where
  j : BJ M l d []
  m : ∀ s, s ∈ line ↔ Lst M l s
theorem w_least_turns {M : Mach} (hn : M.2.1.length ≤ 16) {R : List (Nat × Nat) → Prop} (h : ∀ d, (∀ s t, valT d s = some t ↔ Lst M t s) → R d) : W_least_turns (stepsL M) R := by
  have p1 : 2 ^ M.2.1.length < 1000000 := p4 hn (by decide)
  refine ⟨fun m (x : List (Nat × Nat) × List Nat) => ∃ l, m + l = M.2.1.length + 2 ∧ BI M l x.1 x.2, ⟨M.2.1.length + 2, 0, rfl, ⟨?_, fun s => ?_⟩⟩, fun m x ⟨l, hm, B⟩ => ?_⟩
  · refine ⟨fun s t => ?_, fun s hs => (by cases hs), by simp, fun s hs => ?_, Nat.zero_le _⟩
    · show valT [(0, 0)] s = some t ↔ _
      rw [valT_cons]
      by_cases e : (0, 0).1 = s
      · have e : 0 = s := e
        rw [if_pos e]
        subst e
        constructor
        · intro z
          have : t = 0 := (Option.some.inj z).symm
          subst this
          exact .inl ⟨Nat.le_refl _, Rch.zero.mpr rfl, fun t' q => absurd q (Nat.not_lt_zero _)⟩
        · rintro (⟨z, _⟩ | ⟨_, z⟩)
          · rw [show t = 0 by omega]
          · cases z
      · rw [if_neg e]
        constructor
        · intro z; cases z
        · rintro (⟨z, q, _⟩ | ⟨_, z⟩)
          · rw [show t = 0 by omega] at q
            exact absurd (Rch.zero.mp q).symm e
          · cases z
    · have hs : s ∈ [0] := hs
      rw [List.mem_singleton.mp hs]; exact Nat.two_pow_pos _
  · show s ∈ [0] ↔ _
    rw [List.mem_singleton]
    exact ⟨fun e => ⟨Rch.zero.mpr e, fun t' q => absurd q (Nat.not_lt_zero _)⟩, fun q => Rch.zero.mp q.1⟩
  · obtain ⟨d, line⟩ := x
    have B : BI M l d line := B
    show if decide (line ≠ []) = true then _ else _
    by_cases q : line = []
    · rw [decide_eq_false (fun z => z q), if_neg (by decide)]
      refine h d fun s t => ?_
      rw [B.j.v]
      constructor
      · rintro (⟨_, z⟩ | ⟨_, z⟩)
        · exact z
        · cases z
      · intro z
        by_cases c : t ≤ l
        · exact .inl ⟨c, z⟩
        · have none : ∀ s, ¬ Lst M l s := fun s z => by
            have := (B.m s).mpr z
            rw [q] at this; cases this
          have := Lst.down none (t - l) s
          rw [show l + (t - l) = t by omega] at this
          exact absurd z this
    · rw [decide_eq_true q, if_pos rfl]
      obtain ⟨s1, hs1⟩ := List.exists_mem_of_ne_nil line q
      have ll := ((B.m s1).mp hs1).small
      have cov : ∀ (d' : List (Nat × Nat)) (a : List Nat), BJ M l d' a → (∀ s ∈ line, ∀ r, r < 2 ^ M.1 → hasT d' (nextV M s r) = true) → BI M (l + 1) d' a := fun d' a J c => by
        have onA : ∀ s, Lst M (l + 1) s → s ∈ a := fun s z => by
          obtain ⟨s0, r, a1, a2, a3⟩ := z.pred
          obtain ⟨t, ht⟩ := has_val.mp (c s0 ((B.m s0).mpr a1) r a2)
          rw [a3] at ht
          rcases (J.v s t).mp ht with ⟨b1, b2⟩ | ⟨_, b⟩
          · have := b2.one z
            omega
          · exact b
        refine ⟨⟨fun s t => ?_, fun s hs => (by cases hs), J.nd, J.kb, Nat.zero_le _⟩, fun s => ⟨J.a s, onA s⟩⟩
        rw [J.v]
        constructor
        · rintro (⟨z, w⟩ | ⟨z, w⟩)
          · exact .inl ⟨by omega, w⟩
          · exact .inl ⟨by omega, by rw [z]; exact J.a s w⟩
        · rintro (⟨z, w⟩ | ⟨_, w⟩)
          · by_cases e : t = l + 1
            · rw [e] at w; exact .inr ⟨e, onA s w⟩
            · exact .inl ⟨by omega, w⟩
          · cases w
      refine forW_ind (fun pre (x : List (Nat × Nat) × List Nat) => BJ M l x.1 x.2 ∧ ∀ s ∈ pre, ∀ r, r < 2 ^ M.1 → hasT x.1 (nextV M s r) = true) ⟨B.j, fun s hs => (by cases hs)⟩ (fun pre s post x nx bk e P hx _ => ?_) fun x P => ⟨m - 1, by omega, l + 1, by omega, cov x.1 x.2 P.1 P.2⟩
      obtain ⟨d2, a2⟩ := x
      obtain ⟨J, C⟩ := P
      have sL : Lst M l s := (B.m s).mp (by rw [e]; simp)
      refine ⟨stepL M s, stepsL_at sL.1.lt, forW_ind (fun pre2 (x : List (Nat × Nat) × List Nat) => BJ M l x.1 x.2 ∧ (∀ s ∈ pre, ∀ r, r < 2 ^ M.1 → hasT x.1 (nextV M s r) = true) ∧ ∀ y ∈ pre2, hasT x.1 y.2 = true) ⟨J, C, fun y hy => (by cases hy)⟩ (fun pre2 y post2 x nx2 bk2 e2 P2 hx2 _ => ?_) fun x P2 => ?_⟩
      · obtain ⟨d3, a3⟩ := x
        obtain ⟨J3, C3, D3⟩ := P2
        have J3 : BJ M l d3 a3 := J3
        obtain ⟨r, hr, ey⟩ := stepL_mem.mp (show y ∈ stepL M s by rw [e2]; simp)
        subst ey
        show if ¬ (hasT d3 (nextV M s r) = true) then _ else _
        by_cases c : hasT d3 (nextV M s r) = true
        · rw [if_neg (fun z => z c)]
          refine hx2 _ ⟨J3, C3, fun y hy => ?_⟩
          rcases List.mem_append.mp hy with z | z
          · exact D3 y z
          · rw [List.mem_singleton.mp z]; exact c
        · rw [if_pos c]
          have ln := J3.len
          have la := J3.la
          refine ⟨l, (J3.v s l).mpr (.inl ⟨Nat.le_refl _, sL⟩), by omega, by omega, hx2 _ ⟨J3.put sL hr c, fun s' hs' r' hr' => ?_, fun y hy => ?_⟩⟩
          · show hasT (putT d3 _ _) _ = true
            rw [hasT_putT, C3 s' hs' r' hr', Bool.or_true]
          · show hasT (putT d3 _ _) _ = true
            rcases List.mem_append.mp hy with z | z
            · rw [hasT_putT, D3 y z, Bool.or_true]
            · rw [List.mem_singleton.mp z, hasT_putT, decide_eq_true rfl, Bool.true_or]
      · obtain ⟨d3, a3⟩ := x
        obtain ⟨J3, C3, D3⟩ := P2
        refine hx _ ⟨J3, fun s' hs' r' hr' => ?_⟩
        rcases List.mem_append.mp hs' with z | z
        · exact C3 s' z r' hr'
        · rw [List.mem_singleton.mp z]
          exact D3 _ (stepL_mem.mpr ⟨r', hr', rfl⟩)
end My
namespace My
open Wk PySem
def Un (M : Mach) (t d : Nat) : Prop := outV M (itV (nxV M) d t) 0 ≠ 0
instance (M : Mach) (t d : Nat) : Decidable (Un M t d) := inferInstanceAs (Decidable (_ ≠ _))
def Lu (M : Mach) (t d : Nat) : Prop := Un M t d ∧ ∀ t', t' < t → ¬ Un M t' d
section
variable {M : Mach} {t d : Nat}
theorem Un.succ : Un M (t + 1) d ↔ Un M t (nxV M d) := by unfold Un; rw [itV_succ]
theorem Lu.ex (h : Un M t d) : ∃ t', t' ≤ t ∧ Lu M t' d := by
  induction t using Nat.strongRecOn with
  | ind t ih =>
    by_cases q : ∃ t', t' < t ∧ Un M t' d
    · obtain ⟨t', l, r⟩ := q
      obtain ⟨t2, l2, h2⟩ := ih t' l r
      exact ⟨t2, by omega, h2⟩
    · exact ⟨t, Nat.le_refl _, h, fun t' l r => q ⟨t', l, r⟩⟩
theorem Lu.one {t' : Nat} (h : Lu M t d) (h' : Lu M t' d) : t = t' := Nat.le_antisymm (Nat.le_of_not_lt fun q => h.2 t' q h'.1) (Nat.le_of_not_lt fun q => h'.2 t q h.1)
theorem Lu.small (hd : d < 2 ^ M.2.1.length) (h : Lu M t d) : t < M.2.1.length := Classical.byContradiction fun c => h.1 (quiet_all hd (fun k hk => Classical.byContradiction fun z => h.2 k (by omega) z) t)
theorem Lu.pred (h : Lu M (t + 1) d) : Lu M t (nxV M d) := ⟨Un.succ.mp h.1, fun t' l q => h.2 (t' + 1) (by omega) (Un.succ.mpr q)⟩
theorem Lu.down (h : ∀ d, d < 2 ^ M.2.1.length → ¬ Lu M t d) : ∀ k d, d < 2 ^ M.2.1.length → ¬ Lu M (t + k) d
  | 0, d, hd, q => h d hd q
  | k + 1, d, hd, q => Lu.down h k _ (nx_lt M d) q.pred
end
theorem has_valP {κ α : Type} [DecidableEq κ] {d : List (κ × α)} {s : κ} : hasT d s = true ↔ ∃ t, valT d s = some t := by
  unfold hasT
  cases valT d s with
  | none => exact ⟨fun z => (by cases z), fun ⟨_, z⟩ => (by cases z)⟩
  | some t => exact ⟨fun _ => ⟨t, rfl⟩, fun _ => rfl⟩
structure FI (M : Mach) (τ : Nat) (f : List ((Nat × Nat) × Nat)) : Prop where
  v : ∀ a b, a < 2 ^ M.2.1.length → b < 2 ^ M.2.1.length → ∀ t, valT f (a, b) = some t ↔ (t < τ ∧ Lu M t (a ^^^ b))
  len : f.length ≤ τ * (2 ^ M.2.1.length * 2 ^ M.2.1.length)
theorem forW_first {α : Type} {xs : List α} {body : α → Unit → (Unit → Prop) → (Unit → Prop) → Prop} {k : Unit → Prop} (ne : xs ≠ []) (hb : ∀ x ∈ xs, ∀ nx bk, body x () nx bk) : forW xs () body k := by
  cases xs with
  | nil => exact absurd rfl ne
  | cons x xs => exact hb x (List.mem_cons_self ..) _ _
theorem w_is_unlike {M : Mach} {τ : Nat} {f : List ((Nat × Nat) × Nat)} (F : FI M τ f) {a b : Nat} (ha : a < 2 ^ M.2.1.length) (hb : b < 2 ^ M.2.1.length) (hn : ∀ t, t < τ → ¬ Un M t (a ^^^ b)) {R : Bool → Prop} (h : R (decide (Un M τ (a ^^^ b)))) : W_is_unlike (stepsL M) f a b τ R := by
  refine ⟨stepL M a, stepsL_at ha, stepL M b, stepsL_at hb, ?_⟩
  have e : (stepL M a).zip (stepL M b) = (List.range (2 ^ M.1)).map fun r => ((outV M a r, nextV M a r), (outV M b r, nextV M b r)) := by
    unfold stepL; rw [List.zip_map']
  rw [e]
  have o1 : ∀ r, outV M a r ≠ outV M b r ↔ Un M 0 (a ^^^ b) := fun r => by
    show _ ↔ outV M (a ^^^ b) 0 ≠ 0
    rw [← out_diff M a b r]
    exact ⟨fun z q => z (xor0 q), fun z q => z (by rw [q, Nat.xor_self])⟩
  have o2 : ∀ r, 0 < τ → (getZ (valT f (nextV M a r, nextV M b r)) (-1) = (((τ : Nat) : Int) - ((1 : Nat) : Int)) ↔ Un M τ (a ^^^ b)) := fun r h0 => by
    have fv := F.v (nextV M a r) (nextV M b r) (bitsV_lt ..) (bitsV_lt ..)
    rw [nx_diff] at fv
    have et : τ = (τ - 1) + 1 := by omega
    constructor
    · intro z
      cases q : valT f (nextV M a r, nextV M b r) with
      | none =>
        rw [q] at z
        have z : (-1 : Int) = ((τ : Nat) : Int) - ((1 : Nat) : Int) := z
        omega
      | some x =>
        rw [q] at z
        have z : ((x : Nat) : Int) = ((τ : Nat) : Int) - ((1 : Nat) : Int) := z
        have ex : x = τ - 1 := by omega
        rw [ex] at q
        rw [et]
        exact Un.succ.mpr ((fv _).mp q).2.1
    · intro z
      have z0 := z
      rw [et] at z
      have l : Lu M (τ - 1) (nxV M (a ^^^ b)) := ⟨Un.succ.mp z, fun t' q c => hn (t' + 1) (by omega) (Un.succ.mpr c)⟩
      rw [(fv _).mpr ⟨by omega, l⟩]
      show ((τ - 1 : Nat) : Int) = ((τ : Nat) : Int) - ((1 : Nat) : Int)
      omega
  by_cases U : Un M τ (a ^^^ b)
  · rw [decide_eq_true U] at h
    refine forW_first (fun z => ?_) fun x hx nx bk => ?_
    · have := congrArg List.length z
      rw [List.length_map, List.length_range] at this
      have p := Nat.two_pow_pos M.1
      rw [this] at p; exact absurd p (Nat.lt_irrefl _)
    · obtain ⟨r, _, ex⟩ := List.mem_map.mp hx
      subst ex
      refine jnI ?_
      by_cases c : τ = 0
      · rw [if_pos c]
        show if decide (outV M a r ≠ outV M b r) = true then _ else _
        rw [c] at U
        rw [decide_eq_true ((o1 r).mpr U), if_pos rfl]; exact h
      · rw [if_neg c]
        show if false = true then _ else _
        rw [if_neg (by decide)]
        refine jnI ?_
        rw [if_pos (by omega)]
        show if decide (_ = _) = true then _ else _
        rw [decide_eq_true ((o2 r (by omega)).mpr U), if_pos rfl]; exact h
  · rw [decide_eq_false U] at h
    refine forW_unit (fun x hx nx bk hn2 => ?_) h
    obtain ⟨r, _, ex⟩ := List.mem_map.mp hx
    subst ex
    refine jnI ?_
    by_cases c : τ = 0
    · rw [if_pos c]
      show if decide (outV M a r ≠ outV M b r) = true then _ else _
      rw [c] at U
      rw [decide_eq_false (fun z => U ((o1 r).mp z)), if_neg (by decide)]
      refine jnI ?_
      rw [if_neg (by omega)]
      show if false = true then _ else _
      rw [if_neg (by decide)]; exact hn2
    · rw [if_neg c]
      show if false = true then _ else _
      rw [if_neg (by decide)]
      refine jnI ?_
      rw [if_pos (by omega)]
      show if decide (_ = _) = true then _ else _
      rw [decide_eq_false (fun z => U ((o2 r (by omega)).mp z)), if_neg (by decide)]; exact hn2
theorem range_at {n x : Nat} {pre post : List Nat} (e : List.range n = pre ++ x :: post) : x = pre.length ∧ pre.length < n := by
  have pl : pre.length < n := by
    have := congrArg List.length e
    rw [List.length_range, List.length_append, List.length_cons] at this; omega
  have a : (List.range n)[pre.length]? = some x := by rw [e, List.getElem?_append_right (Nat.le_refl _), Nat.sub_self]; rfl
  rw [List.getElem?_range pl] at a
  exact ⟨(Option.some.inj a).symm, pl⟩
theorem w_first_unlike {M : Mach} (hn : M.2.1.length ≤ 4) {R : List ((Nat × Nat) × Nat) → Prop} (h : ∀ f, (∀ a b, a < 2 ^ M.2.1.length → b < 2 ^ M.2.1.length → ∀ t, valT f (a, b) = some t ↔ Lu M t (a ^^^ b)) → R f) : W_first_unlike (stepsL M) R := by
  have pN : 2 ^ M.2.1.length ≤ 16 := Nat.le_trans (Nat.pow_le_pow_right (by decide) hn) (by decide)
  intro many em
  rw [stepsL_len] at em
  have pos := Nat.two_pow_pos M.2.1.length
  have xl : ∀ {a b : Nat}, a < 2 ^ M.2.1.length → b < 2 ^ M.2.1.length → a ^^^ b < 2 ^ M.2.1.length := fun ha hb => Nat.xor_lt_two_pow ha hb
  refine ⟨fun m (x : Bool × List ((Nat × Nat) × Nat) × Nat) => m + x.2.2 = M.2.1.length + 3 ∧ FI M x.2.2 x.2.1 ∧ (x.1 = true → x.2.2 ≤ M.2.1.length) ∧ (x.1 = false → ∀ d, d < 2 ^ M.2.1.length → ∀ t, Lu M t d → t < x.2.2),
    ⟨M.2.1.length + 3, rfl, ⟨fun a b _ _ t => ⟨fun z => (by cases z), fun z => absurd z.1 (Nat.not_lt_zero _)⟩, Nat.zero_le _⟩, fun _ => Nat.zero_le _, fun z => (by cases z)⟩, fun m x ⟨hm, F, h1, h2⟩ => ?_⟩
  obtain ⟨more, f, τ⟩ := x
  have hm : m + τ = M.2.1.length + 3 := hm
  have F : FI M τ f := F
  show if decide (more = true) = true then _ else _
  cases more with
  | false =>
    rw [decide_eq_false (by decide), if_neg (by decide)]
    refine h f fun a b ha hb t => ?_
    rw [F.v a b ha hb]
    exact ⟨fun z => z.2, fun z => ⟨h2 rfl _ (xl ha hb) t z, z⟩⟩
  | true =>
    have h1 : τ ≤ M.2.1.length := h1 rfl
    rw [decide_eq_true rfl, if_pos rfl]
    generalize hN : 2 ^ M.2.1.length = N at *
    subst em
    have nn : many * many ≤ 16 * 16 := Nat.mul_le_mul pN pN
    have fl : f.length ≤ 4 * 256 := Nat.le_trans F.len (by rw [hN]; exact Nat.mul_le_mul (by omega) nn)
    have no : ∀ {a b : Nat}, a < many → b < many → ¬ hasT f (a, b) = true → ∀ t, t < τ → ¬ Un M t (a ^^^ b) := fun {a b} ha hb hh t ht u => by
      obtain ⟨t', l, q⟩ := Lu.ex u
      exact hh (has_valP.mpr ⟨t', (F.v a b (by rw [hN]; exact ha) (by rw [hN]; exact hb) t').mpr ⟨by omega, q⟩⟩)
    refine ⟨by omega, forW_ind (fun pre (fr : List (Nat × Nat)) => (∀ a b, (a, b) ∈ fr ↔ (a < pre.length ∧ b < many ∧ Lu M τ (a ^^^ b))) ∧ fr.length ≤ pre.length * many) ⟨fun a b => ⟨fun z => (by cases z), fun z => absurd z.1 (Nat.not_lt_zero _)⟩, Nat.zero_le _⟩ (fun pre one post fr nx bk e P hx _ => ?_) fun fr P => ?_⟩
    · obtain ⟨e1, pl⟩ := range_at e
      subst e1
      refine ⟨by omega, forW_ind (fun pre2 (fr2 : List (Nat × Nat)) => (∀ a b, (a, b) ∈ fr2 ↔ (((a < pre.length ∧ b < many) ∨ (a = pre.length ∧ b < pre2.length)) ∧ Lu M τ (a ^^^ b))) ∧ fr2.length ≤ pre.length * many + pre2.length) ⟨fun a b => ?_, P.2⟩ (fun pre2 other post2 fr2 nx2 bk2 e2 P2 hx2 _ => ?_) fun fr2 P2 => ?_⟩
      · rw [P.1]
        constructor
        · rintro ⟨z1, z2, z3⟩; exact ⟨.inl ⟨z1, z2⟩, z3⟩
        · rintro ⟨z | ⟨_, z⟩, w⟩
          · exact ⟨z.1, z.2, w⟩
          · exact absurd z (Nat.not_lt_zero _)
      · obtain ⟨e3, pl2⟩ := range_at e2
        subst e3
        have lf2 : fr2.length < 1000000 := by
          have := P2.2
          have : pre.length * many ≤ 16 * 16 := Nat.mul_le_mul (by omega) pN
          omega
        have yes : Lu M τ (pre.length ^^^ pre2.length) → nx2 (fr2 ++ [(pre.length, pre2.length)]) := fun u => hx2 _ ⟨fun a b => by
          rw [List.mem_append, List.mem_singleton, P2.1, List.length_append, List.length_singleton, Prod.mk.injEq]
          constructor
          · rintro (⟨z1, z2⟩ | ⟨z1, z2⟩)
            · exact ⟨z1.imp id fun q => ⟨q.1, by omega⟩, z2⟩
            · exact ⟨.inr ⟨z1, by omega⟩, by rw [z1, z2]; exact u⟩
          · rintro ⟨z1, z2⟩
            rcases z1 with z1 | z1
            · exact .inl ⟨.inl z1, z2⟩
            · by_cases c : b < pre2.length
              · exact .inl ⟨.inr ⟨z1.1, c⟩, z2⟩
              · exact .inr ⟨z1.1, by omega⟩, by rw [List.length_append, List.length_append]; have := P2.2; show fr2.length + 1 ≤ _ + (pre2.length + 1); omega⟩
        have nay : ¬ Lu M τ (pre.length ^^^ pre2.length) → nx2 fr2 := fun u => hx2 _ ⟨fun a b => by
          rw [P2.1, List.length_append, List.length_singleton]
          constructor
          · rintro ⟨z1, z2⟩; exact ⟨z1.imp id fun q => ⟨q.1, by omega⟩, z2⟩
          · rintro ⟨z1, z2⟩
            rcases z1 with z1 | z1
            · exact ⟨.inl z1, z2⟩
            · by_cases c : b < pre2.length
              · exact ⟨.inr ⟨z1.1, c⟩, z2⟩
              · exact absurd (by rw [z1.1, show b = pre2.length by omega] at z2; exact z2) u, by rw [List.length_append]; have := P2.2; show fr2.length ≤ _ + (pre2.length + 1); omega⟩
        refine jnI ?_
        by_cases c : hasT f (pre.length, pre2.length) = true
        · rw [c, if_neg (by decide)]
          show if false = true then _ else _
          rw [if_neg (by decide)]
          refine nay fun u => ?_
          obtain ⟨t, ht⟩ := has_valP.mp c
          obtain ⟨t1, t2⟩ := (F.v _ _ (by rw [hN]; exact pl) (by rw [hN]; exact pl2) t).mp ht
          have := t2.one u
          omega
        · have c' : hasT f (pre.length, pre2.length) = false := by
            cases q : hasT f (pre.length, pre2.length) with
            | false => rfl
            | true => exact absurd q c
          rw [c', if_pos (show (!false) = true from rfl)]
          have nu := no pl pl2 c
          refine w_is_unlike F (by rw [hN]; exact pl) (by rw [hN]; exact pl2) nu ?_
          by_cases u : Un M τ (pre.length ^^^ pre2.length)
          · rw [decide_eq_true u]
            show if true = true then _ else _
            rw [if_pos rfl]
            exact ⟨lf2, yes ⟨u, nu⟩⟩
          · rw [decide_eq_false u]
            show if false = true then _ else _
            rw [if_neg (by decide)]
            exact nay fun z => u z.1
      · refine hx _ ⟨fun a b => ?_, ?_⟩
        · rw [P2.1, List.length_range, List.length_append, List.length_singleton]
          constructor
          · rintro ⟨z1 | z1, z2⟩
            · exact ⟨by omega, z1.2, z2⟩
            · exact ⟨by omega, z1.2, z2⟩
          · rintro ⟨z1, z2, z3⟩
            by_cases c : a < pre.length
            · exact ⟨.inl ⟨c, z2⟩, z3⟩
            · exact ⟨.inr ⟨by omega, z2⟩, z3⟩
        · have := P2.2
          rw [List.length_range] at this
          rw [List.length_append, List.length_singleton, Nat.add_mul, Nat.one_mul]; exact this
    · obtain ⟨P1, P2⟩ := P
      rw [List.length_range] at P1 P2
      refine forW_ind (fun pre (x : List ((Nat × Nat) × Nat) × Bool) => (∀ j, valT x.1 j = if j ∈ pre then some τ else valT f j) ∧ (x.2 = true ↔ pre ≠ []) ∧ x.1.length ≤ f.length + pre.length) ⟨fun j => by rw [if_neg (by simp)], by simp, Nat.le_refl _⟩ (fun pre p post x nx bk e Q hx _ => ?_) fun x Q => ?_
      · obtain ⟨f2, m2⟩ := x
        obtain ⟨q1, q2, q3⟩ := Q
        have q3 : f2.length ≤ f.length + pre.length := q3
        have lp : pre.length ≤ fr.length := by rw [e, List.length_append]; omega
        refine ⟨by omega, hx _ ⟨fun j => ?_, by simp, ?_⟩⟩
        · show valT (putT f2 p τ) j = _
          rw [valT_putT, q1 j]
          by_cases c : p = j
          · rw [if_pos c, if_pos (by rw [List.mem_append]; exact .inr (by rw [c]; simp))]
          · rw [if_neg c]
            by_cases d : j ∈ pre
            · rw [if_pos d, if_pos (List.mem_append.mpr (.inl d))]
            · rw [if_neg d, if_neg]
              intro z
              rcases List.mem_append.mp z with z | z
              · exact d z
              · exact c (List.mem_singleton.mp z).symm
        · have := putT_len (m := f2) (j := p) (x := τ)
          rw [List.length_append, List.length_singleton]
          show (putT f2 p τ).length ≤ _
          omega
      · obtain ⟨f2, m2⟩ := x
        obtain ⟨q1, q2, q3⟩ := Q
        have q3 : f2.length ≤ f.length + fr.length := q3
        have q2 : m2 = true ↔ fr ≠ [] := q2
        rintro _ rfl
        refine ⟨m - 1, by omega, by show m - 1 + (τ + 1) = _; omega, ⟨fun a b ha hb t => ?_, ?_⟩, fun z => ?_, fun z d hd t u => ?_⟩
        · show valT f2 (a, b) = some t ↔ (t < τ + 1 ∧ Lu M t (a ^^^ b))
          rw [q1]
          rw [hN] at ha hb
          by_cases c : (a, b) ∈ fr
          · obtain ⟨_, _, u⟩ := (P1 a b).mp c
            rw [if_pos c]
            constructor
            · intro z
              have z := Option.some.inj z
              rw [← z]; exact ⟨by omega, u⟩
            · rintro ⟨_, z⟩
              rw [u.one z]
          · rw [if_neg c, F.v a b (by rw [hN]; exact ha) (by rw [hN]; exact hb)]
            constructor
            · rintro ⟨z1, z2⟩; exact ⟨by omega, z2⟩
            · rintro ⟨z1, z2⟩
              refine ⟨?_, z2⟩
              by_cases d : t = τ
              · rw [d] at z2
                exact absurd ((P1 a b).mpr ⟨ha, hb, z2⟩) c
              · omega
        · show f2.length ≤ (τ + 1) * (2 ^ M.2.1.length * 2 ^ M.2.1.length)
          have := F.len
          rw [hN] at this
          rw [hN, Nat.add_mul, Nat.one_mul]; exact Nat.le_trans q3 (Nat.add_le_add this P2)
        · obtain ⟨p, hp⟩ := List.exists_mem_of_ne_nil fr (q2.mp z)
          obtain ⟨a, b⟩ := p
          obtain ⟨z1, z2, z3⟩ := (P1 a b).mp hp
          have := z3.small (by rw [← hN] at z1 z2; exact Nat.xor_lt_two_pow z1 z2)
          show τ + 1 ≤ _
          omega
        · show t < τ + 1
          have none : ∀ d, d < 2 ^ M.2.1.length → ¬ Lu M τ d := fun d hd u => by
            have : (d, 0) ∈ fr := (P1 d 0).mpr ⟨by rw [← hN]; exact hd, by omega, by rw [Nat.xor_zero]; exact u⟩
            by_cases c : fr = []
            · rw [c] at this; cases this
            · rw [q2.mpr c] at z; cases z
          by_cases c : t < τ + 1
          · exact c
          · have := Lu.down none (t - τ) d (by rw [hN]; exact hd)
            rw [show τ + (t - τ) = t by omega] at this
            exact absurd u this
theorem w_apart_right {M : Mach} (hM : MOk M) {un : List ((Nat × Nat) × Nat)} (hu : ∀ a b, a < 2 ^ M.2.1.length → b < 2 ^ M.2.1.length → ∀ t, valT un (a, b) = some t ↔ Lu M t (a ^^^ b)) {a b : Nat} (ha : a < 2 ^ M.2.1.length) (hb : b < 2 ^ M.2.1.length) {R : Bool → Prop} (h : R true) : W_apart_right M un a b R := by
  refine w_told_apart hM ha hb fun z G _ => ?_
  have word : ¬ (PySem.Str.ofString "alike" = PySem.Str.ofString "apart") := by decide +kernel
  have ap : ∀ t o, (∀ k, k < t → outV M (itV (nxV M) (a ^^^ b) k) 0 = 0) → (outV M (itV (nxV M) (a ^^^ b) t) 0).testBit o = true → Lu M t (a ^^^ b) := fun t o q1 q2 => ⟨fun z => (by rw [z, Nat.zero_testBit] at q2; cases q2), fun t' l u => u (q1 t' l)⟩
  by_cases c : hasT un (a, b) = true
  · rw [if_pos c]
    obtain ⟨t, ht⟩ := has_valP.mp c
    have L := (hu a b ha hb t).mp ht
    refine jnI ?_
    rcases G with ⟨t', o, rfl, _, g1, g2⟩ | ⟨rfl, g⟩ | ⟨ms, su, rfl, _, _, g⟩
    · show if Str.ofString "apart" = Str.ofString "apart" then _ else _
      rw [if_pos rfl]
      refine ⟨_, rfl, t, ht, ?_⟩
      show R (decide (t' = t))
      rw [decide_eq_true ((ap t' o g1 g2).one L)]; exact h
    · refine absurd ?_ L.1
      rw [g, it_zero0, out_zero]
    · exact absurd (g t) L.1
  · rw [if_neg c]
    rcases G with ⟨t', o, rfl, _, g1, g2⟩ | ⟨rfl, g⟩ | ⟨ms, su, rfl, _, _, g⟩
    · exact absurd (has_valP.mpr ⟨t', (hu a b ha hb t').mpr (ap t' o g1 g2)⟩) c
    · show R (decide (Str.ofString "alike" = Str.ofString "alike"))
      rw [decide_eq_true rfl]; exact h
    · show R (decide (Str.ofString "alike" = Str.ofString "alike"))
      rw [decide_eq_true rfl]; exact h
end My
namespace My
open Wk PySem
theorem w_come_right {M : Mach} (hM : MOk M) (hn : M.2.1.length ≤ 16) {R : Bool → Prop} (h : R true) : W_come_right M (stepsL M) R := by
  have p1 : 2 ^ M.2.1.length < 1000000 := p4 hn (by decide)
  refine w_least_turns hn fun d hd => ⟨by rw [stepsL_len]; exact p1, ?_⟩
  rw [stepsL_len]
  refine forW_unit (fun s hs nx bk hx => ?_) h
  have hs := List.mem_range.mp hs
  refine w_come_to hM hs fun z G => jnI ?_
  have word : ¬ (PySem.Str.ofString "never" = PySem.Str.ofString "come") := by decide +kernel
  have come : ∀ rows : List Nat, (∀ r ∈ rows, r < 2 ^ M.1) → stV M rows 0 = s → rows.length ≤ M.2.1.length → (rows ≠ [] → ¬ Span (rbV M (rows.length - 1)) s) → Lst M rows.length s := fun rows h1 h2 h3 h4 => ⟨⟨rows, rfl, h1, h2⟩, fun t' l r => by
    have ne : rows ≠ [] := fun z => by rw [z] at l; exact absurd l (Nat.not_lt_zero _)
    exact h4 ne ((r.le (show t' ≤ rows.length - 1 by omega)).span (by omega))⟩
  by_cases c : hasT d s = true
  · rw [if_pos c]
    obtain ⟨t, ht⟩ := has_val.mp c
    have L := (hd s t).mp ht
    rcases G with ⟨rows, m, rfl, g1, g2, g3, _, _, g4⟩ | ⟨ms, su, x0, rfl, _, _, _, g⟩
    · show if Str.ofString "come" ≠ Str.ofString "come" then _ else _
      rw [if_neg (fun z => z rfl)]
      have e := (come rows g2 g3 g1 fun z => (g4 z).2.2).one L
      refine ⟨t, ht, ?_⟩
      show if decide (rows.length ≠ t) = true then _ else _
      rw [decide_eq_false (fun z => z e), if_neg (by decide)]
      refine jnI ?_
      rw [if_neg (fun z => z c)]
      show if false = true then _ else _
      rw [if_neg (by decide)]; exact hx
    · exact absurd ((L.1.le L.small).span (Nat.le_refl _)) g
  · rw [if_neg c]
    show if false = true then _ else _
    rw [if_neg (by decide)]
    refine jnI ?_
    rw [if_pos c]
    rcases G with ⟨rows, m, rfl, g1, g2, g3, _, _, g4⟩ | ⟨ms, su, x0, rfl, _, _, _, g⟩
    · exact absurd (has_val.mpr ⟨_, (hd s _).mpr (come rows g2 g3 g1 fun z => (g4 z).2.2)⟩) c
    · show if decide (Str.ofString "never" ≠ Str.ofString "never") = true then _ else _
      rw [decide_eq_false (fun z => z rfl), if_neg (by decide)]; exact hx
def RchF (M : Mach) (a k s : Nat) : Prop := ∃ rows : List Nat, rows.length = k ∧ (∀ r ∈ rows, r < 2 ^ M.1) ∧ stV M rows a = s
theorem RchF.succ {M : Mach} {a k s : Nat} : RchF M a (k + 1) s ↔ ∃ s0 r, RchF M a k s0 ∧ r < 2 ^ M.1 ∧ nextV M s0 r = s := by
  constructor
  · rintro ⟨rows, l, h, e⟩
    have ne : rows ≠ [] := fun z => by rw [z] at l; cases l
    have eq := List.dropLast_concat_getLast ne
    rw [← eq, st_app] at e
    exact ⟨stV M rows.dropLast a, rows.getLast ne, ⟨rows.dropLast, by rw [List.length_dropLast]; omega, fun r hr => h r (List.dropLast_subset _ hr), rfl⟩, h _ (List.getLast_mem ne), e⟩
  · rintro ⟨s0, r, ⟨rows, l, h, e⟩, hr, e2⟩
    refine ⟨rows ++ [r], by rw [List.length_append, l]; rfl, fun q hq => ?_, by rw [st_app, e]; exact e2⟩
    rcases List.mem_append.mp hq with z | z
    · exact h q z
    · rw [List.mem_singleton.mp z]; exact hr
theorem w_brought_right {M : Mach} (hM : MOk M) (hn : M.2.1.length ≤ 4) {a b k : Nat} (ha : a < 2 ^ M.2.1.length) (hb : b < 2 ^ M.2.1.length) (hk : k ≤ 40) {R : Bool → Prop} (h : R true) : W_brought_right M (stepsL M) a b k R := by
  have pN : 2 ^ M.2.1.length ≤ 16 := Nat.le_trans (Nat.pow_le_pow_right (by decide) hn) (by decide)
  refine ⟨by omega, forW_ind (fun pre (x : List (Nat × Bool)) => ∀ s, s ∈ x.map (·.1) ↔ RchF M a pre.length s) (fun s => ?_) (fun pre k' post here nx bk e P hx _ => ?_) fun here P => ?_⟩
  · show s ∈ [a] ↔ _
    rw [List.mem_singleton]
    constructor
    · intro z; exact ⟨[], rfl, fun r hr => (by cases hr), z.symm⟩
    · rintro ⟨rows, l, _, z⟩
      rw [List.length_eq_zero_iff.mp l] at z
      exact z.symm
  · refine forW_ind (fun pre2 (lt : List (Nat × Bool)) => (∀ s, s ∈ lt.map (·.1) ↔ ∃ s0 ∈ pre2, ∃ r, r < 2 ^ M.1 ∧ nextV M s0 r = s) ∧ (lt.map (·.1)).Nodup) ⟨fun s => ⟨fun z => (by cases z), fun ⟨_, z, _⟩ => (by cases z)⟩, List.nodup_nil⟩ (fun pre2 s0 post2 lt nx2 bk2 e2 P2 hx2 _ => ?_) fun lt P2 => hx _ fun s => ?_
    · have m0 : s0 ∈ here.map (·.1) := by rw [e2]; simp
      obtain ⟨rows, _, _, er⟩ := (P s0).mp m0
      have l0 : s0 < 2 ^ M.2.1.length := by rw [← er]; exact st_lt ha
      refine ⟨stepL M s0, stepsL_at l0, forW_ind (fun pre3 (lt : List (Nat × Bool)) => (∀ s, s ∈ lt.map (·.1) ↔ (∃ s0 ∈ pre2, ∃ r, r < 2 ^ M.1 ∧ nextV M s0 r = s) ∨ ∃ y ∈ pre3, y.2 = s) ∧ (lt.map (·.1)).Nodup) ⟨fun s => by rw [P2.1]; simp, P2.2⟩ (fun pre3 y post3 lt3 nx3 bk3 e3 P3 hx3 _ => ?_) fun lt3 P3 => hx2 _ ⟨fun s => ?_, P3.2⟩⟩
      · have kb : ∀ s ∈ lt3.map (·.1), s < 2 ^ M.2.1.length := fun s hs => by
          rcases (P3.1 s).mp hs with ⟨s1, _, r, _, z⟩ | ⟨y', hy, z⟩
          · rw [← z]; exact bitsV_lt ..
          · have : y' ∈ stepL M s0 := by rw [e3]; exact List.mem_append_left _ hy
            obtain ⟨r, _, ey⟩ := stepL_mem.mp this
            rw [← z, ey]; exact bitsV_lt ..
        have ln := nodup_len P3.2 kb
        rw [List.length_map] at ln
        refine ⟨by omega, hx3 _ ⟨fun s => ?_, putT_nd P3.2⟩⟩
        rw [putT_in, P3.1]
        constructor
        · rintro (z | z | ⟨y', hy, z⟩)
          · exact .inr ⟨y, by simp, z.symm⟩
          · exact .inl z
          · exact .inr ⟨y', List.mem_append_left _ hy, z⟩
        · rintro (z | ⟨y', hy, z⟩)
          · exact .inr (.inl z)
          · rcases List.mem_append.mp hy with q | q
            · exact .inr (.inr ⟨y', q, z⟩)
            · rw [List.mem_singleton.mp q] at z; exact .inl z.symm
      · rw [P3.1]
        constructor
        · rintro (⟨s1, m1, z⟩ | ⟨y, hy, z⟩)
          · exact ⟨s1, List.mem_append_left _ m1, z⟩
          · obtain ⟨r, hr, ey⟩ := stepL_mem.mp hy
            exact ⟨s0, by simp, r, hr, by rw [← z, ey]⟩
        · rintro ⟨s1, m1, r, hr, z⟩
          rcases List.mem_append.mp m1 with q | q
          · exact .inl ⟨s1, q, r, hr, z⟩
          · rw [List.mem_singleton.mp q] at z
            exact .inr ⟨_, stepL_mem.mpr ⟨r, hr, rfl⟩, z⟩
    · rw [P2.1, List.length_append, List.length_singleton, RchF.succ]
      constructor
      · rintro ⟨s0, m0, r, hr, z⟩
        exact ⟨s0, r, (P s0).mp m0, hr, z⟩
      · rintro ⟨s0, r, m0, hr, z⟩
        exact ⟨s0, (P s0).mpr m0, r, hr, z⟩
  · rw [List.length_range] at P
    have fin : ∀ z, Good M a b k z → (decide (z.1 = PySem.Str.ofString "rows") = decide (hasT here b = true)) := fun z G => by
      rcases G with ⟨rows, rfl, g1, g2, g3⟩ | ⟨m, rfl, _, g, _⟩
      · rw [decide_eq_true rfl, decide_eq_true (hasT_iff.mpr ((P b).mpr ⟨rows, g1, g2, g3⟩))]
      · rw [decide_eq_false (show ¬ ((PySem.Str.ofString "no", (Sum.inr m : Sum (List Nat) Nat)).1 = PySem.Str.ofString "rows") from no_rows), decide_eq_false]
        intro c
        obtain ⟨rows, l, hr, e⟩ := (P b).mp (hasT_iff.mp c)
        have := st_late M k rows a (by omega) hr
        rw [e, l] at this
        exact g this
    rcases w_broughtN hM ha hb hk with q | ⟨z, G, q⟩
    · exact q _ _ _
    · refine q _ _ _ ?_
      show R (decide (decide (z.1 = PySem.Str.ofString "rows") = decide (hasT here b = true)))
      rw [decide_eq_true (fin z G)]; exact h
theorem w_law {s : List Int} (hs : s.length ≤ 63) {R : Bool → Prop} (h : R true) : W_law s R := by
  refine w_lmachine (by decide : 4 ≤ 16) fun M0 D => jnI ?_
  have hM0 := D.toMOk
  suffices go : ∀ M : Mach, MOk M → M.2.1.length ≤ 4 → M.1 ≤ 3 → W_Machine___init__ M.1 M.2.1 M.2.2 fun z2 => W_steps M fun z3 => W_first_unlike z3 fun z4 => W_come_right z2 z3 fun z5 => if z5 = true then (((cutT s (some 5) (some 11)).length + [((1 : Nat) : Int)].length < 1000000) ∧ forW ((cutT s (some 5) (some 11)) ++ [((1 : Nat) : Int)]) () (fun cell_here1 _ nx2 bk1 => (0 < z3.length) ∧ ∀ one1 : Nat, one1 = modN (cell_here1 / ((8 : Nat) : Int)) z3.length → (0 < z3.length) ∧ ∀ other1 : Nat, other1 = modN (cell_here1 / ((256 : Nat) : Int)) z3.length → W_apart_right z2 z4 one1 other1 fun z7 => if z7 = true then (W_brought_right z2 z3 one1 other1 (modN cell_here1 8) fun z9 => if z9 = true then (nx2 ()) else (R false)) else (R false)) fun _ => R true) else (R false) by
    refine jnI ?_
    have small : MOk ((0, [], [(0, 0)]) : Mach) := ⟨Nat.zero_le _, Nat.zero_le _, by decide, fun p hp => (by cases hp), fun p hp => by
      rw [List.mem_singleton.mp hp]; exact ⟨Nat.two_pow_pos _, Nat.two_pow_pos _⟩⟩
    by_cases c : 4 < M0.2.1.length
    · rw [if_pos c]
      show if true = true then _ else _
      rw [if_pos rfl]
      exact go (0, [], [(0, 0)]) small (Nat.zero_le _) (Nat.zero_le _)
    · rw [if_neg c]
      show if decide (3 < M0.1) = true then _ else _
      by_cases c2 : 3 < M0.1
      · rw [decide_eq_true c2, if_pos rfl]
        exact go (0, [], [(0, 0)]) small (Nat.zero_le _) (Nat.zero_le _)
      · rw [decide_eq_false c2, if_neg (by decide)]
        exact go M0 hM0 (by omega) (by omega)
  intro M hM n4 m3
  have pos := Nat.two_pow_pos M.2.1.length
  refine w_machine_init hM (w_steps hM (by omega) (w_first_unlike n4 fun f hf => w_come_right hM (by omega) ?_))
  rw [if_pos rfl, stepsL_len]
  refine ⟨?_, forW_unit (fun c _ nx bk hx => ⟨pos, ?_⟩) h⟩
  · show ((s.drop 5).take (11 - 5)).length + 1 < 1000000
    rw [List.length_take, List.length_drop]; omega
  · intro one e1
    refine ⟨pos, ?_⟩
    intro other e2
    have l1 : one < 2 ^ M.2.1.length := by rw [e1]; exact modN_lt pos
    have l2 : other < 2 ^ M.2.1.length := by rw [e2]; exact modN_lt pos
    refine w_apart_right hM hf l1 l2 ?_
    rw [if_pos rfl]
    refine w_brought_right hM n4 l1 l2 (Nat.le_of_lt (Nat.lt_of_lt_of_le (modN_lt (by decide)) (by decide))) ?_
    rw [if_pos rfl]; exact hx
end My
namespace My
open PySem L2 Wk
theorem all_mk {l : PySem.W.OpenLaw} {w : World} {K : PySem.W.Frag} {h : Heap} {mg : Str → Option Value} {fa f_is_whole f_is_mask f_even f_bits_of f_Steps_lowered f_Steps_crossing f_Steps___init__ f_sum_for f_is_pairs f_bit_of f_bits_by f_Machine___init__ f_Machine_stores f_Machine_need f_Machine_step f_Machine_walk f_Machine_after f_Machine_back f_need_state f_reached_by f_rows_at f_closed f_within f_come_to f_first_bit f_told_apart f_brought f_cell f_mix f_masks f_thinned f_machine f_odd f_bits f_steps f_least_turns f_is_unlike f_first_unlike f_come_right f_apart_right f_brought_right f_law C_Machine C_Steps C_BadMask C_BadRow : Addr} (X : K.In h) (G : h.Ns mainGlobals mg) (hfa : mg "law" = some (.ref fa))
    {oc_is_whole kV_is_whole dc_is_whole pm_is_whole cd_is_whole ct_is_whole : Value} {od_is_whole an_is_whole : Option Addr} {sl_is_whole : Array (Option Value)} {oc_is_mask kV_is_mask dc_is_mask pm_is_mask cd_is_mask ct_is_mask : Value} {od_is_mask an_is_mask : Option Addr} {sl_is_mask : Array (Option Value)} {oc_even kV_even dc_even pm_even cd_even ct_even : Value} {od_even an_even : Option Addr} {sl_even : Array (Option Value)} {oc_bits_of kV_bits_of dc_bits_of pm_bits_of cd_bits_of ct_bits_of : Value} {od_bits_of an_bits_of : Option Addr} {sl_bits_of : Array (Option Value)} {oc_Steps_lowered kV_Steps_lowered dc_Steps_lowered pm_Steps_lowered cd_Steps_lowered ct_Steps_lowered : Value} {od_Steps_lowered an_Steps_lowered : Option Addr} {sl_Steps_lowered : Array (Option Value)} {oc_Steps_crossing kV_Steps_crossing dc_Steps_crossing pm_Steps_crossing cd_Steps_crossing ct_Steps_crossing : Value} {od_Steps_crossing an_Steps_crossing : Option Addr} {sl_Steps_crossing : Array (Option Value)} {oc_Steps___init__ kV_Steps___init__ dc_Steps___init__ pm_Steps___init__ cd_Steps___init__ ct_Steps___init__ : Value} {od_Steps___init__ an_Steps___init__ : Option Addr} {sl_Steps___init__ : Array (Option Value)} {oc_sum_for kV_sum_for dc_sum_for pm_sum_for cd_sum_for ct_sum_for : Value} {od_sum_for an_sum_for : Option Addr} {sl_sum_for : Array (Option Value)} {oc_is_pairs kV_is_pairs dc_is_pairs pm_is_pairs cd_is_pairs ct_is_pairs : Value} {od_is_pairs an_is_pairs : Option Addr} {sl_is_pairs : Array (Option Value)} {oc_bit_of kV_bit_of dc_bit_of pm_bit_of cd_bit_of ct_bit_of : Value} {od_bit_of an_bit_of : Option Addr} {sl_bit_of : Array (Option Value)} {oc_bits_by kV_bits_by dc_bits_by pm_bits_by cd_bits_by ct_bits_by : Value} {od_bits_by an_bits_by : Option Addr} {sl_bits_by : Array (Option Value)} {oc_Machine___init__ kV_Machine___init__ dc_Machine___init__ pm_Machine___init__ cd_Machine___init__ ct_Machine___init__ : Value} {od_Machine___init__ an_Machine___init__ : Option Addr} {sl_Machine___init__ : Array (Option Value)} {oc_Machine_stores kV_Machine_stores dc_Machine_stores pm_Machine_stores cd_Machine_stores ct_Machine_stores : Value} {od_Machine_stores an_Machine_stores : Option Addr} {sl_Machine_stores : Array (Option Value)} {oc_Machine_need kV_Machine_need dc_Machine_need pm_Machine_need cd_Machine_need ct_Machine_need : Value} {od_Machine_need an_Machine_need : Option Addr} {sl_Machine_need : Array (Option Value)} {oc_Machine_step kV_Machine_step dc_Machine_step pm_Machine_step cd_Machine_step ct_Machine_step : Value} {od_Machine_step an_Machine_step : Option Addr} {sl_Machine_step : Array (Option Value)} {oc_Machine_walk kV_Machine_walk dc_Machine_walk pm_Machine_walk cd_Machine_walk ct_Machine_walk : Value} {od_Machine_walk an_Machine_walk : Option Addr} {sl_Machine_walk : Array (Option Value)} {oc_Machine_after kV_Machine_after dc_Machine_after pm_Machine_after cd_Machine_after ct_Machine_after : Value} {od_Machine_after an_Machine_after : Option Addr} {sl_Machine_after : Array (Option Value)} {oc_Machine_back kV_Machine_back dc_Machine_back pm_Machine_back cd_Machine_back ct_Machine_back : Value} {od_Machine_back an_Machine_back : Option Addr} {sl_Machine_back : Array (Option Value)} {oc_need_state kV_need_state dc_need_state pm_need_state cd_need_state ct_need_state : Value} {od_need_state an_need_state : Option Addr} {sl_need_state : Array (Option Value)} {oc_reached_by kV_reached_by dc_reached_by pm_reached_by cd_reached_by ct_reached_by : Value} {od_reached_by an_reached_by : Option Addr} {sl_reached_by : Array (Option Value)} {oc_rows_at kV_rows_at dc_rows_at pm_rows_at cd_rows_at ct_rows_at : Value} {od_rows_at an_rows_at : Option Addr} {sl_rows_at : Array (Option Value)} {oc_closed kV_closed dc_closed pm_closed cd_closed ct_closed : Value} {od_closed an_closed : Option Addr} {sl_closed : Array (Option Value)} {oc_within kV_within dc_within pm_within cd_within ct_within : Value} {od_within an_within : Option Addr} {sl_within : Array (Option Value)} {oc_come_to kV_come_to dc_come_to pm_come_to cd_come_to ct_come_to : Value} {od_come_to an_come_to : Option Addr} {sl_come_to : Array (Option Value)} {oc_first_bit kV_first_bit dc_first_bit pm_first_bit cd_first_bit ct_first_bit : Value} {od_first_bit an_first_bit : Option Addr} {sl_first_bit : Array (Option Value)} {oc_told_apart kV_told_apart dc_told_apart pm_told_apart cd_told_apart ct_told_apart : Value} {od_told_apart an_told_apart : Option Addr} {sl_told_apart : Array (Option Value)} {oc_brought kV_brought dc_brought pm_brought cd_brought ct_brought : Value} {od_brought an_brought : Option Addr} {sl_brought : Array (Option Value)} {oc_cell kV_cell dc_cell pm_cell cd_cell ct_cell : Value} {od_cell an_cell : Option Addr} {sl_cell : Array (Option Value)} {oc_mix kV_mix dc_mix pm_mix cd_mix ct_mix : Value} {od_mix an_mix : Option Addr} {sl_mix : Array (Option Value)} {oc_masks kV_masks dc_masks pm_masks cd_masks ct_masks : Value} {od_masks an_masks : Option Addr} {sl_masks : Array (Option Value)} {oc_thinned kV_thinned dc_thinned pm_thinned cd_thinned ct_thinned : Value} {od_thinned an_thinned : Option Addr} {sl_thinned : Array (Option Value)} {oc_machine kV_machine dc_machine pm_machine cd_machine ct_machine : Value} {od_machine an_machine : Option Addr} {sl_machine : Array (Option Value)} {oc_odd kV_odd dc_odd pm_odd cd_odd ct_odd : Value} {od_odd an_odd : Option Addr} {sl_odd : Array (Option Value)} {oc_bits kV_bits dc_bits pm_bits cd_bits ct_bits : Value} {od_bits an_bits : Option Addr} {sl_bits : Array (Option Value)} {oc_steps kV_steps dc_steps pm_steps cd_steps ct_steps : Value} {od_steps an_steps : Option Addr} {sl_steps : Array (Option Value)} {oc_least_turns kV_least_turns dc_least_turns pm_least_turns cd_least_turns ct_least_turns : Value} {od_least_turns an_least_turns : Option Addr} {sl_least_turns : Array (Option Value)} {oc_is_unlike kV_is_unlike dc_is_unlike pm_is_unlike cd_is_unlike ct_is_unlike : Value} {od_is_unlike an_is_unlike : Option Addr} {sl_is_unlike : Array (Option Value)} {oc_first_unlike kV_first_unlike dc_first_unlike pm_first_unlike cd_first_unlike ct_first_unlike : Value} {od_first_unlike an_first_unlike : Option Addr} {sl_first_unlike : Array (Option Value)} {oc_come_right kV_come_right dc_come_right pm_come_right cd_come_right ct_come_right : Value} {od_come_right an_come_right : Option Addr} {sl_come_right : Array (Option Value)} {oc_apart_right kV_apart_right dc_apart_right pm_apart_right cd_apart_right ct_apart_right : Value} {od_apart_right an_apart_right : Option Addr} {sl_apart_right : Array (Option Value)} {oc_brought_right kV_brought_right dc_brought_right pm_brought_right cd_brought_right ct_brought_right : Value} {od_brought_right an_brought_right : Option Addr} {sl_brought_right : Array (Option Value)} {oc_law kV_law dc_law pm_law cd_law ct_law : Value} {od_law an_law : Option Addr} {sl_law : Array (Option Value)}
    (aC_Machine : PySem.W.nsIn K mainGlobals "Machine" = some (some (.ref C_Machine))) (pg_Machine : PySem.W.plainGet K C_Machine Str.empty = true) (hd_Machine : PySem.W.hasDictIn K C_Machine = true) (po_Machine : PySem.W.plainOver K C_Machine = true) (sa_Machine : PySem.W.findIn K (.ref C_Machine) "__setattr__" = some (some (.builtin "object.__setattr__"))) (mk_Machine : PySem.W.makesIn K C_Machine = true) (kc_Machine : PySem.W.keepIn K (.ref C_Machine) = true)
    (na_Machine_inputs : PySem.W.findIn K (.ref C_Machine) "inputs" = some none)
    (na_Machine_nexts : PySem.W.findIn K (.ref C_Machine) "nexts" = some none)
    (na_Machine_outs : PySem.W.findIn K (.ref C_Machine) "outs" = some none)
    (aC_Steps : PySem.W.nsIn K mainGlobals "Steps" = some (some (.ref C_Steps))) (pg_Steps : PySem.W.plainGet K C_Steps Str.empty = true) (hd_Steps : PySem.W.hasDictIn K C_Steps = true) (po_Steps : PySem.W.plainOver K C_Steps = true) (sa_Steps : PySem.W.findIn K (.ref C_Steps) "__setattr__" = some (some (.builtin "object.__setattr__"))) (mk_Steps : PySem.W.makesIn K C_Steps = true) (kc_Steps : PySem.W.keepIn K (.ref C_Steps) = true)
    (na_Steps_kept : PySem.W.findIn K (.ref C_Steps) "kept" = some none)
    (na_Steps_found : PySem.W.findIn K (.ref C_Steps) "found" = some none)
    (na_Steps_gone : PySem.W.findIn K (.ref C_Steps) "gone" = some none)
    (aC_BadMask : PySem.W.nsIn K mainGlobals "BadMask" = some (some (.ref C_BadMask))) (xX_BadMask : PySem.W.excIn K C_BadMask [.type "ValueError", .type "Exception", .type "BaseException", .type "object"] "ValueError.__new__" = true) (kX_BadMask : PySem.W.keepIn K (.ref C_BadMask) = true) (bX_BadMask : PySem.W.subIn K (.ref C_BadMask) (.type "BaseException") = some true) (tX_BadMask : PySem.W.typeIn K (.ref C_BadMask) = some (.type "type")) (iX_BadMask : PySem.W.isClsIn K C_BadMask = true)
    (aC_BadRow : PySem.W.nsIn K mainGlobals "BadRow" = some (some (.ref C_BadRow))) (xX_BadRow : PySem.W.excIn K C_BadRow [.type "ValueError", .type "Exception", .type "BaseException", .type "object"] "ValueError.__new__" = true) (kX_BadRow : PySem.W.keepIn K (.ref C_BadRow) = true) (bX_BadRow : PySem.W.subIn K (.ref C_BadRow) (.type "BaseException") = some true) (tX_BadRow : PySem.W.typeIn K (.ref C_BadRow) = some (.type "type")) (iX_BadRow : PySem.W.isClsIn K C_BadRow = true)
    {t_MOST_INPUTS : Tok} (u_MOST_INPUTS : PySem.W.nsIn K mainGlobals "MOST_INPUTS" = some (some (.int 6 t_MOST_INPUTS)))
    {t_MOST_OUTS : Tok} (u_MOST_OUTS : PySem.W.nsIn K mainGlobals "MOST_OUTS" = some (some (.int 6 t_MOST_OUTS)))
    {t_MOST_STORES : Tok} (u_MOST_STORES : PySem.W.nsIn K mainGlobals "MOST_STORES" = some (some (.int 120 t_MOST_STORES)))
    {t_MOST_TURNS : Tok} (u_MOST_TURNS : PySem.W.nsIn K mainGlobals "MOST_TURNS" = some (some (.int 40 t_MOST_TURNS)))
    (a_is_whole : PySem.W.nsIn K mainGlobals "is_whole" = some (some (.ref f_is_whole)))
    (l_is_whole : K.lookup f_is_whole = some ⟨oc_is_whole, od_is_whole, .func (PySem.W.fnOf "is_whole" "is_whole" (defArgs s_is_whole) (defBody s_is_whole) (defScope s_is_whole) .none kV_is_whole dc_is_whole pm_is_whole an_is_whole cd_is_whole ct_is_whole), sl_is_whole⟩) (c_is_whole : PySem.W.codeIn K cd_is_whole "is_whole" = true) (k_is_whole : PySem.W.keepIn K (.ref f_is_whole) = true)
    (a_is_mask : PySem.W.nsIn K mainGlobals "is_mask" = some (some (.ref f_is_mask)))
    (l_is_mask : K.lookup f_is_mask = some ⟨oc_is_mask, od_is_mask, .func (PySem.W.fnOf "is_mask" "is_mask" (defArgs s_is_mask) (defBody s_is_mask) (defScope s_is_mask) .none kV_is_mask dc_is_mask pm_is_mask an_is_mask cd_is_mask ct_is_mask), sl_is_mask⟩) (c_is_mask : PySem.W.codeIn K cd_is_mask "is_mask" = true) (k_is_mask : PySem.W.keepIn K (.ref f_is_mask) = true)
    (a_even : PySem.W.nsIn K mainGlobals "even" = some (some (.ref f_even)))
    (l_even : K.lookup f_even = some ⟨oc_even, od_even, .func (PySem.W.fnOf "even" "even" (defArgs s_even) (defBody s_even) (defScope s_even) .none kV_even dc_even pm_even an_even cd_even ct_even), sl_even⟩) (c_even : PySem.W.codeIn K cd_even "even" = true) (k_even : PySem.W.keepIn K (.ref f_even) = true)
    (a_bits_of : PySem.W.nsIn K mainGlobals "bits_of" = some (some (.ref f_bits_of)))
    (l_bits_of : K.lookup f_bits_of = some ⟨oc_bits_of, od_bits_of, .func (PySem.W.fnOf "bits_of" "bits_of" (defArgs s_bits_of) (defBody s_bits_of) (defScope s_bits_of) .none kV_bits_of dc_bits_of pm_bits_of an_bits_of cd_bits_of ct_bits_of), sl_bits_of⟩) (c_bits_of : PySem.W.codeIn K cd_bits_of "bits_of" = true) (k_bits_of : PySem.W.keepIn K (.ref f_bits_of) = true)
    (a_Steps_lowered : PySem.W.findIn K (.ref C_Steps) "lowered" = some (some (.ref f_Steps_lowered))) (i_Steps_lowered : PySem.W.isFn K (.ref f_Steps_lowered) = true)
    (l_Steps_lowered : K.lookup f_Steps_lowered = some ⟨oc_Steps_lowered, od_Steps_lowered, .func (PySem.W.fnOf "lowered" "Steps.lowered" (defArgs s_Steps_lowered) (defBody s_Steps_lowered) (defScope s_Steps_lowered) .none kV_Steps_lowered dc_Steps_lowered pm_Steps_lowered an_Steps_lowered cd_Steps_lowered ct_Steps_lowered), sl_Steps_lowered⟩) (c_Steps_lowered : PySem.W.codeIn K cd_Steps_lowered "Steps.lowered" = true) (k_Steps_lowered : PySem.W.keepIn K (.ref f_Steps_lowered) = true)
    (a_Steps_crossing : PySem.W.findIn K (.ref C_Steps) "crossing" = some (some (.ref f_Steps_crossing))) (i_Steps_crossing : PySem.W.isFn K (.ref f_Steps_crossing) = true)
    (l_Steps_crossing : K.lookup f_Steps_crossing = some ⟨oc_Steps_crossing, od_Steps_crossing, .func (PySem.W.fnOf "crossing" "Steps.crossing" (defArgs s_Steps_crossing) (defBody s_Steps_crossing) (defScope s_Steps_crossing) .none kV_Steps_crossing dc_Steps_crossing pm_Steps_crossing an_Steps_crossing cd_Steps_crossing ct_Steps_crossing), sl_Steps_crossing⟩) (c_Steps_crossing : PySem.W.codeIn K cd_Steps_crossing "Steps.crossing" = true) (k_Steps_crossing : PySem.W.keepIn K (.ref f_Steps_crossing) = true)
    (a_Steps___init__ : PySem.W.findIn K (.ref C_Steps) "__init__" = some (some (.ref f_Steps___init__))) (i_Steps___init__ : PySem.W.isFn K (.ref f_Steps___init__) = true)
    (l_Steps___init__ : K.lookup f_Steps___init__ = some ⟨oc_Steps___init__, od_Steps___init__, .func (PySem.W.fnOf "__init__" "Steps.__init__" (defArgs s_Steps___init__) (defBody s_Steps___init__) (defScope s_Steps___init__) .none kV_Steps___init__ dc_Steps___init__ pm_Steps___init__ an_Steps___init__ cd_Steps___init__ ct_Steps___init__), sl_Steps___init__⟩) (c_Steps___init__ : PySem.W.codeIn K cd_Steps___init__ "Steps.__init__" = true) (k_Steps___init__ : PySem.W.keepIn K (.ref f_Steps___init__) = true)
    (a_sum_for : PySem.W.nsIn K mainGlobals "sum_for" = some (some (.ref f_sum_for)))
    (l_sum_for : K.lookup f_sum_for = some ⟨oc_sum_for, od_sum_for, .func (PySem.W.fnOf "sum_for" "sum_for" (defArgs s_sum_for) (defBody s_sum_for) (defScope s_sum_for) .none kV_sum_for dc_sum_for pm_sum_for an_sum_for cd_sum_for ct_sum_for), sl_sum_for⟩) (c_sum_for : PySem.W.codeIn K cd_sum_for "sum_for" = true) (k_sum_for : PySem.W.keepIn K (.ref f_sum_for) = true)
    (a_is_pairs : PySem.W.nsIn K mainGlobals "is_pairs" = some (some (.ref f_is_pairs)))
    (l_is_pairs : K.lookup f_is_pairs = some ⟨oc_is_pairs, od_is_pairs, .func (PySem.W.fnOf "is_pairs" "is_pairs" (defArgs s_is_pairs) (defBody s_is_pairs) (defScope s_is_pairs) .none kV_is_pairs dc_is_pairs pm_is_pairs an_is_pairs cd_is_pairs ct_is_pairs), sl_is_pairs⟩) (c_is_pairs : PySem.W.codeIn K cd_is_pairs "is_pairs" = true) (k_is_pairs : PySem.W.keepIn K (.ref f_is_pairs) = true)
    (a_bit_of : PySem.W.nsIn K mainGlobals "bit_of" = some (some (.ref f_bit_of)))
    (l_bit_of : K.lookup f_bit_of = some ⟨oc_bit_of, od_bit_of, .func (PySem.W.fnOf "bit_of" "bit_of" (defArgs s_bit_of) (defBody s_bit_of) (defScope s_bit_of) .none kV_bit_of dc_bit_of pm_bit_of an_bit_of cd_bit_of ct_bit_of), sl_bit_of⟩) (c_bit_of : PySem.W.codeIn K cd_bit_of "bit_of" = true) (k_bit_of : PySem.W.keepIn K (.ref f_bit_of) = true)
    (a_bits_by : PySem.W.nsIn K mainGlobals "bits_by" = some (some (.ref f_bits_by)))
    (l_bits_by : K.lookup f_bits_by = some ⟨oc_bits_by, od_bits_by, .func (PySem.W.fnOf "bits_by" "bits_by" (defArgs s_bits_by) (defBody s_bits_by) (defScope s_bits_by) .none kV_bits_by dc_bits_by pm_bits_by an_bits_by cd_bits_by ct_bits_by), sl_bits_by⟩) (c_bits_by : PySem.W.codeIn K cd_bits_by "bits_by" = true) (k_bits_by : PySem.W.keepIn K (.ref f_bits_by) = true)
    (a_Machine___init__ : PySem.W.findIn K (.ref C_Machine) "__init__" = some (some (.ref f_Machine___init__))) (i_Machine___init__ : PySem.W.isFn K (.ref f_Machine___init__) = true)
    (l_Machine___init__ : K.lookup f_Machine___init__ = some ⟨oc_Machine___init__, od_Machine___init__, .func (PySem.W.fnOf "__init__" "Machine.__init__" (defArgs s_Machine___init__) (defBody s_Machine___init__) (defScope s_Machine___init__) .none kV_Machine___init__ dc_Machine___init__ pm_Machine___init__ an_Machine___init__ cd_Machine___init__ ct_Machine___init__), sl_Machine___init__⟩) (c_Machine___init__ : PySem.W.codeIn K cd_Machine___init__ "Machine.__init__" = true) (k_Machine___init__ : PySem.W.keepIn K (.ref f_Machine___init__) = true)
    (a_Machine_stores : PySem.W.findIn K (.ref C_Machine) "stores" = some (some (.ref f_Machine_stores))) (i_Machine_stores : PySem.W.isFn K (.ref f_Machine_stores) = true)
    (l_Machine_stores : K.lookup f_Machine_stores = some ⟨oc_Machine_stores, od_Machine_stores, .func (PySem.W.fnOf "stores" "Machine.stores" (defArgs s_Machine_stores) (defBody s_Machine_stores) (defScope s_Machine_stores) .none kV_Machine_stores dc_Machine_stores pm_Machine_stores an_Machine_stores cd_Machine_stores ct_Machine_stores), sl_Machine_stores⟩) (c_Machine_stores : PySem.W.codeIn K cd_Machine_stores "Machine.stores" = true) (k_Machine_stores : PySem.W.keepIn K (.ref f_Machine_stores) = true)
    (a_Machine_need : PySem.W.findIn K (.ref C_Machine) "need" = some (some (.ref f_Machine_need))) (i_Machine_need : PySem.W.isFn K (.ref f_Machine_need) = true)
    (l_Machine_need : K.lookup f_Machine_need = some ⟨oc_Machine_need, od_Machine_need, .func (PySem.W.fnOf "need" "Machine.need" (defArgs s_Machine_need) (defBody s_Machine_need) (defScope s_Machine_need) .none kV_Machine_need dc_Machine_need pm_Machine_need an_Machine_need cd_Machine_need ct_Machine_need), sl_Machine_need⟩) (c_Machine_need : PySem.W.codeIn K cd_Machine_need "Machine.need" = true) (k_Machine_need : PySem.W.keepIn K (.ref f_Machine_need) = true)
    (a_Machine_step : PySem.W.findIn K (.ref C_Machine) "step" = some (some (.ref f_Machine_step))) (i_Machine_step : PySem.W.isFn K (.ref f_Machine_step) = true)
    (l_Machine_step : K.lookup f_Machine_step = some ⟨oc_Machine_step, od_Machine_step, .func (PySem.W.fnOf "step" "Machine.step" (defArgs s_Machine_step) (defBody s_Machine_step) (defScope s_Machine_step) .none kV_Machine_step dc_Machine_step pm_Machine_step an_Machine_step cd_Machine_step ct_Machine_step), sl_Machine_step⟩) (c_Machine_step : PySem.W.codeIn K cd_Machine_step "Machine.step" = true) (k_Machine_step : PySem.W.keepIn K (.ref f_Machine_step) = true)
    (a_Machine_walk : PySem.W.findIn K (.ref C_Machine) "walk" = some (some (.ref f_Machine_walk))) (i_Machine_walk : PySem.W.isFn K (.ref f_Machine_walk) = true)
    (l_Machine_walk : K.lookup f_Machine_walk = some ⟨oc_Machine_walk, od_Machine_walk, .func (PySem.W.fnOf "walk" "Machine.walk" (defArgs s_Machine_walk) (defBody s_Machine_walk) (defScope s_Machine_walk) .none kV_Machine_walk dc_Machine_walk pm_Machine_walk an_Machine_walk cd_Machine_walk ct_Machine_walk), sl_Machine_walk⟩) (c_Machine_walk : PySem.W.codeIn K cd_Machine_walk "Machine.walk" = true) (k_Machine_walk : PySem.W.keepIn K (.ref f_Machine_walk) = true)
    (a_Machine_after : PySem.W.findIn K (.ref C_Machine) "after" = some (some (.ref f_Machine_after))) (i_Machine_after : PySem.W.isFn K (.ref f_Machine_after) = true)
    {dT_Machine_after : Addr} {da_Machine_after : Value} {db_Machine_after : Option Addr} {dn_Machine_after : Nat} {ds_Machine_after : Array (Option Value)} {dt0_Machine_after : Tok}
    (l_Machine_after : K.lookup f_Machine_after = some ⟨oc_Machine_after, od_Machine_after, .func (PySem.W.fnOf "after" "Machine.after" (defArgs s_Machine_after) (defBody s_Machine_after) (defScope s_Machine_after) (.ref dT_Machine_after) kV_Machine_after dc_Machine_after pm_Machine_after an_Machine_after cd_Machine_after ct_Machine_after), sl_Machine_after⟩) (d_Machine_after : K.lookup dT_Machine_after = some ⟨da_Machine_after, db_Machine_after, .seq #[.int 0 dt0_Machine_after] dn_Machine_after, ds_Machine_after⟩) (c_Machine_after : PySem.W.codeIn K cd_Machine_after "Machine.after" = true) (k_Machine_after : PySem.W.keepIn K (.ref f_Machine_after) = true)
    (a_Machine_back : PySem.W.findIn K (.ref C_Machine) "back" = some (some (.ref f_Machine_back))) (i_Machine_back : PySem.W.isFn K (.ref f_Machine_back) = true)
    (l_Machine_back : K.lookup f_Machine_back = some ⟨oc_Machine_back, od_Machine_back, .func (PySem.W.fnOf "back" "Machine.back" (defArgs s_Machine_back) (defBody s_Machine_back) (defScope s_Machine_back) .none kV_Machine_back dc_Machine_back pm_Machine_back an_Machine_back cd_Machine_back ct_Machine_back), sl_Machine_back⟩) (c_Machine_back : PySem.W.codeIn K cd_Machine_back "Machine.back" = true) (k_Machine_back : PySem.W.keepIn K (.ref f_Machine_back) = true)
    (a_need_state : PySem.W.nsIn K mainGlobals "need_state" = some (some (.ref f_need_state)))
    (l_need_state : K.lookup f_need_state = some ⟨oc_need_state, od_need_state, .func (PySem.W.fnOf "need_state" "need_state" (defArgs s_need_state) (defBody s_need_state) (defScope s_need_state) .none kV_need_state dc_need_state pm_need_state an_need_state cd_need_state ct_need_state), sl_need_state⟩) (c_need_state : PySem.W.codeIn K cd_need_state "need_state" = true) (k_need_state : PySem.W.keepIn K (.ref f_need_state) = true)
    (a_reached_by : PySem.W.nsIn K mainGlobals "reached_by" = some (some (.ref f_reached_by)))
    (l_reached_by : K.lookup f_reached_by = some ⟨oc_reached_by, od_reached_by, .func (PySem.W.fnOf "reached_by" "reached_by" (defArgs s_reached_by) (defBody s_reached_by) (defScope s_reached_by) .none kV_reached_by dc_reached_by pm_reached_by an_reached_by cd_reached_by ct_reached_by), sl_reached_by⟩) (c_reached_by : PySem.W.codeIn K cd_reached_by "reached_by" = true) (k_reached_by : PySem.W.keepIn K (.ref f_reached_by) = true)
    (a_rows_at : PySem.W.nsIn K mainGlobals "rows_at" = some (some (.ref f_rows_at)))
    (l_rows_at : K.lookup f_rows_at = some ⟨oc_rows_at, od_rows_at, .func (PySem.W.fnOf "rows_at" "rows_at" (defArgs s_rows_at) (defBody s_rows_at) (defScope s_rows_at) .none kV_rows_at dc_rows_at pm_rows_at an_rows_at cd_rows_at ct_rows_at), sl_rows_at⟩) (c_rows_at : PySem.W.codeIn K cd_rows_at "rows_at" = true) (k_rows_at : PySem.W.keepIn K (.ref f_rows_at) = true)
    (a_closed : PySem.W.nsIn K mainGlobals "closed" = some (some (.ref f_closed)))
    (l_closed : K.lookup f_closed = some ⟨oc_closed, od_closed, .func (PySem.W.fnOf "closed" "closed" (defArgs s_closed) (defBody s_closed) (defScope s_closed) .none kV_closed dc_closed pm_closed an_closed cd_closed ct_closed), sl_closed⟩) (c_closed : PySem.W.codeIn K cd_closed "closed" = true) (k_closed : PySem.W.keepIn K (.ref f_closed) = true)
    (a_within : PySem.W.nsIn K mainGlobals "within" = some (some (.ref f_within)))
    (l_within : K.lookup f_within = some ⟨oc_within, od_within, .func (PySem.W.fnOf "within" "within" (defArgs s_within) (defBody s_within) (defScope s_within) .none kV_within dc_within pm_within an_within cd_within ct_within), sl_within⟩) (c_within : PySem.W.codeIn K cd_within "within" = true) (k_within : PySem.W.keepIn K (.ref f_within) = true)
    (a_come_to : PySem.W.nsIn K mainGlobals "come_to" = some (some (.ref f_come_to)))
    (l_come_to : K.lookup f_come_to = some ⟨oc_come_to, od_come_to, .func (PySem.W.fnOf "come_to" "come_to" (defArgs s_come_to) (defBody s_come_to) (defScope s_come_to) .none kV_come_to dc_come_to pm_come_to an_come_to cd_come_to ct_come_to), sl_come_to⟩) (c_come_to : PySem.W.codeIn K cd_come_to "come_to" = true) (k_come_to : PySem.W.keepIn K (.ref f_come_to) = true)
    (a_first_bit : PySem.W.nsIn K mainGlobals "first_bit" = some (some (.ref f_first_bit)))
    (l_first_bit : K.lookup f_first_bit = some ⟨oc_first_bit, od_first_bit, .func (PySem.W.fnOf "first_bit" "first_bit" (defArgs s_first_bit) (defBody s_first_bit) (defScope s_first_bit) .none kV_first_bit dc_first_bit pm_first_bit an_first_bit cd_first_bit ct_first_bit), sl_first_bit⟩) (c_first_bit : PySem.W.codeIn K cd_first_bit "first_bit" = true) (k_first_bit : PySem.W.keepIn K (.ref f_first_bit) = true)
    (a_told_apart : PySem.W.nsIn K mainGlobals "told_apart" = some (some (.ref f_told_apart)))
    (l_told_apart : K.lookup f_told_apart = some ⟨oc_told_apart, od_told_apart, .func (PySem.W.fnOf "told_apart" "told_apart" (defArgs s_told_apart) (defBody s_told_apart) (defScope s_told_apart) .none kV_told_apart dc_told_apart pm_told_apart an_told_apart cd_told_apart ct_told_apart), sl_told_apart⟩) (c_told_apart : PySem.W.codeIn K cd_told_apart "told_apart" = true) (k_told_apart : PySem.W.keepIn K (.ref f_told_apart) = true)
    (a_brought : PySem.W.nsIn K mainGlobals "brought" = some (some (.ref f_brought)))
    (l_brought : K.lookup f_brought = some ⟨oc_brought, od_brought, .func (PySem.W.fnOf "brought" "brought" (defArgs s_brought) (defBody s_brought) (defScope s_brought) .none kV_brought dc_brought pm_brought an_brought cd_brought ct_brought), sl_brought⟩) (c_brought : PySem.W.codeIn K cd_brought "brought" = true) (k_brought : PySem.W.keepIn K (.ref f_brought) = true)
    (a_cell : PySem.W.nsIn K mainGlobals "_law_cell" = some (some (.ref f_cell)))
    (l_cell : K.lookup f_cell = some ⟨oc_cell, od_cell, .func (PySem.W.fnOf "_law_cell" "_law_cell" (defArgs s_cell) (defBody s_cell) (defScope s_cell) .none kV_cell dc_cell pm_cell an_cell cd_cell ct_cell), sl_cell⟩) (c_cell : PySem.W.codeIn K cd_cell "_law_cell" = true) (k_cell : PySem.W.keepIn K (.ref f_cell) = true)
    (a_mix : PySem.W.nsIn K mainGlobals "_law_mix" = some (some (.ref f_mix)))
    (l_mix : K.lookup f_mix = some ⟨oc_mix, od_mix, .func (PySem.W.fnOf "_law_mix" "_law_mix" (defArgs s_mix) (defBody s_mix) (defScope s_mix) .none kV_mix dc_mix pm_mix an_mix cd_mix ct_mix), sl_mix⟩) (c_mix : PySem.W.codeIn K cd_mix "_law_mix" = true) (k_mix : PySem.W.keepIn K (.ref f_mix) = true)
    (a_masks : PySem.W.nsIn K mainGlobals "_law_masks" = some (some (.ref f_masks)))
    (l_masks : K.lookup f_masks = some ⟨oc_masks, od_masks, .func (PySem.W.fnOf "_law_masks" "_law_masks" (defArgs s_masks) (defBody s_masks) (defScope s_masks) .none kV_masks dc_masks pm_masks an_masks cd_masks ct_masks), sl_masks⟩) (c_masks : PySem.W.codeIn K cd_masks "_law_masks" = true) (k_masks : PySem.W.keepIn K (.ref f_masks) = true)
    (a_thinned : PySem.W.nsIn K mainGlobals "_law_thinned" = some (some (.ref f_thinned)))
    (l_thinned : K.lookup f_thinned = some ⟨oc_thinned, od_thinned, .func (PySem.W.fnOf "_law_thinned" "_law_thinned" (defArgs s_thinned) (defBody s_thinned) (defScope s_thinned) .none kV_thinned dc_thinned pm_thinned an_thinned cd_thinned ct_thinned), sl_thinned⟩) (c_thinned : PySem.W.codeIn K cd_thinned "_law_thinned" = true) (k_thinned : PySem.W.keepIn K (.ref f_thinned) = true)
    (a_machine : PySem.W.nsIn K mainGlobals "_law_machine" = some (some (.ref f_machine)))
    (l_machine : K.lookup f_machine = some ⟨oc_machine, od_machine, .func (PySem.W.fnOf "_law_machine" "_law_machine" (defArgs s_machine) (defBody s_machine) (defScope s_machine) .none kV_machine dc_machine pm_machine an_machine cd_machine ct_machine), sl_machine⟩) (c_machine : PySem.W.codeIn K cd_machine "_law_machine" = true) (k_machine : PySem.W.keepIn K (.ref f_machine) = true)
    (a_odd : PySem.W.nsIn K mainGlobals "_law_odd" = some (some (.ref f_odd)))
    (l_odd : K.lookup f_odd = some ⟨oc_odd, od_odd, .func (PySem.W.fnOf "_law_odd" "_law_odd" (defArgs s_odd) (defBody s_odd) (defScope s_odd) .none kV_odd dc_odd pm_odd an_odd cd_odd ct_odd), sl_odd⟩) (c_odd : PySem.W.codeIn K cd_odd "_law_odd" = true) (k_odd : PySem.W.keepIn K (.ref f_odd) = true)
    (a_bits : PySem.W.nsIn K mainGlobals "_law_bits" = some (some (.ref f_bits)))
    (l_bits : K.lookup f_bits = some ⟨oc_bits, od_bits, .func (PySem.W.fnOf "_law_bits" "_law_bits" (defArgs s_bits) (defBody s_bits) (defScope s_bits) .none kV_bits dc_bits pm_bits an_bits cd_bits ct_bits), sl_bits⟩) (c_bits : PySem.W.codeIn K cd_bits "_law_bits" = true) (k_bits : PySem.W.keepIn K (.ref f_bits) = true)
    (a_steps : PySem.W.nsIn K mainGlobals "_law_steps" = some (some (.ref f_steps)))
    (l_steps : K.lookup f_steps = some ⟨oc_steps, od_steps, .func (PySem.W.fnOf "_law_steps" "_law_steps" (defArgs s_steps) (defBody s_steps) (defScope s_steps) .none kV_steps dc_steps pm_steps an_steps cd_steps ct_steps), sl_steps⟩) (c_steps : PySem.W.codeIn K cd_steps "_law_steps" = true) (k_steps : PySem.W.keepIn K (.ref f_steps) = true)
    (a_least_turns : PySem.W.nsIn K mainGlobals "_law_least_turns" = some (some (.ref f_least_turns)))
    (l_least_turns : K.lookup f_least_turns = some ⟨oc_least_turns, od_least_turns, .func (PySem.W.fnOf "_law_least_turns" "_law_least_turns" (defArgs s_least_turns) (defBody s_least_turns) (defScope s_least_turns) .none kV_least_turns dc_least_turns pm_least_turns an_least_turns cd_least_turns ct_least_turns), sl_least_turns⟩) (c_least_turns : PySem.W.codeIn K cd_least_turns "_law_least_turns" = true) (k_least_turns : PySem.W.keepIn K (.ref f_least_turns) = true)
    (a_is_unlike : PySem.W.nsIn K mainGlobals "_law_is_unlike" = some (some (.ref f_is_unlike)))
    (l_is_unlike : K.lookup f_is_unlike = some ⟨oc_is_unlike, od_is_unlike, .func (PySem.W.fnOf "_law_is_unlike" "_law_is_unlike" (defArgs s_is_unlike) (defBody s_is_unlike) (defScope s_is_unlike) .none kV_is_unlike dc_is_unlike pm_is_unlike an_is_unlike cd_is_unlike ct_is_unlike), sl_is_unlike⟩) (c_is_unlike : PySem.W.codeIn K cd_is_unlike "_law_is_unlike" = true) (k_is_unlike : PySem.W.keepIn K (.ref f_is_unlike) = true)
    (a_first_unlike : PySem.W.nsIn K mainGlobals "_law_first_unlike" = some (some (.ref f_first_unlike)))
    (l_first_unlike : K.lookup f_first_unlike = some ⟨oc_first_unlike, od_first_unlike, .func (PySem.W.fnOf "_law_first_unlike" "_law_first_unlike" (defArgs s_first_unlike) (defBody s_first_unlike) (defScope s_first_unlike) .none kV_first_unlike dc_first_unlike pm_first_unlike an_first_unlike cd_first_unlike ct_first_unlike), sl_first_unlike⟩) (c_first_unlike : PySem.W.codeIn K cd_first_unlike "_law_first_unlike" = true) (k_first_unlike : PySem.W.keepIn K (.ref f_first_unlike) = true)
    (a_come_right : PySem.W.nsIn K mainGlobals "_law_come_right" = some (some (.ref f_come_right)))
    (l_come_right : K.lookup f_come_right = some ⟨oc_come_right, od_come_right, .func (PySem.W.fnOf "_law_come_right" "_law_come_right" (defArgs s_come_right) (defBody s_come_right) (defScope s_come_right) .none kV_come_right dc_come_right pm_come_right an_come_right cd_come_right ct_come_right), sl_come_right⟩) (c_come_right : PySem.W.codeIn K cd_come_right "_law_come_right" = true) (k_come_right : PySem.W.keepIn K (.ref f_come_right) = true)
    (a_apart_right : PySem.W.nsIn K mainGlobals "_law_apart_right" = some (some (.ref f_apart_right)))
    (l_apart_right : K.lookup f_apart_right = some ⟨oc_apart_right, od_apart_right, .func (PySem.W.fnOf "_law_apart_right" "_law_apart_right" (defArgs s_apart_right) (defBody s_apart_right) (defScope s_apart_right) .none kV_apart_right dc_apart_right pm_apart_right an_apart_right cd_apart_right ct_apart_right), sl_apart_right⟩) (c_apart_right : PySem.W.codeIn K cd_apart_right "_law_apart_right" = true) (k_apart_right : PySem.W.keepIn K (.ref f_apart_right) = true)
    (a_brought_right : PySem.W.nsIn K mainGlobals "_law_brought_right" = some (some (.ref f_brought_right)))
    (l_brought_right : K.lookup f_brought_right = some ⟨oc_brought_right, od_brought_right, .func (PySem.W.fnOf "_law_brought_right" "_law_brought_right" (defArgs s_brought_right) (defBody s_brought_right) (defScope s_brought_right) .none kV_brought_right dc_brought_right pm_brought_right an_brought_right cd_brought_right ct_brought_right), sl_brought_right⟩) (c_brought_right : PySem.W.codeIn K cd_brought_right "_law_brought_right" = true) (k_brought_right : PySem.W.keepIn K (.ref f_brought_right) = true)
    (a_law : PySem.W.nsIn K mainGlobals "law" = some (some (.ref f_law)))
    (l_law : K.lookup f_law = some ⟨oc_law, od_law, .func (PySem.W.fnOf "law" "law" (defArgs s_law) (defBody s_law) (defScope s_law) .none kV_law dc_law pm_law an_law cd_law ct_law), sl_law⟩) (c_law : PySem.W.codeIn K cd_law "law" = true) (k_law : PySem.W.keepIn K (.ref f_law) = true)
    (z_bool : PySem.W.nsIn K mainGlobals "bool" = some none)
    (z_divmod : PySem.W.nsIn K mainGlobals "divmod" = some none)
    (z_enumerate : PySem.W.nsIn K mainGlobals "enumerate" = some none)
    (z_int : PySem.W.nsIn K mainGlobals "int" = some none)
    (z_isinstance : PySem.W.nsIn K mainGlobals "isinstance" = some none)
    (z_len : PySem.W.nsIn K mainGlobals "len" = some none)
    (z_list : PySem.W.nsIn K mainGlobals "list" = some none)
    (z_min : PySem.W.nsIn K mainGlobals "min" = some none)
    (z_range : PySem.W.nsIn K mainGlobals "range" = some none)
    (z_sorted : PySem.W.nsIn K mainGlobals "sorted" = some none)
    (z_tuple : PySem.W.nsIn K mainGlobals "tuple" = some none)
    (z_zip : PySem.W.nsIn K mainGlobals "zip" = some none)
    {m_come_to P_come_to : Addr} {la_come_to : Value} {lb_come_to : Option Addr} {lv_come_to : Array Value} {ls_come_to : Array (Option Value)} (e_come_to : cd_come_to = .ref m_come_to) (lk_come_to : K.lookup m_come_to = some ⟨la_come_to, lb_come_to, .fields lv_come_to, ls_come_to⟩) (vp_come_to : (lv_come_to[11]? : Option Value) = some (.ref P_come_to)) (ch_come_to : PySem.W.codeHdIn K m_come_to P_come_to = true) (nt_come_to : K.lookup P_come_to = none) (hT_come_to : h.get? P_come_to = some { cls := .none, data := .fields #[] })
    {m_told_apart P_told_apart : Addr} {la_told_apart : Value} {lb_told_apart : Option Addr} {lv_told_apart : Array Value} {ls_told_apart : Array (Option Value)} (e_told_apart : cd_told_apart = .ref m_told_apart) (lk_told_apart : K.lookup m_told_apart = some ⟨la_told_apart, lb_told_apart, .fields lv_told_apart, ls_told_apart⟩) (vp_told_apart : (lv_told_apart[11]? : Option Value) = some (.ref P_told_apart)) (ch_told_apart : PySem.W.codeHdIn K m_told_apart P_told_apart = true) (nt_told_apart : K.lookup P_told_apart = none) (hT_told_apart : h.get? P_told_apart = some { cls := .none, data := .fields #[] })
    (nq_come_to_told_apart : P_come_to ≠ P_told_apart)
    : LamX.LawAtS l w K CX0 11 63 "_law_script" mg fa h := by
  have e := hfa.symm.trans (PySem.W.mg_of X G a_law)
  cases e
  have F_is_whole := fun_mk (st := s_is_whole) l_is_whole c_is_whole k_is_whole
  have b_is_whole := F_is_whole.binds (ps := ["thing"]) fun _ _ _ _ _ _ us hl => match us, hl with | [_], _ => rfl
  have F_is_mask := fun_mk (st := s_is_mask) l_is_mask c_is_mask k_is_mask
  have b_is_mask := F_is_mask.binds (ps := ["thing", "width"]) fun _ _ _ _ _ _ us hl => match us, hl with | [_, _], _ => rfl
  have F_even := fun_mk (st := s_even) l_even c_even k_even
  have b_even := F_even.binds (ps := ["number"]) fun _ _ _ _ _ _ us hl => match us, hl with | [_], _ => rfl
  have F_bits_of := fun_mk (st := s_bits_of) l_bits_of c_bits_of k_bits_of
  have b_bits_of := F_bits_of.binds (ps := ["mask"]) fun _ _ _ _ _ _ us hl => match us, hl with | [_], _ => rfl
  have F_Steps_lowered := fun_mk (st := s_Steps_lowered) l_Steps_lowered c_Steps_lowered k_Steps_lowered
  have b_Steps_lowered := F_Steps_lowered.binds (ps := ["self", "row", "places"]) fun _ _ _ _ _ _ us hl => match us, hl with | [_, _, _], _ => rfl
  have F_Steps_crossing := fun_mk (st := s_Steps_crossing) l_Steps_crossing c_Steps_crossing k_Steps_crossing
  have b_Steps_crossing := F_Steps_crossing.binds (ps := ["self", "bit"]) fun _ _ _ _ _ _ us hl => match us, hl with | [_, _], _ => rfl
  have F_Steps___init__ := fun_mk (st := s_Steps___init__) l_Steps___init__ c_Steps___init__ k_Steps___init__
  have b_Steps___init__ := F_Steps___init__.binds (ps := ["self", "rows"]) fun _ _ _ _ _ _ us hl => match us, hl with | [_, _], _ => rfl
  have F_sum_for := fun_mk (st := s_sum_for) l_sum_for c_sum_for k_sum_for
  have b_sum_for := F_sum_for.binds (ps := ["rows", "wish"]) fun _ _ _ _ _ _ us hl => match us, hl with | [_, _], _ => rfl
  have F_is_pairs := fun_mk (st := s_is_pairs) l_is_pairs c_is_pairs k_is_pairs
  have b_is_pairs := F_is_pairs.binds (ps := ["thing", "most", "stores", "inputs"]) fun _ _ _ _ _ _ us hl => match us, hl with | [_, _, _, _], _ => rfl
  have F_bit_of := fun_mk (st := s_bit_of) l_bit_of c_bit_of k_bit_of
  have b_bit_of := F_bit_of.binds (ps := ["pair", "state", "row"]) fun _ _ _ _ _ _ us hl => match us, hl with | [_, _, _], _ => rfl
  have F_bits_by := fun_mk (st := s_bits_by) l_bits_by c_bits_by k_bits_by
  have b_bits_by := F_bits_by.binds (ps := ["pairs", "state", "row"]) fun _ _ _ _ _ _ us hl => match us, hl with | [_, _, _], _ => rfl
  have F_Machine___init__ := fun_mk (st := s_Machine___init__) l_Machine___init__ c_Machine___init__ k_Machine___init__
  have b_Machine___init__ := F_Machine___init__.binds (ps := ["self", "inputs", "nexts", "outs"]) fun _ _ _ _ _ _ us hl => match us, hl with | [_, _, _, _], _ => rfl
  have F_Machine_stores := fun_mk (st := s_Machine_stores) l_Machine_stores c_Machine_stores k_Machine_stores
  have b_Machine_stores := F_Machine_stores.binds (ps := ["self"]) fun _ _ _ _ _ _ us hl => match us, hl with | [_], _ => rfl
  have F_Machine_need := fun_mk (st := s_Machine_need) l_Machine_need c_Machine_need k_Machine_need
  have b_Machine_need := F_Machine_need.binds (ps := ["self", "thing", "width"]) fun _ _ _ _ _ _ us hl => match us, hl with | [_, _, _], _ => rfl
  have F_Machine_step := fun_mk (st := s_Machine_step) l_Machine_step c_Machine_step k_Machine_step
  have b_Machine_step := F_Machine_step.binds (ps := ["self", "state", "row"]) fun _ _ _ _ _ _ us hl => match us, hl with | [_, _, _], _ => rfl
  have F_Machine_walk := fun_mk (st := s_Machine_walk) l_Machine_walk c_Machine_walk k_Machine_walk
  have b_Machine_walk := F_Machine_walk.binds (ps := ["self", "rows", "state"]) fun _ _ _ _ _ _ us hl => match us, hl with | [_, _, _], _ => rfl
  have F_Machine_after := funD_mk (st := s_Machine_after) (dvs := [.int 0]) l_Machine_after c_Machine_after k_Machine_after d_Machine_after (.cons ⟨_, rfl⟩ .nil) (by simp)
  have b_Machine_after := FunD.full (ps := ["self", "rows", "state"]) F_Machine_after (by simp) fun _ _ _ _ _ _ _ us its h1 h2 => match us, its, h1, h2 with | [_, _, _], [_], _, _ => ⟨_, rfl, rfl⟩
  have B_Machine_after := FunD.binds1 (ps := ["self", "rows", "state"]) F_Machine_after 2 0 (by simp) rfl fun _ _ _ _ _ _ _ us its h1 h2 => match us, its, h1, h2 with | [_, _], [_], _, _ => ⟨_, rfl, rfl⟩
  have F_Machine_back := fun_mk (st := s_Machine_back) l_Machine_back c_Machine_back k_Machine_back
  have b_Machine_back := F_Machine_back.binds (ps := ["self", "mask"]) fun _ _ _ _ _ _ us hl => match us, hl with | [_, _], _ => rfl
  have F_need_state := fun_mk (st := s_need_state) l_need_state c_need_state k_need_state
  have b_need_state := F_need_state.binds (ps := ["machine", "state"]) fun _ _ _ _ _ _ us hl => match us, hl with | [_, _], _ => rfl
  have F_reached_by := fun_mk (st := s_reached_by) l_reached_by c_reached_by k_reached_by
  have b_reached_by := F_reached_by.binds (ps := ["machine", "turns"]) fun _ _ _ _ _ _ us hl => match us, hl with | [_, _], _ => rfl
  have F_rows_at := fun_mk (st := s_rows_at) l_rows_at c_rows_at k_rows_at
  have b_rows_at := F_rows_at.binds (ps := ["machine", "places", "turns"]) fun _ _ _ _ _ _ us hl => match us, hl with | [_, _, _], _ => rfl
  have F_closed := fun_mk (st := s_closed) l_closed c_closed k_closed
  have b_closed := F_closed.binds (ps := ["first", "following"]) fun _ _ _ _ _ _ us hl => match us, hl with | [_, _], _ => rfl
  have F_within := fun_mk (st := s_within) l_within c_within k_within
  have b_within := F_within.binds (ps := ["machine", "mask"]) fun _ _ _ _ _ _ us hl => match us, hl with | [_, _], _ => rfl
  have F_come_to := fun_mk (st := s_come_to) l_come_to c_come_to k_come_to
  have b_come_to := F_come_to.binds (ps := ["machine", "state"]) fun _ _ _ _ _ _ us hl => match us, hl with | [_, _], _ => rfl
  have F_first_bit := fun_mk (st := s_first_bit) l_first_bit c_first_bit k_first_bit
  have b_first_bit := F_first_bit.binds (ps := ["answer"]) fun _ _ _ _ _ _ us hl => match us, hl with | [_], _ => rfl
  have F_told_apart := fun_mk (st := s_told_apart) l_told_apart c_told_apart k_told_apart
  have b_told_apart := F_told_apart.binds (ps := ["machine", "one", "other"]) fun _ _ _ _ _ _ us hl => match us, hl with | [_, _, _], _ => rfl
  have F_brought := fun_mk (st := s_brought) l_brought c_brought k_brought
  have b_brought := F_brought.binds (ps := ["machine", "start", "wish", "turns"]) fun _ _ _ _ _ _ us hl => match us, hl with | [_, _, _, _], _ => rfl
  have F_cell := fun_mk (st := s_cell) l_cell c_cell k_cell
  have b_cell := F_cell.binds (ps := ["_law_script", "_law_k"]) fun _ _ _ _ _ _ us hl => match us, hl with | [_, _], _ => rfl
  have F_mix := fun_mk (st := s_mix) l_mix c_mix k_mix
  have b_mix := F_mix.binds (ps := ["_law_cell_here", "_law_k"]) fun _ _ _ _ _ _ us hl => match us, hl with | [_, _], _ => rfl
  have F_masks := fun_mk (st := s_masks) l_masks c_masks k_masks
  have b_masks := F_masks.binds (ps := ["_law_cell_here", "_law_start", "_law_many", "_law_width", "_law_digits"]) fun _ _ _ _ _ _ us hl => match us, hl with | [_, _, _, _, _], _ => rfl
  have F_thinned := fun_mk (st := s_thinned) l_thinned c_thinned k_thinned
  have b_thinned := F_thinned.binds (ps := ["_law_masks_here", "_law_cell_here", "_law_start", "_law_way"]) fun _ _ _ _ _ _ us hl => match us, hl with | [_, _, _, _], _ => rfl
  have F_machine := fun_mk (st := s_machine) l_machine c_machine k_machine
  have b_machine := F_machine.binds (ps := ["_law_script", "_law_start", "_law_most"]) fun _ _ _ _ _ _ us hl => match us, hl with | [_, _, _], _ => rfl
  have F_odd := fun_mk (st := s_odd) l_odd c_odd k_odd
  have b_odd := F_odd.binds (ps := ["_law_number"]) fun _ _ _ _ _ _ us hl => match us, hl with | [_], _ => rfl
  have F_bits := fun_mk (st := s_bits) l_bits c_bits k_bits
  have b_bits := F_bits.binds (ps := ["_law_pairs", "_law_state", "_law_row"]) fun _ _ _ _ _ _ us hl => match us, hl with | [_, _, _], _ => rfl
  have F_steps := fun_mk (st := s_steps) l_steps c_steps k_steps
  have b_steps := F_steps.binds (ps := ["_law_tables"]) fun _ _ _ _ _ _ us hl => match us, hl with | [_], _ => rfl
  have F_least_turns := fun_mk (st := s_least_turns) l_least_turns c_least_turns k_least_turns
  have b_least_turns := F_least_turns.binds (ps := ["_law_steps_here"]) fun _ _ _ _ _ _ us hl => match us, hl with | [_], _ => rfl
  have F_is_unlike := fun_mk (st := s_is_unlike) l_is_unlike c_is_unlike k_is_unlike
  have b_is_unlike := F_is_unlike.binds (ps := ["_law_steps_here", "_law_found", "_law_one", "_law_other", "_law_turn"]) fun _ _ _ _ _ _ us hl => match us, hl with | [_, _, _, _, _], _ => rfl
  have F_first_unlike := fun_mk (st := s_first_unlike) l_first_unlike c_first_unlike k_first_unlike
  have b_first_unlike := F_first_unlike.binds (ps := ["_law_steps_here"]) fun _ _ _ _ _ _ us hl => match us, hl with | [_], _ => rfl
  have F_come_right := fun_mk (st := s_come_right) l_come_right c_come_right k_come_right
  have b_come_right := F_come_right.binds (ps := ["_law_machine_here", "_law_steps_here"]) fun _ _ _ _ _ _ us hl => match us, hl with | [_, _], _ => rfl
  have F_apart_right := fun_mk (st := s_apart_right) l_apart_right c_apart_right k_apart_right
  have b_apart_right := F_apart_right.binds (ps := ["_law_machine_here", "_law_unlike", "_law_one", "_law_other"]) fun _ _ _ _ _ _ us hl => match us, hl with | [_, _, _, _], _ => rfl
  have F_brought_right := fun_mk (st := s_brought_right) l_brought_right c_brought_right k_brought_right
  have b_brought_right := F_brought_right.binds (ps := ["_law_machine_here", "_law_steps_here", "_law_one", "_law_other", "_law_turns"]) fun _ _ _ _ _ _ us hl => match us, hl with | [_, _, _, _, _], _ => rfl
  have F_law := fun_mk (st := s_law) l_law c_law k_law
  refine ⟨PySem.W.fnOf "law" "law" (defArgs s_law) (defBody s_law) (defScope s_law) .none kV_law dc_law pm_law an_law cd_law ct_law, [(m_come_to, P_come_to), (m_told_apart, P_told_apart)], sp_law K ⟨C_Machine, C_Steps, C_BadMask, C_BadRow, P_come_to, P_told_apart⟩, allM2 hT_come_to hT_told_apart, allM2 nt_come_to nt_told_apart, allM2 (PySem.W.codeHd_of_K X ch_come_to) (PySem.W.codeHd_of_K X ch_told_apart), fun s v => .of_eq rfl, fun H a ns hl hbt hT hS => ⟨woL H [P_come_to, P_told_apart], .ref a, ns, fun b => b = true, rfl, woL_sub, ⟨a, rfl, SqL.wo hS (allM2 (hT _ memM2a) (hT _ memM2b))⟩, XT.start (hT _ memM2a) memM2a, XT.start (hT _ memM2b) memM2b, w_law hl rfl, fun z hz _ _ _ _ _ => by subst hz; rfl⟩, fun base KB GB TB => ?_⟩
  have T : Tz K mg ⟨C_Machine, C_Steps, C_BadMask, C_BadRow, P_come_to, P_told_apart⟩ := ⟨⟨pg_Machine, hd_Machine, po_Machine, sa_Machine⟩, na_Machine_inputs, na_Machine_nexts, na_Machine_outs, ⟨pg_Steps, hd_Steps, po_Steps, sa_Steps⟩, na_Steps_kept, na_Steps_found, na_Steps_gone, ⟨xX_BadMask, PySem.W.mg_of X G aC_BadMask, kX_BadMask, bX_BadMask, tX_BadMask⟩, ⟨xX_BadRow, PySem.W.mg_of X G aC_BadRow, kX_BadRow, bX_BadRow, tX_BadRow⟩, ⟨_, PySem.W.mg_of X G u_MOST_INPUTS, _, rfl⟩, ⟨_, PySem.W.mg_of X G u_MOST_OUTS, _, rfl⟩, ⟨_, PySem.W.mg_of X G u_MOST_STORES, _, rfl⟩, ⟨_, PySem.W.mg_of X G u_MOST_TURNS, _, rfl⟩, nq_come_to_told_apart⟩
  have C_is_whole := ok_is_whole (P := l.prog) (w0 := w) (base := base) T F_is_whole (PySem.W.mg_of X G a_is_whole) b_is_whole (PySem.W.mg_none_of X G z_bool) (PySem.W.mg_none_of X G z_int) (PySem.W.mg_none_of X G z_isinstance)
  have C_is_mask := ok_is_mask (P := l.prog) (w0 := w) (base := base) T F_is_mask (PySem.W.mg_of X G a_is_mask) b_is_mask C_is_whole
  have C_even := ok_even (P := l.prog) (w0 := w) (base := base) T F_even (PySem.W.mg_of X G a_even) b_even
  have C_bits_of := ok_bits_of (P := l.prog) (w0 := w) (base := base) T F_bits_of (PySem.W.mg_of X G a_bits_of) b_bits_of
  have C_Steps_lowered := ok_Steps_lowered (P := l.prog) (w0 := w) (base := base) T F_Steps_lowered ⟨a_Steps_lowered, i_Steps_lowered, k_Steps_lowered⟩ b_Steps_lowered
  have C_Steps_crossing := ok_Steps_crossing (P := l.prog) (w0 := w) (base := base) T F_Steps_crossing ⟨a_Steps_crossing, i_Steps_crossing, k_Steps_crossing⟩ b_Steps_crossing C_even (PySem.W.mg_none_of X G z_sorted)
  have C_Steps___init__ := ok_Steps___init__ (P := l.prog) (w0 := w) (base := base) T F_Steps___init__ ⟨mk_Steps, a_Steps___init__, i_Steps___init__, kc_Steps⟩ (PySem.W.mg_of X G aC_Steps) b_Steps___init__ C_Steps_lowered (PySem.W.mg_none_of X G z_enumerate)
  have C_sum_for := ok_sum_for (P := l.prog) (w0 := w) (base := base) T F_sum_for (PySem.W.mg_of X G a_sum_for) b_sum_for C_Steps___init__ C_Steps_lowered C_bits_of C_Steps_crossing
  have C_is_pairs := ok_is_pairs (P := l.prog) (w0 := w) (base := base) T F_is_pairs (PySem.W.mg_of X G a_is_pairs) b_is_pairs C_is_mask (PySem.W.mg_none_of X G z_isinstance) (PySem.W.mg_none_of X G z_len) (PySem.W.mg_none_of X G z_list) (PySem.W.mg_none_of X G z_tuple)
  have C_bit_of := ok_bit_of (P := l.prog) (w0 := w) (base := base) T F_bit_of (PySem.W.mg_of X G a_bit_of) b_bit_of C_even (PySem.W.mg_none_of X G z_int)
  have C_bits_by := ok_bits_by (P := l.prog) (w0 := w) (base := base) T F_bits_by (PySem.W.mg_of X G a_bits_by) b_bits_by C_bit_of (PySem.W.mg_none_of X G z_enumerate)
  have C_Machine___init__ := ok_Machine___init__ (P := l.prog) (w0 := w) (base := base) T F_Machine___init__ ⟨mk_Machine, a_Machine___init__, i_Machine___init__, kc_Machine⟩ (PySem.W.mg_of X G aC_Machine) b_Machine___init__ C_is_whole C_is_pairs (PySem.W.mg_none_of X G z_isinstance) (PySem.W.mg_none_of X G z_len) (PySem.W.mg_none_of X G z_list) (PySem.W.mg_none_of X G z_tuple)
  have C_Machine_stores := ok_Machine_stores (P := l.prog) (w0 := w) (base := base) T F_Machine_stores ⟨a_Machine_stores, i_Machine_stores, k_Machine_stores⟩ b_Machine_stores (PySem.W.mg_none_of X G z_len)
  have C_Machine_need := ok_Machine_need (P := l.prog) (w0 := w) (base := base) T F_Machine_need ⟨a_Machine_need, i_Machine_need, k_Machine_need⟩ b_Machine_need C_is_mask
  have C_Machine_step := ok_Machine_step (P := l.prog) (w0 := w) (base := base) T F_Machine_step ⟨a_Machine_step, i_Machine_step, k_Machine_step⟩ b_Machine_step C_Machine_stores C_Machine_need C_bits_by
  have C_Machine_walk := ok_Machine_walk (P := l.prog) (w0 := w) (base := base) T F_Machine_walk ⟨a_Machine_walk, i_Machine_walk, k_Machine_walk⟩ b_Machine_walk C_Machine_stores C_Machine_need C_Machine_step
  have C_Machine_after := ok_Machine_after (P := l.prog) (w0 := w) (base := base) T F_Machine_after ⟨a_Machine_after, i_Machine_after, k_Machine_after⟩ b_Machine_after B_Machine_after C_Machine_walk
  have C_Machine_back := ok_Machine_back (P := l.prog) (w0 := w) (base := base) T F_Machine_back ⟨a_Machine_back, i_Machine_back, k_Machine_back⟩ b_Machine_back C_Machine_stores C_Machine_need C_bits_of
  have C_need_state := ok_need_state (P := l.prog) (w0 := w) (base := base) T F_need_state (PySem.W.mg_of X G a_need_state) b_need_state C_Machine_stores C_is_mask
  have C_reached_by := ok_reached_by (P := l.prog) (w0 := w) (base := base) T F_reached_by (PySem.W.mg_of X G a_reached_by) b_reached_by C_Machine_after (PySem.W.mg_none_of X G z_range)
  have C_rows_at := ok_rows_at (P := l.prog) (w0 := w) (base := base) T F_rows_at (PySem.W.mg_of X G a_rows_at) b_rows_at (PySem.W.mg_none_of X G z_divmod) (PySem.W.mg_none_of X G z_range)
  have C_closed := ok_closed (P := l.prog) (w0 := w) (base := base) T F_closed (PySem.W.mg_of X G a_closed) b_closed C_sum_for (PySem.W.mg_none_of X G z_len)
  have C_within := ok_within (P := l.prog) (w0 := w) (base := base) T F_within (PySem.W.mg_of X G a_within) b_within C_Machine_stores
  have C_come_to := ok_come_to (P := l.prog) (w0 := w) (base := base) T F_come_to (PySem.W.mg_of X G a_come_to) b_come_to C_need_state C_Machine_stores C_reached_by C_sum_for C_rows_at C_within C_closed C_Machine_back (PySem.W.mg_none_of X G z_range) e_come_to (TB _ memM2a)
  have C_first_bit := ok_first_bit (P := l.prog) (w0 := w) (base := base) T F_first_bit (PySem.W.mg_of X G a_first_bit) b_first_bit C_bits_of
  have C_told_apart := ok_told_apart (P := l.prog) (w0 := w) (base := base) T F_told_apart (PySem.W.mg_of X G a_told_apart) b_told_apart C_need_state C_Machine_stores C_Machine_step C_first_bit C_closed C_Machine_after (PySem.W.mg_none_of X G z_range) e_told_apart (TB _ memM2b)
  have C_brought := ok_brought (P := l.prog) (w0 := w) (base := base) T F_brought (PySem.W.mg_of X G a_brought) b_brought C_need_state C_is_whole C_Machine_after C_Machine_stores C_reached_by C_sum_for C_within C_rows_at (PySem.W.mg_none_of X G z_min)
  have C_cell := ok_cell (P := l.prog) (w0 := w) (base := base) T F_cell (PySem.W.mg_of X G a_cell) b_cell (PySem.W.mg_none_of X G z_len)
  have C_mix := ok_mix (P := l.prog) (w0 := w) (base := base) T F_mix (PySem.W.mg_of X G a_mix) b_mix
  have C_masks := ok_masks (P := l.prog) (w0 := w) (base := base) T F_masks (PySem.W.mg_of X G a_masks) b_masks C_mix (PySem.W.mg_none_of X G z_range)
  have C_thinned := ok_thinned (P := l.prog) (w0 := w) (base := base) T F_thinned (PySem.W.mg_of X G a_thinned) b_thinned C_mix (PySem.W.mg_none_of X G z_enumerate)
  have C_machine := ok_machine (P := l.prog) (w0 := w) (base := base) T F_machine (PySem.W.mg_of X G a_machine) b_machine C_cell C_mix C_masks C_thinned (PySem.W.mg_none_of X G z_enumerate) (PySem.W.mg_none_of X G z_list) (PySem.W.mg_none_of X G z_zip)
  have C_odd := ok_odd (P := l.prog) (w0 := w) (base := base) T F_odd (PySem.W.mg_of X G a_odd) b_odd
  have C_bits := ok_bits (P := l.prog) (w0 := w) (base := base) T F_bits (PySem.W.mg_of X G a_bits) b_bits C_odd (PySem.W.mg_none_of X G z_enumerate)
  have C_steps := ok_steps (P := l.prog) (w0 := w) (base := base) T F_steps (PySem.W.mg_of X G a_steps) b_steps C_bits (PySem.W.mg_none_of X G z_len) (PySem.W.mg_none_of X G z_list) (PySem.W.mg_none_of X G z_range)
  have C_least_turns := ok_least_turns (P := l.prog) (w0 := w) (base := base) T F_least_turns (PySem.W.mg_of X G a_least_turns) b_least_turns
  have C_is_unlike := ok_is_unlike (P := l.prog) (w0 := w) (base := base) T F_is_unlike (PySem.W.mg_of X G a_is_unlike) b_is_unlike (PySem.W.mg_none_of X G z_zip)
  have C_first_unlike := ok_first_unlike (P := l.prog) (w0 := w) (base := base) T F_first_unlike (PySem.W.mg_of X G a_first_unlike) b_first_unlike C_is_unlike (PySem.W.mg_none_of X G z_len) (PySem.W.mg_none_of X G z_range)
  have C_come_right := ok_come_right (P := l.prog) (w0 := w) (base := base) T F_come_right (PySem.W.mg_of X G a_come_right) b_come_right C_least_turns C_come_to (PySem.W.mg_none_of X G z_len) (PySem.W.mg_none_of X G z_range)
  have C_apart_right := ok_apart_right (P := l.prog) (w0 := w) (base := base) T F_apart_right (PySem.W.mg_of X G a_apart_right) b_apart_right C_told_apart
  have C_brought_right := ok_brought_right (P := l.prog) (w0 := w) (base := base) T F_brought_right (PySem.W.mg_of X G a_brought_right) b_brought_right C_brought (PySem.W.mg_none_of X G z_range)
  exact ok_law T F_law C_machine C_Machine___init__ C_steps C_first_unlike C_come_right C_apart_right C_brought_right (PySem.W.mg_none_of X G z_len) (PySem.W.mg_none_of X G z_list)
end My
open PySem PySem.W PyProof.Rows
set_option maxRecDepth 100000 in
set_option maxHeartbeats 0 in
theorem PySem.Challenge.cw_sumwires_k55_whole_all_states_walked_holds : PySem.Challenge.rw_sumwires_k55_whole_all_states_walked.Holds := by
  w_on; o_law; km_head; (case hw => w_witness2)
  k_fill
  refine LamX.walk_ofTs (l := PySem.Challenge.rw_sumwires_k55_whole_all_states_walked) (n := 63) (k := 11) (CX := fun _ => L2.CX0) (x := "_law_script") rfl (by decide) rfl ⟨rfl, by decide, by decide⟩ (fun w h Y => PySem.W.km_in_of Y) ?F (fun _ _ _ _ _ z => z)
  case F =>
    intro w mg fa h Y KX G hmg
    refine' My.all_mk KX G hmg ?aC_Machine ?pg_Machine ?hd_Machine ?po_Machine ?sa_Machine ?mk_Machine ?kc_Machine ?na_Machine_inputs ?na_Machine_nexts ?na_Machine_outs ?aC_Steps ?pg_Steps ?hd_Steps ?po_Steps ?sa_Steps ?mk_Steps ?kc_Steps ?na_Steps_kept ?na_Steps_found ?na_Steps_gone ?aC_BadMask ?xX_BadMask ?kX_BadMask ?bX_BadMask ?tX_BadMask ?iX_BadMask ?aC_BadRow ?xX_BadRow ?kX_BadRow ?bX_BadRow ?tX_BadRow ?iX_BadRow ?u_MOST_INPUTS ?u_MOST_OUTS ?u_MOST_STORES ?u_MOST_TURNS ?a_is_whole ?l_is_whole ?c_is_whole ?k_is_whole ?a_is_mask ?l_is_mask ?c_is_mask ?k_is_mask ?a_even ?l_even ?c_even ?k_even ?a_bits_of ?l_bits_of ?c_bits_of ?k_bits_of ?a_Steps_lowered ?i_Steps_lowered ?l_Steps_lowered ?c_Steps_lowered ?k_Steps_lowered ?a_Steps_crossing ?i_Steps_crossing ?l_Steps_crossing ?c_Steps_crossing ?k_Steps_crossing ?a_Steps___init__ ?i_Steps___init__ ?l_Steps___init__ ?c_Steps___init__ ?k_Steps___init__ ?a_sum_for ?l_sum_for ?c_sum_for ?k_sum_for ?a_is_pairs ?l_is_pairs ?c_is_pairs ?k_is_pairs ?a_bit_of ?l_bit_of ?c_bit_of ?k_bit_of ?a_bits_by ?l_bits_by ?c_bits_by ?k_bits_by ?a_Machine___init__ ?i_Machine___init__ ?l_Machine___init__ ?c_Machine___init__ ?k_Machine___init__ ?a_Machine_stores ?i_Machine_stores ?l_Machine_stores ?c_Machine_stores ?k_Machine_stores ?a_Machine_need ?i_Machine_need ?l_Machine_need ?c_Machine_need ?k_Machine_need ?a_Machine_step ?i_Machine_step ?l_Machine_step ?c_Machine_step ?k_Machine_step ?a_Machine_walk ?i_Machine_walk ?l_Machine_walk ?c_Machine_walk ?k_Machine_walk ?a_Machine_after ?i_Machine_after ?l_Machine_after ?d_Machine_after ?c_Machine_after ?k_Machine_after ?a_Machine_back ?i_Machine_back ?l_Machine_back ?c_Machine_back ?k_Machine_back ?a_need_state ?l_need_state ?c_need_state ?k_need_state ?a_reached_by ?l_reached_by ?c_reached_by ?k_reached_by ?a_rows_at ?l_rows_at ?c_rows_at ?k_rows_at ?a_closed ?l_closed ?c_closed ?k_closed ?a_within ?l_within ?c_within ?k_within ?a_come_to ?l_come_to ?c_come_to ?k_come_to ?a_first_bit ?l_first_bit ?c_first_bit ?k_first_bit ?a_told_apart ?l_told_apart ?c_told_apart ?k_told_apart ?a_brought ?l_brought ?c_brought ?k_brought ?a_cell ?l_cell ?c_cell ?k_cell ?a_mix ?l_mix ?c_mix ?k_mix ?a_masks ?l_masks ?c_masks ?k_masks ?a_thinned ?l_thinned ?c_thinned ?k_thinned ?a_machine ?l_machine ?c_machine ?k_machine ?a_odd ?l_odd ?c_odd ?k_odd ?a_bits ?l_bits ?c_bits ?k_bits ?a_steps ?l_steps ?c_steps ?k_steps ?a_least_turns ?l_least_turns ?c_least_turns ?k_least_turns ?a_is_unlike ?l_is_unlike ?c_is_unlike ?k_is_unlike ?a_first_unlike ?l_first_unlike ?c_first_unlike ?k_first_unlike ?a_come_right ?l_come_right ?c_come_right ?k_come_right ?a_apart_right ?l_apart_right ?c_apart_right ?k_apart_right ?a_brought_right ?l_brought_right ?c_brought_right ?k_brought_right ?a_law ?l_law ?c_law ?k_law ?z_bool ?z_divmod ?z_enumerate ?z_int ?z_isinstance ?z_len ?z_list ?z_min ?z_range ?z_sorted ?z_tuple ?z_zip ?e_come_to ?lk_come_to ?vp_come_to ?ch_come_to ?nt_come_to ?hT_come_to ?e_told_apart ?lk_told_apart ?vp_told_apart ?ch_told_apart ?nt_told_apart ?hT_told_apart ?nq_come_to_told_apart
    (case aC_Machine => k_is); (case pg_Machine => k_is); (case hd_Machine => k_is); (case po_Machine => k_is)
    (case sa_Machine => k_is); (case mk_Machine => k_is); (case kc_Machine => k_is); (case na_Machine_inputs => k_is)
    (case na_Machine_nexts => k_is); (case na_Machine_outs => k_is); (case aC_Steps => k_is); (case pg_Steps => k_is)
    (case hd_Steps => k_is); (case po_Steps => k_is); (case sa_Steps => k_is); (case mk_Steps => k_is)
    (case kc_Steps => k_is); (case na_Steps_kept => k_is); (case na_Steps_found => k_is); (case na_Steps_gone => k_is)
    (case aC_BadMask => k_is); (case xX_BadMask => k_exc); (case kX_BadMask => k_is); (case bX_BadMask => k_is)
    (case tX_BadMask => k_is); (case iX_BadMask => k_is); (case aC_BadRow => k_is); (case xX_BadRow => k_exc)
    (case kX_BadRow => k_is); (case bX_BadRow => k_is); (case tX_BadRow => k_is); (case iX_BadRow => k_is)
    (case u_MOST_INPUTS => k_is); (case u_MOST_OUTS => k_is); (case u_MOST_STORES => k_is); (case u_MOST_TURNS => k_is)
    (case a_is_whole => k_is); (case l_is_whole => k_is); (case c_is_whole => k_is); (case k_is_whole => k_is)
    (case a_is_mask => k_is); (case l_is_mask => k_is); (case c_is_mask => k_is); (case k_is_mask => k_is)
    (case a_even => k_is); (case l_even => k_is); (case c_even => k_is); (case k_even => k_is)
    (case a_bits_of => k_is); (case l_bits_of => k_is); (case c_bits_of => k_is); (case k_bits_of => k_is)
    (case a_Steps_lowered => k_is); (case i_Steps_lowered => k_is); (case l_Steps_lowered => k_is); (case c_Steps_lowered => k_is)
    (case k_Steps_lowered => k_is); (case a_Steps_crossing => k_is); (case i_Steps_crossing => k_is); (case l_Steps_crossing => k_is)
    (case c_Steps_crossing => k_is); (case k_Steps_crossing => k_is); (case a_Steps___init__ => k_is); (case i_Steps___init__ => k_is)
    (case l_Steps___init__ => k_is); (case c_Steps___init__ => k_is); (case k_Steps___init__ => k_is); (case a_sum_for => k_is)
    (case l_sum_for => k_is); (case c_sum_for => k_is); (case k_sum_for => k_is); (case a_is_pairs => k_is)
    (case l_is_pairs => k_is); (case c_is_pairs => k_is); (case k_is_pairs => k_is); (case a_bit_of => k_is)
    (case l_bit_of => k_is); (case c_bit_of => k_is); (case k_bit_of => k_is); (case a_bits_by => k_is)
    (case l_bits_by => k_is); (case c_bits_by => k_is); (case k_bits_by => k_is); (case a_Machine___init__ => k_is)
    (case i_Machine___init__ => k_is); (case l_Machine___init__ => k_is); (case c_Machine___init__ => k_is); (case k_Machine___init__ => k_is)
    (case a_Machine_stores => k_is); (case i_Machine_stores => k_is); (case l_Machine_stores => k_is); (case c_Machine_stores => k_is)
    (case k_Machine_stores => k_is); (case a_Machine_need => k_is); (case i_Machine_need => k_is); (case l_Machine_need => k_is)
    (case c_Machine_need => k_is); (case k_Machine_need => k_is); (case a_Machine_step => k_is); (case i_Machine_step => k_is)
    (case l_Machine_step => k_is); (case c_Machine_step => k_is); (case k_Machine_step => k_is); (case a_Machine_walk => k_is)
    (case i_Machine_walk => k_is); (case l_Machine_walk => k_is); (case c_Machine_walk => k_is); (case k_Machine_walk => k_is)
    (case a_Machine_after => k_is); (case i_Machine_after => k_is); (case l_Machine_after => k_is); (case d_Machine_after => k_is)
    (case c_Machine_after => k_is); (case k_Machine_after => k_is); (case a_Machine_back => k_is); (case i_Machine_back => k_is)
    (case l_Machine_back => k_is); (case c_Machine_back => k_is); (case k_Machine_back => k_is); (case a_need_state => k_is)
    (case l_need_state => k_is); (case c_need_state => k_is); (case k_need_state => k_is); (case a_reached_by => k_is)
    (case l_reached_by => k_is); (case c_reached_by => k_is); (case k_reached_by => k_is); (case a_rows_at => k_is)
    (case l_rows_at => k_is); (case c_rows_at => k_is); (case k_rows_at => k_is); (case a_closed => k_is)
    (case l_closed => k_is); (case c_closed => k_is); (case k_closed => k_is); (case a_within => k_is)
    (case l_within => k_is); (case c_within => k_is); (case k_within => k_is); (case a_come_to => k_is)
    (case l_come_to => k_is); (case c_come_to => k_is); (case k_come_to => k_is); (case a_first_bit => k_is)
    (case l_first_bit => k_is); (case c_first_bit => k_is); (case k_first_bit => k_is); (case a_told_apart => k_is)
    (case l_told_apart => k_is); (case c_told_apart => k_is); (case k_told_apart => k_is); (case a_brought => k_is)
    (case l_brought => k_is); (case c_brought => k_is); (case k_brought => k_is); (case a_cell => k_is)
    (case l_cell => k_is); (case c_cell => k_is); (case k_cell => k_is); (case a_mix => k_is)
    (case l_mix => k_is); (case c_mix => k_is); (case k_mix => k_is); (case a_masks => k_is)
    (case l_masks => k_is); (case c_masks => k_is); (case k_masks => k_is); (case a_thinned => k_is)
    (case l_thinned => k_is); (case c_thinned => k_is); (case k_thinned => k_is); (case a_machine => k_is)
    (case l_machine => k_is); (case c_machine => k_is); (case k_machine => k_is); (case a_odd => k_is)
    (case l_odd => k_is); (case c_odd => k_is); (case k_odd => k_is); (case a_bits => k_is)
    (case l_bits => k_is); (case c_bits => k_is); (case k_bits => k_is); (case a_steps => k_is)
    (case l_steps => k_is); (case c_steps => k_is); (case k_steps => k_is); (case a_least_turns => k_is)
    (case l_least_turns => k_is); (case c_least_turns => k_is); (case k_least_turns => k_is); (case a_is_unlike => k_is)
    (case l_is_unlike => k_is); (case c_is_unlike => k_is); (case k_is_unlike => k_is); (case a_first_unlike => k_is)
    (case l_first_unlike => k_is); (case c_first_unlike => k_is); (case k_first_unlike => k_is); (case a_come_right => k_is)
    (case l_come_right => k_is); (case c_come_right => k_is); (case k_come_right => k_is); (case a_apart_right => k_is)
    (case l_apart_right => k_is); (case c_apart_right => k_is); (case k_apart_right => k_is); (case a_brought_right => k_is)
    (case l_brought_right => k_is); (case c_brought_right => k_is); (case k_brought_right => k_is); (case a_law => k_is)
    (case l_law => k_is); (case c_law => k_is); (case k_law => k_is); (case z_bool => k_is)
    (case z_divmod => k_is); (case z_enumerate => k_is); (case z_int => k_is); (case z_isinstance => k_is)
    (case z_len => k_is); (case z_list => k_is); (case z_min => k_is); (case z_range => k_is)
    (case z_sorted => k_is); (case z_tuple => k_is); (case z_zip => k_is)
    (case e_come_to => rfl)
    (case lk_come_to => k_is)
    (case vp_come_to => rfl)
    (case ch_come_to => kernel_rfl)
    (case nt_come_to => first | rfl | k_is | kernel_rfl)
    (case hT_come_to => exact PySem.W.km_tabs_of Y _ (by decide))
    (case e_told_apart => rfl)
    (case lk_told_apart => k_is)
    (case vp_told_apart => rfl)
    (case ch_told_apart => kernel_rfl)
    (case nt_told_apart => first | rfl | k_is | kernel_rfl)
    (case hT_told_apart => exact PySem.W.km_tabs_of Y _ (by decide))
    (case nq_come_to_told_apart => decide)
