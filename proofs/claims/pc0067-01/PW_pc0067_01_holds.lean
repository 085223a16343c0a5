import PyProof.Rows.All
import Wide.All
import OpenK.AllK
import Wide.FinOn
import PySem.Challenge.RW_pc0067_01
set_option Elab.async false
set_option linter.all false

section PartHd
open PySem PySem.W PyProof.Rows
namespace Mine
set_option maxRecDepth 100000 in
set_option maxHeartbeats 8000000 in
open_top hd for PySem.Challenge.rw_pc0067_01
end Mine
end PartHd

section Rest
open PySem PySem.W PyProof.Rows PySem.Calls
namespace Mine
theorem un1 {n k a L : Nat} (h : n + k < L) (e : a ≤ k) : n + a < L := Nat.lt_of_le_of_lt (Nat.add_le_add_left e n) h
theorem un0 {n k L : Nat} (h : n + k < L) : n < L := Nat.lt_of_le_of_lt (Nat.le_add_right n k) h
theorem un2 {n k a b L : Nat} (h : n + k < L) (e : a + b ≤ k) : n + a + b < L := Nat.lt_of_le_of_lt (Nat.le_of_eq (Nat.add_assoc n a b)) (un1 h e)
theorem un3 {n k a b c L : Nat} (h : n + k < L) (e : a + b + c ≤ k) : n + a + b + c < L := Nat.lt_of_le_of_lt (Nat.le_of_eq ((congrArg (· + c) (Nat.add_assoc n a b)).trans (Nat.add_assoc n (a + b) c))) (un1 h e)
local macro_rules | `(tactic| walk_at $s:str) => `(tactic| k_extra $s)
local macro_rules | `(tactic| ktr_room) => `(tactic| k_extra "room")
local macro_rules | `(tactic| ktr_units) => `(tactic| k_extra "room")
local macro_rules | `(tactic| k_ne) => `(tactic| k_extra "ne")
local macro_rules | `(tactic| k_all) => `(tactic| assumption)
local macro_rules | `(tactic| k_room) => `(tactic| ktr_room)
local macro_rules | `(tactic| k_units) => `(tactic| ktr_units)
section PartPick
open PySem PySem.W PyProof.Rows PySem.Calls
/-- the pen of the law: its list of drawn ints, the count of draws, the rest of the sum -/
noncomputable abbrev penObj (l : Addr) (k : Int) (t : Tok) (c : Int) (t2 : Tok) (n : Nat) : Obj := listOf #[.ref l, .int k t, .int c t2] n

theorem gen_goal {P : Prop} (h : ∀ G : Prop, (P → G) → G) : P := h P id
theorem ar_dec {n i : Nat} (h : i < n) : n + 1 - (i + 1) < n + 1 - i := Nat.sub_lt_sub_left (Nat.lt_succ_of_lt h) (Nat.lt_succ_self i)
theorem ar_of {v : Int} (h : 0 ≤ v) : ∃ n : Nat, v = (n : Int) := Int.eq_ofNat_of_zero_le h
theorem ar_lt {n : Nat} {K : Nat} (h : (n : Int) < (K : Int)) : n < K := Int.ofNat_lt.mp h
theorem ar_two {v : Int} (h0 : 0 ≤ v) (h1 : v < 2) : v = 0 ∨ v = 1 := by
  obtain ⟨n, rfl⟩ := ar_of h0
  exact (by decide : ∀ n : Nat, n < 2 → (n : Int) = 0 ∨ (n : Int) = 1) n (ar_lt h1)
theorem ar_three {v : Int} (h0 : 0 ≤ v) (h1 : v < 3) : v = 0 ∨ v = 1 ∨ v = 2 := by
  obtain ⟨n, rfl⟩ := ar_of h0
  exact (by decide : ∀ n : Nat, n < 3 → (n : Int) = 0 ∨ (n : Int) = 1 ∨ (n : Int) = 2) n (ar_lt h1)
theorem ar_four {v : Int} (h0 : 0 ≤ v) (h1 : v < 4) : v = 0 ∨ v = 1 ∨ v = 2 ∨ v = 3 := by
  obtain ⟨n, rfl⟩ := ar_of h0
  exact (by decide : ∀ n : Nat, n < 4 → (n : Int) = 0 ∨ (n : Int) = 1 ∨ (n : Int) = 2 ∨ (n : Int) = 3) n (ar_lt h1)
theorem ar_five {v : Int} (h0 : 0 ≤ v) (h1 : v < 5) : v = 0 ∨ v = 1 ∨ v = 2 ∨ v = 3 ∨ v = 4 := by
  obtain ⟨n, rfl⟩ := ar_of h0
  exact (by decide : ∀ n : Nat, n < 5 → (n : Int) = 0 ∨ (n : Int) = 1 ∨ (n : Int) = 2 ∨ (n : Int) = 3 ∨ (n : Int) = 4) n (ar_lt h1)
theorem ar_nat {b : Int} (h : 0 ≤ b) : ((b.toNat : Nat) : Int) = b := Int.toNat_of_nonneg h
theorem ar_nlt {b : Int} {i : Nat} (h0 : 0 ≤ b) (h : i < b.toNat) : (i : Int) < b := ar_nat h0 ▸ Int.ofNat_lt.mpr h
theorem ar_nle {b : Int} {K : Nat} (h : b ≤ (K : Int)) : b.toNat ≤ K := Int.toNat_le.mpr h
theorem ar_suc {k : Int} {i : Nat} : k + (i : Int) + 1 = k + ((i + 1 : Nat) : Int) := Int.add_assoc ..
theorem ar_add {k j K : Int} (h : j ≤ K) : k + j ≤ k + K := Int.add_le_add_left h k
theorem ar_ge {k j : Int} (h : 0 ≤ j) : k ≤ k + j := Int.le_add_of_nonneg_right h
theorem ar_ge0 {k j : Int} (h : 0 ≤ k) (h2 : k ≤ j) : 0 ≤ j := Int.le_trans h h2
theorem ar_up {k j a K J M : Int} (h1 : k ≤ K) (h2 : j ≤ k + J) (h3 : K + J + a ≤ M) : j + a ≤ M :=
  Int.le_trans (Int.add_le_add_right (Int.le_trans h2 (Int.add_le_add_right h1 J)) a) h3
theorem ar_up0 {k j K J M : Int} (h1 : k ≤ K) (h2 : j ≤ k + J) (h3 : K + J ≤ M) : j ≤ M := Int.le_trans (Int.le_trans h2 (Int.add_le_add_right h1 J)) h3
theorem leK {j K M : Int} (h : j ≤ K) (h2 : K ≤ M) : j ≤ M := Int.le_trans h h2
theorem leK1 {j K M : Int} (h : j ≤ K) (h2 : K + 1 ≤ M) : j + 1 ≤ M := Int.le_trans (Int.add_le_add_right h 1) h2
theorem ar_nn {k j a : Int} (h : 0 ≤ k) (h2 : k ≤ j) (h3 : 0 ≤ a) : 0 ≤ j + a := Int.add_nonneg (Int.le_trans h h2) h3
theorem cj1 { a b : Prop} (h : a ∧ b) : a := h.1
theorem cj2 {x1 a b : Prop} (h : x1 ∧ a ∧ b) : a := h.2.1
theorem cj3 {x1 x2 a b : Prop} (h : x1 ∧ x2 ∧ a ∧ b) : a := h.2.2.1
theorem cj4 {x1 x2 x3 a b : Prop} (h : x1 ∧ x2 ∧ x3 ∧ a ∧ b) : a := h.2.2.2.1
theorem cj5 {x1 x2 x3 x4 a b : Prop} (h : x1 ∧ x2 ∧ x3 ∧ x4 ∧ a ∧ b) : a := h.2.2.2.2.1
theorem cj6 {x1 x2 x3 x4 x5 a b : Prop} (h : x1 ∧ x2 ∧ x3 ∧ x4 ∧ x5 ∧ a ∧ b) : a := h.2.2.2.2.2.1
theorem cj7 {x1 x2 x3 x4 x5 x6 a b : Prop} (h : x1 ∧ x2 ∧ x3 ∧ x4 ∧ x5 ∧ x6 ∧ a ∧ b) : a := h.2.2.2.2.2.2.1
theorem cj8 {x1 x2 x3 x4 x5 x6 x7 a b : Prop} (h : x1 ∧ x2 ∧ x3 ∧ x4 ∧ x5 ∧ x6 ∧ x7 ∧ a ∧ b) : a := h.2.2.2.2.2.2.2.1
theorem cj9 {x1 x2 x3 x4 x5 x6 x7 x8 a b : Prop} (h : x1 ∧ x2 ∧ x3 ∧ x4 ∧ x5 ∧ x6 ∧ x7 ∧ x8 ∧ a ∧ b) : a := h.2.2.2.2.2.2.2.2.1
theorem cj10 {x1 x2 x3 x4 x5 x6 x7 x8 x9 a b : Prop} (h : x1 ∧ x2 ∧ x3 ∧ x4 ∧ x5 ∧ x6 ∧ x7 ∧ x8 ∧ x9 ∧ a ∧ b) : a := h.2.2.2.2.2.2.2.2.2.1
theorem cj11 {x1 x2 x3 x4 x5 x6 x7 x8 x9 x10 a b : Prop} (h : x1 ∧ x2 ∧ x3 ∧ x4 ∧ x5 ∧ x6 ∧ x7 ∧ x8 ∧ x9 ∧ x10 ∧ a ∧ b) : a := h.2.2.2.2.2.2.2.2.2.2.1
theorem cj12 {x1 x2 x3 x4 x5 x6 x7 x8 x9 x10 x11 a b : Prop} (h : x1 ∧ x2 ∧ x3 ∧ x4 ∧ x5 ∧ x6 ∧ x7 ∧ x8 ∧ x9 ∧ x10 ∧ x11 ∧ a ∧ b) : a := h.2.2.2.2.2.2.2.2.2.2.2.1
theorem ce2 {x1 a : Prop} (h : x1 ∧ a) : a := h.2
theorem ce3 {x1 x2 a : Prop} (h : x1 ∧ x2 ∧ a) : a := h.2.2
theorem ce4 {x1 x2 x3 a : Prop} (h : x1 ∧ x2 ∧ x3 ∧ a) : a := h.2.2.2
theorem ce5 {x1 x2 x3 x4 a : Prop} (h : x1 ∧ x2 ∧ x3 ∧ x4 ∧ a) : a := h.2.2.2.2
theorem ce6 {x1 x2 x3 x4 x5 a : Prop} (h : x1 ∧ x2 ∧ x3 ∧ x4 ∧ x5 ∧ a) : a := h.2.2.2.2.2
theorem ce7 {x1 x2 x3 x4 x5 x6 a : Prop} (h : x1 ∧ x2 ∧ x3 ∧ x4 ∧ x5 ∧ x6 ∧ a) : a := h.2.2.2.2.2.2
theorem ce8 {x1 x2 x3 x4 x5 x6 x7 a : Prop} (h : x1 ∧ x2 ∧ x3 ∧ x4 ∧ x5 ∧ x6 ∧ x7 ∧ a) : a := h.2.2.2.2.2.2.2
theorem ce9 {x1 x2 x3 x4 x5 x6 x7 x8 a : Prop} (h : x1 ∧ x2 ∧ x3 ∧ x4 ∧ x5 ∧ x6 ∧ x7 ∧ x8 ∧ a) : a := h.2.2.2.2.2.2.2.2
theorem ce10 {x1 x2 x3 x4 x5 x6 x7 x8 x9 a : Prop} (h : x1 ∧ x2 ∧ x3 ∧ x4 ∧ x5 ∧ x6 ∧ x7 ∧ x8 ∧ x9 ∧ a) : a := h.2.2.2.2.2.2.2.2.2
theorem ce11 {x1 x2 x3 x4 x5 x6 x7 x8 x9 x10 a : Prop} (h : x1 ∧ x2 ∧ x3 ∧ x4 ∧ x5 ∧ x6 ∧ x7 ∧ x8 ∧ x9 ∧ x10 ∧ a) : a := h.2.2.2.2.2.2.2.2.2.2
theorem ce12 {x1 x2 x3 x4 x5 x6 x7 x8 x9 x10 x11 a : Prop} (h : x1 ∧ x2 ∧ x3 ∧ x4 ∧ x5 ∧ x6 ∧ x7 ∧ x8 ∧ x9 ∧ x10 ∧ x11 ∧ a) : a := h.2.2.2.2.2.2.2.2.2.2.2
theorem ls1 {a b : Nat} (h : a < b) : a ≠ b + 1 := Nat.ne_of_lt (Nat.lt_succ_of_lt h)
theorem ls2 {a b : Nat} (h : a < b) : a ≠ b + 1 + 1 := Nat.ne_of_lt (Nat.lt_succ_of_lt (Nat.lt_succ_of_lt h))
theorem ls3 {a : Nat} : a + 1 ≠ a + 1 + 1 := Nat.ne_of_lt (Nat.lt_succ_self _)
theorem fm0 {a b : Int} (h : 0 < b) : 0 ≤ Int.fmod a b := Int.fmod_nonneg_of_pos a h
theorem fm1 {a b : Int} (h : 0 < b) : Int.fmod a b < b := Int.fmod_lt_of_pos a h
section
variable {w : World} {loose : List Str} {mean : ExcName → Option Value} {mg mb : Str → Option Value} {dp un : Nat} {gd : Option (List Code)} {cn : Str} {cs : Scope} {a : Addr} {ccd : Value} {cl : List (Str × Addr)} {outer : List Env} {A₀ : Around} {base h₀ : Heap} {L : Addr} {m : Str → Option Value} {s : Shared} {Q E : Value → Shared → Prop} {news : List (Addr × Obj)}
section
set_option maxRecDepth 100000 in
set_option maxHeartbeats 4000000 in
theorem pick_ok {p l : Addr} {vs : List Value} {ns : List Int} {n1 n2 : Nat} {k c many : Int} {t0 t1 t2 : Tok}
    (B : Below A₀ base outer h₀) (F : Fr h₀ L s.heap m) (X : (hd.heap_39 w.params).In h₀) (N : News h₀ L s.heap ((p, penObj l k t1 c t2 n1) :: (l, listOf vs.toArray n2) :: news))
    (T : Top hd.view_39 loose mean mg mb h₀) (hk : cs.kind = .function) (hdp : dp + 1 < recursionLimit) (hun : un + 8 < cLine)
    (hi : IntsAre vs ns) (hlen : ns.length ≤ 63) (k0 : 0 ≤ k) (k1 : k ≤ 100) (c0 : 0 ≤ c) (c1 : c < 997) (many0 : 1 ≤ many) (many1 : many ≤ 100)
    (hpl : @Ne Nat p l) (hpl2 : @Ne Nat l p) (hnew : ∀ q ∈ news, q.1 ≠ p)
    (hret : ∀ (v : Int) (t t' : Tok) (h' : Heap) (tk' : Nat), 0 ≤ v → v < many → Fr h₀ L h' m → News h₀ L h' ((p, penObj l (k + 1) t' c t2 n1) :: (l, listOf vs.toArray n2) :: news) → Q (.int v t) { s with heap := h', toks := tk' }) :
    wpAny (model PySem.Challenge.rw_pc0067_01.row.prog w) (ktrTop dp un gd cn cs L a ccd cl outer) (call (.ref 124) [.ref p, .int many t0]) Q E s := by
  k_with_none
  k_with "room" => (first | exact un1 (by assumption) (by decide) | exact un2 (by assumption) (by decide) | exact un3 (by assumption) (by decide) | exact un0 (by assumption) | exact Nat.le_of_ble_eq_true rfl | fail "room")
  k_with "ne" => (first | assumption | exact Ne.symm (by assumption) | exact Nat.ne_of_lt (by assumption) | exact Nat.ne_of_gt (by assumption) | exact (cj1 (by assumption)) | exact (cj2 (by assumption)) | exact (cj3 (by assumption)) | exact (cj4 (by assumption)) | exact (cj5 (by assumption)) | exact (cj6 (by assumption)) | exact (cj7 (by assumption)) | exact (cj8 (by assumption)) | exact (cj9 (by assumption)) | exact (cj10 (by assumption)) | exact (cj11 (by assumption)) | exact (cj12 (by assumption)) | exact (ce2 (by assumption)) | exact (ce3 (by assumption)) | exact (ce4 (by assumption)) | exact (ce5 (by assumption)) | exact (ce6 (by assumption)) | exact (ce7 (by assumption)) | exact (ce8 (by assumption)) | exact (ce9 (by assumption)) | exact (ce10 (by assumption)) | exact (ce11 (by assumption)) | exact (ce12 (by assumption)) | exact Ne.symm (cj1 (by assumption)) | exact Ne.symm (cj2 (by assumption)) | exact Ne.symm (cj3 (by assumption)) | exact Ne.symm (cj4 (by assumption)) | exact Ne.symm (cj5 (by assumption)) | exact Ne.symm (cj6 (by assumption)) | exact Ne.symm (cj7 (by assumption)) | exact Ne.symm (cj8 (by assumption)) | exact Ne.symm (cj9 (by assumption)) | exact Ne.symm (cj10 (by assumption)) | exact Ne.symm (cj11 (by assumption)) | exact Ne.symm (cj12 (by assumption)) | exact Ne.symm (ce2 (by assumption)) | exact Ne.symm (ce3 (by assumption)) | exact Ne.symm (ce4 (by assumption)) | exact Ne.symm (ce5 (by assumption)) | exact Ne.symm (ce6 (by assumption)) | exact Ne.symm (ce7 (by assumption)) | exact Ne.symm (ce8 (by assumption)) | exact Ne.symm (ce9 (by assumption)) | exact Ne.symm (ce10 (by assumption)) | exact Ne.symm (ce11 (by assumption)) | exact Ne.symm (ce12 (by assumption)) | exact Nat.ne_of_lt (cj1 (by assumption)) | exact Nat.ne_of_lt (cj2 (by assumption)) | exact Nat.ne_of_lt (cj3 (by assumption)) | exact Nat.ne_of_lt (cj4 (by assumption)) | exact Nat.ne_of_lt (cj5 (by assumption)) | exact Nat.ne_of_lt (cj6 (by assumption)) | exact Nat.ne_of_lt (cj7 (by assumption)) | exact Nat.ne_of_lt (cj8 (by assumption)) | exact Nat.ne_of_lt (cj9 (by assumption)) | exact Nat.ne_of_lt (cj10 (by assumption)) | exact Nat.ne_of_lt (cj11 (by assumption)) | exact Nat.ne_of_lt (cj12 (by assumption)) | exact Nat.ne_of_lt (ce2 (by assumption)) | exact Nat.ne_of_lt (ce3 (by assumption)) | exact Nat.ne_of_lt (ce4 (by assumption)) | exact Nat.ne_of_lt (ce5 (by assumption)) | exact Nat.ne_of_lt (ce6 (by assumption)) | exact Nat.ne_of_lt (ce7 (by assumption)) | exact Nat.ne_of_lt (ce8 (by assumption)) | exact Nat.ne_of_lt (ce9 (by assumption)) | exact Nat.ne_of_lt (ce10 (by assumption)) | exact Nat.ne_of_lt (ce11 (by assumption)) | exact Nat.ne_of_lt (ce12 (by assumption)) | exact Nat.ne_of_gt (cj1 (by assumption)) | exact Nat.ne_of_gt (cj2 (by assumption)) | exact Nat.ne_of_gt (cj3 (by assumption)) | exact Nat.ne_of_gt (cj4 (by assumption)) | exact Nat.ne_of_gt (cj5 (by assumption)) | exact Nat.ne_of_gt (cj6 (by assumption)) | exact Nat.ne_of_gt (cj7 (by assumption)) | exact Nat.ne_of_gt (cj8 (by assumption)) | exact Nat.ne_of_gt (cj9 (by assumption)) | exact Nat.ne_of_gt (cj10 (by assumption)) | exact Nat.ne_of_gt (cj11 (by assumption)) | exact Nat.ne_of_gt (cj12 (by assumption)) | exact Nat.ne_of_gt (ce2 (by assumption)) | exact Nat.ne_of_gt (ce3 (by assumption)) | exact Nat.ne_of_gt (ce4 (by assumption)) | exact Nat.ne_of_gt (ce5 (by assumption)) | exact Nat.ne_of_gt (ce6 (by assumption)) | exact Nat.ne_of_gt (ce7 (by assumption)) | exact Nat.ne_of_gt (ce8 (by assumption)) | exact Nat.ne_of_gt (ce9 (by assumption)) | exact Nat.ne_of_gt (ce10 (by assumption)) | exact Nat.ne_of_gt (ce11 (by assumption)) | exact Nat.ne_of_gt (ce12 (by assumption)) | exact cj1 (cj1 (by assumption)) | exact cj2 (cj1 (by assumption)) | exact ce3 (cj1 (by assumption)) | exact cj1 (cj2 (by assumption)) | exact cj2 (cj2 (by assumption)) | exact ce3 (cj2 (by assumption)) | exact cj1 (cj3 (by assumption)) | exact cj2 (cj3 (by assumption)) | exact ce3 (cj3 (by assumption)) | exact cj1 (cj4 (by assumption)) | exact cj2 (cj4 (by assumption)) | exact ce3 (cj4 (by assumption)) | exact cj1 (cj5 (by assumption)) | exact cj2 (cj5 (by assumption)) | exact ce3 (cj5 (by assumption)) | exact cj1 (cj6 (by assumption)) | exact cj2 (cj6 (by assumption)) | exact ce3 (cj6 (by assumption)) | exact cj1 (cj7 (by assumption)) | exact cj2 (cj7 (by assumption)) | exact ce3 (cj7 (by assumption)) | exact Ne.symm (cj1 (cj1 (by assumption))) | exact Ne.symm (cj2 (cj1 (by assumption))) | exact Ne.symm (ce3 (cj1 (by assumption))) | exact Ne.symm (cj1 (cj2 (by assumption))) | exact Ne.symm (cj2 (cj2 (by assumption))) | exact Ne.symm (ce3 (cj2 (by assumption))) | exact Ne.symm (cj1 (cj3 (by assumption))) | exact Ne.symm (cj2 (cj3 (by assumption))) | exact Ne.symm (ce3 (cj3 (by assumption))) | exact Ne.symm (cj1 (cj4 (by assumption))) | exact Ne.symm (cj2 (cj4 (by assumption))) | exact Ne.symm (ce3 (cj4 (by assumption))) | exact Ne.symm (cj1 (cj5 (by assumption))) | exact Ne.symm (cj2 (cj5 (by assumption))) | exact Ne.symm (ce3 (cj5 (by assumption))) | exact Ne.symm (cj1 (cj6 (by assumption))) | exact Ne.symm (cj2 (cj6 (by assumption))) | exact Ne.symm (ce3 (cj6 (by assumption))) | exact Ne.symm (cj1 (cj7 (by assumption))) | exact Ne.symm (cj2 (cj7 (by assumption))) | exact Ne.symm (ce3 (cj7 (by assumption))) | exact ls1 (cj1 (by assumption)) | exact Ne.symm (ls1 (cj1 (by assumption))) | exact ls1 (ce2 (by assumption)) | exact Ne.symm (ls1 (ce2 (by assumption))) | exact ls2 (cj1 (by assumption)) | exact Ne.symm (ls2 (cj1 (by assumption))) | exact ls2 (ce2 (by assumption)) | exact Ne.symm (ls2 (ce2 (by assumption))) | exact ls3 | exact Ne.symm ls3 | exact Nat.ne_of_gt (Nat.lt_trans (cj1 (by assumption)) (by assumption)) | exact Nat.ne_of_lt (Nat.lt_trans (cj1 (by assumption)) (by assumption)) | exact Nat.ne_of_gt (Nat.lt_trans (cj2 (by assumption)) (by assumption)) | exact Nat.ne_of_lt (Nat.lt_trans (cj2 (by assumption)) (by assumption)) | exact Nat.ne_of_gt (Nat.lt_trans (ce2 (by assumption)) (by assumption)) | exact Nat.ne_of_lt (Nat.lt_trans (ce2 (by assumption)) (by assumption)) | exact Nat.ne_of_gt (Nat.lt_trans (ce3 (by assumption)) (by assumption)) | exact Nat.ne_of_lt (Nat.lt_trans (ce3 (by assumption)) (by assumption)) | fail "ne")
  revert X
  k_fill
  intro X
  refine wpAny_call ?_
  k_dflt cell_enter
  k_steps
  all_goals exact hret _ _ _ _ _ (fm0 (by omega)) (fm1 (by omega)) (by assumption) (by assumption)
end

/-- the pen first, its list second, the rest behind: any ledger can be read so -/
theorem pen_nf {h : Heap} {p l : Addr} {vs : List Value} {ns : List Int} {n1 n2 : Nat} {k c : Int} {t1 t2 : Tok} {u : Obj → List (Addr × Obj)} (N : News h₀ L h news)
    (U : UpdF p (penObj l k t1 c t2 n1) news u) (hl : (l, listOf vs.toArray n2) ∈ news) (hi : IntsAre vs ns) :
    ∃ rest, (@Ne Nat p l) ∧ (@Ne Nat l p) ∧ (∀ q ∈ rest, q.1 ≠ p) ∧ News h₀ L h ((p, penObj l k t1 c t2 n1) :: (l, listOf vs.toArray n2) :: rest) ∧
      (∀ o, ∀ q ∈ u o, q ∈ (p, o) :: (l, listOf vs.toArray n2) :: rest) ∧ (∀ q ∈ news, ∃ o, (q.1, o) ∈ (p, penObj l k t1 c t2 n1) :: (l, listOf vs.toArray n2) :: rest) := by
  obtain ⟨pre, post, rfl, hg, pa, pb⟩ := U.split
  have hne : p ≠ l := by
    intro e
    have e1 := (N _ (List.mem_append.mpr (.inr (.head _)))).1
    have e2 := (N _ hl).1
    rw [← e] at e2
    rw [e1] at e2
    have e3 := congrArg (fun o : Option Obj => o.map (·.data)) e2
    simp only [Option.map_some, Option.some.injEq, Data.seq.injEq] at e3
    have e4 := congrArg Array.toList e3.1
    simp only at e4
    rw [← e4] at hi
    cases hi
  have hsub : ∀ q ∈ (p, penObj l k t1 c t2 n1) :: (l, listOf vs.toArray n2) :: (pre ++ post), q ∈ pre ++ (p, penObj l k t1 c t2 n1) :: post := by
    intro q hq
    rcases List.mem_cons.mp hq with rfl | hq
    · exact List.mem_append.mpr (.inr (.head _))
    rcases List.mem_cons.mp hq with rfl | hq
    · exact hl
    · rcases List.mem_append.mp hq with hq | hq
      · exact List.mem_append.mpr (.inl hq)
      · exact List.mem_append.mpr (.inr (.tail _ hq))
  have hback : ∀ o, ∀ q ∈ pre ++ (p, o) :: post, q ∈ (p, o) :: (l, listOf vs.toArray n2) :: (pre ++ post) := by
    intro o q hq
    rcases List.mem_append.mp hq with hq | hq
    · exact .tail _ (.tail _ (List.mem_append.mpr (.inl hq)))
    rcases List.mem_cons.mp hq with rfl | hq
    · exact .head _
    · exact .tail _ (.tail _ (List.mem_append.mpr (.inr hq)))
  refine ⟨pre ++ post, hne, Ne.symm hne, ?_, fun q hq => N q (hsub q hq), ?_, ?_⟩
  · intro q hq
    rcases List.mem_append.mp hq with hq | hq
    · exact pa q hq
    · exact pb q hq
  · intro o q hq
    rw [hg] at hq
    exact hback o q hq
  · intro q hq
    exact ⟨q.2, hback _ q hq⟩

theorem pick_use {p l : Addr} {vs : List Value} {ns : List Int} {n1 n2 : Nat} {k c many : Int} {t0 t1 t2 : Tok} {u : Obj → List (Addr × Obj)}
    (B : Below A₀ base outer h₀) (F : Fr h₀ L s.heap m) (X : (hd.heap_39 w.params).In h₀) (N : News h₀ L s.heap news)
    (T : Top hd.view_39 loose mean mg mb h₀) (hk : cs.kind = .function) (hdp : dp + 1 < recursionLimit) (hun : un + 8 < cLine)
    (U : UpdF p (penObj l k t1 c t2 n1) news u) (hl : (l, listOf vs.toArray n2) ∈ news)
    (hi : IntsAre vs ns) (hlen : ns.length ≤ 63) (k0 : 0 ≤ k) (k1 : k ≤ 100) (c0 : 0 ≤ c) (c1 : c < 997) (many0 : 1 ≤ many) (many1 : many ≤ 100)
    (hret : ∀ (v : Int) (t t' : Tok) (h' : Heap) (tk' : Nat), 0 ≤ v → v < many → Fr h₀ L h' m → News h₀ L h' (u (penObj l (k + 1) t' c t2 n1)) → Q (.int v t) { s with heap := h', toks := tk' }) :
    wpAny (model PySem.Challenge.rw_pc0067_01.row.prog w) (ktrTop dp un gd cn cs L a ccd cl outer) (call (.ref 124) [.ref p, .int many t0]) Q E s := by
  obtain ⟨rest, hne, hne', hnew, N0, hu, _⟩ := pen_nf N U hl hi
  refine pick_ok B F X N0 T hk hdp hun hi hlen k0 k1 c0 c1 many0 many1 hne hne' hnew ?_
  intro v t t' h' tk' v0 v1 F' N'
  exact hret v t t' h' tk' v0 v1 F' fun q hq => N' q (hu _ q hq)
end
end PartPick

section PartComp
open PySem PySem.W PyProof.Rows PySem.Calls
/-- the walk stands still at a goal of this shape -/
noncomputable def Stop (P : Prop) : Prop := P
theorem stop {P : Prop} (h : Stop P) : P := h
theorem mono_stop {α : Type} {M : Model} {A : Around} {t : Sem α} {Q : α → Shared → Prop} {E : Value → Shared → Prop} {s : Shared} (h : wpAny M A t (fun v s => Stop (Q v s)) E s) : wpAny M A t Q E s := h
theorem Stop.go {P : Prop} (h : P) : Stop P := h
theorem updF_self {d : Addr} {o : Obj} {l : List (Addr × Obj)} {g : Obj → List (Addr × Obj)} (U : UpdF d o l g) : g o = l := by
  obtain ⟨pre, post, a, b, _, _⟩ := U.split
  rw [a, b]
section
variable {prog : Program} {w : World} {A : Around} {h₀ : Heap} {L : Addr} {m : Str → Option Value} {env : Env} {elt : Expr} {x : Str} {scope : Scope} {cl : List (Str × Addr)} {s : Shared} {S : List (Addr × Obj) → Prop} {P : Nat → Value → Prop} {Fin : List Value → List (Addr × Obj) → Prop}
theorem ar_r1 {i j n : Nat} (h : i + (j + 1) = n) : i < n := h ▸ Nat.lt_add_of_pos_right (Nat.succ_pos j)
theorem ar_r2 {i j n : Nat} (h : i + (j + 1) = n) : i + 1 + j = n := (Nat.succ_add_eq_add_succ i j).trans h
theorem cend_map {h₀ : Heap} {L : Addr} {m : Str → Option Value} {s₁ s₂ : Shared} {I C D : Addr} {oI oC oD : Obj} {S : List (Addr × Obj) → Prop} {r r' : Value → List (Addr × Obj) → Prop} {y : Value} (hq : LCg.CompEnd h₀ L m s₁ I oI C oC D oD S r y s₂) (f : ∀ nw, r y nw → r' y nw) : LCg.CompEnd h₀ L m s₁ I oI C oC D oD S r' y s₂ :=
  let ⟨h', tk', nw, e, F', N', off', hS, hJ⟩ := hq
  ⟨h', tk', nw, e, F', N', off', hS, f nw hJ⟩
/-- a comprehension by an invariant over the turn's number, what it has gathered and the ledger -/
theorem rest_ind {n : Nat} (J : Nat → List Value → List (Addr × Obj) → Prop)
    (turn : ∀ i ys news v I oI C oC D m₂ h tk (E' : Value → Shared → Prop), i < n → J i ys news → P i v → LCg.NsObj oC m₂ → m₂ x = some v → Fr h₀ L h m → News h₀ L h ((I, oI) :: (C, oC) :: (D, LCg.lst ys) :: news) → LCg.Off3 I C D news → ((@Ne Nat I C) ∧ (@Ne Nat I D) ∧ (@Ne Nat C D)) →
      wpAny (model prog w) A (eval elt (compEnvC scope cl C env)) (LCg.CompEnd h₀ L m { s with heap := h, toks := tk } I oI C oC D (LCg.lst ys) S (fun y news' => J (i + 1) (ys ++ [y]) news')) E' { s with heap := h, toks := tk })
    (fin : ∀ ys news, J n ys news → Fin ys news) : ∀ (j i : Nat) (ys : List Value) (news : List (Addr × Obj)), i + j = n → J i ys news → LCg.CompRest prog w A h₀ L m env elt x scope cl s S P Fin j i ys news := by
  intro j
  induction j with
  | zero =>
    intro i ys news hi hy
    obtain rfl : i = n := hi
    exact LCg.CompRest.zero (fin ys news hy)
  | succ j ih =>
    intro i ys news hi hy
    refine LCg.CompRest.succ ?_
    intro v I oI C oC D m₂ h tk E' hv hC hx F N off ne
    refine wpAny_mono (turn i ys news v I oI C oC D m₂ h tk E' (ar_r1 hi) hy hv hC hx F N off ne) (fun y s₂ hq => cend_map hq fun nw hJ => ih (i + 1) _ _ (ar_r2 hi) hJ) fun _ _ e => e
end
section
variable {prog : Program} {w : World} {A : Around} {h₀ : Heap} {L : Addr} {m : Str → Option Value} {env : Env} {elt : Expr} {x : Str} {scope : Scope} {cl : List (Str × Addr)} {s₁ : Shared} {Fin : Shared → List Value → List (Addr × Obj) → Prop} {news : List (Addr × Obj)}
theorem strs_snoc {ys : List Value} {xs : List Str} (h : StrsAre ys xs) (z : Str) (t : Tok) : StrsAre (ys ++ [.str z t]) (xs ++ [z]) := by
  induction h with
  | nil => exact .cons z t .nil
  | cons a b _ ih => exact .cons a b ih
inductive PenJ (l : Addr) (k c : Int) (t2 : Tok) (n1 : Nat) (g : Obj → List (Addr × Obj)) (W : Str → Prop) (i : Nat) (ys : List Value) : List (Addr × Obj) → Prop
  | mk (xs : List Str) (t' : Tok) (hxs : StrsAre ys xs) (hlen : xs.length = i) (hW : ∀ x ∈ xs, W x) : PenJ l k c t2 n1 g W i ys (g (penObj l (k + i) t' c t2 n1))
theorem pen_snoc {l : Addr} {k c : Int} {t2 : Tok} {n1 : Nat} {g : Obj → List (Addr × Obj)} {W : Str → Prop} {i : Nat} {ys : List Value} {xs : List Str} {y : Value} {nw : List (Addr × Obj)} (hxs : StrsAre ys xs) (hlen : xs.length = i) (hW : ∀ x ∈ xs, W x)
    (h : ∃ t'' z tz, nw = g (penObj l (k + i + 1) t'' c t2 n1) ∧ y = .str z tz ∧ W z) : PenJ l k c t2 n1 g W (i + 1) (ys ++ [y]) nw := by
  obtain ⟨t'', z, tz, rfl, rfl, hz⟩ := h
  rw [ar_suc]
  exact .mk (xs ++ [z]) t'' (strs_snoc hxs z tz) (by simp [hlen]) fun x hx => (List.mem_append.mp hx).elim (hW x) fun hx => List.mem_singleton.mp hx ▸ hz
/-- a comprehension over a range whose element draws once from the pen and gives a text -/
theorem pen_src {p l r : Addr} {k b c : Int} {t1 t2 ta tb tc : Tok} {n1 : Nat} {g : Obj → List (Addr × Obj)} (W : Str → Prop)
    (hh : A.handled = none) (F : Fr h₀ L s₁.heap m) (N : News h₀ L s₁.heap news) (hr : IsRange s₁.heap r 0 b 1 ta tb tc) (hb0 : 0 ≤ b) (hb1 : b ≤ 40) (U : UpdF p (penObj l k t1 c t2 n1) news g)
    (turn : ∀ (i : Nat) ys xs t' v I oI C oC D m₂ h tk gg (E' : Value → Shared → Prop), (i : Int) < b → StrsAre ys xs → xs.length = i → (∀ x ∈ xs, W x) → LCg.NsObj oC m₂ → m₂ x = some v → Fr h₀ L h m → News h₀ L h ((I, oI) :: (C, oC) :: (D, LCg.lst ys) :: g (penObj l (k + i) t' c t2 n1)) → LCg.Off3 I C D (g (penObj l (k + i) t' c t2 n1)) → ((@Ne Nat I C) ∧ (@Ne Nat I D) ∧ (@Ne Nat C D)) →
      wpAny (model prog w) A (eval elt (compEnvC scope cl C env)) (LCg.CompEnd h₀ L m { s₁ with heap := h, toks := tk } I oI C oC D (LCg.lst ys) (fun _ => True) (fun y news' => ∃ t'' z tz, news' = g (penObj l (k + i + 1) t'' c t2 n1) ∧ y = .str z tz ∧ W z)) E' { ({ s₁ with heap := gg } : Shared) with heap := h, toks := tk })
    (fin : ∀ gg ys xs t', StrsAre ys xs → (xs.length : Int) = b → (∀ x ∈ xs, W x) → Fin { s₁ with heap := gg } ys (g (penObj l (k + b) t' c t2 n1))) :
    LCg.CompSrc prog w A h₀ L m env elt x scope cl Fin (.ref r) s₁ := by
  have hn : Builtin.Range.rangeSize 0 b 1 = ((b.toNat : Nat) : Int) := by
    rw [rangeSize_nat, Int.sub_zero]
  refine LCg.CompSrc.range (n := b.toNat) hh F N hr (small_one (by decide) (by decide) (Int.le_trans (by decide) hb0) (Int.lt_of_le_of_lt hb1 (by decide))) hn ?_ ?_
  · rw [sizeLine_eq]; exact Nat.le_trans (ar_nle (K := 40) hb1) (by decide)
  intro gg
  refine rest_ind (n := b.toNat) (PenJ l k c t2 n1 g W) ?_ ?_ _ 0 [] news (Nat.zero_add _) ?_
  · rintro i ys nw v I oI C oC D m₂ h tk E' hi ⟨xs, t', hxs, hlen, hW⟩ _ hC hx F N off ne
    exact wpAny_mono (turn i ys xs t' v I oI C oC D m₂ h tk gg E' (ar_nlt hb0 hi) hxs hlen hW hC hx F N off ne) (fun y s₂ hq => cend_map hq fun nw hz => pen_snoc hxs hlen hW hz) fun _ _ e => e
  · rintro ys nw ⟨xs, t', hxs, hlen, hW⟩
    rw [ar_nat hb0]
    exact fin gg ys xs t' hxs (hlen ▸ ar_nat hb0) hW
  · have := PenJ.mk (l := l) (k := k) (c := c) (t2 := t2) (n1 := n1) (g := g) (W := W) (i := 0) [] t1 .nil rfl (fun _ h => nomatch h)
    rwa [show k + ((0 : Nat) : Int) = k from Int.add_zero k, updF_self U] at this
end
end PartComp

section PartRow
open PySem PySem.W PyProof.Rows PySem.Calls
noncomputable def words8 : List Str := ["a", "b", "let", "eval", "c", "static", "arguments", "of"]
theorem words8_get {t1 t2 t3 t4 t5 t6 t7 t8 : Tok} : ∀ n : Nat, n < 8 → ∃ z t, z ∈ words8 ∧ ([.str "a" t1, .str "b" t2, .str "let" t3, .str "eval" t4, .str "c" t5, .str "static" t6, .str "arguments" t7, .str "of" t8] : List Value)[n]? = some (.str z t)
  | 0, _ => ⟨"a", t1, by decide +kernel, rfl⟩
  | 1, _ => ⟨"b", t2, by decide +kernel, rfl⟩
  | 2, _ => ⟨"let", t3, by decide +kernel, rfl⟩
  | 3, _ => ⟨"eval", t4, by decide +kernel, rfl⟩
  | 4, _ => ⟨"c", t5, by decide +kernel, rfl⟩
  | 5, _ => ⟨"static", t6, by decide +kernel, rfl⟩
  | 6, _ => ⟨"arguments", t7, by decide +kernel, rfl⟩
  | 7, _ => ⟨"of", t8, by decide +kernel, rfl⟩
  | _ + 8, h => absurd h (Nat.not_lt.mpr (Nat.le_add_left _ _))
theorem words_item {prog : Program} {w : World} {A : Around} {s : Shared} {Q E : Value → Shared → Prop} {value slice : Expr} {l : Addr} {k : Int} {u t1 t2 t3 t4 t5 t6 t7 t8 : Tok} (hl : s.heap.IsList l ([.str "a" t1, .str "b" t2, .str "let" t3, .str "eval" t4, .str "c" t5, .str "static" t6, .str "arguments" t7, .str "of" t8] : List Value).toArray) (h0 : 0 ≤ k) (hhi : k < 8) (h : ∀ z t, z ∈ words8 → Q (.str z t) s)
    (hs : subscripted slice false (.ref l) (.int k u) = operate [.ref l, .int k u] (getItem (.ref l) (.int k u)) := by with_unfolding_all rfl) :
    wpAny (model prog w) A (subscriptTail value slice (.ref l) (.int k u)) Q E s := by
  obtain ⟨n, rfl⟩ := ar_of h0
  obtain ⟨z, t, hz, e⟩ := words8_get (t1 := t1) (t2 := t2) (t3 := t3) (t4 := t4) (t5 := t5) (t6 := t6) (t7 := t7) (t8 := t8) n (ar_lt hhi)
  exact tail_any hl.typeIs slot_list_getitem.lookup (wpAny_getItem_list hl h0 (Int.lt_trans hhi (by decide)) (by simpa using e) (h z t hz)) hs
theorem off1_mem {D : Addr} : ∀ {l : List (Addr × Obj)}, LCg.Off1 D l → ∀ p ∈ l, p.1 ≠ D
  | [], _, _, h => nomatch h
  | _ :: _, x, p, h => by
    rcases List.mem_cons.mp h with rfl | h
    · exact x.1
    · exact off1_mem x.2 p h
section
variable {w : World} {loose : List Str} {mean : ExcName → Option Value} {mg mb : Str → Option Value} {dp un : Nat} {gd : Option (List Code)} {cn : Str} {cs : Scope} {a : Addr} {ccd : Value} {cl : List (Str × Addr)} {outer : List Env} {A₀ : Around} {base h₀ : Heap} {L : Addr} {m : Str → Option Value} {s : Shared} {Q E : Value → Shared → Prop} {news : List (Addr × Obj)}
section
set_option maxRecDepth 100000 in
set_option maxHeartbeats 4000000 in
theorem row_ok {p l : Addr} {vs : List Value} {ns : List Int} {n1 n2 : Nat} {k c : Int} {t0 t1 t2 : Tok}
    (B : Below A₀ base outer h₀) (F : Fr h₀ L s.heap m) (X : (hd.heap_39 w.params).In h₀) (N : News h₀ L s.heap ((p, penObj l k t1 c t2 n1) :: (l, listOf vs.toArray n2) :: news))
    (T : Top hd.view_39 loose mean mg mb h₀) (hk : cs.kind = .function) (hdp : dp + 2 < recursionLimit) (hun : un + 16 < cLine)
    (hi : IntsAre vs ns) (hlen : ns.length ≤ 63) (k0 : 0 ≤ k) (k1 : k ≤ 50) (c0 : 0 ≤ c) (c1 : c < 997)
    (hpl : @Ne Nat p l) (hpl2 : @Ne Nat l p) (hnew : ∀ q ∈ news, q.1 ≠ p)
    (hret : ∀ (D : Addr) (ys : List Value) (xs : List Str) (k' : Int) (t' : Tok) (h' : Heap) (tk' : Nat), StrsAre ys xs → xs.length ≤ 5 → (∀ x ∈ xs, x ∈ words8) → k ≤ k' → k' ≤ k + 6 → Fr h₀ L h' m →
      News h₀ L h' ((D, LCg.lst ys) :: (p, penObj l k' t' c t2 n1) :: (l, listOf vs.toArray n2) :: news) → (∀ (q : Addr × Obj), q ∈ (p, penObj l k t1 c t2 n1) :: (l, listOf vs.toArray n2) :: news → q.1 ≠ D) → Q (.ref D) { s with heap := h', toks := tk' }) :
    wpAny (model PySem.Challenge.rw_pc0067_01.row.prog w) (ktrTop dp un gd cn cs L a ccd cl outer) (call (.ref 129) [.ref p, .int 6 t0]) Q E s := by
  k_with_none
  k_with "room" => (first | exact un1 (by assumption) (by decide) | exact un2 (by assumption) (by decide) | exact un3 (by assumption) (by decide) | exact un0 (by assumption) | exact Nat.le_of_ble_eq_true rfl | fail "room")
  k_with "ne" => (first | assumption | exact Ne.symm (by assumption) | exact Nat.ne_of_lt (by assumption) | exact Nat.ne_of_gt (by assumption) | exact (cj1 (by assumption)) | exact (cj2 (by assumption)) | exact (cj3 (by assumption)) | exact (cj4 (by assumption)) | exact (cj5 (by assumption)) | exact (cj6 (by assumption)) | exact (cj7 (by assumption)) | exact (cj8 (by assumption)) | exact (cj9 (by assumption)) | exact (cj10 (by assumption)) | exact (cj11 (by assumption)) | exact (cj12 (by assumption)) | exact (ce2 (by assumption)) | exact (ce3 (by assumption)) | exact (ce4 (by assumption)) | exact (ce5 (by assumption)) | exact (ce6 (by assumption)) | exact (ce7 (by assumption)) | exact (ce8 (by assumption)) | exact (ce9 (by assumption)) | exact (ce10 (by assumption)) | exact (ce11 (by assumption)) | exact (ce12 (by assumption)) | exact Ne.symm (cj1 (by assumption)) | exact Ne.symm (cj2 (by assumption)) | exact Ne.symm (cj3 (by assumption)) | exact Ne.symm (cj4 (by assumption)) | exact Ne.symm (cj5 (by assumption)) | exact Ne.symm (cj6 (by assumption)) | exact Ne.symm (cj7 (by assumption)) | exact Ne.symm (cj8 (by assumption)) | exact Ne.symm (cj9 (by assumption)) | exact Ne.symm (cj10 (by assumption)) | exact Ne.symm (cj11 (by assumption)) | exact Ne.symm (cj12 (by assumption)) | exact Ne.symm (ce2 (by assumption)) | exact Ne.symm (ce3 (by assumption)) | exact Ne.symm (ce4 (by assumption)) | exact Ne.symm (ce5 (by assumption)) | exact Ne.symm (ce6 (by assumption)) | exact Ne.symm (ce7 (by assumption)) | exact Ne.symm (ce8 (by assumption)) | exact Ne.symm (ce9 (by assumption)) | exact Ne.symm (ce10 (by assumption)) | exact Ne.symm (ce11 (by assumption)) | exact Ne.symm (ce12 (by assumption)) | exact Nat.ne_of_lt (cj1 (by assumption)) | exact Nat.ne_of_lt (cj2 (by assumption)) | exact Nat.ne_of_lt (cj3 (by assumption)) | exact Nat.ne_of_lt (cj4 (by assumption)) | exact Nat.ne_of_lt (cj5 (by assumption)) | exact Nat.ne_of_lt (cj6 (by assumption)) | exact Nat.ne_of_lt (cj7 (by assumption)) | exact Nat.ne_of_lt (cj8 (by assumption)) | exact Nat.ne_of_lt (cj9 (by assumption)) | exact Nat.ne_of_lt (cj10 (by assumption)) | exact Nat.ne_of_lt (cj11 (by assumption)) | exact Nat.ne_of_lt (cj12 (by assumption)) | exact Nat.ne_of_lt (ce2 (by assumption)) | exact Nat.ne_of_lt (ce3 (by assumption)) | exact Nat.ne_of_lt (ce4 (by assumption)) | exact Nat.ne_of_lt (ce5 (by assumption)) | exact Nat.ne_of_lt (ce6 (by assumption)) | exact Nat.ne_of_lt (ce7 (by assumption)) | exact Nat.ne_of_lt (ce8 (by assumption)) | exact Nat.ne_of_lt (ce9 (by assumption)) | exact Nat.ne_of_lt (ce10 (by assumption)) | exact Nat.ne_of_lt (ce11 (by assumption)) | exact Nat.ne_of_lt (ce12 (by assumption)) | exact Nat.ne_of_gt (cj1 (by assumption)) | exact Nat.ne_of_gt (cj2 (by assumption)) | exact Nat.ne_of_gt (cj3 (by assumption)) | exact Nat.ne_of_gt (cj4 (by assumption)) | exact Nat.ne_of_gt (cj5 (by assumption)) | exact Nat.ne_of_gt (cj6 (by assumption)) | exact Nat.ne_of_gt (cj7 (by assumption)) | exact Nat.ne_of_gt (cj8 (by assumption)) | exact Nat.ne_of_gt (cj9 (by assumption)) | exact Nat.ne_of_gt (cj10 (by assumption)) | exact Nat.ne_of_gt (cj11 (by assumption)) | exact Nat.ne_of_gt (cj12 (by assumption)) | exact Nat.ne_of_gt (ce2 (by assumption)) | exact Nat.ne_of_gt (ce3 (by assumption)) | exact Nat.ne_of_gt (ce4 (by assumption)) | exact Nat.ne_of_gt (ce5 (by assumption)) | exact Nat.ne_of_gt (ce6 (by assumption)) | exact Nat.ne_of_gt (ce7 (by assumption)) | exact Nat.ne_of_gt (ce8 (by assumption)) | exact Nat.ne_of_gt (ce9 (by assumption)) | exact Nat.ne_of_gt (ce10 (by assumption)) | exact Nat.ne_of_gt (ce11 (by assumption)) | exact Nat.ne_of_gt (ce12 (by assumption)) | exact cj1 (cj1 (by assumption)) | exact cj2 (cj1 (by assumption)) | exact ce3 (cj1 (by assumption)) | exact cj1 (cj2 (by assumption)) | exact cj2 (cj2 (by assumption)) | exact ce3 (cj2 (by assumption)) | exact cj1 (cj3 (by assumption)) | exact cj2 (cj3 (by assumption)) | exact ce3 (cj3 (by assumption)) | exact cj1 (cj4 (by assumption)) | exact cj2 (cj4 (by assumption)) | exact ce3 (cj4 (by assumption)) | exact cj1 (cj5 (by assumption)) | exact cj2 (cj5 (by assumption)) | exact ce3 (cj5 (by assumption)) | exact cj1 (cj6 (by assumption)) | exact cj2 (cj6 (by assumption)) | exact ce3 (cj6 (by assumption)) | exact cj1 (cj7 (by assumption)) | exact cj2 (cj7 (by assumption)) | exact ce3 (cj7 (by assumption)) | exact Ne.symm (cj1 (cj1 (by assumption))) | exact Ne.symm (cj2 (cj1 (by assumption))) | exact Ne.symm (ce3 (cj1 (by assumption))) | exact Ne.symm (cj1 (cj2 (by assumption))) | exact Ne.symm (cj2 (cj2 (by assumption))) | exact Ne.symm (ce3 (cj2 (by assumption))) | exact Ne.symm (cj1 (cj3 (by assumption))) | exact Ne.symm (cj2 (cj3 (by assumption))) | exact Ne.symm (ce3 (cj3 (by assumption))) | exact Ne.symm (cj1 (cj4 (by assumption))) | exact Ne.symm (cj2 (cj4 (by assumption))) | exact Ne.symm (ce3 (cj4 (by assumption))) | exact Ne.symm (cj1 (cj5 (by assumption))) | exact Ne.symm (cj2 (cj5 (by assumption))) | exact Ne.symm (ce3 (cj5 (by assumption))) | exact Ne.symm (cj1 (cj6 (by assumption))) | exact Ne.symm (cj2 (cj6 (by assumption))) | exact Ne.symm (ce3 (cj6 (by assumption))) | exact Ne.symm (cj1 (cj7 (by assumption))) | exact Ne.symm (cj2 (cj7 (by assumption))) | exact Ne.symm (ce3 (cj7 (by assumption))) | exact ls1 (cj1 (by assumption)) | exact Ne.symm (ls1 (cj1 (by assumption))) | exact ls1 (ce2 (by assumption)) | exact Ne.symm (ls1 (ce2 (by assumption))) | exact ls2 (cj1 (by assumption)) | exact Ne.symm (ls2 (cj1 (by assumption))) | exact ls2 (ce2 (by assumption)) | exact Ne.symm (ls2 (ce2 (by assumption))) | exact ls3 | exact Ne.symm ls3 | exact Nat.ne_of_gt (Nat.lt_trans (cj1 (by assumption)) (by assumption)) | exact Nat.ne_of_lt (Nat.lt_trans (cj1 (by assumption)) (by assumption)) | exact Nat.ne_of_gt (Nat.lt_trans (cj2 (by assumption)) (by assumption)) | exact Nat.ne_of_lt (Nat.lt_trans (cj2 (by assumption)) (by assumption)) | exact Nat.ne_of_gt (Nat.lt_trans (ce2 (by assumption)) (by assumption)) | exact Nat.ne_of_lt (Nat.lt_trans (ce2 (by assumption)) (by assumption)) | exact Nat.ne_of_gt (Nat.lt_trans (ce3 (by assumption)) (by assumption)) | exact Nat.ne_of_lt (Nat.lt_trans (ce3 (by assumption)) (by assumption)) | fail "ne")
  k_with "call ref" => (k_here; (with_reducible show wpAny _ _ (call (Value.ref 124) _) _ _ _); k_dflt (refine' pick_use ?B_w ?F_w ?X_w ?N_w ?T_w ?K_w ?D_w ?R_w ?U_w ?l_w ?i_w ?len_w ?k0_w ?k1_w ?c0_w ?c1_w ?m0_w ?m1_w ?_; (case B_w => k_asm); (case F_w => k_asm); (case X_w => k_asm); (case N_w => k_asm); (case T_w => k_asm); (case K_w => first | rfl | assumption); (case D_w => ktr_room); (case R_w => ktr_units); (case U_w => k_updF); (case l_w => k_mem); (case i_w => assumption); (case len_w => assumption); (case k0_w => omega); (case k1_w => omega); (case c0_w => assumption); (case c1_w => assumption); (case m0_w => decide); (case m1_w => decide); k_whole); intro vq_w tq_w t2q_w hq_w tkq_w v0q_w v1q_w Fq_w Nq_w; (try dsimp only at Nq_w); (try dsimp only); walk_say "PICK")
  k_with "subscriptTail" => (k_here; (with_reducible show wpAny _ _ (subscriptTail _ _ (Value.ref 117) (Value.int _ _)) _ _ _); k_dflt (refine' words_item ?l_w ?a_w ?b_w ?_ ?s_w; (case l_w => exact ⟨_, (show (hd.heap_39 _).In _ from by k_in) _ _ (by k_is), rfl, _, rfl⟩); (case a_w => assumption); (case b_w => assumption); (case s_w => with_unfolding_all rfl)); intro z9_w t9_w hz9_w; walk_say "WORD")
  k_with "CompSrc" => refine stop ?_
  k_with "CompEnd" => (refine LCg.CompEnd.intro (by k_asm) (by k_asm) _ (fun _ h => h) (by exact off') trivial ⟨_, _, _, rfl, rfl, by assumption⟩)
  revert X
  k_fill
  intro X
  refine wpAny_call ?_
  k_dflt ((refine' code_defC ?k1 ?k2 ?k3 ?k4 ?k5 ?kA ?kF ?kK ?k6 ?k7 ?k8 ?k9 ?kB ?kD ?_ ?c2 ?c3 ?c4; (case kA => exact rfl); (case kF => exact rfl); (case kK => first | exact rfl | assumption); (case k1 => k_asm); (case k2 => k_asm); (case k3 => k_asm); (case k4 => k_asm); (case k5 => k_asm); (case k6 => k_is); (case k7 => k_is); (case k8 => ktr_room); (case k9 => exact BindsTo.of_eq rfl); (case kB => exact rfl); (case kD => decide +kernel); (case c2 => exact rfl); (case c3 => exact rfl); (case c4 => exact rfl); k_whole; intro gq_w Lq_w hq_w tkq_w cellsq_w FGq_w Fq_w Nq_w Yq_w Bq_w Xq_w Tq_w l1_w; (try k_lt l1_w); k_cells Yq_w; (try simp only [List.cons_append, List.nil_append] at Nq_w); (try dsimp only); (try k_lift Bq_w); (try k_fold)))
  k_steps
  refine Stop.go ?_
  k_dflt (refine' pen_src (p := p) (fun z => z ∈ words8) (by rfl) ?F ?N ?R ?b0 ?b1 ?U ?turn ?fin)
  case R => assumption
  case F => k_asm
  case N => k_asm
  case b0 => assumption
  case b1 => exact Int.le_trans (Int.le_of_lt (by assumption)) (by decide)
  case U => k_updF
  case turn =>
    intro i' ys' xs' t' v' I' oI' C' oC' D' m' h' tk' gg' E' hi' hxs' hxl' hW' hC' hx' F' N' off' ne'
    (try dsimp only at N' off')
    (try dsimp only)
    have off2 := off'
    simp only [LCg.Off3] at off'
    k_steps
    all_goals exact LCg.CompEnd.intro (by k_asm) (by k_asm) _ (fun _ h => h) (by exact off2) trivial ⟨_, _, _, rfl, rfl, by assumption⟩
  case fin =>
    intro gg' ys' xs' t' hxs' hxl' hW'
    (try dsimp only)
    k_steps
    (rename (_ ∧ _ ∧ _ ∧ LCg.Off1 _ news) => o1)
    (rename News h₀ L _ ((_, LCg.lst ys') :: _) => kN)
    subst hxl'
    refine hret _ ys' xs' (k + 1 + (xs'.length : Int)) t' _ _ hxs' (by omega) hW' (by omega) (by omega) (by assumption) (fun q (hq : q ∈ _) => kN q ?_) ?_
    · rcases List.mem_cons.mp hq with rfl | hq
      · exact .head _
      · exact .tail _ (.tail _ hq)
    · intro q hq
      rcases List.mem_cons.mp hq with rfl | hq
      · exact o1.2.1
      rcases List.mem_cons.mp hq with rfl | hq
      · exact o1.2.2.1
      · exact off1_mem o1.2.2.2 q hq
end
theorem row_use {p l : Addr} {vs : List Value} {ns : List Int} {n1 n2 : Nat} {k c : Int} {t0 t1 t2 : Tok} {u : Obj → List (Addr × Obj)}
    (B : Below A₀ base outer h₀) (F : Fr h₀ L s.heap m) (X : (hd.heap_39 w.params).In h₀) (N : News h₀ L s.heap news)
    (T : Top hd.view_39 loose mean mg mb h₀) (hk : cs.kind = .function) (hdp : dp + 2 < recursionLimit) (hun : un + 16 < cLine)
    (U : UpdF p (penObj l k t1 c t2 n1) news u) (hl : (l, listOf vs.toArray n2) ∈ news)
    (hi : IntsAre vs ns) (hlen : ns.length ≤ 63) (k0 : 0 ≤ k) (k1 : k ≤ 50) (c0 : 0 ≤ c) (c1 : c < 997)
    (hret : ∀ (D : Addr) (ys : List Value) (xs : List Str) (k' : Int) (t' : Tok) (h' : Heap) (tk' : Nat), StrsAre ys xs → xs.length ≤ 5 → (∀ x ∈ xs, x ∈ words8) → k ≤ k' → k' ≤ k + 6 → Fr h₀ L h' m →
      News h₀ L h' ((D, LCg.lst ys) :: u (penObj l k' t' c t2 n1)) → (∀ q ∈ news, q.1 ≠ D) → Q (.ref D) { s with heap := h', toks := tk' }) :
    wpAny (model PySem.Challenge.rw_pc0067_01.row.prog w) (ktrTop dp un gd cn cs L a ccd cl outer) (call (.ref 129) [.ref p, .int 6 t0]) Q E s := by
  obtain ⟨rest, hne, hne', hnew, N0, hu, hall⟩ := pen_nf N U hl hi
  refine row_ok B F X N0 T hk hdp hun hi hlen k0 k1 c0 c1 hne hne' hnew ?_
  intro D ys xs k' t' h' tk' hxs hxl hW hk1 hk2 F' N' hD
  refine hret D ys xs k' t' h' tk' hxs hxl hW hk1 hk2 F' (fun q hq => N' q ?_) ?_
  · rcases List.mem_cons.mp hq with rfl | hq
    · exact .head _
    · exact .tail _ (hu _ q hq)
  · intro q hq
    obtain ⟨o, ho⟩ := hall q hq
    exact hD (q.1, o) ho
end
end PartRow

section PartLoop
open PySem PySem.W PyProof.Rows PySem.Calls
section
variable {prog : Program} {w : World} {A : Around} {E : Value → Shared → Prop} {s : Shared} {env : Env} {h₀ : Heap} {x : Str} {body : List Stmt} {Q : Flow → Shared → Prop}
theorem fr_ext {h : Heap} {L : Addr} {m m' : Str → Option Value} (F : Fr h₀ L h m) (e : ∀ y, m y = m' y) : Fr h₀ L h m' := by
  have : m = m' := funext e
  exact this ▸ F
theorem off_tail {d : Addr} {o : Obj} {rest own : List (Addr × Obj)} (hoff : OwnOff own (((d, o) :: rest).map (·.1))) (hl : AllLt d rest) : ∀ p ∈ rest ++ own, p.1 ≠ d := by
  intro p hp
  rcases List.mem_append.mp hp with hp | hp
  · exact Nat.ne_of_lt (ktn_ltOf hl p hp)
  · exact hoff p hp d (.head _)
theorem off_same {d : Addr} {o o' : Obj} {rest own : List (Addr × Obj)} (hoff : OwnOff own (((d, o) :: rest).map (·.1))) : OwnOff own (((d, o') :: rest).map (·.1)) := hoff
/-- what holds between the turns: the ledger by a state, the names that are not stored as they were -/
inductive LedJ {σ : Type} (Led : σ → List (Addr × Obj)) (P : σ → Prop) (stored : List Str) (x : Str) (m₀ m' : Str → Option Value) (nx : List (Addr × Obj)) : Prop
  | mk (c : σ) (e : nx = Led c) (hP : P c) (hm : ∀ z, z ≠ x → stored.contains z = false → m' z = m₀ z) : LedJ Led P stored x m₀ m' nx
theorem LedJ.mem {σ : Type} {Led : σ → List (Addr × Obj)} {P : σ → Prop} {stored : List Str} {x : Str} {m₀ m' : Str → Option Value} {nx : List (Addr × Obj)} {q : Addr × Obj} (h : LedJ Led P stored x m₀ m' nx) (hl : ∀ c, q ∈ Led c) : q ∈ nx := by
  obtain ⟨c, rfl, _, _⟩ := h
  exact hl c
theorem post_map {L : Addr} {J J' : (Str → Option Value) → List (Addr × Obj) → Prop} {own : List (Addr × Obj)} {s₁ s₂ : Shared} {f : Flow} (hJ : ∀ m nx, J m nx → J' m nx) (p : InvPostG h₀ L J own s₁ Q f s₂) : InvPostG h₀ L J' own s₁ Q f s₂ := by
  have up : InvEndG h₀ L J own s₁ s₂ → InvEndG h₀ L J' own s₁ s₂ := fun ⟨h', tk', m', news', nx', e', F', N', hn', ho', ha, j⟩ => ⟨h', tk', m', news', nx', e', F', N', hn', ho', ha, hJ _ _ j⟩
  cases f with
  | ret v => exact p
  | brk => exact p
  | next => exact up p
  | cont => exact up p
theorem st_get {stored : List Str} {m₁ m₀ : Str → Option Value} (hm : ∀ z, z ≠ x → stored.contains z = false → m₁ z = m₀ z) {y : Str} (e1 : y ≠ x) : m₁ y = if stored.contains y then m₁ y else m₀ y := by
  cases e2 : stored.contains y with
  | true => simp
  | false => simpa using hm y e1 e2
theorem fr_st {h : Heap} {L : Addr} {o : Option Value} {stored : List Str} {m₁ m₀ : Str → Option Value} (F : Fr h₀ L h (fun y => if y = x then o else m₁ y)) (hm : ∀ z, z ≠ x → stored.contains z = false → m₁ z = m₀ z) : Fr h₀ L h (fun y => if y = x then o else if stored.contains y then m₁ y else m₀ y) := fr_ext F fun y => by
  by_cases e1 : y = x
  · rw [if_pos e1, if_pos e1]
  · rw [if_neg e1, if_neg e1]; exact st_get hm e1
theorem fr_dn {h : Heap} {L : Addr} {stored : List Str} {m₁ m₀ : Str → Option Value} (F : Fr h₀ L h m₁) (hm : ∀ z, z ≠ x → stored.contains z = false → m₁ z = m₀ z) : Fr h₀ L h (fun y => if y = x then m₁ y else if stored.contains y then m₁ y else m₀ y) := fr_ext F fun y => by
  by_cases e1 : y = x
  · rw [if_pos e1]
  · rw [if_neg e1]; exact st_get hm e1
/-- a for over a list of the ledger, by an invariant over the turn's number and what the ledger holds -/
theorem loop_led {σ : Type} {l : Addr} {vs : List Value} {nn : Nat} {m₀ : Str → Option Value} (Led : σ → List (Addr × Obj)) (P : Nat → σ → Prop) (stored : List Str) (c₀ : σ)
    (hh : A.handled = none) (hl : ∀ c, (l, listOf vs.toArray nn) ∈ Led c) (F : Fr h₀ env.locals s.heap m₀) (N : News h₀ env.locals s.heap (Led c₀)) (hp : P 0 c₀)
    (turn : ∀ i c v (u : Str → Option Value) h tk own, vs[i]? = some v → OwnOff own ((Led c).map (·.1)) → P i c → Fr h₀ env.locals h (fun y => if y = x then some v else if stored.contains y then u y else m₀ y) → News h₀ env.locals h (Led c ++ own) →
      wpAny (model prog w) A (execs body env) (InvPostG h₀ env.locals (LedJ Led (P (i + 1)) stored x m₀) own { s with heap := h, toks := tk } Q) E { s with heap := h, toks := tk })
    (done : ∀ c (u : Str → Option Value) h tk, P vs.length c → Fr h₀ env.locals h (fun y => if y = x then u y else if stored.contains y then u y else m₀ y) → News h₀ env.locals h (Led c) → Q .next { s with heap := h, toks := tk }) :
    wpAny (model prog w) A (pyIter (.ref l)) (fun it s₂ => LoopAtV prog w A h₀ env x body Q E it s₂) E s := by
  refine kdl_iter (news := Led c₀) (fun i m nx => LedJ Led (P i) stored x m₀ m nx) hh (hl c₀) F N ⟨c₀, rfl, hp, fun _ _ _ => rfl⟩ ?_ ?_
  · rintro i v m₁ nx h tk own hv hoff hmem ⟨c, rfl, hP, hm⟩ F₁ N₁
    exact wpAny_mono (turn i c v m₁ h tk own hv hoff hP (fr_st F₁ hm) N₁) (fun f s₂ p => post_map (fun m nx hJ => ⟨hJ.mem hl, hJ⟩) p) fun _ _ e => e
  · rintro m₁ nx h tk ⟨c, rfl, hP, hm⟩ F₁ N₁
    exact done c m₁ h tk hP (fr_dn F₁ hm) N₁
end
end PartLoop

section PartLT
open PySem PySem.W PyProof.Rows PySem.Calls
section
variable {prog : Program} {w : World} {A : Around} {E : Value → Shared → Prop} {s : Shared} {env : Env} {h₀ : Heap} {x : Str} {body : List Stmt} {Q : Flow → Shared → Prop}
noncomputable abbrev tupOf (vs : List Value) (n : Nat) : Obj := { cls := .type "tuple", data := .seq vs.toArray n }
theorem at_loop {I : Addr} {fp wr : List Addr} {n : Nat} {P : Nat → Value → Prop} {St : Nat → Heap → Prop} {m₀ : Str → Option Value} {news : List (Addr × Obj)} {J : Nat → (Str → Option Value) → List (Addr × Obj) → Prop}
    (W : Walks prog w A I fp wr n P St) (h1 : env.locals ∉ fp) (h2 : ∀ b ∈ wr, h₀.get? b = none) (h3 : ∀ p ∈ news, p.1 ∉ wr) (h4 : St 0 s.heap) (F : Fr h₀ env.locals s.heap m₀) (N : News h₀ env.locals s.heap news) (hj : J 0 m₀ news)
    (turn : ∀ i v m₁ news₁ h tk own, i < n → P i v → J i m₁ news₁ → (∀ p ∈ news₁, p.1 ∉ wr) → (∀ p ∈ own, p.1 ∈ fp) → (∀ p ∈ own, h.get? p.1 = some p.2) → (∀ b ∈ fp, h₀.get? b = none → ∀ o, h.get? b = some o → (b, o) ∈ own) → St (i + 1) h →
      Fr h₀ env.locals h (fun y => if y = x then some v else m₁ y) → News h₀ env.locals h (own ++ news₁) →
      ∃ own', (∀ s₂, InvEndG h₀ env.locals (J (i + 1)) own' { s with heap := h, toks := tk } s₂ → LoopStepU h₀ env.locals wr own (J (i + 1)) { s with heap := h, toks := tk } .next s₂) ∧ wpAny (model prog w) A (execs body env) (InvPostG h₀ env.locals (J (i + 1)) own' { s with heap := h, toks := tk } Q) E { s with heap := h, toks := tk })
    (done : ∀ m₁ news₁ h tk, J n m₁ news₁ → Fr h₀ env.locals h m₁ → News h₀ env.locals h news₁ → Q .next { s with heap := h, toks := tk }) : LoopAtV prog w A h₀ env x body Q E (.ref I) s := by
  refine ⟨I, fp, wr, n, P, St, m₀, news, J, rfl, W, h1, h2, h3, h4, F, N, hj, ?_, fun h' tk m' news' F' N' _ hJ => done m' news' h' tk hJ F' N'⟩
  rintro i v m₁ news₁ _ own ⟨h, tk, rfl⟩ hin hP hJ hoff hown hget hfp hst F₁ N₁
  obtain ⟨own', fin, hw⟩ := turn i v m₁ news₁ h tk own hin hP hJ hoff hown hget hfp hst F₁ N₁
  refine wpAny_mono hw (fun f s₂ p => ?_) fun _ _ e => e
  cases f with
  | ret v => exact .ret p
  | brk => exact .brk p
  | next => exact .next (fin _ p)
  | cont => exact .cont (fin _ p)
theorem tup_iter {l : Addr} {vs : List Value} {nn : Nat} {m₀ : Str → Option Value} {news : List (Addr × Obj)} (J : Nat → (Str → Option Value) → List (Addr × Obj) → Prop)
    (hh : A.handled = none) (hl : (l, tupOf vs nn) ∈ news) (F : Fr h₀ env.locals s.heap m₀) (N : News h₀ env.locals s.heap news) (hj : J 0 m₀ news)
    (turn : ∀ i v m₁ news₁ h tk own, vs[i]? = some v → OwnOff own (news₁.map (·.1)) → (l, tupOf vs nn) ∈ news₁ → J i m₁ news₁ → Fr h₀ env.locals h (fun y => if y = x then some v else m₁ y) → News h₀ env.locals h (news₁ ++ own) →
      wpAny (model prog w) A (execs body env) (InvPostG h₀ env.locals (fun m' nx => (l, tupOf vs nn) ∈ nx ∧ J (i + 1) m' nx) own { s with heap := h, toks := tk } Q) E { s with heap := h, toks := tk })
    (done : ∀ m₁ news₁ h tk, J vs.length m₁ news₁ → Fr h₀ env.locals h m₁ → News h₀ env.locals h news₁ → Q .next { s with heap := h, toks := tk }) :
    wpAny (model prog w) A (pyIter (.ref l)) (fun it s₂ => LoopAtV prog w A h₀ env x body Q E it s₂) E s := by
  have hol : s.heap.get? l = some (tupOf vs nn) := (N _ hl).1
  have hls : s.heap.IsTuple l vs.toArray := ⟨_, hol, rfl, nn, rfl⟩
  have hne : l ≠ s.heap.objs.size := Nat.ne_of_lt (Heap.lt_size hol)
  refine wpAny_pyIter_tuple hls ?_
  have W := Walks.tuple (prog := prog) (w := w) hh s.heap.objs.size l hne vs.toArray
  have hlen : vs.toArray.size = vs.length := by simp
  rw [hlen] at W
  refine at_loop (J := fun i m nx => (l, tupOf vs nn) ∈ nx ∧ J i m nx) W ?_ ?_ ?_ ⟨⟨_, Heap.get?_push_size _ rfl, rfl, rfl⟩, ⟨_, Heap.get?_push_of_some _ hol, rfl, nn, rfl⟩⟩ (F.push _) (fun p hp => ⟨Heap.get?_push_of_some _ (N p hp).1, (N p hp).2⟩) ⟨hl, hj⟩ ?_ (fun m₁ news₁ h tk hJ => done m₁ news₁ h tk hJ.2)
  · intro hm
    rcases List.mem_cons.mp hm with e | hm
    · exact absurd F.ns.lt (e ▸ Nat.lt_irrefl _)
    · exact (N _ hl).2.1 ((List.mem_singleton.mp hm).symm)
  · intro b hb
    rw [List.mem_singleton.mp hb]
    exact next_is_new F
  · intro p hp hI
    exact absurd (Heap.lt_size (N p hp).1) ((List.mem_singleton.mp hI) ▸ Nat.lt_irrefl _)
  · rintro i v m₁ news₁ hh' tk' own hin hP ⟨hl₁, hJ⟩ hoff hown hget hfp hst F₁ N₁
    have hP' : vs[i]? = some v := by simpa using hP
    have hI0 : h₀.get? s.heap.objs.size = none := next_is_new F
    obtain ⟨⟨oI, hoI, _⟩, _⟩ := id hst
    have hIown : (s.heap.objs.size, oI) ∈ own.filter fun p => decide (p.1 = s.heap.objs.size) := List.mem_filter.mpr ⟨hfp _ (List.mem_cons.mpr (.inl rfl)) hI0 _ hoI, by simp⟩
    have hsep : OwnOff (own.filter fun p => decide (p.1 = s.heap.objs.size)) (news₁.map (·.1)) := by
      intro p hp b hb e
      obtain ⟨q, hq, rfl⟩ := List.mem_map.mp hb
      have h1 : p.1 = s.heap.objs.size := by simpa using (List.mem_filter.mp hp).2
      exact hoff q hq (List.mem_singleton.mpr (e ▸ h1))
    have N₂ : News h₀ env.locals hh' (news₁ ++ own.filter fun p => decide (p.1 = s.heap.objs.size)) := fun p hp => N₁ p ((List.mem_append.mp hp).elim (fun h => List.mem_append.mpr (.inr h)) fun h => List.mem_append.mpr (.inl ((List.mem_filter.mp h).1)))
    have hlo : hh'.get? l = some (tupOf vs nn) := (N₁ _ (List.mem_append.mpr (.inr hl₁))).1
    refine ⟨own.filter fun p => decide (p.1 = s.heap.objs.size), ?_, turn i v m₁ news₁ hh' tk' _ hP' hsep hl₁ hJ F₁ N₂⟩
    · rintro s₂ ⟨h', tk, m', news', nx, e, F', N', hn, ho, ha, hm⟩
      refine ⟨rfl, h', tk, m', nx, e, F', fun p hp => ?_, fun p hp hq => ?_, hm⟩
      · rcases List.mem_append.mp hp with h | h
        · by_cases hI : p.1 = s.heap.objs.size
          · exact N' p (ho p (List.mem_filter.mpr ⟨h, by simpa using hI⟩))
          · have h1 : p.1 = l := by
              rcases List.mem_cons.mp (hown p h) with h2 | h2
              · exact absurd h2 hI
              · exact List.mem_singleton.mp h2
            have h2 : hh'.get? p.1 = some p.2 := hget p h
            rw [h1, hlo] at h2
            have h3 : p = (l, tupOf vs nn) := Prod.ext h1 (Option.some.inj h2).symm
            rw [h3]
            exact N' _ (hn _ hm.1)
        · exact N' p (hn p h)
      · exact ha _ hIown p.1 (List.mem_map.mpr ⟨p, hp, rfl⟩) (List.mem_singleton.mp hq).symm
/-- a for over a tuple of the ledger, by an invariant over the turn's number and what the ledger holds -/
theorem loop_tup {σ : Type} {l : Addr} {vs : List Value} {nn : Nat} {m₀ : Str → Option Value} (Led : σ → List (Addr × Obj)) (P : Nat → σ → Prop) (stored : List Str) (c₀ : σ)
    (hh : A.handled = none) (hl : ∀ c, (l, tupOf vs nn) ∈ Led c) (F : Fr h₀ env.locals s.heap m₀) (N : News h₀ env.locals s.heap (Led c₀)) (hp : P 0 c₀)
    (turn : ∀ i c v (u : Str → Option Value) h tk own, vs[i]? = some v → OwnOff own ((Led c).map (·.1)) → P i c → Fr h₀ env.locals h (fun y => if y = x then some v else if stored.contains y then u y else m₀ y) → News h₀ env.locals h (Led c ++ own) →
      wpAny (model prog w) A (execs body env) (InvPostG h₀ env.locals (LedJ Led (P (i + 1)) stored x m₀) own { s with heap := h, toks := tk } Q) E { s with heap := h, toks := tk })
    (done : ∀ c (u : Str → Option Value) h tk, P vs.length c → Fr h₀ env.locals h (fun y => if y = x then u y else if stored.contains y then u y else m₀ y) → News h₀ env.locals h (Led c) → Q .next { s with heap := h, toks := tk }) :
    wpAny (model prog w) A (pyIter (.ref l)) (fun it s₂ => LoopAtV prog w A h₀ env x body Q E it s₂) E s := by
  refine tup_iter (news := Led c₀) (fun i m nx => LedJ Led (P i) stored x m₀ m nx) hh (hl c₀) F N ⟨c₀, rfl, hp, fun _ _ _ => rfl⟩ ?_ ?_
  · rintro i v m₁ nx h tk own hv hoff hmem ⟨c, rfl, hP, hm⟩ F₁ N₁
    exact wpAny_mono (turn i c v m₁ h tk own hv hoff hP (fr_st F₁ hm) N₁) (fun f s₂ p => post_map (fun m nx hJ => ⟨hJ.mem hl, hJ⟩) p) fun _ _ e => e
  · rintro m₁ nx h tk ⟨c, rfl, hP, hm⟩ F₁ N₁
    exact done c m₁ h tk hP (fr_dn F₁ hm) N₁
theorem rng_iter {r : Addr} {b₀ : Int} {t₀ u₀ v₀ : Tok} {n : Nat} {m₀ : Str → Option Value} {news : List (Addr × Obj)} (J : Nat → (Str → Option Value) → List (Addr × Obj) → Prop)
    (hh : A.handled = none) (hr : IsRange s.heap r 0 b₀ 1 t₀ u₀ v₀) (hsmall : Builtin.Range.small 0 b₀ 1 = true) (hn : Builtin.Range.rangeSize 0 b₀ 1 = (n : Int)) (F : Fr h₀ env.locals s.heap m₀) (N : News h₀ env.locals s.heap news) (hj : J 0 m₀ news)
    (turn : ∀ i t m₁ news₁ h tk own, i < n → OwnOff own (news₁.map (·.1)) → J i m₁ news₁ → Fr h₀ env.locals h (fun y => if y = x then some (.int (i : Int) t) else m₁ y) → News h₀ env.locals h (news₁ ++ own) →
      wpAny (model prog w) A (execs body env) (InvPostG h₀ env.locals (fun m' nx => J (i + 1) m' nx) own { s with heap := h, toks := tk } Q) E { s with heap := h, toks := tk })
    (done : ∀ m₁ news₁ h tk, J n m₁ news₁ → Fr h₀ env.locals h m₁ → News h₀ env.locals h news₁ → Q .next { s with heap := h, toks := tk }) :
    wpAny (model prog w) A (pyIter (.ref r)) (fun it s₂ => LoopAtV prog w A h₀ env x body Q E it s₂) E s := by
  refine wpAny_pyIter_range hr hsmall ?_
  have W : Walks prog w A s.heap.objs.size [s.heap.objs.size] [s.heap.objs.size] n (fun i v => i < n ∧ ∃ t, v = .int (0 + i * 1) t)
      (fun i h => IsRangeIter h s.heap.objs.size (0 + (i : Nat) * 1) ((n : Int) - (i : Nat)) 1) := (Walks.range hh _ 0 1 n).bound
  refine at_loop (J := J) W ?_ ?_ ?_ (by show IsRangeIter _ _ _ _ _; rw [hn]; simpa using Heap.get?_push_size _ rfl) (F.push _) (fun p hp => ⟨Heap.get?_push_of_some _ (N p hp).1, (N p hp).2⟩) hj ?_ done
  · intro hm
    exact absurd F.ns.lt ((List.mem_singleton.mp hm) ▸ Nat.lt_irrefl _)
  · intro b hb
    rw [List.mem_singleton.mp hb]
    exact next_is_new F
  · intro p hp hI
    exact absurd (Heap.lt_size (N p hp).1) ((List.mem_singleton.mp hI) ▸ Nat.lt_irrefl _)
  · rintro i v m₁ news₁ hh' tk' own hin ⟨_, t, rfl⟩ hJ hoff hown hget hfp hst F₁ N₁
    have e1 : (0 : Int) + (i : Int) * 1 = (i : Int) := by rw [Int.mul_one, Int.zero_add]
    rw [e1] at F₁
    have hI0 : h₀.get? s.heap.objs.size = none := next_is_new F
    have hst' : IsRangeIter hh' s.heap.objs.size _ _ 1 := hst
    obtain ⟨oI, hoI⟩ : ∃ o, hh'.get? s.heap.objs.size = some o := ⟨_, hst'⟩
    have hIown : (s.heap.objs.size, oI) ∈ own := hfp _ (List.mem_singleton.mpr rfl) hI0 _ hoI
    have hsep : OwnOff own (news₁.map (·.1)) := by
      intro p hp b hb e
      obtain ⟨q, hq, rfl⟩ := List.mem_map.mp hb
      exact hoff q hq (e ▸ hown p hp)
    have N₂ : News h₀ env.locals hh' (news₁ ++ own) := fun p hp => N₁ p ((List.mem_append.mp hp).elim (fun h => List.mem_append.mpr (.inr h)) fun h => List.mem_append.mpr (.inl h))
    refine ⟨own, ?_, turn i t m₁ news₁ hh' tk' _ hin hsep hJ F₁ N₂⟩
    · rintro s₂ ⟨h', tk, m', news', nx, e, F', N', hn, ho, ha, hm⟩
      refine ⟨rfl, h', tk, m', nx, e, F', fun p hp => ?_, fun p hp hq => ?_, hm⟩
      · rcases List.mem_append.mp hp with h | h
        · exact N' p (ho p h)
        · exact N' p (hn p h)
      · exact ha _ hIown p.1 (List.mem_map.mpr ⟨p, hp, rfl⟩) (List.mem_singleton.mp hq).symm
/-- a for over a range from 0, by an invariant over the turn's number and what the ledger holds -/
theorem loop_rng {σ : Type} {r : Addr} {b₀ : Int} {t₀ u₀ v₀ : Tok} {n : Nat} {m₀ : Str → Option Value} (Led : σ → List (Addr × Obj)) (P : Nat → σ → Prop) (stored : List Str) (c₀ : σ)
    (hh : A.handled = none) (hr : IsRange s.heap r 0 b₀ 1 t₀ u₀ v₀) (hsmall : Builtin.Range.small 0 b₀ 1 = true) (hn : Builtin.Range.rangeSize 0 b₀ 1 = (n : Int)) (F : Fr h₀ env.locals s.heap m₀) (N : News h₀ env.locals s.heap (Led c₀)) (hp : P 0 c₀)
    (turn : ∀ i c t (u : Str → Option Value) h tk own, i < n → OwnOff own ((Led c).map (·.1)) → P i c → Fr h₀ env.locals h (fun y => if y = x then some (.int (i : Int) t) else if stored.contains y then u y else m₀ y) → News h₀ env.locals h (Led c ++ own) →
      wpAny (model prog w) A (execs body env) (InvPostG h₀ env.locals (LedJ Led (P (i + 1)) stored x m₀) own { s with heap := h, toks := tk } Q) E { s with heap := h, toks := tk })
    (done : ∀ c (u : Str → Option Value) h tk, P n c → Fr h₀ env.locals h (fun y => if y = x then u y else if stored.contains y then u y else m₀ y) → News h₀ env.locals h (Led c) → Q .next { s with heap := h, toks := tk }) :
    wpAny (model prog w) A (pyIter (.ref r)) (fun it s₂ => LoopAtV prog w A h₀ env x body Q E it s₂) E s := by
  refine rng_iter (news := Led c₀) (fun i m nx => LedJ Led (P i) stored x m₀ m nx) hh hr hsmall hn F N ⟨c₀, rfl, hp, fun _ _ _ => rfl⟩ ?_ ?_
  · rintro i t m₁ nx h tk own hi hoff ⟨c, rfl, hP, hm⟩ F₁ N₁
    exact turn i c t m₁ h tk own hi hoff hP (fr_st F₁ hm) N₁
  · rintro m₁ nx h tk ⟨c, rfl, hP, hm⟩ F₁ N₁
    exact done c m₁ h tk hP (fr_dn F₁ hm) N₁
end
end PartLT

section PartFT
open PySem PySem.W PyProof.Rows PySem.Calls
section
variable {w : World} {loose : List Str} {mean : ExcName → Option Value} {mg mb : Str → Option Value} {dp un : Nat} {gd : Option (List Code)} {cn : Str} {cs : Scope} {a : Addr} {ccd : Value} {cl : List (Str × Addr)} {outer : List Env} {A₀ : Around} {base h₀ : Heap} {L : Addr} {m : Str → Option Value} {s : Shared} {Q E : Value → Shared → Prop} {news : List (Addr × Obj)}
/-- the first text of the second list that stands ahead of it -/
noncomputable def firstTwice : List Str → List Str → Option Str
  | _, [] => none
  | seen, x :: r => if x ∈ seen then some x else firstTwice (seen ++ [x]) r
theorem firstTwice_mem : ∀ {r seen : List Str} {x : Str}, firstTwice seen r = some x → x ∈ r
  | [], _, _, h => nomatch h
  | y :: r, seen, x, h => by
    unfold firstTwice at h
    by_cases e : y ∈ seen
    · rw [if_pos e] at h
      cases h
      exact .head _
    · rw [if_neg e] at h
      exact .tail _ (firstTwice_mem h)
theorem ft_len {xs : List Str} {x : Str} (h : firstTwice [] xs = some x) (hl : ∀ y ∈ xs, y.length ≤ 100) : x.length ≤ 100 := hl x (firstTwice_mem h)
noncomputable def optV (t : Tok) : Option Str → Value
  | none => .none
  | some x => .str x t
inductive StrAt (xs : List Str) (i : Nat) (v : Value) : Prop
  | mk (x : Str) (t : Tok) (hv : v = .str x t) (hx : xs[i]? = some x) : StrAt xs i v
theorem strs_get {vs : List Value} {xs : List Str} (h : StrsAre vs xs) : ∀ {i : Nat} {v : Value}, vs[i]? = some v → StrAt xs i v := by
  induction h with
  | nil => intro i v e; simp at e
  | cons y t _ ih =>
    intro i v e
    cases i with
    | zero => simp at e; subst e; exact ⟨y, t, rfl, rfl⟩
    | succ i =>
      obtain ⟨x, t, hv, hx⟩ := ih (by simpa using e)
      exact ⟨x, t, hv, by simpa using hx⟩
theorem strs_len {vs : List Value} {xs : List Str} (h : StrsAre vs xs) : vs.length = xs.length := by
  induction h with
  | nil => rfl
  | cons y t _ ih => simp [ih]
theorem drop_of_get {α : Type} {xs : List α} {i : Nat} {z : α} (h : xs[i]? = some z) : xs.drop i = z :: xs.drop (i + 1) := by
  obtain ⟨hlt, e⟩ := List.getElem?_eq_some_iff.mp h
  rw [List.drop_eq_getElem_cons hlt, e]
theorem valueAt_has {kvs : List (Str × Value)} {k : Str} : (valueAt kvs k).isSome = decide (k ∈ kvs.map (·.1)) := by
  induction kvs with
  | nil => simp [valueAt]
  | cons p r ih =>
    by_cases e : p.1 = k
    · simp [valueAt, e]
    · have e2 : ¬ k = p.1 := fun q => e q.symm
      have : (valueAt (p :: r) k) = valueAt r k := by simp [valueAt, e]
      rw [this, ih]
      simp [e2]
theorem stored_keys {kvs : List (Str × Value)} {k : Str} {v : Value} (h : k ∉ kvs.map (·.1)) : (stored kvs k v).map (·.1) = kvs.map (·.1) ++ [k] := by
  have hany : ¬ (kvs.any fun kv => decide (kv.1 = k)) = true := by
    rw [List.any_eq_true]; rintro ⟨kv, hkv, he⟩
    exact h (List.mem_map.mpr ⟨kv, hkv, of_decide_eq_true he⟩)
  rw [stored, if_neg hany]
  simp
section
set_option maxRecDepth 100000 in
set_option maxHeartbeats 4000000 in
theorem ft_ok {q : Addr} {vs : List Value} {xs : List Str} {n : Nat}
    (B : Below A₀ base outer h₀) (F : Fr h₀ L s.heap m) (X : (hd.heap_39 w.params).In h₀) (N : News h₀ L s.heap ((q, listOf vs.toArray n) :: news))
    (T : Top hd.view_39 loose mean mg mb h₀) (hk : cs.kind = .function) (hdp : dp + 2 < recursionLimit) (hun : un + 16 < cLine)
    (hi : StrsAre vs xs) (hlen : xs.length ≤ 63)
    (hret : ∀ (t : Tok) (h' : Heap) (tk' : Nat), Fr h₀ L h' m → News h₀ L h' ((q, listOf vs.toArray n) :: news) → Q (optV t (firstTwice [] xs)) { s with heap := h', toks := tk' }) :
    wpAny (model PySem.Challenge.rw_pc0067_01.row.prog w) (ktrTop dp un gd cn cs L a ccd cl outer) (call (.ref 38) [.ref q]) Q E s := by
  k_with_none
  k_with "room" => (first | exact un1 (by assumption) (by decide) | exact un2 (by assumption) (by decide) | exact un3 (by assumption) (by decide) | exact un0 (by assumption) | exact Nat.le_of_ble_eq_true rfl | fail "room")
  k_with "ne" => (first | assumption | exact Ne.symm (by assumption) | exact Nat.ne_of_lt (by assumption) | exact Nat.ne_of_gt (by assumption) | exact (cj1 (by assumption)) | exact (cj2 (by assumption)) | exact (cj3 (by assumption)) | exact (cj4 (by assumption)) | exact (cj5 (by assumption)) | exact (cj6 (by assumption)) | exact (cj7 (by assumption)) | exact (cj8 (by assumption)) | exact (cj9 (by assumption)) | exact (cj10 (by assumption)) | exact (cj11 (by assumption)) | exact (cj12 (by assumption)) | exact (ce2 (by assumption)) | exact (ce3 (by assumption)) | exact (ce4 (by assumption)) | exact (ce5 (by assumption)) | exact (ce6 (by assumption)) | exact (ce7 (by assumption)) | exact (ce8 (by assumption)) | exact (ce9 (by assumption)) | exact (ce10 (by assumption)) | exact (ce11 (by assumption)) | exact (ce12 (by assumption)) | exact Ne.symm (cj1 (by assumption)) | exact Ne.symm (cj2 (by assumption)) | exact Ne.symm (cj3 (by assumption)) | exact Ne.symm (cj4 (by assumption)) | exact Ne.symm (cj5 (by assumption)) | exact Ne.symm (cj6 (by assumption)) | exact Ne.symm (cj7 (by assumption)) | exact Ne.symm (cj8 (by assumption)) | exact Ne.symm (cj9 (by assumption)) | exact Ne.symm (cj10 (by assumption)) | exact Ne.symm (cj11 (by assumption)) | exact Ne.symm (cj12 (by assumption)) | exact Ne.symm (ce2 (by assumption)) | exact Ne.symm (ce3 (by assumption)) | exact Ne.symm (ce4 (by assumption)) | exact Ne.symm (ce5 (by assumption)) | exact Ne.symm (ce6 (by assumption)) | exact Ne.symm (ce7 (by assumption)) | exact Ne.symm (ce8 (by assumption)) | exact Ne.symm (ce9 (by assumption)) | exact Ne.symm (ce10 (by assumption)) | exact Ne.symm (ce11 (by assumption)) | exact Ne.symm (ce12 (by assumption)) | exact Nat.ne_of_lt (cj1 (by assumption)) | exact Nat.ne_of_lt (cj2 (by assumption)) | exact Nat.ne_of_lt (cj3 (by assumption)) | exact Nat.ne_of_lt (cj4 (by assumption)) | exact Nat.ne_of_lt (cj5 (by assumption)) | exact Nat.ne_of_lt (cj6 (by assumption)) | exact Nat.ne_of_lt (cj7 (by assumption)) | exact Nat.ne_of_lt (cj8 (by assumption)) | exact Nat.ne_of_lt (cj9 (by assumption)) | exact Nat.ne_of_lt (cj10 (by assumption)) | exact Nat.ne_of_lt (cj11 (by assumption)) | exact Nat.ne_of_lt (cj12 (by assumption)) | exact Nat.ne_of_lt (ce2 (by assumption)) | exact Nat.ne_of_lt (ce3 (by assumption)) | exact Nat.ne_of_lt (ce4 (by assumption)) | exact Nat.ne_of_lt (ce5 (by assumption)) | exact Nat.ne_of_lt (ce6 (by assumption)) | exact Nat.ne_of_lt (ce7 (by assumption)) | exact Nat.ne_of_lt (ce8 (by assumption)) | exact Nat.ne_of_lt (ce9 (by assumption)) | exact Nat.ne_of_lt (ce10 (by assumption)) | exact Nat.ne_of_lt (ce11 (by assumption)) | exact Nat.ne_of_lt (ce12 (by assumption)) | exact Nat.ne_of_gt (cj1 (by assumption)) | exact Nat.ne_of_gt (cj2 (by assumption)) | exact Nat.ne_of_gt (cj3 (by assumption)) | exact Nat.ne_of_gt (cj4 (by assumption)) | exact Nat.ne_of_gt (cj5 (by assumption)) | exact Nat.ne_of_gt (cj6 (by assumption)) | exact Nat.ne_of_gt (cj7 (by assumption)) | exact Nat.ne_of_gt (cj8 (by assumption)) | exact Nat.ne_of_gt (cj9 (by assumption)) | exact Nat.ne_of_gt (cj10 (by assumption)) | exact Nat.ne_of_gt (cj11 (by assumption)) | exact Nat.ne_of_gt (cj12 (by assumption)) | exact Nat.ne_of_gt (ce2 (by assumption)) | exact Nat.ne_of_gt (ce3 (by assumption)) | exact Nat.ne_of_gt (ce4 (by assumption)) | exact Nat.ne_of_gt (ce5 (by assumption)) | exact Nat.ne_of_gt (ce6 (by assumption)) | exact Nat.ne_of_gt (ce7 (by assumption)) | exact Nat.ne_of_gt (ce8 (by assumption)) | exact Nat.ne_of_gt (ce9 (by assumption)) | exact Nat.ne_of_gt (ce10 (by assumption)) | exact Nat.ne_of_gt (ce11 (by assumption)) | exact Nat.ne_of_gt (ce12 (by assumption)) | exact cj1 (cj1 (by assumption)) | exact cj2 (cj1 (by assumption)) | exact ce3 (cj1 (by assumption)) | exact cj1 (cj2 (by assumption)) | exact cj2 (cj2 (by assumption)) | exact ce3 (cj2 (by assumption)) | exact cj1 (cj3 (by assumption)) | exact cj2 (cj3 (by assumption)) | exact ce3 (cj3 (by assumption)) | exact cj1 (cj4 (by assumption)) | exact cj2 (cj4 (by assumption)) | exact ce3 (cj4 (by assumption)) | exact cj1 (cj5 (by assumption)) | exact cj2 (cj5 (by assumption)) | exact ce3 (cj5 (by assumption)) | exact cj1 (cj6 (by assumption)) | exact cj2 (cj6 (by assumption)) | exact ce3 (cj6 (by assumption)) | exact cj1 (cj7 (by assumption)) | exact cj2 (cj7 (by assumption)) | exact ce3 (cj7 (by assumption)) | exact Ne.symm (cj1 (cj1 (by assumption))) | exact Ne.symm (cj2 (cj1 (by assumption))) | exact Ne.symm (ce3 (cj1 (by assumption))) | exact Ne.symm (cj1 (cj2 (by assumption))) | exact Ne.symm (cj2 (cj2 (by assumption))) | exact Ne.symm (ce3 (cj2 (by assumption))) | exact Ne.symm (cj1 (cj3 (by assumption))) | exact Ne.symm (cj2 (cj3 (by assumption))) | exact Ne.symm (ce3 (cj3 (by assumption))) | exact Ne.symm (cj1 (cj4 (by assumption))) | exact Ne.symm (cj2 (cj4 (by assumption))) | exact Ne.symm (ce3 (cj4 (by assumption))) | exact Ne.symm (cj1 (cj5 (by assumption))) | exact Ne.symm (cj2 (cj5 (by assumption))) | exact Ne.symm (ce3 (cj5 (by assumption))) | exact Ne.symm (cj1 (cj6 (by assumption))) | exact Ne.symm (cj2 (cj6 (by assumption))) | exact Ne.symm (ce3 (cj6 (by assumption))) | exact Ne.symm (cj1 (cj7 (by assumption))) | exact Ne.symm (cj2 (cj7 (by assumption))) | exact Ne.symm (ce3 (cj7 (by assumption))) | exact ls1 (cj1 (by assumption)) | exact Ne.symm (ls1 (cj1 (by assumption))) | exact ls1 (ce2 (by assumption)) | exact Ne.symm (ls1 (ce2 (by assumption))) | exact ls2 (cj1 (by assumption)) | exact Ne.symm (ls2 (cj1 (by assumption))) | exact ls2 (ce2 (by assumption)) | exact Ne.symm (ls2 (ce2 (by assumption))) | exact ls3 | exact Ne.symm ls3 | exact Nat.ne_of_gt (Nat.lt_trans (cj1 (by assumption)) (by assumption)) | exact Nat.ne_of_lt (Nat.lt_trans (cj1 (by assumption)) (by assumption)) | exact Nat.ne_of_gt (Nat.lt_trans (cj2 (by assumption)) (by assumption)) | exact Nat.ne_of_lt (Nat.lt_trans (cj2 (by assumption)) (by assumption)) | exact Nat.ne_of_gt (Nat.lt_trans (ce2 (by assumption)) (by assumption)) | exact Nat.ne_of_lt (Nat.lt_trans (ce2 (by assumption)) (by assumption)) | exact Nat.ne_of_gt (Nat.lt_trans (ce3 (by assumption)) (by assumption)) | exact Nat.ne_of_lt (Nat.lt_trans (ce3 (by assumption)) (by assumption)) | fail "ne")
  k_with "compareOp In str ref" => (k_here; k_dflt (refine' kda_in (knd := PySem.strKind _ _) ?N_w ?m_w ?d_w ?lo_w (strKind_is _ _ _ _) _ valueAt_has ?_; (case N_w => k_asm); (case m_w => k_mem); (case d_w => assumption); (case lo_w => assumption)))
  k_with "setItem ref str" => (k_here; k_dflt (refine' kda_set (knd := PySem.strKind _ _) ?F_w ?N_w ?U_w ?d_w (strKind_is _ _ _ _) ?z_w ?_; (case F_w => k_asm); (case N_w => k_asm); (case U_w => k_updF); (case d_w => assumption); (case z_w => (rw [sizeLine_eq]; omega))); intro hq_w oq_w Fq_w Nq_w hdq_w; (try dsimp only at Nq_w))
  revert X
  k_fill
  intro X
  refine wpAny_call ?_
  k_dflt cell_enter
  k_steps
  (rename Fr _ _ _ _ => lF')
  (with_unfolding_all refine' For_invVF lF' ?k1 ?k2 ?_)
  case k1 => exact rfl
  case k2 => exact rfl
  k_dflt (refine ld lF' (by rfl) ?_)
  rename Obj.IsDictOf (PySem.strKind _ _) _ _ => hs0
  rename News _ _ _ ((_, _) :: (q, listOf vs.toArray n) :: news) => N1
  rename (_ ∧ AllLt _ news) => l1
  refine loop_led (σ := Obj × List (Str × Value)) (fun c => (_, c.1) :: (q, listOf vs.toArray n) :: news) (fun i c => c.1.IsDictOf (PySem.strKind _ _) c.2 ∧ c.2.map (·.1) = xs.take i ∧ firstTwice [] xs = firstTwice (xs.take i) (xs.drop i)) [] (_, []) rfl (fun _ => .tail _ (.head _)) lF' N1 ⟨hs0, by simp, by simp⟩ ?turn ?done
  case turn =>
    rintro i ⟨o, kvs⟩ v u h tk own hv hoff ⟨hd, hkeys, hft⟩ F2 N2
    obtain ⟨z, tz, rfl, hz⟩ := strs_get hi hv
    dsimp only at hd hkeys N2 hoff
    have hlk : kvs.length ≤ 63 := by
      have := congrArg List.length hkeys
      simp at this
      omega
    simp only [List.cons_append] at N2
    have hoff2 := off_tail hoff l1
    simp only [List.cons_append] at hoff2
    have hdrop : xs.drop i = z :: xs.drop (i + 1) := drop_of_get hz
    have htake : xs.take (i + 1) = xs.take i ++ [z] := by rw [List.take_add_one, hz]; rfl
    k_steps
    · rename z ∈ _ => hin
      rename Fr h₀ L _ m => kF
      rename News h₀ L _ (_ :: _ :: (news ++ own)) => kN
      have e : firstTwice [] xs = some z := by
        rw [hft, hdrop, ← hkeys]
        simp only [firstTwice, if_pos hin]
      show Q (optV tz (some z)) _
      rw [← e]
      refine hret tz _ _ kF (fun p hp => kN p ?_)
      rcases List.mem_cons.mp hp with rfl | hp
      · exact .tail _ (.head _)
      · exact .tail _ (.tail _ (List.mem_append.mpr (.inl hp)))
    · rename ¬ z ∈ _ => hnin
      rename Obj.IsDictOf _ _ (stored kvs z _) => hd2
      refine InvEndG.intro (by k_asm) (by k_asm) ⟨(_, stored kvs z (.bool true)), rfl, ⟨hd2, ?_, ?_⟩, fun y h1 h2 => by simp [h1]⟩ (off_same hoff) ?_ ?_
      · dsimp only
        rw [stored_keys hnin, hkeys, htake]
      · rw [hft, hdrop, htake]
        rw [hkeys] at hnin
        simp only [firstTwice, if_neg hnin]
      · intro p hp
        rcases List.mem_cons.mp hp with rfl | hp
        · exact .head _
        rcases List.mem_cons.mp hp with rfl | hp
        · exact .tail _ (.head _)
        · exact .tail _ (.tail _ (List.mem_append.mpr (.inl hp)))
      · intro p hp
        exact .tail _ (.tail _ (List.mem_append.mpr (.inr hp)))
  case done =>
    rintro ⟨o, kvs⟩ u h tk ⟨hd, hkeys, hft⟩ F2 N2
    dsimp only at N2 hft
    k_steps
    rename Fr h₀ L _ m => kF
    rename News h₀ L _ (_ :: _ :: news) => kN
    have e : firstTwice [] xs = none := by
      rw [hft, strs_len hi, List.drop_length]
      simp only [firstTwice]
    show Q (optV 0 none) _
    rw [← e]
    exact hret 0 _ _ kF (fun p hp => kN p (.tail _ hp))
end
theorem ft_use {q : Addr} {vs : List Value} {xs : List Str} {n : Nat}
    (B : Below A₀ base outer h₀) (F : Fr h₀ L s.heap m) (X : (hd.heap_39 w.params).In h₀) (N : News h₀ L s.heap news)
    (T : Top hd.view_39 loose mean mg mb h₀) (hk : cs.kind = .function) (hdp : dp + 4 < recursionLimit) (hun : un + 100 < cLine)
    (hq : (q, listOf vs.toArray n) ∈ news) (hi : StrsAre vs xs) (hlen : xs.length ≤ 63)
    (hret : ∀ (t : Tok) (h' : Heap) (tk' : Nat), Fr h₀ L h' m → News h₀ L h' news → Q (optV t (firstTwice [] xs)) { s with heap := h', toks := tk' }) :
    wpAny (model PySem.Challenge.rw_pc0067_01.row.prog w) (ktrTop dp un gd cn cs L a ccd cl outer) (call (.ref 38) [.ref q]) Q E s := by
  refine ft_ok (news := news) (n := n) B F X (fun p hp => ?_) T hk (by omega) (by omega) hi hlen fun t h' tk' F' N' => hret t h' tk' F' fun p hp => N' p (.tail _ hp)
  rcases List.mem_cons.mp hp with rfl | hp
  · exact N _ hq
  · exact N p hp
end
end PartFT

section PartPT
open PySem PySem.W PyProof.Rows PySem.Calls PySem.Spec
section
variable {prog : Program} {w : World} {A : Around} {E : Value → Shared → Prop} {s : Shared} {h₀ : Heap} {L : Addr} {m : Str → Option Value} {env : Env}
/-- two lists, place by place -/
inductive All2 {α β : Type} (G : α → β → Prop) : List α → List β → Prop
  | nil : All2 G [] []
  | cons {a : α} {b : β} {as : List α} {bs : List β} : G a b → All2 G as bs → All2 G (a :: as) (b :: bs)
theorem All2.snoc {α β : Type} {G : α → β → Prop} {as : List α} {bs : List β} {a : α} {b : β} (h : All2 G as bs) (g : G a b) : All2 G (as ++ [a]) (bs ++ [b]) := by
  induction h with
  | nil => exact .cons g .nil
  | cons x _ ih => exact .cons x ih
theorem All2.length {α β : Type} {G : α → β → Prop} {as : List α} {bs : List β} (h : All2 G as bs) : bs.length = as.length := by
  induction h with
  | nil => rfl
  | cons _ _ ih => simp [ih]
theorem filter_take {α : Type} {items : List α} {p : α → Bool} {i : Nat} {a : α} (e : items[i]? = some a) :
    (items.take (i + 1)).filter p = if p a = true then (items.take i).filter p ++ [a] else (items.take i).filter p := by
  have : items.take (i + 1) = items.take i ++ [a] := by rw [List.take_add_one, e]; rfl
  rw [this, List.filter_append]
  cases h : p a <;> simp [h]
/-- what stands between the turns of a comprehension over pairs -/
inductive PtInv {α : Type} (s₂ : Shared) (C D : Addr) (H₁ : Heap) (items : List α) (p : α → Bool) (G : α → Value → Prop) (St : Nat → Heap → Prop) : Nat → Shared → Prop
  | mk (h' : Heap) (tk i : Nat) (m' : Str → Option Value) (ys : List Value) (hi : i ≤ items.length) (hst : St i h') (hn : h'.Ns C m') (hk : ∀ z o, H₁.get? z = some o → h'.get? z = some o) (hD : h'.get? D = some (LCg.lst ys)) (hys : All2 G ((items.take i).filter p) ys) :
    PtInv s₂ C D H₁ items p G St (items.length + 1 - i) { s₂ with heap := h', toks := tk }
inductive ptP {α : Type} (R : α → Value → Value → Prop) (items : List α) (i : Nat) (v : Value) (h : Heap) : Prop
  | mk (T : Addr) (a b : Value) (q : α) (hv : v = .ref T) (hq : items[i]? = some q) (hR : R q a b) (hT : h.IsTuple T #[a, b]) : ptP R items i v h
inductive TestEnd (c : Bool) (s₃ : Shared) : Bool → Shared → Prop
  | mk (h' : Heap) (tk : Nat) (hk : ∀ z o, s₃.heap.get? z = some o → h'.get? z = some o) : TestEnd c s₃ c { s₃ with heap := h', toks := tk }
theorem test_at {c b : Bool} {s₃ s₄ : Shared} (h : b = c ∧ Keeps s₃ s₄) : TestEnd c s₃ b s₄ := by
  obtain ⟨rfl, h', tk, rfl, hk⟩ := h
  exact ⟨h', tk, hk⟩
inductive ElemEnd (g : Prop) (s₃ : Shared) : Shared → Prop
  | mk (h' : Heap) (tk : Nat) (hg : g) (hk : ∀ z o, s₃.heap.get? z = some o → h'.get? z = some o) : ElemEnd g s₃ { s₃ with heap := h', toks := tk }
theorem elem_at {g : Prop} {s₃ s₄ : Shared} (h : g ∧ Keeps s₃ s₄) : ElemEnd g s₃ s₄ := by
  obtain ⟨hG, h', tk, rfl, hk⟩ := h
  exact ⟨h', tk, hG, hk⟩
theorem pt_block {elt iter c : Expr} {x x₂ : Str} {px px₂ tp : Pos} {kk : Nat} {scope : Scope} {cl : List (Str × Addr)} {pos : Pos} {s₂ : Shared} {I : Addr} {fp wr : List Addr} {Md : Nat → Value → Heap → Prop} {St : Nat → Heap → Prop} {H₁ : Heap}
    {α : Type} {items : List α} (R : α → Value → Value → Prop) (p : α → Bool) (G : α → Value → Prop) {RR : Value → Addr → Result → Shared → Prop}
    (W : KTurns prog w A (.Tuple [.Name x px, .Name x₂ px₂] kk tp) I fp wr items.length (ptP R items) Md St)
    (hh : A.handled = none) (hsz : items.length ≤ sizeLine)
    (hcell : ∀ y ∈ scope.names, y.2 ≠ .cell) (hkind : scope.kind = .function) (hx : scope.names.lookup x = some .local) (hx₂ : scope.names.lookup x₂ = some .local) (hxx : ¬ x = x₂)
    (hst : St 0 s₂.heap) (hfp : ∀ b ∈ fp, b < s₂.heap.objs.size) (hH : ∀ z o, H₁.get? z = some o → s₂.heap.get? z = some o) (hwr : ∀ b ∈ wr, H₁.get? b = none)
    (hpy : ∀ (s' : Shared) (Q : Value → Shared → Prop) (E : Value → Shared → Prop), St 0 s'.heap → Q (.ref I) s' → wpAny (model prog w) A (pyIter (.ref I)) Q E s')
    (test : ∀ C q a b s₃ m₃ (E' : Value → Shared → Prop), q ∈ items → R q a b → (∀ z o, H₁.get? z = some o → s₃.heap.get? z = some o) → H₁.get? C = none → s₃.heap.Ns C m₃ → m₃ x = some a → m₃ x₂ = some b →
      wpAny (model prog w) A (isTrue c (compEnvC scope cl C env) (eval c (compEnvC scope cl C env))) (fun ok s₄ => ok = p q ∧ Keeps s₃ s₄) E' s₃)
    (elem : ∀ C q a b s₃ m₃ (E' : Value → Shared → Prop), q ∈ items → R q a b → (∀ z o, H₁.get? z = some o → s₃.heap.get? z = some o) → H₁.get? C = none → s₃.heap.Ns C m₃ → m₃ x = some a → m₃ x₂ = some b →
      wpAny (model prog w) A (eval elt (compEnvC scope cl C env)) (fun y s₄ => G q y ∧ Keeps s₃ s₄) E' s₃)
    (hRR : ∀ D C h tk m' ys, (∀ z o, H₁.get? z = some o → h.get? z = some o) → h.get? D = some (LCg.lst ys) → All2 G (items.filter p) ys → h.Ns C m' → H₁.get? D = none → H₁.get? C = none → C ≠ D → D ≥ H₁.objs.size → RR (.ref D) C (.ok .next) { s₂ with heap := h, toks := tk })
    (hHs : H₁.objs.size ≤ s₂.heap.objs.size) :
    wpAny (model prog w) A (newList []) (fun acc s₃ => wpAny (model prog w) A (newFunctionEnv scope env.globals cl [] env.qual none .none (some env)) (fun cenv s₄ =>
      codeAny (model prog w) A (.compStart (.ListComp elt [⟨.Tuple [.Name x px, .Name x₂ px₂] kk tp, iter, [c], 0⟩] scope pos) 0 (.ref I) acc { cenv with scope := relabel scope env }) (RR acc cenv.locals) s₄) E s₃) E s₂ := by
  refine wpAny_newObj_type (wpAny_newFunctionEnv hcell (by intro y hy; simp at hy) (fun h₁ hns₁ hsb₁ => ?_) hkind)
  dsimp only at hns₁ hsb₁ ⊢
  generalize hH2 : s₂.heap.push { cls := .type "list", dict := none, data := .seq ([] : List Value).toArray } = H2 at hns₁ hsb₁ ⊢
  have hC : H2.objs.size = s₂.heap.objs.size + 1 := by rw [← hH2, Heap.size_push]
  have hDC : s₂.heap.objs.size ≠ H2.objs.size := by rw [hC]; exact Nat.ne_of_lt (Nat.lt_succ_self _)
  have below : ∀ b, b < s₂.heap.objs.size → b ≠ H2.objs.size ∧ b ≠ s₂.heap.objs.size := fun b hb => ⟨by rw [hC]; exact Nat.ne_of_lt (Nat.lt_succ_of_lt hb), Nat.ne_of_lt hb⟩
  have old : ∀ b o, s₂.heap.get? b = some o → h₁.get? b = some o := fun b o e => hsb₁.extBut b o (below b (Heap.lt_size e)).1 (Heap.get?_push_of_some _ (hH2 ▸ Heap.get?_push_of_some _ e))
  have hacc : h₁.get? s₂.heap.objs.size = some (LCg.lst []) := hsb₁.extBut _ _ hDC (Heap.get?_push_of_some _ (hH2 ▸ Heap.get?_push_size _ rfl))
  have hst₁ : St 0 h₁ := W.frame _ _ _ hst fun b _ o e => old b o e
  have fresh : ∀ a, s₂.heap.objs.size ≤ a → H₁.get? a = none := fun a ha => by
    cases e : H₁.get? a with
    | none => rfl
    | some o' => exact absurd (Heap.lt_size (hH a o' e)) (Nat.not_lt.mpr ha)
  have hD₀ : H₁.get? s₂.heap.objs.size = none := fresh _ (Nat.le_refl _)
  have hC₀ : H₁.get? H2.objs.size = none := fresh _ (by rw [hC]; exact Nat.le_succ _)
  have hDf : s₂.heap.objs.size ∉ fp := fun hm => Nat.lt_irrefl _ (hfp _ hm)
  have hCf : H2.objs.size ∉ fp := fun hm => by have := hfp _ hm; rw [hC] at this; exact Nat.lt_irrefl _ (Nat.lt_of_succ_lt this)
  have hDw : s₂.heap.objs.size ∉ wr := fun hm => hDf (W.sub _ hm)
  have hCw : H2.objs.size ∉ wr := fun hm => hCf (W.sub _ hm)
  have oldw : ∀ z o, H₁.get? z = some o → z ∉ wr := fun z o e hm => by rw [hwr z hm] at e; cases e
  have oldC : ∀ z o, H₁.get? z = some o → z ≠ H2.objs.size := fun z o e q => by rw [q, hC₀] at e; cases e
  have oldD : ∀ z o, H₁.get? z = some o → z ≠ s₂.heap.objs.size := fun z o e q => by rw [q, hD₀] at e; cases e
  have loop : ∀ s₃ : Shared, s₃ = { s₂ with heap := h₁, toks := s₂.toks + ([] : List (Str × Value)).length } →
      codeAny (model prog w) A (.compLoop (.ListComp elt [⟨.Tuple [.Name x px, .Name x₂ px₂] kk tp, iter, [c], 0⟩] scope pos) 0 (.ref I) (.ref s₂.heap.objs.size) (compEnvC scope cl H2.objs.size env))
        (RR (.ref s₂.heap.objs.size) H2.objs.size) s₃ := by
    rintro s₃ rfl
    refine kct_loop (PtInv s₂ H2.objs.size s₂.heap.objs.size H₁ items p G St) ?_ (items.length + 1)
      (.mk h₁ _ 0 _ [] (Nat.zero_le _) hst₁ hns₁ (fun z o e => old z o (hH z o e)) hacc (by rw [List.take_zero]; exact .nil))
    intro k s' h9
    induction h9
    rename_i h' tk i m' ys hi hst' hn' hk' hD' hys
    by_cases hlt : i < items.length
    · refine W.item i _ _ _ hlt hst' fun v h₂ tk₂ hMd hk₂ => ?_
      refine W.go i v _ _ _ hMd fun h₃ hP hst₃ hk₃ => ?_
      obtain ⟨T, a, b, q, rfl, hab, hR, hT⟩ := hP
      have up₃ : ∀ z o, z ∉ wr → h'.get? z = some o → h₃.get? z = some o := fun z o hz e => hk₃ z o hz (hk₂ z o hz e)
      refine kcp_assign (env := compEnvC scope cl H2.objs.size env) hh hT (lookup_relabel_local hx) (lookup_relabel_local hx₂) (by simp [compEnvC, relabel, hkind]) (hn'.at' fun o e => up₃ _ o hCw e) fun h₄ tk₄ hn₄ hs₄ => ?_
      have hs₄' : ∀ z o, z ≠ H2.objs.size → h₃.get? z = some o → h₄.get? z = some o := hs₄
      have hst₄ : St (i + 1) h₄ := W.frame _ _ _ hst₃ fun z hz o e => hs₄' z o (fun q => hCf (q ▸ hz)) e
      have hk₄ : ∀ z o, H₁.get? z = some o → h₄.get? z = some o := fun z o e => hs₄' z o (oldC z o e) (up₃ z o (oldw z o e) (hk' z o e))
      have hD₄ : h₄.get? s₂.heap.objs.size = some (LCg.lst ys) := hs₄' _ _ hDC (up₃ _ _ hDw hD')
      have hmem : q ∈ items := List.mem_of_getElem? hab
      have htk := filter_take (p := p) hab
      refine wpAny_mono (test H2.objs.size q a b { s₂ with heap := h₄, toks := tk₄ } _ _ hmem hR hk₄ hC₀ hn₄ (by simp [hxx]) (by simp)) (fun okb s₅ h₅ => ?_) fun _ _ e => e
      replace h₅ := test_at h₅
      induction h₅
      rename_i h₅' tk₅ hk₅'
      dsimp only at hk₅'
      have hst₅ : St (i + 1) h₅' := W.frame _ _ _ hst₄ fun z _ o e => hk₅' z o e
      cases hp : p q with
      | false =>
        simp only [Bool.false_eq_true, if_false]
        rw [hp] at htk
        simp only [Bool.false_eq_true, if_false] at htk
        exact ⟨_, ar_dec hlt, .mk h₅' tk₅ (i + 1) _ ys hlt hst₅ (hn₄.at' fun o e => hk₅' _ o e) (fun z o e => hk₅' z o (hk₄ z o e)) (hk₅' _ _ hD₄) (by rw [htk]; exact hys)⟩
      | true =>
        simp only [if_true]
        rw [hp] at htk
        simp only [if_true] at htk
        have hn₅ := hn₄.at' fun o e => hk₅' _ o e
        refine wpAny_mono (elem H2.objs.size q a b { s₂ with heap := h₅', toks := tk₅ } _ _ hmem hR (fun z o e => hk₅' z o (hk₄ z o e)) hC₀ hn₅ (by simp [hxx]) (by simp)) (fun y s₆ h₆ => ?_) fun _ _ e => e
        replace h₆ := elem_at h₆
        induction h₆
        rename_i h₆' tk₆ hG hk₆'
        dsimp only at hk₆'
        have hD₆ : h₆'.get? s₂.heap.objs.size = some (LCg.lst ys) := hk₆' _ _ (hk₅' _ _ hD₄)
        have hst₆ : St (i + 1) h₆' := W.frame _ _ _ hst₅ fun z _ o e => hk₆' z o e
        have hlen : ys.length ≤ i := by
          rw [hys.length]
          exact Nat.le_trans (List.length_filter_le _ _) (by rw [List.length_take]; exact Nat.min_le_left _ _)
        refine append_at (hsz := by show ys.toArray.size ≤ sizeLine; rw [List.size_toArray]; exact Nat.le_trans hlen (Nat.le_trans hi hsz)) hD₆ fun h₇ hs₇ hD₇ => ?_
        refine ⟨_, ar_dec hlt, .mk h₇ _ (i + 1) _ (ys ++ [y]) hlt (W.frame _ _ _ hst₆ fun z hz o e => hs₇.extBut z o (fun q => hDf (q ▸ hz)) e) ((hn₅.at' fun o e => hk₆' _ o e).sameBut hs₇ (Ne.symm hDC)) (fun z o e => hs₇.extBut z o (oldD z o e) (hk₆' z o (hk₅' z o (hk₄ z o e)))) ?_ (by rw [htk]; exact hys.snoc hG)⟩
        rw [hD₇]
        exact congrArg some (LCg.lst_snoc _ _)
    · have hin : i = items.length := Nat.le_antisymm hi (Nat.not_lt.mp hlt)
      subst hin
      rw [List.take_length] at hys
      refine W.done _ _ _ hst' fun h₂ tk₂ hk₂ => ?_
      exact hRR _ _ h₂ tk₂ _ ys (fun z o e => hk₂ z o (oldw z o e) (hk' z o e)) (hk₂ _ _ hDw hD') hys (hn'.at' fun o e => hk₂ _ o hCw e) hD₀ hC₀ (Ne.symm hDC) hHs
  exact codeAny_compStart_list (loop _ rfl) (hpy _ _ _ hst₁ (loop _ rfl))

/-- what is iterated hands on pairs, and leaves all of the heap H₁ as it was -/
noncomputable def PtIter (prog : Program) (w : World) (A : Around) (tgt : Expr) {α : Type} (R : α → Value → Value → Prop) (items : List α) (H₁ : Heap) (xv : Value) (s₁ : Shared) : Prop :=
  ∀ (Q : Value → Shared → Prop) (E : Value → Shared → Prop), (∀ I fp wr Md St h tk, KTurns prog w A tgt I fp wr items.length (ptP R items) Md St → St 0 h → (∀ b ∈ fp, b < h.objs.size) →
    (∀ z o, H₁.get? z = some o → h.get? z = some o) → (∀ b ∈ wr, H₁.get? b = none) →
    (∀ (s' : Shared) (Q : Value → Shared → Prop) (E : Value → Shared → Prop), St 0 s'.heap → Q (.ref I) s' → wpAny (model prog w) A (pyIter (.ref I)) Q E s') → H₁.objs.size ≤ h.objs.size → Q (.ref I) { s₁ with heap := h, toks := tk }) →
    wpAny (model prog w) A (pyIter xv) Q E s₁
inductive PtSrc (prog : Program) (w : World) (A : Around) (env : Env) (c elt : Expr) (x x₂ : Str) (px px₂ tp : Pos) (kk : Nat) (scope : Scope) (cl : List (Str × Addr)) {α : Type} (R : α → Value → Value → Prop) (items : List α) (p : α → Bool) (G : α → Value → Prop)
    (Fin : Heap → Shared → Addr → Heap → Nat → List Value → Prop) (xv : Value) (s₁ : Shared) : Prop
  | mk (H₁ : Heap) (it : PtIter prog w A (.Tuple [.Name x px, .Name x₂ px₂] kk tp) R items H₁ xv s₁)
    (test : ∀ C q a b s₃ m₃ (E' : Value → Shared → Prop), q ∈ items → R q a b → (∀ z o, H₁.get? z = some o → s₃.heap.get? z = some o) → H₁.get? C = none → s₃.heap.Ns C m₃ → m₃ x = some a → m₃ x₂ = some b →
      wpAny (model prog w) A (isTrue c (compEnvC scope cl C env) (eval c (compEnvC scope cl C env))) (fun ok s₄ => ok = p q ∧ Keeps s₃ s₄) E' s₃)
    (elem : ∀ C q a b s₃ m₃ (E' : Value → Shared → Prop), q ∈ items → R q a b → (∀ z o, H₁.get? z = some o → s₃.heap.get? z = some o) → H₁.get? C = none → s₃.heap.Ns C m₃ → m₃ x = some a → m₃ x₂ = some b →
      wpAny (model prog w) A (eval elt (compEnvC scope cl C env)) (fun y s₄ => G q y ∧ Keeps s₃ s₄) E' s₃)
    (fin : ∀ D h tk ys, (∀ z o, H₁.get? z = some o → h.get? z = some o) → h.get? D = some (LCg.lst ys) → All2 G (items.filter p) ys → H₁.get? D = none → D ≥ H₁.objs.size → Fin H₁ s₁ D h tk ys) : PtSrc prog w A env c elt x x₂ px px₂ tp kk scope cl R items p G Fin xv s₁
theorem ListComp_pt {elt iter c : Expr} {x x₂ : Str} {px px₂ tp : Pos} {kk : Nat} {scope : Scope} {cl : List (Str × Addr)} {pos : Pos} {α : Type} {items : List α} (R : α → Value → Value → Prop) (p : α → Bool) (G : α → Value → Prop) {Q : Value → Shared → Prop}
    (hh : A.handled = none) (hsz : items.length ≤ sizeLine) (hclos : closureFor scope env = pure cl) (hcell : ∀ y ∈ scope.names, y.2 ≠ .cell) (hkind : scope.kind = .function)
    (hnames : ∀ y ∈ scope.names, y.2 = .local → scope.names.lookup y.1 = some .local) (hx : scope.names.lookup x = some .local) (hx₂ : scope.names.lookup x₂ = some .local) (hxx : ¬ x = x₂)
    (h : wpAny (model prog w) A (eval iter env) (PtSrc prog w A env c elt x x₂ px px₂ tp kk scope cl R items p G fun _ s₁ D h tk _ => Q (.ref D) { s₁ with heap := h, toks := tk }) E s)
    (hs : ∀ x, foldedSetIterable iter env x = pure x := by intro _; rfl) :
    wpAny (model prog w) A (eval (.ListComp elt [⟨.Tuple [.Name x px, .Name x₂ px₂] kk tp, iter, [c], 0⟩] scope pos) env) Q E s := by
  rw [eval_ListComp]
  refine wpAny_comprehension_free (use := none) rfl hs hclos hkind hnames (wpAny_mono h (fun xv s₁ h₁ => ?_) fun _ _ e => e)
  obtain ⟨H₁, it, test, elem, fin⟩ := h₁
  refine it _ _ fun I fp wr Md St hP tk W hst hfp hH hwr hpy hHs => ?_
  refine pt_block R p G W hh hsz hcell hkind hx hx₂ hxx hst hfp hH hwr hpy test elem ?_ hHs
  intro D C h tk' m' ys hk hD hys hn hD₀ hC₀ hCD hDs
  have oldC : ∀ z o, H₁.get? z = some o → z ≠ C := fun z o e q => by rw [q, hC₀] at e; cases e
  exact ⟨m', hn, fun h'' hs'' => fin D h'' tk' ys (fun z o e => hs''.extBut z o (oldC z o e) (hk z o e)) (hs''.extBut _ _ (Ne.symm hCD) hD) hys hD₀ hDs⟩
theorem Assign_ListComp_pt {elt iter c : Expr} {x x₂ y : Str} {px px₂ tp py : Pos} {kk : Nat} {scope : Scope} {cl : List (Str × Addr)} {pos spos : Pos} {α : Type} {items : List α} (R : α → Value → Value → Prop) (p : α → Bool) (G : α → Value → Prop) {Q : Flow → Shared → Prop}
    (hh : A.handled = none) (hsz : items.length ≤ sizeLine)
    (hsw : swapsWith (.ListComp elt [⟨.Tuple [.Name x px, .Name x₂ px₂] kk tp, iter, [c], 0⟩] scope pos) (some (.Name y py)) spos.line env = pure true)
    (hclos : closureFor scope env = pure cl) (hcell : ∀ y ∈ scope.names, y.2 ≠ .cell) (hkind : scope.kind = .function)
    (hnames : ∀ y ∈ scope.names, y.2 = .local → scope.names.lookup y.1 = some .local) (hx : scope.names.lookup x = some .local) (hx₂ : scope.names.lookup x₂ = some .local) (hxx : ¬ x = x₂)
    (hy : env.kindOf y = some .local) (hp : (env.scope.kind == .class || (env.scope.kind == .module && env.locals != env.globals)) = false)
    (h : wpAny (model prog w) A (eval iter env) (PtSrc prog w A env c elt x x₂ px px₂ tp kk scope cl R items p G fun H₁ s₁ D h tk ys => ∃ m, H₁.Ns env.locals m ∧ ∀ h' tk', h'.Ns env.locals (fun z => if z = y then some (.ref D) else m z) →
      (∀ z o, z ≠ env.locals → H₁.get? z = some o → h'.get? z = some o) → h'.get? D = some (LCg.lst ys) → D ≥ H₁.objs.size → All2 G (items.filter p) ys → Q .next { s₁ with heap := h', toks := tk' }) E s)
    (hs : ∀ x, foldedSetIterable iter env x = pure x := by intro _; rfl) :
    wpAny (model prog w) A (exec (.Assign [.Name y py] (.ListComp elt [⟨.Tuple [.Name x px, .Name x₂ px₂] kk tp, iter, [c], 0⟩] scope pos) spos) env) Q E s := by
  rw [exec_Assign_Name_used _ _ _ _ hsw]
  refine wpAny_bind (wpAny_standAt (wpAny_bind ?_))
  show wpAny _ A (do let _ ← comprehension (.ListComp elt [⟨.Tuple [.Name x px, .Name x₂ px₂] kk tp, iter, [c], 0⟩] scope pos) scope env _ (newList []) false (eval iter env) (some (assign (.Name y py) env))) _ _ s
  refine wpAny_bind (wpAny_mono (wpAny_comprehension_free (use := some (assign (.Name y py) env)) (Q := fun _ s' => Q .next s') rfl hs hclos hkind hnames
    (wpAny_mono h (fun xv s₁ h₁ => ?_) fun _ _ e => e)) (fun _ s' hq => wpAny_pure (wpAny_pure hq)) fun _ _ e => e)
  obtain ⟨H₁, it, test, elem, fin⟩ := h₁
  refine it _ _ fun I fp wr Md St hP tk W hst hfp hH hwr hpy hHs => ?_
  refine pt_block R p G W hh hsz hcell hkind hx hx₂ hxx hst hfp hH hwr hpy test elem ?_ hHs
  intro D C h tk' m' ys hk hD hys hn hD₀ hC₀ hCD hDs
  have oldC : ∀ z o, H₁.get? z = some o → z ≠ C := fun z o e q => by rw [q, hC₀] at e; cases e
  obtain ⟨m, hm, fin'⟩ := fin D h tk' ys hk hD hys hD₀ hDs
  obtain ⟨oL, hoL⟩ : ∃ o, H₁.get? env.locals = some o := by obtain ⟨o, _, _, e, _⟩ := hm; exact ⟨o, e⟩
  have hLC : C ≠ env.locals := (oldC _ _ hoL).symm
  have hLD : D ≠ env.locals := fun q => by rw [q, hoL] at hD₀; cases hD₀
  have hm' : h.Ns env.locals m := hm.at' fun o e => hk _ o e
  show wpAny _ A (assign (.Name y py) env (.ref D)) _ _ _
  refine wpAny_assign_Name (wpAny_storeName_local hy hm' (fun h₂ hn₂ hs₂ => ?_) hp)
  refine ⟨m', hn.sameBut hs₂ hLC, fun h'' hs'' => fin' h'' _ (hn₂.sameBut hs'' hLC.symm) (fun z o hz e => hs''.extBut z o (oldC z o e) (hs₂.extBut z o hz (hk z o e))) (hs''.extBut _ _ (Ne.symm hCD) (hs₂.extBut _ _ hLD hD)) hDs hys⟩

/-- a list of the heap whose items are pairs -/
theorem PtIter.list {elts : List Expr} {kk : Nat} {tp : Pos} {α : Type} {R : α → Value → Value → Prop} {items : List α} {ax : Addr} {its : Array Value} (hh : A.handled = none) (hl : s.heap.IsList ax its) (hlen : its.size = items.length)
    (hits : ∀ (i : Nat) (v : Value), its[i]? = some v → ptP R items i v s.heap) : PtIter prog w A (.Tuple elts kk tp) R items s.heap (.ref ax) s := by
  intro Q E hQ
  have hlt : ax < s.heap.objs.size := by obtain ⟨_, e, _⟩ := hl; exact Heap.lt_size e
  refine wpAny_pyIter_list hl ?_
  have W := Walks.list (prog := prog) (w := w) hh s.heap.objs.size ax (Nat.ne_of_lt hlt) its
  have up : ∀ b o, s.heap.get? b = some o → (s.heap.push { cls := .type "list_iterator", data := .fields #[.ref ax, .int 0 0] }).get? b = some o := fun b o e => Heap.get?_push_of_some _ e
  have hne : ∀ z, z < s.heap.objs.size → z ∉ [s.heap.objs.size] := fun z hz hm => by rw [List.mem_singleton.mp hm] at hz; exact Nat.lt_irrefl _ hz
  have K : KTurns prog w A (.Tuple elts kk tp) s.heap.objs.size ([s.heap.objs.size] ++ (List.range s.heap.objs.size)) [s.heap.objs.size] items.length (ptP R items)
      (fun i v h => its[i]? = some v ∧ (h.IsListIter s.heap.objs.size ax (i + 1) ∧ h.IsList ax its) ∧ ∀ z o, s.heap.get? z = some o → h.get? z = some o)
      (fun i h => (h.IsListIter s.heap.objs.size ax i ∧ h.IsList ax its) ∧ ∀ z o, s.heap.get? z = some o → h.get? z = some o) := by
    refine ⟨fun b hb => List.mem_append_left _ hb, ?_, ?_, ?_, ?_⟩
    · rintro i h h' ⟨⟨st1, st2⟩, st3⟩ hk
      have kI : ∀ o, h.get? s.heap.objs.size = some o → h'.get? s.heap.objs.size = some o := fun o e => hk _ (by simp) o e
      have kz : ∀ z o, z < s.heap.objs.size → h.get? z = some o → h'.get? z = some o := fun z o hz e => hk z (by simp [hz]) o e
      refine ⟨⟨?_, ?_⟩, fun z o e => kz z o (Heap.lt_size e) (st3 z o e)⟩
      · obtain ⟨o, e, r⟩ := st1
        exact ⟨o, kI o e, r⟩
      · obtain ⟨o, e, r⟩ := st2
        exact ⟨o, kz _ o hlt e, r⟩
    · rintro i s' Q' E' hi ⟨st, st3⟩ hQ'
      refine W.item i s' Q' E' (by rw [hlen]; exact hi) st fun v h' tk hP st' hk => hQ' v h' tk ⟨hP, st', fun z o e => hk z o ?_ (st3 z o e)⟩ fun b o hb e => hk b o hb e
      exact hne z (Heap.lt_size e)
    · rintro i v s' Q' E' ⟨hv, st, st3⟩ hQ'
      obtain ⟨T, a, b, q, rfl, hq, hR, hT⟩ := hits i v hv
      refine wpAny_letOwnedTupleGo_listiter st.1 (hQ' s'.heap ⟨T, a, b, q, rfl, hq, hR, ?_⟩ ⟨st, st3⟩ fun _ _ _ e => e)
      obtain ⟨o, e, r⟩ := hT
      exact ⟨o, st3 _ _ e, r⟩
    · rintro s' Q' E' ⟨st, _⟩ hQ'
      rw [← hlen] at st
      exact W.done s' Q' E' st hQ'
  refine hQ _ _ _ _ _ _ s.toks K ⟨⟨⟨_, Heap.get?_push_size _ rfl, rfl, rfl⟩, hl.push _⟩, up⟩ ?_ up ?_ ?_ ?_
  · intro b hb
    rw [Heap.size_push]
    rcases List.mem_append.mp hb with hb | hb
    · rw [List.mem_singleton.mp hb]; exact Nat.lt_succ_self _
    · exact Nat.lt_succ_of_lt (List.mem_range.mp hb)
  · intro b hb
    rw [List.mem_singleton.mp hb]
    cases e : s.heap.get? s.heap.objs.size with
    | none => rfl
    | some o => exact absurd (Heap.lt_size e) (Nat.lt_irrefl _)
  · rintro s' Q' E' ⟨st, _⟩ hq
    exact W.self 0 s' Q' E' st hq
  · rw [Heap.size_push]; exact Nat.le_succ _
theorem KTurns_imp {tgt : Expr} {I : Addr} {fp wr : List Addr} {n : Nat} {P P' Md : Nat → Value → Heap → Prop} {St : Nat → Heap → Prop} (W : KTurns prog w A tgt I fp wr n P Md St) (hP : ∀ i v h, i < n → P i v h → P' i v h) (hMd : ∀ i v h, Md i v h → i < n) : KTurns prog w A tgt I fp wr n P' Md St where
  sub := W.sub
  frame := W.frame
  item := W.item
  go := fun i v s Q E hm hQ => W.go i v s Q E hm fun h' p st hk => hQ h' (hP i v h' (hMd i v _ hm) p) st hk
  done := W.done
/-- enumerate of a list of the heap -/
theorem enum_src {elts : List Expr} {kk : Nat} {tp : Pos} {α : Type} {R : α → Value → Value → Prop} {items : List α} {l : Addr} {vs : List Value} {Q : Value → Shared → Prop} (hh : A.handled = none) (hl : s.heap.IsList l vs.toArray) (hlen : vs.length = items.length)
    (hits : ∀ (i : Nat) (v : Value) (t : Tok), vs[i]? = some v → ∃ q, items[i]? = some q ∧ R q (.int i t) v)
    (h : ∀ xv s₁, PtIter prog w A (.Tuple elts kk tp) R items s.heap xv s₁ → (∃ h', s₁ = { s with heap := h' }) → Q xv s₁) :
    wpAny (model prog w) A (call (.type "enumerate") [.ref l]) Q E s := by
  have hlt : l < s.heap.objs.size := by obtain ⟨_, e, _⟩ := hl; exact Heap.lt_size e
  refine call_enumerate_list hl fun h' hE hI hsz hk => ?_
  refine h _ _ ?_ ⟨h', rfl⟩
  intro Q' E' hQ'
  refine wpAny_pyIter_enum hE ?_
  have W := KTurns.ofWalksU (elts := elts) (k := kk) (pos := tp) (WalksT.enumerate (prog := prog) (w := w) hh (s.heap.objs.size + 1) s.heap.objs.size l (Nat.succ_ne_self _) (ktu_ne 1 hlt) (Nat.ne_of_lt hlt) vs.toArray).toU
  rw [show vs.toArray.size = items.length by rw [List.size_toArray, hlen]] at W
  have W' : KTurns prog w A (.Tuple elts kk tp) (s.heap.objs.size + 1) _ _ items.length (ptP R items) _ _ := KTurns_imp (P' := ptP R items) W (by
    rintro i v hp hi ⟨T, vals, rfl, ⟨t, x, hx, rfl⟩, hT⟩
    obtain ⟨q, hq, hR⟩ := hits i x t (by simpa using hx)
    exact ⟨T, _, _, q, rfl, hq, hR, hT⟩) (by
    rintro i v hp ⟨T, vals, rfl, ⟨t, x, hx, rfl⟩, hT⟩
    have : i < vs.length := by
      have := Array.getElem?_eq_some_iff.mp hx
      obtain ⟨h1, _⟩ := this
      simpa using h1
    exact hlen ▸ this)
  refine hQ' _ _ _ _ _ _ s.toks W' ⟨⟨_, hE⟩, hI, ?_⟩ ?_ hk ?_ ?_ ?_
  · obtain ⟨o, e, r⟩ := hl
    exact ⟨o, hk _ _ e, r⟩
  · intro b hb
    show b < h'.objs.size
    rw [hsz]
    have hb' : b = s.heap.objs.size + 1 ∨ b = s.heap.objs.size ∨ b = l := by simpa using hb
    rcases hb' with rfl | rfl | rfl
    · exact Nat.lt_succ_self _
    · exact Nat.lt_succ_of_lt (Nat.lt_succ_self _)
    · exact Nat.lt_succ_of_lt (Nat.lt_succ_of_lt hlt)
  · intro b hb
    have hb' : b = s.heap.objs.size + 1 ∨ b = s.heap.objs.size := by simpa using hb
    cases e : s.heap.get? b with
    | none => rfl
    | some o =>
      have := Heap.lt_size e
      rcases hb' with rfl | rfl
      · exact absurd (Nat.lt_of_succ_lt this) (Nat.lt_irrefl _)
      · exact absurd this (Nat.lt_irrefl _)
  · rintro s' Q'' E'' ⟨⟨old, hE'⟩, _⟩ hq
    exact wpAny_pyIter_enum hE' hq
  · show s.heap.objs.size ≤ h'.objs.size
    rw [hsz]
    exact Nat.le_succ_of_le (Nat.le_succ _)
section
variable {c elt : Expr} {x x₂ : Str} {px px₂ tp : Pos} {kk : Nat} {scope : Scope} {cl : List (Str × Addr)} {α : Type} {R : α → Value → Value → Prop} {items : List α} {p : α → Bool} {G : α → Value → Prop} {Fin : Heap → Shared → Addr → Heap → Nat → List Value → Prop}
theorem enum_pt {l : Addr} {vs : List Value} (hh : A.handled = none) (hl : s.heap.IsList l vs.toArray) (hlen : vs.length = items.length)
    (hits : ∀ (i : Nat) (v : Value) (t : Tok), vs[i]? = some v → ∃ q, items[i]? = some q ∧ R q (.int i t) v)
    (test : ∀ C q a b s₃ m₃ (E' : Value → Shared → Prop), q ∈ items → R q a b → (∀ z o, s.heap.get? z = some o → s₃.heap.get? z = some o) → s.heap.get? C = none → s₃.heap.Ns C m₃ → m₃ x = some a → m₃ x₂ = some b →
      wpAny (model prog w) A (isTrue c (compEnvC scope cl C env) (eval c (compEnvC scope cl C env))) (fun ok s₄ => ok = p q ∧ Keeps s₃ s₄) E' s₃)
    (elem : ∀ C q a b s₃ m₃ (E' : Value → Shared → Prop), q ∈ items → R q a b → (∀ z o, s.heap.get? z = some o → s₃.heap.get? z = some o) → s.heap.get? C = none → s₃.heap.Ns C m₃ → m₃ x = some a → m₃ x₂ = some b →
      wpAny (model prog w) A (eval elt (compEnvC scope cl C env)) (fun y s₄ => G q y ∧ Keeps s₃ s₄) E' s₃)
    (fin : ∀ g D h tk ys, (∀ z o, s.heap.get? z = some o → h.get? z = some o) → h.get? D = some (LCg.lst ys) → All2 G (items.filter p) ys → s.heap.get? D = none → D ≥ s.heap.objs.size → Fin s.heap { s with heap := g } D h tk ys) :
    wpAny (model prog w) A (call (.type "enumerate") [.ref l]) (PtSrc prog w A env c elt x x₂ px px₂ tp kk scope cl R items p G Fin) E s := by
  refine enum_src (items := items) (R := R) (elts := [.Name x px, .Name x₂ px₂]) (kk := kk) (tp := tp) hh hl hlen hits ?_
  rintro xv s₁ hit ⟨g, rfl⟩
  exact ⟨_, hit, test, elem, fun D h tk ys => fin g D h tk ys⟩
theorem list_pt {ax : Addr} {its : Array Value} (hh : A.handled = none) (hl : s.heap.IsList ax its) (hlen : its.size = items.length)
    (hits : ∀ (i : Nat) (v : Value), its[i]? = some v → ptP R items i v s.heap)
    (test : ∀ C q a b s₃ m₃ (E' : Value → Shared → Prop), q ∈ items → R q a b → (∀ z o, s.heap.get? z = some o → s₃.heap.get? z = some o) → s.heap.get? C = none → s₃.heap.Ns C m₃ → m₃ x = some a → m₃ x₂ = some b →
      wpAny (model prog w) A (isTrue c (compEnvC scope cl C env) (eval c (compEnvC scope cl C env))) (fun ok s₄ => ok = p q ∧ Keeps s₃ s₄) E' s₃)
    (elem : ∀ C q a b s₃ m₃ (E' : Value → Shared → Prop), q ∈ items → R q a b → (∀ z o, s.heap.get? z = some o → s₃.heap.get? z = some o) → s.heap.get? C = none → s₃.heap.Ns C m₃ → m₃ x = some a → m₃ x₂ = some b →
      wpAny (model prog w) A (eval elt (compEnvC scope cl C env)) (fun y s₄ => G q y ∧ Keeps s₃ s₄) E' s₃)
    (fin : ∀ D h tk ys, (∀ z o, s.heap.get? z = some o → h.get? z = some o) → h.get? D = some (LCg.lst ys) → All2 G (items.filter p) ys → s.heap.get? D = none → D ≥ s.heap.objs.size → Fin s.heap s D h tk ys) :
    PtSrc prog w A env c elt x x₂ px px₂ tp kk scope cl R items p G Fin (.ref ax) s := ⟨_, PtIter.list hh hl hlen hits, test, elem, fin⟩
end
inductive PtTurn (h₀ : Heap) (L : Addr) (m : Str → Option Value) (news : List (Addr × Obj)) (C : Addr) (m₃ : Str → Option Value) (h : Heap) : Prop
  | mk (oC : Obj) (hoC : LCg.NsObj oC m₃) (F : Fr h₀ L h m) (N : News h₀ L h ((C, oC) :: news)) : PtTurn h₀ L m news C m₃ h
inductive PtEnd (h₀ : Heap) (L : Addr) (m : Str → Option Value) (news : List (Addr × Obj)) (D : Addr) (o : Obj) (h : Heap) : Prop
  | mk (F : Fr h₀ L h m) (N : News h₀ L h ((D, o) :: news)) (l : ∀ p ∈ news, p.1 < D) : PtEnd h₀ L m news D o h
/-- the ledger within a comprehension's turn: the block's names first -/
theorem pt_turn {H h : Heap} {news : List (Addr × Obj)} {C : Addr} {m₃ : Str → Option Value} (F : Fr h₀ L H m) (N : News h₀ L H news) (hk : ∀ z o, H.get? z = some o → h.get? z = some o) (hC : H.get? C = none) (hn : h.Ns C m₃) :
    PtTurn h₀ L m news C m₃ h := by
  obtain ⟨oC, heC, hoC⟩ := LCg.ns_obj hn
  refine ⟨oC, hoC, F.keeps hk, fun p hp => ?_⟩
  rcases List.mem_cons.mp hp with rfl | hp
  · refine ⟨heC, fun e => ?_, ?_⟩
    · have e' : C = L := e
      obtain ⟨oL, _, _, e2, _⟩ := F.ns
      rw [← e', hC] at e2
      cases e2
    · show h₀.get? C = none
      cases e : h₀.get? C with
      | none => rfl
      | some o' => have := F.keep _ _ e; rw [hC] at this; cases this
  · exact N.grown hk p hp
/-- the frame and the ledger behind a comprehension that keeps the heap H -/
theorem pt_after {H h : Heap} {news : List (Addr × Obj)} {D : Addr} {o : Obj} (F : Fr h₀ L H m) (N : News h₀ L H news) (hk : ∀ z o, H.get? z = some o → h.get? z = some o) (hD : h.get? D = some o) (hDs : D ≥ H.objs.size) :
    PtEnd h₀ L m news D o h := by
  have hL : L < H.objs.size := F.ns.lt
  refine ⟨F.keeps hk, fun p hp => ?_, fun p hp => Nat.lt_of_lt_of_le (Heap.lt_size (N p hp).1) hDs⟩
  rcases List.mem_cons.mp hp with rfl | hp
  · refine ⟨hD, fun e => ?_, ?_⟩
    · have e' : D = L := e
      rw [← e'] at hL
      exact absurd hL (Nat.not_lt.mpr hDs)
    · show h₀.get? D = none
      cases e : h₀.get? D with
      | none => rfl
      | some o' => exact absurd (Heap.lt_size (F.keep _ _ e)) (Nat.not_lt.mpr hDs)
  · exact N.grown hk p hp
theorem pt_stored {H h : Heap} {news : List (Addr × Obj)} {D : Addr} {o : Obj} {m' : Str → Option Value} (F : Fr h₀ L H m) (N : News h₀ L H news) (hn : h.Ns L m') (hk : ∀ z o, z ≠ L → H.get? z = some o → h.get? z = some o) (hD : h.get? D = some o) (hDs : D ≥ H.objs.size) :
    PtEnd h₀ L m' news D o h := by
  have hL : L < H.objs.size := F.ns.lt
  have hL0 : h₀.get? L = none := Heap.get?_none_of_le F.above
  refine .mk ⟨hn, fun b o e => hk b o (fun q => by rw [q, hL0] at e; cases e) (F.keep b o e), F.above⟩ (fun p hp => ?_) (fun p hp => Nat.lt_of_lt_of_le (Heap.lt_size (N p hp).1) hDs)
  rcases List.mem_cons.mp hp with rfl | hp
  · refine ⟨hD, fun e => ?_, ?_⟩
    · have e' : D = L := e
      rw [← e'] at hL
      exact absurd hL (Nat.not_lt.mpr hDs)
    · show h₀.get? D = none
      cases e : h₀.get? D with
      | none => rfl
      | some o' => exact absurd (Heap.lt_size (F.keep _ _ e)) (Nat.not_lt.mpr hDs)
  · exact ⟨hk _ _ (N p hp).2.1 (N p hp).1, (N p hp).2⟩
end
end PartPT

section PartST
open PySem PySem.W PyProof.Rows PySem.Calls PySem.Spec
section
variable {prog : Program} {w : World} {A : Around} {E : Value → Shared → Prop} {s : Shared} {h₀ : Heap} {L : Addr} {m : Str → Option Value} {env : Env}
theorem st_block {elt iter : Expr} {ifs : List Expr} {x : Str} {px : Pos} {scope : Scope} {cl : List (Str × Addr)} {pos : Pos} {s₂ : Shared} {I : Addr} {fp wr : List Addr} {St : Nat → Heap → Prop} {H₁ : Heap}
    {α : Type} {items : List α} (R : α → Value → Prop) (p : α → Bool) (G : α → Value → Prop) {RR : Value → Addr → Result → Shared → Prop}
    (W : Walks prog w A I fp wr items.length (fun i v => ∃ q, items[i]? = some q ∧ R q v) St)
    (hsz : items.length ≤ sizeLine)
    (hcell : ∀ y ∈ scope.names, y.2 ≠ .cell) (hkind : scope.kind = .function) (hx : scope.names.lookup x = some .local)
    (hst : St 0 s₂.heap) (hfp : ∀ b ∈ fp, b < s₂.heap.objs.size) (hH : ∀ z o, H₁.get? z = some o → s₂.heap.get? z = some o) (hwr : ∀ b ∈ wr, H₁.get? b = none)
    (test : ∀ C q a s₃ m₃ (E' : Value → Shared → Prop), q ∈ items → R q a → (∀ z o, H₁.get? z = some o → s₃.heap.get? z = some o) → H₁.get? C = none → s₃.heap.Ns C m₃ → m₃ x = some a →
      wpAny (model prog w) A (forIn ifs true fun c r => if r = true then do let ok ← isTrue c (compEnvC scope cl C env) (eval c (compEnvC scope cl C env)); pure (ForInStep.yield ok) else pure (ForInStep.yield r)) (fun ok s₄ => ok = p q ∧ Keeps s₃ s₄) E' s₃)
    (elem : ∀ C q a s₃ m₃ (E' : Value → Shared → Prop), q ∈ items → R q a → (∀ z o, H₁.get? z = some o → s₃.heap.get? z = some o) → H₁.get? C = none → s₃.heap.Ns C m₃ → m₃ x = some a →
      wpAny (model prog w) A (eval elt (compEnvC scope cl C env)) (fun y s₄ => G q y ∧ Keeps s₃ s₄) E' s₃)
    (hRR : ∀ D C h tk m' ys, (∀ z o, H₁.get? z = some o → h.get? z = some o) → h.get? D = some (LCg.lst ys) → All2 G (items.filter p) ys → h.Ns C m' → H₁.get? D = none → H₁.get? C = none → C ≠ D → D ≥ H₁.objs.size → RR (.ref D) C (.ok .next) { s₂ with heap := h, toks := tk })
    (hHs : H₁.objs.size ≤ s₂.heap.objs.size) :
    wpAny (model prog w) A (newList []) (fun acc s₃ => wpAny (model prog w) A (newFunctionEnv scope env.globals cl [] env.qual none .none (some env)) (fun cenv s₄ =>
      codeAny (model prog w) A (.compStart (.ListComp elt [⟨.Name x px, iter, ifs, 0⟩] scope pos) 0 (.ref I) acc { cenv with scope := relabel scope env }) (RR acc cenv.locals) s₄) E s₃) E s₂ := by
  refine wpAny_newObj_type (wpAny_newFunctionEnv hcell (by intro y hy; simp at hy) (fun h₁ hns₁ hsb₁ => ?_) hkind)
  dsimp only at hns₁ hsb₁ ⊢
  generalize hH2 : s₂.heap.push { cls := .type "list", dict := none, data := .seq ([] : List Value).toArray } = H2 at hns₁ hsb₁ ⊢
  have hC : H2.objs.size = s₂.heap.objs.size + 1 := by rw [← hH2, Heap.size_push]
  have hDC : s₂.heap.objs.size ≠ H2.objs.size := by rw [hC]; exact Nat.ne_of_lt (Nat.lt_succ_self _)
  have below : ∀ b, b < s₂.heap.objs.size → b ≠ H2.objs.size ∧ b ≠ s₂.heap.objs.size := fun b hb => ⟨by rw [hC]; exact Nat.ne_of_lt (Nat.lt_succ_of_lt hb), Nat.ne_of_lt hb⟩
  have old : ∀ b o, s₂.heap.get? b = some o → h₁.get? b = some o := fun b o e => hsb₁.extBut b o (below b (Heap.lt_size e)).1 (Heap.get?_push_of_some _ (hH2 ▸ Heap.get?_push_of_some _ e))
  have hacc : h₁.get? s₂.heap.objs.size = some (LCg.lst []) := hsb₁.extBut _ _ hDC (Heap.get?_push_of_some _ (hH2 ▸ Heap.get?_push_size _ rfl))
  have hst₁ : St 0 h₁ := W.frame _ _ _ hst fun b _ o e => old b o e
  have fresh : ∀ a, s₂.heap.objs.size ≤ a → H₁.get? a = none := fun a ha => by
    cases e : H₁.get? a with
    | none => rfl
    | some o' => exact absurd (Heap.lt_size (hH a o' e)) (Nat.not_lt.mpr ha)
  have hD₀ : H₁.get? s₂.heap.objs.size = none := fresh _ (Nat.le_refl _)
  have hC₀ : H₁.get? H2.objs.size = none := fresh _ (by rw [hC]; exact Nat.le_succ _)
  have hDf : s₂.heap.objs.size ∉ fp := fun hm => Nat.lt_irrefl _ (hfp _ hm)
  have hCf : H2.objs.size ∉ fp := fun hm => by have := hfp _ hm; rw [hC] at this; exact Nat.lt_irrefl _ (Nat.lt_of_succ_lt this)
  have hDw : s₂.heap.objs.size ∉ wr := fun hm => hDf (W.sub _ hm)
  have hCw : H2.objs.size ∉ wr := fun hm => hCf (W.sub _ hm)
  have oldw : ∀ z o, H₁.get? z = some o → z ∉ wr := fun z o e hm => by rw [hwr z hm] at e; cases e
  have oldC : ∀ z o, H₁.get? z = some o → z ≠ H2.objs.size := fun z o e q => by rw [q, hC₀] at e; cases e
  have oldD : ∀ z o, H₁.get? z = some o → z ≠ s₂.heap.objs.size := fun z o e q => by rw [q, hD₀] at e; cases e
  have loop : ∀ s₃ : Shared, s₃ = { s₂ with heap := h₁, toks := s₂.toks + ([] : List (Str × Value)).length } →
      codeAny (model prog w) A (.compLoop (.ListComp elt [⟨.Name x px, iter, ifs, 0⟩] scope pos) 0 (.ref I) (.ref s₂.heap.objs.size) (compEnvC scope cl H2.objs.size env))
        (RR (.ref s₂.heap.objs.size) H2.objs.size) s₃ := by
    rintro s₃ rfl
    refine codeAny_compLoop_tests
      (PtInv s₂ H2.objs.size s₂.heap.objs.size H₁ items p G St) ?_ (items.length + 1)
      (.mk h₁ _ 0 _ [] (Nat.zero_le _) hst₁ hns₁ (fun z o e => old z o (hH z o e)) hacc (by rw [List.take_zero]; exact .nil))
    intro k s' h9
    induction h9
    rename_i h' tk i m' ys hi hst' hn' hk' hD' hys
    by_cases hlt : i < items.length
    · refine W.item i _ _ _ hlt hst' fun v h₃ tk₃ hP hst₃ hk₃ => ?_
      obtain ⟨q, hab, hR⟩ := hP
      have up₃ : ∀ z o, z ∉ wr → h'.get? z = some o → h₃.get? z = some o := hk₃
      refine wpAny_assign_Name (wpAny_storeName_local (lookup_relabel_local hx) (hn'.at' fun o e => up₃ _ o hCw e) (fun h₄ hn₄ hs₄ => ?_) (by simp [compEnvC, relabel, hkind]))
      have hs₄' : ∀ z o, z ≠ H2.objs.size → h₃.get? z = some o → h₄.get? z = some o := fun z o hz e => hs₄.extBut z o hz e
      have hst₄ : St (i + 1) h₄ := W.frame _ _ _ hst₃ fun z hz o e => hs₄' z o (fun q => hCf (q ▸ hz)) e
      have hk₄ : ∀ z o, H₁.get? z = some o → h₄.get? z = some o := fun z o e => hs₄' z o (oldC z o e) (up₃ z o (oldw z o e) (hk' z o e))
      have hD₄ : h₄.get? s₂.heap.objs.size = some (LCg.lst ys) := hs₄' _ _ hDC (up₃ _ _ hDw hD')
      have hmem : q ∈ items := List.mem_of_getElem? hab
      have htk := filter_take (p := p) hab
      refine wpAny_mono (test H2.objs.size q v { s₂ with heap := h₄, toks := _ } _ _ hmem hR hk₄ hC₀ hn₄ (by simp)) (fun okb s₅ h₅ => ?_) fun _ _ e => e
      replace h₅ := test_at h₅
      induction h₅
      rename_i h₅' tk₅ hk₅'
      dsimp only at hk₅'
      have hst₅ : St (i + 1) h₅' := W.frame _ _ _ hst₄ fun z _ o e => hk₅' z o e
      cases hp : p q with
      | false =>
        simp only [Bool.false_eq_true, if_false]
        rw [hp] at htk
        simp only [Bool.false_eq_true, if_false] at htk
        exact ⟨_, ar_dec hlt, .mk h₅' tk₅ (i + 1) _ ys hlt hst₅ (hn₄.at' fun o e => hk₅' _ o e) (fun z o e => hk₅' z o (hk₄ z o e)) (hk₅' _ _ hD₄) (by rw [htk]; exact hys)⟩
      | true =>
        simp only [if_true]
        rw [hp] at htk
        simp only [if_true] at htk
        have hn₅ := hn₄.at' fun o e => hk₅' _ o e
        refine wpAny_mono (elem H2.objs.size q v { s₂ with heap := h₅', toks := tk₅ } _ _ hmem hR (fun z o e => hk₅' z o (hk₄ z o e)) hC₀ hn₅ (by simp)) (fun y s₆ h₆ => ?_) fun _ _ e => e
        replace h₆ := elem_at h₆
        induction h₆
        rename_i h₆' tk₆ hG hk₆'
        dsimp only at hk₆'
        have hD₆ : h₆'.get? s₂.heap.objs.size = some (LCg.lst ys) := hk₆' _ _ (hk₅' _ _ hD₄)
        have hst₆ : St (i + 1) h₆' := W.frame _ _ _ hst₅ fun z _ o e => hk₆' z o e
        have hlen : ys.length ≤ i := by
          rw [hys.length]
          exact Nat.le_trans (List.length_filter_le _ _) (by rw [List.length_take]; exact Nat.min_le_left _ _)
        refine append_at (hsz := by show ys.toArray.size ≤ sizeLine; rw [List.size_toArray]; exact Nat.le_trans hlen (Nat.le_trans hi hsz)) hD₆ fun h₇ hs₇ hD₇ => ?_
        refine ⟨_, ar_dec hlt, .mk h₇ _ (i + 1) _ (ys ++ [y]) hlt (W.frame _ _ _ hst₆ fun z hz o e => hs₇.extBut z o (fun q => hDf (q ▸ hz)) e) ((hn₅.at' fun o e => hk₆' _ o e).sameBut hs₇ (Ne.symm hDC)) (fun z o e => hs₇.extBut z o (oldD z o e) (hk₆' z o (hk₅' z o (hk₄ z o e)))) ?_ (by rw [htk]; exact hys.snoc hG)⟩
        rw [hD₇]
        exact congrArg some (LCg.lst_snoc _ _)
    · have hin : i = items.length := Nat.le_antisymm hi (Nat.not_lt.mp hlt)
      subst hin
      rw [List.take_length] at hys
      refine W.done _ _ _ hst' fun h₂ tk₂ hk₂ => ?_
      exact hRR _ _ h₂ tk₂ _ ys (fun z o e => hk₂ z o (oldw z o e) (hk' z o e)) (hk₂ _ _ hDw hD') hys (hn'.at' fun o e => hk₂ _ o hCw e) hD₀ hC₀ (Ne.symm hDC) hHs
  exact codeAny_compStart_list (loop _ rfl) (W.self 0 _ _ _ hst₁ (loop _ rfl))


/-- what is iterated is a list of the heap; the test and the element are pure -/
inductive StSrc (prog : Program) (w : World) (A : Around) (env : Env) (ifs : List Expr) (elt : Expr) (x : Str) (scope : Scope) (cl : List (Str × Addr)) {α : Type} (R : α → Value → Prop) (items : List α) (p : α → Bool) (G : α → Value → Prop) (Fin : Shared → Prop) (xv : Value) (s₁ : Shared) : Prop
  | mk (ax : Addr) (its : Array Value) (hv : xv = .ref ax) (hl : s₁.heap.IsList ax its) (hlen : its.size = items.length) (hits : ∀ (i : Nat) (v : Value), its[i]? = some v → ∃ q, items[i]? = some q ∧ R q v)
      (test : ∀ C q a s₃ m₃ (E' : Value → Shared → Prop), q ∈ items → R q a → (∀ z o, s₁.heap.get? z = some o → s₃.heap.get? z = some o) → s₁.heap.get? C = none → s₃.heap.Ns C m₃ → m₃ x = some a →
        wpAny (model prog w) A (forIn ifs true fun c r => if r = true then do let ok ← isTrue c (compEnvC scope cl C env) (eval c (compEnvC scope cl C env)); pure (ForInStep.yield ok) else pure (ForInStep.yield r)) (fun ok s₄ => ok = p q ∧ Keeps s₃ s₄) E' s₃)
      (elem : ∀ C q a s₃ m₃ (E' : Value → Shared → Prop), q ∈ items → R q a → (∀ z o, s₁.heap.get? z = some o → s₃.heap.get? z = some o) → s₁.heap.get? C = none → s₃.heap.Ns C m₃ → m₃ x = some a →
        wpAny (model prog w) A (eval elt (compEnvC scope cl C env)) (fun y s₄ => G q y ∧ Keeps s₃ s₄) E' s₃)
      (fin : Fin s₁) : StSrc prog w A env ifs elt x scope cl R items p G Fin xv s₁
/-- the walk over a list of the heap -/
theorem st_go {s₁ : Shared} {α : Type} {items : List α} {R : α → Value → Prop} {ax : Addr} {its : Array Value} {Q : Value → Shared → Prop} (hh : A.handled = none) (hl : s₁.heap.IsList ax its) (hlen : its.size = items.length) (hits : ∀ (i : Nat) (v : Value), its[i]? = some v → ∃ q, items[i]? = some q ∧ R q v)
    (hQ : ∀ I fp wr St h, Walks prog w A I fp wr items.length (fun i v => ∃ q, items[i]? = some q ∧ R q v) St → St 0 h → (∀ b ∈ fp, b < h.objs.size) → (∀ z o, s₁.heap.get? z = some o → h.get? z = some o) → (∀ b ∈ wr, s₁.heap.get? b = none) → s₁.heap.objs.size ≤ h.objs.size → Q (.ref I) { s₁ with heap := h }) :
    wpAny (model prog w) A (pyIter (.ref ax)) Q E s₁ := by
  have hlt : ax < s₁.heap.objs.size := by obtain ⟨_, e, _⟩ := hl; exact Heap.lt_size e
  refine wpAny_pyIter_list hl ?_
  have W0 := Walks.list (prog := prog) (w := w) hh s₁.heap.objs.size ax (Nat.ne_of_lt hlt) its
  rw [hlen] at W0
  refine hQ _ [s₁.heap.objs.size, ax] [s₁.heap.objs.size] _ _ { sub := W0.sub, frame := W0.frame, done := W0.done, self := W0.self, item := fun i s' Q' E' hi st hQ => W0.item i s' Q' E' hi st fun v h' tk hP => hQ v h' tk (hits i v hP) }
    ⟨⟨_, Heap.get?_push_size _ rfl, rfl, rfl⟩, hl.push _⟩ ?_ (fun b o e => Heap.get?_push_of_some _ e) ?_ ?_
  · intro b hb
    rw [Heap.size_push]
    have hb' : b = s₁.heap.objs.size ∨ b = ax := by simpa using hb
    rcases hb' with rfl | rfl
    · exact Nat.lt_succ_self _
    · exact Nat.lt_succ_of_lt hlt
  · intro b hb
    rw [List.mem_singleton.mp hb]
    cases e : s₁.heap.get? s₁.heap.objs.size with
    | none => rfl
    | some o => exact absurd (Heap.lt_size e) (Nat.lt_irrefl _)
  · rw [Heap.size_push]; exact Nat.le_succ _
/-- a comprehension by one name over a list of the heap, its test and its element pure -/
theorem ListComp_st {elt iter : Expr} {ifs : List Expr} {x : Str} {px : Pos} {scope : Scope} {cl : List (Str × Addr)} {pos : Pos} {α : Type} {items : List α} (R : α → Value → Prop) (p : α → Bool) (G : α → Value → Prop) {Q : Value → Shared → Prop}
    (hh : A.handled = none) (hsz : items.length ≤ sizeLine) (hclos : closureFor scope env = pure cl) (hcell : ∀ y ∈ scope.names, y.2 ≠ .cell) (hkind : scope.kind = .function)
    (hnames : ∀ y ∈ scope.names, y.2 = .local → scope.names.lookup y.1 = some .local) (hx : scope.names.lookup x = some .local)
    (h : wpAny (model prog w) A (eval iter env) (StSrc prog w A env ifs elt x scope cl R items p G fun s₁ => ∀ D h tk ys, (∀ z o, s₁.heap.get? z = some o → h.get? z = some o) → h.get? D = some (LCg.lst ys) → All2 G (items.filter p) ys → D ≥ s₁.heap.objs.size → Q (.ref D) { s₁ with heap := h, toks := tk }) E s)
    (hs : ∀ x, foldedSetIterable iter env x = pure x := by intro _; rfl) :
    wpAny (model prog w) A (eval (.ListComp elt [⟨.Name x px, iter, ifs, 0⟩] scope pos) env) Q E s := by
  rw [eval_ListComp]
  refine wpAny_comprehension_free (use := none) rfl hs hclos hkind hnames (wpAny_mono h (fun xv s₁ h₁ => ?_) fun _ _ e => e)
  obtain ⟨ax, its, rfl, hl, hlen, hits, test, elem, fin⟩ := h₁
  refine st_go hh hl hlen hits fun I fp wr St h₀ W hst hfp up hwr hHs => ?_
  refine st_block (H₁ := s₁.heap) R p G W hsz hcell hkind hx hst hfp up hwr test elem ?_ hHs
  intro D C h tk' m' ys hk hD hys hn hD₀ hC₀ hCD hDs
  have oldC : ∀ z o, s₁.heap.get? z = some o → z ≠ C := fun z o e q => by rw [q, hC₀] at e; cases e
  exact ⟨m', hn, fun h'' hs'' => fin D h'' tk' ys (fun z o e => hs''.extBut z o (oldC z o e) (hk z o e)) (hs''.extBut _ _ (Ne.symm hCD) hD) hys hDs⟩
end
end PartST

section PartStrs
open PySem PySem.W PyProof.Rows PySem.Calls PySem.Spec PyProof.V
noncomputable def StrsOk (ns : List Str) : Prop := ∀ x ∈ ns, PyData.strOk x = true
theorem ks_canLayAll0 : ∀ ns : List Str, StrsOk ns → PyData.canLayAll0 (ns.map PyData.str) = true
  | [], _ => rfl
  | x :: r, h => by simp [PyData.canLayAll0, PyData.canLay0, ks_canLayAll0 r (fun y hy => h y (.tail _ hy)), h x (.head _)]
theorem ks_depthAll : ∀ ns : List Str, PyData.depthAll (ns.map PyData.str) = 0
  | [] => rfl
  | _ :: r => by simp [PyData.depthAll, PyData.depth, ks_depthAll r]
theorem ks_shaped (ns : List Str) (ho : StrsOk ns) : SeqAt.shaped (.list (ns.map PyData.str)) = true := by
  simp [SeqAt.shaped, PyData.canLay0, PyData.depth, ks_canLayAll0 ns ho, ks_depthAll]
theorem ks_sameAll : ∀ ns ms : List Str, PySem.Spec.sameAll (ns.map PyData.str) (ms.map PyData.str) = decide (ns = ms)
  | [], [] => by simp [PySem.Spec.sameAll]
  | [], _ :: _ => by simp [PySem.Spec.sameAll]
  | _ :: _, [] => by simp [PySem.Spec.sameAll]
  | a :: r, b :: t => by
    simp only [List.map_cons, PySem.Spec.sameAll, PySem.Spec.same, ks_sameAll r t]
    by_cases h : a = b <;> by_cases h' : r = t <;> simp [h, h']
theorem ks_same (ns ms : List Str) : PySem.Spec.same (.list (ns.map PyData.str)) (.list (ms.map PyData.str)) = decide (ns = ms) := by
  simp only [PySem.Spec.same]; exact ks_sameAll ns ms
theorem ks_carried : ∀ {vs : List Value} {ns : List Str}, StrsAre vs ns → CarriedAll vs (ns.map PyData.str)
  | _, _, .nil => .nil
  | _, _, .cons _ t r => .cons (.str _ t) (ks_carried r)
theorem ks_noMix (ns ms : List Str) : SeqAt.noMix (.list (ns.map PyData.str)) (.list (ms.map PyData.str)) = true := SeqAt.noMix_of_shape (.list .str) rfl _ _ (list_map_has fun _ => rfl) (list_map_has fun _ => rfl)
section
variable {prog : Program} {w : World} {A : Around} {E : Value → Shared → Prop} {s : Shared} {a b : Addr} {xs ys : List Value} {ns ms : List Str} {Q : Value → Shared → Prop}
theorem eq_strs (ha : s.heap.IsList a xs.toArray) (hb : s.heap.IsList b ys.toArray) (hi : StrsAre xs ns) (hj : StrsAre ys ms) (ho : StrsOk ns) (ho' : StrsOk ms) (hu : A.units + 64 < cLine) (h : Q (.bool (decide (ns = ms))) s) :
    wpAny (model prog w) A (compareOp .Eq (.ref a) (.ref b)) Q E s :=
  eq_dataH_same (reads_newData ha (ks_carried hi)) (reads_newData hb (ks_carried hj)) (ks_shaped _ ho) (ks_shaped _ ho') hu (ks_noMix _ _) (by rw [ks_same]; exact h)
theorem ne_strs (ha : s.heap.IsList a xs.toArray) (hb : s.heap.IsList b ys.toArray) (hi : StrsAre xs ns) (hj : StrsAre ys ms) (ho : StrsOk ns) (ho' : StrsOk ms) (hu : A.units + 64 < cLine) (h : Q (.bool (!decide (ns = ms))) s) :
    wpAny (model prog w) A (compareOp .NotEq (.ref a) (.ref b)) Q E s :=
  ne_dataH_same (reads_newData ha (ks_carried hi)) (reads_newData hb (ks_carried hj)) (ks_shaped _ ho) (ks_shaped _ ho') hu (ks_noMix _ _) (by rw [ks_same]; exact h)
theorem eqAt_strs (ha : s.heap.IsList a xs.toArray) (hb : s.heap.IsList b ys.toArray) (hi : StrsAre xs ns) (hj : StrsAre ys ms) (ho : StrsOk ns) (ho' : StrsOk ms) (hu : A.in1.units + 64 < cLine) : SeqAt.EqAt A.in1 s (.ref a) (.ref b) (decide (ns = ms)) := by
  have x := keq_at (A := A) (reads_newData ha (ks_carried hi)) (reads_newData hb (ks_carried hj)) (ks_shaped ns ho) (ks_shaped ms ho') hu
  have e : PyData.eqv (.list (ns.map PyData.str)) (.list (ms.map PyData.str)) = decide (ns = ms) := by
    rw [← SeqAt.same_eq_eqv _ _ (ks_noMix _ _), ks_same]
  rw [e] at x
  exact x
/-- an item of a list of the ledger at a place that is known to be filled -/
theorem item_any {value slice : Expr} {l : Addr} {vs : List Value} {k : Int} {u : Tok} {v : Value} (hl : s.heap.IsList l vs.toArray) (h0 : 0 ≤ k) (hhi : k < 2 ^ 63) (hx : vs[k.toNat]? = some v) (h : Q v s)
    (hs : subscripted slice false (.ref l) (.int k u) = operate [.ref l, .int k u] (getItem (.ref l) (.int k u)) := by with_unfolding_all rfl) :
    wpAny (model prog w) A (subscriptTail value slice (.ref l) (.int k u)) Q E s :=
  tail_any hl.typeIs slot_list_getitem.lookup (wpAny_getItem_list hl h0 hhi (by simpa using hx) h) hs
end
end PartStrs

section PartTW
open PySem PySem.W PyProof.Rows PySem.Calls
section
variable {w : World} {loose : List Str} {mean : ExcName → Option Value} {mg mb : Str → Option Value} {dp un : Nat} {gd : Option (List Code)} {cn : Str} {cs : Scope} {a : Addr} {ccd : Value} {cl : List (Str × Addr)} {outer : List Env} {A₀ : Around} {base h₀ : Heap} {L : Addr} {m : Str → Option Value} {s : Shared} {Q E : Value → Shared → Prop} {news : List (Addr × Obj)}
theorem isStrOf_at (k : Str) : ∀ {vs : List Value} {ns : List Str}, StrsAre vs ns → ∀ (j : Nat) (h1 : j < vs.length) (h2 : j < ns.length), isStrOf k vs[j] = (ns[j] == k)
  | _, _, .cons n t r, 0, _, _ => rfl
  | _, _, .cons n t r, j + 1, h1, h2 => isStrOf_at k r j (Nat.lt_of_succ_lt_succ h1) (Nat.lt_of_succ_lt_succ h2)
theorem str_lt_idxOf {k : Str} : ∀ {ns : List Str} {j : Nat}, j < ns.idxOf k → ∀ (h2 : j < ns.length), (ns[j] == k) = false
  | n :: r, 0, h, _ => by
    by_cases e : n = k
    · subst e; simp at h
    · simpa using e
  | n :: r, j + 1, h, h2 => by
    by_cases e : n = k
    · subst e; simp at h
    · have hb : (n == k) = false := by simpa using e
      have h' : j < r.idxOf k := by
        rw [List.idxOf_cons, hb] at h
        exact Nat.lt_of_succ_lt_succ h
      exact str_lt_idxOf h' (Nat.lt_of_succ_lt_succ h2)
section
open PySem.SeqAt
variable {prog : Program} {A : Around}
theorem index_list_strs {l : Addr} {vs : List Value} {ys : List Str} {k : Str} {t : Tok} (hl : s.heap.IsList l vs.toArray) (hi : StrsAre vs ys)
    (hb : ys.length < 2 ^ 62) (hk : k ∈ ys) (h : Q (.int (ys.idxOf k : Nat) s.toks) { s with toks := s.toks + 1 }) :
    wpAny (model prog w) A (call (.builtin "list.index") [.ref l, .str k t]) Q E s := by
  obtain ⟨⟨cls, dd, data, sl⟩, ho, hc, n, hd⟩ := id hl
  simp only at hc hd
  subst hc hd
  have hlen := strs_len hi
  have hj : ys.idxOf k < ys.length := List.idxOf_lt_length_iff.mpr hk
  refine call_meets PySem.F.slot_list_index ⟨_, ho, rfl⟩ PySem.F.entry_list_index (PySem.F.args_list_index_2 _ _)
    (list_indexAt l vs.toArray n dd sl (.str k t) (isStrOf k) (ys.idxOf k) (by simpa [hlen] using hj) (by omega) ?_ ?_) ⟨ho, fun y hy => (eq_isStrOf k t hi y (by simpa using hy)).at _ _, h⟩
  · show isStrOf k vs[ys.idxOf k] = true
    rw [isStrOf_at k hi _ (by omega) hj]
    simpa using List.getElem_idxOf hj
  · intro j hjs hlt
    show isStrOf k vs[j] = false
    rw [isStrOf_at k hi j (by simpa using hjs) (by omega)]
    exact str_lt_idxOf hlt _
end
theorem ints_of {r : List (Str × Nat)} {bs : List Value} (h : All2 (fun (q : Str × Nat) (y : Value) => ∃ t, y = Value.int (q.2 : Nat) t) r bs) : IntsAre bs (r.map fun q => ((q.2 : Nat) : Int)) := by
  induction h with
  | nil => exact .nil
  | cons g _ ih => obtain ⟨t, rfl⟩ := g; exact .cons _ t ih
theorem strs_at {vs : List Value} {xs : List Str} (h : StrsAre vs xs) : ∀ {i : Nat} {x : Str}, xs[i]? = some x → ∃ t, vs[i]? = some (.str x t) := by
  induction h with
  | nil => intro i v e; simp at e
  | cons y t _ ih =>
    intro i v e
    cases i with
    | zero => simp at e; subst e; exact ⟨t, rfl⟩
    | succ i => simpa using ih (by simpa using e)
theorem twice_at {xs : List Str} : ∀ (r seen : List Str), xs = seen ++ r →
    (((r.zipIdx seen.length).filter fun q : Str × Nat => decide (((xs.idxOf q.1 : Nat) : Int) < (q.2 : Nat))).head?.map (·.1)) = firstTwice seen r
  | [], _, _ => rfl
  | x :: r, seen, e => by
    rw [List.zipIdx_cons, List.filter_cons]
    have hx : (decide (((xs.idxOf x : Nat) : Int) < (seen.length : Nat))) = decide (x ∈ seen) := by
      rw [e, List.idxOf_append]
      by_cases h : x ∈ seen
      · have := List.idxOf_lt_length_iff.mpr h
        simp only [h, if_true, decide_true, decide_eq_true_eq]
        omega
      · simp only [h, if_false, decide_false, decide_eq_false_iff_not]
        omega
    dsimp only
    rw [hx]
    by_cases h : x ∈ seen
    · simp only [h, decide_true, if_true, firstTwice, List.head?_cons, Option.map_some]
    · simp only [h, decide_false, if_false, firstTwice, Bool.false_eq_true]
      have := twice_at (xs := xs) r (seen ++ [x]) (by rw [e, List.append_assoc]; rfl)
      rw [List.length_append, List.length_singleton] at this
      exact this
theorem twice_eq (xs : List Str) : ((xs.zipIdx.filter fun q : Str × Nat => decide (((xs.idxOf q.1 : Nat) : Int) < (q.2 : Nat))).head?.map (·.1)) = firstTwice [] xs := twice_at xs [] rfl
theorem zipIdx_mem {xs : List Str} {z : Str} {i : Nat} (h : (z, i) ∈ xs.zipIdx) : z ∈ xs := by
  have := List.mem_zipIdx h
  simp at this
  rw [this.2]
  exact List.getElem_mem _
section
set_option maxRecDepth 100000 in
set_option maxHeartbeats 4000000 in
theorem tw_ok {q : Addr} {vs : List Value} {xs : List Str} {n : Nat}
    (B : Below A₀ base outer h₀) (F : Fr h₀ L s.heap m) (X : (hd.heap_39 w.params).In h₀) (N : News h₀ L s.heap ((q, listOf vs.toArray n) :: news))
    (T : Top hd.view_39 loose mean mg mb h₀) (hk : cs.kind = .function) (hdp : dp + 4 < recursionLimit) (hun : un + 100 < cLine)
    (hi : StrsAre vs xs) (hlen : xs.length ≤ 63)
    (hret : ∀ (t : Tok) (h' : Heap) (tk' : Nat), Fr h₀ L h' m → News h₀ L h' ((q, listOf vs.toArray n) :: news) → Q (optV t (firstTwice [] xs)) { s with heap := h', toks := tk' }) :
    wpAny (model PySem.Challenge.rw_pc0067_01.row.prog w) (ktrTop dp un gd cn cs L a ccd cl outer) (call (.ref 134) [.ref q]) Q E s := by
  k_with_none
  k_with "room" => (first | exact un1 (by assumption) (by decide) | exact un2 (by assumption) (by decide) | exact un3 (by assumption) (by decide) | exact un0 (by assumption) | exact Nat.le_of_ble_eq_true rfl | fail "room")
  k_with "ne" => (first | assumption | exact Ne.symm (by assumption) | exact Nat.ne_of_lt (by assumption) | exact Nat.ne_of_gt (by assumption) | exact (cj1 (by assumption)) | exact (cj2 (by assumption)) | exact (cj3 (by assumption)) | exact (cj4 (by assumption)) | exact (cj5 (by assumption)) | exact (cj6 (by assumption)) | exact (cj7 (by assumption)) | exact (cj8 (by assumption)) | exact (cj9 (by assumption)) | exact (cj10 (by assumption)) | exact (cj11 (by assumption)) | exact (cj12 (by assumption)) | exact (ce2 (by assumption)) | exact (ce3 (by assumption)) | exact (ce4 (by assumption)) | exact (ce5 (by assumption)) | exact (ce6 (by assumption)) | exact (ce7 (by assumption)) | exact (ce8 (by assumption)) | exact (ce9 (by assumption)) | exact (ce10 (by assumption)) | exact (ce11 (by assumption)) | exact (ce12 (by assumption)) | exact Ne.symm (cj1 (by assumption)) | exact Ne.symm (cj2 (by assumption)) | exact Ne.symm (cj3 (by assumption)) | exact Ne.symm (cj4 (by assumption)) | exact Ne.symm (cj5 (by assumption)) | exact Ne.symm (cj6 (by assumption)) | exact Ne.symm (cj7 (by assumption)) | exact Ne.symm (cj8 (by assumption)) | exact Ne.symm (cj9 (by assumption)) | exact Ne.symm (cj10 (by assumption)) | exact Ne.symm (cj11 (by assumption)) | exact Ne.symm (cj12 (by assumption)) | exact Ne.symm (ce2 (by assumption)) | exact Ne.symm (ce3 (by assumption)) | exact Ne.symm (ce4 (by assumption)) | exact Ne.symm (ce5 (by assumption)) | exact Ne.symm (ce6 (by assumption)) | exact Ne.symm (ce7 (by assumption)) | exact Ne.symm (ce8 (by assumption)) | exact Ne.symm (ce9 (by assumption)) | exact Ne.symm (ce10 (by assumption)) | exact Ne.symm (ce11 (by assumption)) | exact Ne.symm (ce12 (by assumption)) | exact Nat.ne_of_lt (cj1 (by assumption)) | exact Nat.ne_of_lt (cj2 (by assumption)) | exact Nat.ne_of_lt (cj3 (by assumption)) | exact Nat.ne_of_lt (cj4 (by assumption)) | exact Nat.ne_of_lt (cj5 (by assumption)) | exact Nat.ne_of_lt (cj6 (by assumption)) | exact Nat.ne_of_lt (cj7 (by assumption)) | exact Nat.ne_of_lt (cj8 (by assumption)) | exact Nat.ne_of_lt (cj9 (by assumption)) | exact Nat.ne_of_lt (cj10 (by assumption)) | exact Nat.ne_of_lt (cj11 (by assumption)) | exact Nat.ne_of_lt (cj12 (by assumption)) | exact Nat.ne_of_lt (ce2 (by assumption)) | exact Nat.ne_of_lt (ce3 (by assumption)) | exact Nat.ne_of_lt (ce4 (by assumption)) | exact Nat.ne_of_lt (ce5 (by assumption)) | exact Nat.ne_of_lt (ce6 (by assumption)) | exact Nat.ne_of_lt (ce7 (by assumption)) | exact Nat.ne_of_lt (ce8 (by assumption)) | exact Nat.ne_of_lt (ce9 (by assumption)) | exact Nat.ne_of_lt (ce10 (by assumption)) | exact Nat.ne_of_lt (ce11 (by assumption)) | exact Nat.ne_of_lt (ce12 (by assumption)) | exact Nat.ne_of_gt (cj1 (by assumption)) | exact Nat.ne_of_gt (cj2 (by assumption)) | exact Nat.ne_of_gt (cj3 (by assumption)) | exact Nat.ne_of_gt (cj4 (by assumption)) | exact Nat.ne_of_gt (cj5 (by assumption)) | exact Nat.ne_of_gt (cj6 (by assumption)) | exact Nat.ne_of_gt (cj7 (by assumption)) | exact Nat.ne_of_gt (cj8 (by assumption)) | exact Nat.ne_of_gt (cj9 (by assumption)) | exact Nat.ne_of_gt (cj10 (by assumption)) | exact Nat.ne_of_gt (cj11 (by assumption)) | exact Nat.ne_of_gt (cj12 (by assumption)) | exact Nat.ne_of_gt (ce2 (by assumption)) | exact Nat.ne_of_gt (ce3 (by assumption)) | exact Nat.ne_of_gt (ce4 (by assumption)) | exact Nat.ne_of_gt (ce5 (by assumption)) | exact Nat.ne_of_gt (ce6 (by assumption)) | exact Nat.ne_of_gt (ce7 (by assumption)) | exact Nat.ne_of_gt (ce8 (by assumption)) | exact Nat.ne_of_gt (ce9 (by assumption)) | exact Nat.ne_of_gt (ce10 (by assumption)) | exact Nat.ne_of_gt (ce11 (by assumption)) | exact Nat.ne_of_gt (ce12 (by assumption)) | exact cj1 (cj1 (by assumption)) | exact cj2 (cj1 (by assumption)) | exact ce3 (cj1 (by assumption)) | exact cj1 (cj2 (by assumption)) | exact cj2 (cj2 (by assumption)) | exact ce3 (cj2 (by assumption)) | exact cj1 (cj3 (by assumption)) | exact cj2 (cj3 (by assumption)) | exact ce3 (cj3 (by assumption)) | exact cj1 (cj4 (by assumption)) | exact cj2 (cj4 (by assumption)) | exact ce3 (cj4 (by assumption)) | exact cj1 (cj5 (by assumption)) | exact cj2 (cj5 (by assumption)) | exact ce3 (cj5 (by assumption)) | exact cj1 (cj6 (by assumption)) | exact cj2 (cj6 (by assumption)) | exact ce3 (cj6 (by assumption)) | exact cj1 (cj7 (by assumption)) | exact cj2 (cj7 (by assumption)) | exact ce3 (cj7 (by assumption)) | exact Ne.symm (cj1 (cj1 (by assumption))) | exact Ne.symm (cj2 (cj1 (by assumption))) | exact Ne.symm (ce3 (cj1 (by assumption))) | exact Ne.symm (cj1 (cj2 (by assumption))) | exact Ne.symm (cj2 (cj2 (by assumption))) | exact Ne.symm (ce3 (cj2 (by assumption))) | exact Ne.symm (cj1 (cj3 (by assumption))) | exact Ne.symm (cj2 (cj3 (by assumption))) | exact Ne.symm (ce3 (cj3 (by assumption))) | exact Ne.symm (cj1 (cj4 (by assumption))) | exact Ne.symm (cj2 (cj4 (by assumption))) | exact Ne.symm (ce3 (cj4 (by assumption))) | exact Ne.symm (cj1 (cj5 (by assumption))) | exact Ne.symm (cj2 (cj5 (by assumption))) | exact Ne.symm (ce3 (cj5 (by assumption))) | exact Ne.symm (cj1 (cj6 (by assumption))) | exact Ne.symm (cj2 (cj6 (by assumption))) | exact Ne.symm (ce3 (cj6 (by assumption))) | exact Ne.symm (cj1 (cj7 (by assumption))) | exact Ne.symm (cj2 (cj7 (by assumption))) | exact Ne.symm (ce3 (cj7 (by assumption))) | exact ls1 (cj1 (by assumption)) | exact Ne.symm (ls1 (cj1 (by assumption))) | exact ls1 (ce2 (by assumption)) | exact Ne.symm (ls1 (ce2 (by assumption))) | exact ls2 (cj1 (by assumption)) | exact Ne.symm (ls2 (cj1 (by assumption))) | exact ls2 (ce2 (by assumption)) | exact Ne.symm (ls2 (ce2 (by assumption))) | exact ls3 | exact Ne.symm ls3 | exact Nat.ne_of_gt (Nat.lt_trans (cj1 (by assumption)) (by assumption)) | exact Nat.ne_of_lt (Nat.lt_trans (cj1 (by assumption)) (by assumption)) | exact Nat.ne_of_gt (Nat.lt_trans (cj2 (by assumption)) (by assumption)) | exact Nat.ne_of_lt (Nat.lt_trans (cj2 (by assumption)) (by assumption)) | exact Nat.ne_of_gt (Nat.lt_trans (ce2 (by assumption)) (by assumption)) | exact Nat.ne_of_lt (Nat.lt_trans (ce2 (by assumption)) (by assumption)) | exact Nat.ne_of_gt (Nat.lt_trans (ce3 (by assumption)) (by assumption)) | exact Nat.ne_of_lt (Nat.lt_trans (ce3 (by assumption)) (by assumption)) | fail "ne")
  k_with "exec Assign cons ListComp" => refine stop ?_
  k_with "call type:enumerate" => refine stop ?_
  k_with "call builtin:list.index" => (k_here; (try dsimp only [List.cons_append, List.nil_append]); (with_reducible show wpAny _ _ (call (Value.builtin _) [Value.ref _, Value.str _ _]) _ _ _); k_dflt (refine' index_list_strs ?l_w ?i_w ?b_w ?k_w ?_; (case i_w => assumption); (case l_w => exact News.isList (by k_asm) (by k_mem)); (case b_w => omega); (case k_w => assumption)))
  k_with "compareOp NotEq ref ref" => (k_here; k_dflt (refine' ke_ne_ints ?a_w ?b_w ?i_w ?j_w ?u_w ?_; (case i_w => assumption); (case j_w => exact IntsAre.nil); (case a_w => exact News.isList (by k_asm) (by k_mem)); (case b_w => exact News.isList (by k_asm) (by k_mem)); (case u_w => ktr_units)))
  k_with "subscriptTail" => (k_here; (with_reducible show wpAny _ _ (subscriptTail _ _ (Value.ref _) (Value.int _ _)) _ _ _); k_dflt (refine' item_any ?l_w ?a_w ?b_w ?x_w ?_ ?s_w; (case l_w => exact News.isList (by k_asm) (by k_mem)); (case a_w => first | omega | assumption); (case b_w => first | omega | assumption); (case x_w => first | rfl | assumption); (case s_w => with_unfolding_all rfl)))
  revert X
  k_fill
  intro X
  refine wpAny_call ?_
  k_dflt ((refine' code_defC ?k1 ?k2 ?k3 ?k4 ?k5 ?kA ?kF ?kK ?k6 ?k7 ?k8 ?k9 ?kB ?kD ?_ ?c2 ?c3 ?c4; (case kA => exact rfl); (case kF => exact rfl); (case kK => first | exact rfl | assumption); (case k1 => k_asm); (case k2 => k_asm); (case k3 => k_asm); (case k4 => k_asm); (case k5 => k_asm); (case k6 => k_is); (case k7 => k_is); (case k8 => ktr_room); (case k9 => exact BindsTo.of_eq rfl); (case kB => exact rfl); (case kD => decide +kernel); (case c2 => exact rfl); (case c3 => exact rfl); (case c4 => exact rfl); k_whole; intro gq_w Lq_w hq_w tkq_w cellsq_w FGq_w Fq_w Nq_w Yq_w Bq_w Xq_w Tq_w l1_w; (try k_lt l1_w); k_cells Yq_w; (try simp only [List.cons_append, List.nil_append] at Nq_w); (try dsimp only); (try k_lift Bq_w); (try k_fold)))
  k_steps
  refine Stop.go ?_
  k_dflt (refine Assign_ListComp_pt (items := xs.zipIdx) (fun q a b => (∃ t, a = .int (q.2 : Nat) t) ∧ ∃ t, b = .str q.1 t) (fun q => decide (((xs.idxOf q.1 : Nat) : Int) < (q.2 : Nat))) (fun q y => ∃ t, y = .int (q.2 : Nat) t) rfl ?hsz (by with_unfolding_all rfl) (by rfl) (by decide) (by rfl) (by decide) (by rfl) (by rfl) (by decide) (by rfl) (by rfl) ?h)
  case hsz => rw [sizeLine_eq, List.length_zipIdx]; omega
  case h =>
    k_steps
    refine Stop.go ?_
    rename News _ _ _ ((_, _) :: (q, listOf vs.toArray n) :: news) => N1
    rename Fr _ _ _ (bindL _ _ _) => F1
    have hl : Heap.IsList _ q vs.toArray := ⟨_, (N1 _ (.tail _ (.head _))).1, rfl, n, rfl⟩
    k_dflt (refine enum_pt (items := xs.zipIdx) rfl hl ?_ ?_ ?_ ?_ ?_)
    · rw [List.length_zipIdx, strs_len hi]
    · intro i v t hv
      obtain ⟨z, tz, rfl, hz⟩ := strs_get hi hv
      exact ⟨(z, i), by simp [List.getElem?_zipIdx, hz], ⟨t, rfl⟩, tz, rfl⟩
    · rintro C ⟨z, i⟩ a b s₃ m₃ E' hq ⟨⟨ta, rfl⟩, tb, rfl⟩ hk3 hC hn hx1 hx2
      dsimp only at hx1 hx2 hk3 hC
      obtain ⟨oC, hoC, F3, N3⟩ := pt_turn F1 N1 hk3 hC hn
      refine wpAny_mono (?_ : wpAny _ _ _ (fun ok s₄ => Stop (ok = _ ∧ Keeps s₃ s₄)) _ _) (fun _ _ h => h) (fun _ _ e => e)
      have hz : z ∈ xs := zipIdx_mem hq
      k_steps
      exact Stop.go ⟨rfl, _, _, rfl, fun _ _ e => e⟩
    · rintro C ⟨z, i⟩ a b s₃ m₃ E' hq ⟨⟨ta, rfl⟩, tb, rfl⟩ hk3 hC hn hx1 hx2
      dsimp only at hx1 hx2 hk3 hC
      obtain ⟨oC, hoC, F3, N3⟩ := pt_turn F1 N1 hk3 hC hn
      refine wpAny_mono (?_ : wpAny _ _ _ (fun y s₄ => Stop ((∃ t, y = _) ∧ Keeps s₃ s₄)) _ _) (fun _ _ h => h) (fun _ _ e => e)
      k_steps
      exact Stop.go ⟨⟨_, rfl⟩, _, _, rfl, fun _ _ e => e⟩
    · intro g D h tk ys hk3 hD hys hD0 hDs
      refine ⟨_, F1.ns, ?_⟩
      intro h4 tk4 hn4 hk4 hD4 hDs4 hys4
      obtain ⟨F5, N5, l5⟩ := pt_stored F1 N1 hn4 hk4 hD4 hDs4
      k_lt l5
      clear F1 N1 hn4 hk4 hD4 hk3 hD hl
      have hft := twice_eq xs
      cases hfl : List.filter (fun q : Str × Nat => decide (((xs.idxOf q.1 : Nat) : Int) < (q.2 : Nat))) xs.zipIdx with
      | nil =>
        rw [hfl] at hys4 hft
        cases hys4
        have hin := IntsAre.nil
        k_steps
        rename Fr h₀ L _ m => kF
        rename News h₀ L _ (_ :: _ :: _ :: (q, listOf vs.toArray n) :: news) => kN
        show Q (optV 0 none) _
        rw [show none = firstTwice [] xs from hft]
        exact hret 0 _ _ kF (fun p hp => kN p (.tail _ (.tail _ (.tail _ hp))))
      | cons z0 r0 =>
        obtain ⟨z, i⟩ := z0
        have hz : xs[i]? = some z := by
          have h1 : (z, i) ∈ List.filter (fun q : Str × Nat => decide (((xs.idxOf q.1 : Nat) : Int) < (q.2 : Nat))) xs.zipIdx := by rw [hfl]; exact .head _
          exact List.mem_zipIdx_iff_getElem?.mp (List.mem_filter.mp h1).1
        rw [hfl] at hys4 hft
        cases hys4 with
        | cons hg hr =>
          obtain ⟨t9, rfl⟩ := hg
          dsimp only at N5
          have hin := IntsAre.cons (i : Int) t9 (ints_of hr)
          obtain ⟨tz, hvz⟩ := strs_at hi hz
          have hil : i < xs.length := (List.getElem?_eq_some_iff.mp hz).1
          have hia : (0 : Int) ≤ ((i : Nat) : Int) := by omega
          have hib : ((i : Nat) : Int) < 2 ^ 63 := by omega
          have hvz' : vs[((i : Nat) : Int).toNat]? = some (.str z tz) := hvz
          k_steps
          · rename decide _ = true => hd9
            simp at hd9
          · rename News _ _ _ _ => N6
            have hg9 : (((i : Nat) : Int) :: List.map (fun q : Str × Nat => ((q.2 : Nat) : Int)) r0).getD (Int.toNat 0) 0 = ((i : Nat) : Int) := rfl
            rw [hg9]
            refine item_any (v := .str z tz) (News.isList N6 (by k_mem)) hia hib hvz' ?_ (by with_unfolding_all rfl)
            k_steps
            rename Fr h₀ L _ m => kF
            show Q (optV tz (some z)) _
            rw [show some z = firstTwice [] xs from hft]
            refine hret tz _ _ kF ?_
            rename News h₀ L _ _ => kN
            exact fun p hp => kN p (by first | exact .tail _ (.tail _ (.tail _ hp)) | exact .tail _ (.tail _ hp) | exact .tail _ hp | exact hp)
end
theorem tw_use {q : Addr} {vs : List Value} {xs : List Str} {n : Nat}
    (B : Below A₀ base outer h₀) (F : Fr h₀ L s.heap m) (X : (hd.heap_39 w.params).In h₀) (N : News h₀ L s.heap news)
    (T : Top hd.view_39 loose mean mg mb h₀) (hk : cs.kind = .function) (hdp : dp + 4 < recursionLimit) (hun : un + 100 < cLine)
    (hq : (q, listOf vs.toArray n) ∈ news) (hi : StrsAre vs xs) (hlen : xs.length ≤ 63)
    (hret : ∀ (t : Tok) (h' : Heap) (tk' : Nat), Fr h₀ L h' m → News h₀ L h' news → Q (optV t (firstTwice [] xs)) { s with heap := h', toks := tk' }) :
    wpAny (model PySem.Challenge.rw_pc0067_01.row.prog w) (ktrTop dp un gd cn cs L a ccd cl outer) (call (.ref 134) [.ref q]) Q E s := by
  refine tw_ok (news := news) (n := n) B F X (fun p hp => ?_) T hk hdp hun hi hlen fun t h' tk' F' N' => hret t h' tk' F' fun p hp => N' p (.tail _ hp)
  rcases List.mem_cons.mp hp with rfl | hp
  · exact N _ hq
  · exact N p hp
end
end PartTW

section PartBF
open PySem PySem.W PyProof.Rows PySem.Calls
section
variable {w : World} {loose : List Str} {mean : ExcName → Option Value} {mg mb : Str → Option Value} {dp un : Nat} {gd : Option (List Code)} {cn : Str} {cs : Scope} {a : Addr} {ccd : Value} {cl : List (Str × Addr)} {outer : List Env} {A₀ : Around} {base h₀ : Heap} {L : Addr} {m : Str → Option Value} {s : Shared} {Q E : Value → Shared → Prop} {news : List (Addr × Obj)}
noncomputable def strictWords : List Str := ["implements", "interface", "let", "package", "private", "protected", "public", "static", "yield"]
noncomputable def restricted : List Str := ["arguments", "eval"]
/-- the fault of a name that is bound in strict code -/
noncomputable def bindingFault (x : Str) : Option Str :=
  if (restricted.any (· == x)) = true then some (x ++ (" can not be bound in strict code" : Str)) else if (strictWords.any (· == x)) = true then some (("reserved word " : Str) ++ x) else none
section
set_option maxRecDepth 100000 in
set_option maxHeartbeats 4000000 in
theorem bf_ok {x : Str} {t : Tok} 
    (B : Below A₀ base outer h₀) (F : Fr h₀ L s.heap m) (X : (hd.heap_39 w.params).In h₀) (N : News h₀ L s.heap news)
    (T : Top hd.view_39 loose mean mg mb h₀) (hk : cs.kind = .function) (hdp : dp + 4 < recursionLimit) (hun : un + 100 < cLine)
    (hlen : x.length ≤ 100)
    (hret : ∀ (t' : Tok) (h' : Heap) (tk' : Nat), Fr h₀ L h' m → News h₀ L h' news → Q (optV t' (bindingFault x)) { s with heap := h', toks := tk' }) :
    wpAny (model PySem.Challenge.rw_pc0067_01.row.prog w) (ktrTop dp un gd cn cs L a ccd cl outer) (call (.ref 31) [.str x t, .bool true]) Q E s := by
  k_with_none
  k_with "room" => (first | exact un1 (by assumption) (by decide) | exact un2 (by assumption) (by decide) | exact un3 (by assumption) (by decide) | exact un0 (by assumption) | exact Nat.le_of_ble_eq_true rfl | fail "room")
  k_with "ne" => (first | assumption | exact Ne.symm (by assumption) | exact Nat.ne_of_lt (by assumption) | exact Nat.ne_of_gt (by assumption) | exact (cj1 (by assumption)) | exact (cj2 (by assumption)) | exact (cj3 (by assumption)) | exact (cj4 (by assumption)) | exact (cj5 (by assumption)) | exact (cj6 (by assumption)) | exact (cj7 (by assumption)) | exact (cj8 (by assumption)) | exact (cj9 (by assumption)) | exact (cj10 (by assumption)) | exact (cj11 (by assumption)) | exact (cj12 (by assumption)) | exact (ce2 (by assumption)) | exact (ce3 (by assumption)) | exact (ce4 (by assumption)) | exact (ce5 (by assumption)) | exact (ce6 (by assumption)) | exact (ce7 (by assumption)) | exact (ce8 (by assumption)) | exact (ce9 (by assumption)) | exact (ce10 (by assumption)) | exact (ce11 (by assumption)) | exact (ce12 (by assumption)) | exact Ne.symm (cj1 (by assumption)) | exact Ne.symm (cj2 (by assumption)) | exact Ne.symm (cj3 (by assumption)) | exact Ne.symm (cj4 (by assumption)) | exact Ne.symm (cj5 (by assumption)) | exact Ne.symm (cj6 (by assumption)) | exact Ne.symm (cj7 (by assumption)) | exact Ne.symm (cj8 (by assumption)) | exact Ne.symm (cj9 (by assumption)) | exact Ne.symm (cj10 (by assumption)) | exact Ne.symm (cj11 (by assumption)) | exact Ne.symm (cj12 (by assumption)) | exact Ne.symm (ce2 (by assumption)) | exact Ne.symm (ce3 (by assumption)) | exact Ne.symm (ce4 (by assumption)) | exact Ne.symm (ce5 (by assumption)) | exact Ne.symm (ce6 (by assumption)) | exact Ne.symm (ce7 (by assumption)) | exact Ne.symm (ce8 (by assumption)) | exact Ne.symm (ce9 (by assumption)) | exact Ne.symm (ce10 (by assumption)) | exact Ne.symm (ce11 (by assumption)) | exact Ne.symm (ce12 (by assumption)) | exact Nat.ne_of_lt (cj1 (by assumption)) | exact Nat.ne_of_lt (cj2 (by assumption)) | exact Nat.ne_of_lt (cj3 (by assumption)) | exact Nat.ne_of_lt (cj4 (by assumption)) | exact Nat.ne_of_lt (cj5 (by assumption)) | exact Nat.ne_of_lt (cj6 (by assumption)) | exact Nat.ne_of_lt (cj7 (by assumption)) | exact Nat.ne_of_lt (cj8 (by assumption)) | exact Nat.ne_of_lt (cj9 (by assumption)) | exact Nat.ne_of_lt (cj10 (by assumption)) | exact Nat.ne_of_lt (cj11 (by assumption)) | exact Nat.ne_of_lt (cj12 (by assumption)) | exact Nat.ne_of_lt (ce2 (by assumption)) | exact Nat.ne_of_lt (ce3 (by assumption)) | exact Nat.ne_of_lt (ce4 (by assumption)) | exact Nat.ne_of_lt (ce5 (by assumption)) | exact Nat.ne_of_lt (ce6 (by assumption)) | exact Nat.ne_of_lt (ce7 (by assumption)) | exact Nat.ne_of_lt (ce8 (by assumption)) | exact Nat.ne_of_lt (ce9 (by assumption)) | exact Nat.ne_of_lt (ce10 (by assumption)) | exact Nat.ne_of_lt (ce11 (by assumption)) | exact Nat.ne_of_lt (ce12 (by assumption)) | exact Nat.ne_of_gt (cj1 (by assumption)) | exact Nat.ne_of_gt (cj2 (by assumption)) | exact Nat.ne_of_gt (cj3 (by assumption)) | exact Nat.ne_of_gt (cj4 (by assumption)) | exact Nat.ne_of_gt (cj5 (by assumption)) | exact Nat.ne_of_gt (cj6 (by assumption)) | exact Nat.ne_of_gt (cj7 (by assumption)) | exact Nat.ne_of_gt (cj8 (by assumption)) | exact Nat.ne_of_gt (cj9 (by assumption)) | exact Nat.ne_of_gt (cj10 (by assumption)) | exact Nat.ne_of_gt (cj11 (by assumption)) | exact Nat.ne_of_gt (cj12 (by assumption)) | exact Nat.ne_of_gt (ce2 (by assumption)) | exact Nat.ne_of_gt (ce3 (by assumption)) | exact Nat.ne_of_gt (ce4 (by assumption)) | exact Nat.ne_of_gt (ce5 (by assumption)) | exact Nat.ne_of_gt (ce6 (by assumption)) | exact Nat.ne_of_gt (ce7 (by assumption)) | exact Nat.ne_of_gt (ce8 (by assumption)) | exact Nat.ne_of_gt (ce9 (by assumption)) | exact Nat.ne_of_gt (ce10 (by assumption)) | exact Nat.ne_of_gt (ce11 (by assumption)) | exact Nat.ne_of_gt (ce12 (by assumption)) | exact cj1 (cj1 (by assumption)) | exact cj2 (cj1 (by assumption)) | exact ce3 (cj1 (by assumption)) | exact cj1 (cj2 (by assumption)) | exact cj2 (cj2 (by assumption)) | exact ce3 (cj2 (by assumption)) | exact cj1 (cj3 (by assumption)) | exact cj2 (cj3 (by assumption)) | exact ce3 (cj3 (by assumption)) | exact cj1 (cj4 (by assumption)) | exact cj2 (cj4 (by assumption)) | exact ce3 (cj4 (by assumption)) | exact cj1 (cj5 (by assumption)) | exact cj2 (cj5 (by assumption)) | exact ce3 (cj5 (by assumption)) | exact cj1 (cj6 (by assumption)) | exact cj2 (cj6 (by assumption)) | exact ce3 (cj6 (by assumption)) | exact cj1 (cj7 (by assumption)) | exact cj2 (cj7 (by assumption)) | exact ce3 (cj7 (by assumption)) | exact Ne.symm (cj1 (cj1 (by assumption))) | exact Ne.symm (cj2 (cj1 (by assumption))) | exact Ne.symm (ce3 (cj1 (by assumption))) | exact Ne.symm (cj1 (cj2 (by assumption))) | exact Ne.symm (cj2 (cj2 (by assumption))) | exact Ne.symm (ce3 (cj2 (by assumption))) | exact Ne.symm (cj1 (cj3 (by assumption))) | exact Ne.symm (cj2 (cj3 (by assumption))) | exact Ne.symm (ce3 (cj3 (by assumption))) | exact Ne.symm (cj1 (cj4 (by assumption))) | exact Ne.symm (cj2 (cj4 (by assumption))) | exact Ne.symm (ce3 (cj4 (by assumption))) | exact Ne.symm (cj1 (cj5 (by assumption))) | exact Ne.symm (cj2 (cj5 (by assumption))) | exact Ne.symm (ce3 (cj5 (by assumption))) | exact Ne.symm (cj1 (cj6 (by assumption))) | exact Ne.symm (cj2 (cj6 (by assumption))) | exact Ne.symm (ce3 (cj6 (by assumption))) | exact Ne.symm (cj1 (cj7 (by assumption))) | exact Ne.symm (cj2 (cj7 (by assumption))) | exact Ne.symm (ce3 (cj7 (by assumption))) | exact ls1 (cj1 (by assumption)) | exact Ne.symm (ls1 (cj1 (by assumption))) | exact ls1 (ce2 (by assumption)) | exact Ne.symm (ls1 (ce2 (by assumption))) | exact ls2 (cj1 (by assumption)) | exact Ne.symm (ls2 (cj1 (by assumption))) | exact ls2 (ce2 (by assumption)) | exact Ne.symm (ls2 (ce2 (by assumption))) | exact ls3 | exact Ne.symm ls3 | exact Nat.ne_of_gt (Nat.lt_trans (cj1 (by assumption)) (by assumption)) | exact Nat.ne_of_lt (Nat.lt_trans (cj1 (by assumption)) (by assumption)) | exact Nat.ne_of_gt (Nat.lt_trans (cj2 (by assumption)) (by assumption)) | exact Nat.ne_of_lt (Nat.lt_trans (cj2 (by assumption)) (by assumption)) | exact Nat.ne_of_gt (Nat.lt_trans (ce2 (by assumption)) (by assumption)) | exact Nat.ne_of_lt (Nat.lt_trans (ce2 (by assumption)) (by assumption)) | exact Nat.ne_of_gt (Nat.lt_trans (ce3 (by assumption)) (by assumption)) | exact Nat.ne_of_lt (Nat.lt_trans (ce3 (by assumption)) (by assumption)) | fail "ne")
  k_with "compareOp In str ref" => (k_here; k_dflt (refine' in_tuple_strs ?t_w ?i_w ?_; (case t_w => exact ⟨_, (show (hd.heap_39 _).In _ from by k_in) _ _ (by k_is), rfl, _, rfl⟩); (case i_w => kct_strs)))
  revert X
  k_fill
  intro X
  refine wpAny_call ?_
  k_dflt cell_enter
  k_steps
  all_goals (rename Fr h₀ L _ m => kF)
  all_goals (rename News h₀ L _ news => kN)
  · rename List.any _ _ = true => h1
    have e : some (x ++ (" can not be bound in strict code" : Str)) = bindingFault x := by unfold bindingFault restricted; rw [if_pos h1]
    refine (?_ : Q (optV _ (some (x ++ (" can not be bound in strict code" : Str)))) _)
    rw [e]
    exact hret _ _ _ kF kN
  · have h0 : (restricted.any (· == x)) = false := by assumption
    have h1 : (strictWords.any (· == x)) = true := by assumption
    have e : some (("reserved word " : Str) ++ x) = bindingFault x := by unfold bindingFault; rw [if_neg (by rw [h0]; exact Bool.false_ne_true), if_pos h1]
    refine (?_ : Q (optV _ (some (("reserved word " : Str) ++ x))) _)
    rw [e]
    exact hret _ _ _ kF kN
  · have h0 : (restricted.any (· == x)) = false := by assumption
    have h1 : (strictWords.any (· == x)) = false := by assumption
    have e : none = bindingFault x := by unfold bindingFault; rw [if_neg (by rw [h0]; exact Bool.false_ne_true), if_neg (by rw [h1]; exact Bool.false_ne_true)]
    refine (?_ : Q (optV 0 none) _)
    rw [e]
    exact hret _ _ _ kF kN
end
/-- the fault of a def's own name and its parameters in strict code -/
noncomputable def paramsFault (whole ps : List Str) : Option Str := match whole.findSome? bindingFault with
  | some f => some f
  | none => (firstTwice [] ps).map fun x => ("parameter " : Str) ++ x ++ (" twice" : Str)
theorem listSubA {α : Type} {x1 x2 x3 x4 : α} {news own : List α} {p : α} (hp : p ∈ x1 :: x2 :: x3 :: x4 :: news) : p ∈ x1 :: x2 :: x3 :: x4 :: (news ++ own) := by
  have := List.mem_append_left own hp
  simpa only [List.cons_append] using this
theorem listSubB {α : Type} {x1 x2 x3 x4 : α} {news own : List α} {p : α} (hp : p ∈ own) : p ∈ x1 :: x2 :: x3 :: x4 :: (news ++ own) := .tail _ (.tail _ (.tail _ (.tail _ (List.mem_append.mpr (.inr hp)))))
section
noncomputable abbrev bfG {g h : Heap} {L : Addr} {m : Str → Option Value} (_ : Fr g L h m) : Heap := g
noncomputable abbrev bfL {g h : Heap} {L : Addr} {m : Str → Option Value} (_ : Fr g L h m) : Addr := L
noncomputable abbrev bfM {g h : Heap} {L : Addr} {m : Str → Option Value} (_ : Fr g L h m) : Str → Option Value := m
/-- the list of the for is laid -/
inductive BMid (s : Shared) (g : Heap) (L' : Addr) (m₁ : Str → Option Value) (led : List (Addr × Obj)) (whole : List Str) : Value → Shared → Prop
  | mk (h' : Heap) (tk' : Nat) (W : Addr) (wvs : List Value) (nW : Nat) (rest : List (Addr × Obj)) (F : Fr g L' h' m₁) (N : News g L' h' ((W, listOf wvs.toArray nW) :: rest)) (hsub : ∀ q ∈ led, q ∈ rest) (hw : StrsAre wvs whole) : BMid s g L' m₁ led whole (.ref W) { s with heap := h', toks := tk' }
set_option maxRecDepth 100000 in
set_option maxHeartbeats 4000000 in
theorem pf_some {whole xs : List Str} {i : Nat} {z f : Str} (hz : whole[i]? = some z) (hP : (List.take i whole).findSome? bindingFault = none) (h : bindingFault z = some f) : paramsFault whole xs = some f := by
  have e : whole = List.take i whole ++ z :: List.drop (i + 1) whole := by
    rw [← drop_of_get hz, List.take_append_drop]
  have : whole.findSome? bindingFault = some f := by
    rw [e, List.findSome?_append, hP, List.findSome?_cons, h]; rfl
  unfold paramsFault
  rw [this]
theorem pf_twice {whole xs : List Str} {f : Str} (hP : whole.findSome? bindingFault = none) (h : firstTwice [] xs = some f) : paramsFault whole xs = some (("parameter " : Str) ++ f ++ (" twice" : Str)) := by
  unfold paramsFault
  rw [hP, h]
  rfl
theorem pf_ok {q : Addr} {vs : List Value} {xs : List Str} {n : Nat} {o : Option Str} {to : Tok}
    (B : Below A₀ base outer h₀) (F : Fr h₀ L s.heap m) (X : (hd.heap_39 w.params).In h₀) (N : News h₀ L s.heap ((q, listOf vs.toArray n) :: news))
    (T : Top hd.view_39 loose mean mg mb h₀) (hk : cs.kind = .function) (hdp : dp + 6 < recursionLimit) (hun : un + 200 < cLine)
    (hi : StrsAre vs xs) (hlen : xs.length ≤ 63) (hlx : ∀ x ∈ xs, x.length ≤ 100) (hlo : ∀ x ∈ o, x.length ≤ 100)
    (hret : ∀ (t : Tok) (h' : Heap) (tk' : Nat), Fr h₀ L h' m → News h₀ L h' ((q, listOf vs.toArray n) :: news) → Q (optV t (paramsFault (o.toList ++ xs) xs)) { s with heap := h', toks := tk' }) :
    wpAny (model PySem.Challenge.rw_pc0067_01.row.prog w) (ktrTop dp un gd cn cs L a ccd cl outer) (call (.ref 45) [optV to o, .ref q, .bool true]) Q E s := by
  k_with_none
  k_with "room" => (first | exact un1 (by assumption) (by decide) | exact un2 (by assumption) (by decide) | exact un3 (by assumption) (by decide) | exact un0 (by assumption) | exact Nat.le_of_ble_eq_true rfl | fail "room")
  k_with "ne" => (first | assumption | exact Ne.symm (by assumption) | exact Nat.ne_of_lt (by assumption) | exact Nat.ne_of_gt (by assumption) | exact (cj1 (by assumption)) | exact (cj2 (by assumption)) | exact (cj3 (by assumption)) | exact (cj4 (by assumption)) | exact (cj5 (by assumption)) | exact (cj6 (by assumption)) | exact (cj7 (by assumption)) | exact (cj8 (by assumption)) | exact (cj9 (by assumption)) | exact (cj10 (by assumption)) | exact (cj11 (by assumption)) | exact (cj12 (by assumption)) | exact (ce2 (by assumption)) | exact (ce3 (by assumption)) | exact (ce4 (by assumption)) | exact (ce5 (by assumption)) | exact (ce6 (by assumption)) | exact (ce7 (by assumption)) | exact (ce8 (by assumption)) | exact (ce9 (by assumption)) | exact (ce10 (by assumption)) | exact (ce11 (by assumption)) | exact (ce12 (by assumption)) | exact Ne.symm (cj1 (by assumption)) | exact Ne.symm (cj2 (by assumption)) | exact Ne.symm (cj3 (by assumption)) | exact Ne.symm (cj4 (by assumption)) | exact Ne.symm (cj5 (by assumption)) | exact Ne.symm (cj6 (by assumption)) | exact Ne.symm (cj7 (by assumption)) | exact Ne.symm (cj8 (by assumption)) | exact Ne.symm (cj9 (by assumption)) | exact Ne.symm (cj10 (by assumption)) | exact Ne.symm (cj11 (by assumption)) | exact Ne.symm (cj12 (by assumption)) | exact Ne.symm (ce2 (by assumption)) | exact Ne.symm (ce3 (by assumption)) | exact Ne.symm (ce4 (by assumption)) | exact Ne.symm (ce5 (by assumption)) | exact Ne.symm (ce6 (by assumption)) | exact Ne.symm (ce7 (by assumption)) | exact Ne.symm (ce8 (by assumption)) | exact Ne.symm (ce9 (by assumption)) | exact Ne.symm (ce10 (by assumption)) | exact Ne.symm (ce11 (by assumption)) | exact Ne.symm (ce12 (by assumption)) | exact Nat.ne_of_lt (cj1 (by assumption)) | exact Nat.ne_of_lt (cj2 (by assumption)) | exact Nat.ne_of_lt (cj3 (by assumption)) | exact Nat.ne_of_lt (cj4 (by assumption)) | exact Nat.ne_of_lt (cj5 (by assumption)) | exact Nat.ne_of_lt (cj6 (by assumption)) | exact Nat.ne_of_lt (cj7 (by assumption)) | exact Nat.ne_of_lt (cj8 (by assumption)) | exact Nat.ne_of_lt (cj9 (by assumption)) | exact Nat.ne_of_lt (cj10 (by assumption)) | exact Nat.ne_of_lt (cj11 (by assumption)) | exact Nat.ne_of_lt (cj12 (by assumption)) | exact Nat.ne_of_lt (ce2 (by assumption)) | exact Nat.ne_of_lt (ce3 (by assumption)) | exact Nat.ne_of_lt (ce4 (by assumption)) | exact Nat.ne_of_lt (ce5 (by assumption)) | exact Nat.ne_of_lt (ce6 (by assumption)) | exact Nat.ne_of_lt (ce7 (by assumption)) | exact Nat.ne_of_lt (ce8 (by assumption)) | exact Nat.ne_of_lt (ce9 (by assumption)) | exact Nat.ne_of_lt (ce10 (by assumption)) | exact Nat.ne_of_lt (ce11 (by assumption)) | exact Nat.ne_of_lt (ce12 (by assumption)) | exact Nat.ne_of_gt (cj1 (by assumption)) | exact Nat.ne_of_gt (cj2 (by assumption)) | exact Nat.ne_of_gt (cj3 (by assumption)) | exact Nat.ne_of_gt (cj4 (by assumption)) | exact Nat.ne_of_gt (cj5 (by assumption)) | exact Nat.ne_of_gt (cj6 (by assumption)) | exact Nat.ne_of_gt (cj7 (by assumption)) | exact Nat.ne_of_gt (cj8 (by assumption)) | exact Nat.ne_of_gt (cj9 (by assumption)) | exact Nat.ne_of_gt (cj10 (by assumption)) | exact Nat.ne_of_gt (cj11 (by assumption)) | exact Nat.ne_of_gt (cj12 (by assumption)) | exact Nat.ne_of_gt (ce2 (by assumption)) | exact Nat.ne_of_gt (ce3 (by assumption)) | exact Nat.ne_of_gt (ce4 (by assumption)) | exact Nat.ne_of_gt (ce5 (by assumption)) | exact Nat.ne_of_gt (ce6 (by assumption)) | exact Nat.ne_of_gt (ce7 (by assumption)) | exact Nat.ne_of_gt (ce8 (by assumption)) | exact Nat.ne_of_gt (ce9 (by assumption)) | exact Nat.ne_of_gt (ce10 (by assumption)) | exact Nat.ne_of_gt (ce11 (by assumption)) | exact Nat.ne_of_gt (ce12 (by assumption)) | exact cj1 (cj1 (by assumption)) | exact cj2 (cj1 (by assumption)) | exact ce3 (cj1 (by assumption)) | exact cj1 (cj2 (by assumption)) | exact cj2 (cj2 (by assumption)) | exact ce3 (cj2 (by assumption)) | exact cj1 (cj3 (by assumption)) | exact cj2 (cj3 (by assumption)) | exact ce3 (cj3 (by assumption)) | exact cj1 (cj4 (by assumption)) | exact cj2 (cj4 (by assumption)) | exact ce3 (cj4 (by assumption)) | exact cj1 (cj5 (by assumption)) | exact cj2 (cj5 (by assumption)) | exact ce3 (cj5 (by assumption)) | exact cj1 (cj6 (by assumption)) | exact cj2 (cj6 (by assumption)) | exact ce3 (cj6 (by assumption)) | exact cj1 (cj7 (by assumption)) | exact cj2 (cj7 (by assumption)) | exact ce3 (cj7 (by assumption)) | exact Ne.symm (cj1 (cj1 (by assumption))) | exact Ne.symm (cj2 (cj1 (by assumption))) | exact Ne.symm (ce3 (cj1 (by assumption))) | exact Ne.symm (cj1 (cj2 (by assumption))) | exact Ne.symm (cj2 (cj2 (by assumption))) | exact Ne.symm (ce3 (cj2 (by assumption))) | exact Ne.symm (cj1 (cj3 (by assumption))) | exact Ne.symm (cj2 (cj3 (by assumption))) | exact Ne.symm (ce3 (cj3 (by assumption))) | exact Ne.symm (cj1 (cj4 (by assumption))) | exact Ne.symm (cj2 (cj4 (by assumption))) | exact Ne.symm (ce3 (cj4 (by assumption))) | exact Ne.symm (cj1 (cj5 (by assumption))) | exact Ne.symm (cj2 (cj5 (by assumption))) | exact Ne.symm (ce3 (cj5 (by assumption))) | exact Ne.symm (cj1 (cj6 (by assumption))) | exact Ne.symm (cj2 (cj6 (by assumption))) | exact Ne.symm (ce3 (cj6 (by assumption))) | exact Ne.symm (cj1 (cj7 (by assumption))) | exact Ne.symm (cj2 (cj7 (by assumption))) | exact Ne.symm (ce3 (cj7 (by assumption))) | exact ls1 (cj1 (by assumption)) | exact Ne.symm (ls1 (cj1 (by assumption))) | exact ls1 (ce2 (by assumption)) | exact Ne.symm (ls1 (ce2 (by assumption))) | exact ls2 (cj1 (by assumption)) | exact Ne.symm (ls2 (cj1 (by assumption))) | exact ls2 (ce2 (by assumption)) | exact Ne.symm (ls2 (ce2 (by assumption))) | exact ls3 | exact Ne.symm ls3 | exact Nat.ne_of_gt (Nat.lt_trans (cj1 (by assumption)) (by assumption)) | exact Nat.ne_of_lt (Nat.lt_trans (cj1 (by assumption)) (by assumption)) | exact Nat.ne_of_gt (Nat.lt_trans (cj2 (by assumption)) (by assumption)) | exact Nat.ne_of_lt (Nat.lt_trans (cj2 (by assumption)) (by assumption)) | exact Nat.ne_of_gt (Nat.lt_trans (ce2 (by assumption)) (by assumption)) | exact Nat.ne_of_lt (Nat.lt_trans (ce2 (by assumption)) (by assumption)) | exact Nat.ne_of_gt (Nat.lt_trans (ce3 (by assumption)) (by assumption)) | exact Nat.ne_of_lt (Nat.lt_trans (ce3 (by assumption)) (by assumption)) | fail "ne")
  k_with "pyIter ref" => refine stop ?_
  k_with "binaryOp Add ref ref" => (k_here; k_dflt (refine' add_K ?F_w ?N_w ?l_w ?b_w ?_ ?z_w; (case F_w => k_asm); (case N_w => k_asm); (case l_w => k_mem); (case b_w => k_mem); (case z_w => (rw [sizeLine_eq]; simp only [List.length_cons, List.length_nil]; omega))); intro Dq_w hq_w Fq_w Nq_w l1_w; (try k_lt l1_w))
  k_with "call ref" => (k_here; (with_reducible show wpAny _ _ (call (Value.ref 31) _) _ _ _); k_dflt (refine' bf_ok ?B_w ?F_w ?X_w ?N_w ?T_w ?K_w ?D_w ?R_w ?l_w ?_; (case B_w => k_asm); (case F_w => k_asm); (case X_w => k_asm); (case N_w => k_asm); (case T_w => k_asm); (case K_w => first | rfl | assumption); (case D_w => ktr_room); (case R_w => ktr_units); (case l_w => assumption)); intro t9_w h9_w tk9_w F9_w N9_w; (generalize hbf9_w : bindingFault _ = bf9_w); cases bf9_w <;> simp only [optV])
  k_with "call ref" => (k_here; (with_reducible show wpAny _ _ (call (Value.ref 38) _) _ _ _); k_dflt (refine' ft_use ?B_w ?F_w ?X_w ?N_w ?T_w ?K_w ?D_w ?R_w ?q_w ?i_w ?l_w ?_; (case B_w => k_asm); (case F_w => k_asm); (case X_w => k_asm); (case N_w => k_asm); (case T_w => k_asm); (case K_w => first | rfl | assumption); (case D_w => ktr_room); (case R_w => ktr_units); (case q_w => k_mem); (case i_w => assumption); (case l_w => assumption)); intro t9_w h9_w tk9_w F9_w N9_w; (generalize hft9_w : firstTwice [] _ = ft9_w); cases ft9_w <;> (simp only [optV]; (try (have hl9_w := ft_len hft9_w (by assumption)))))
  k_with "exec For Name BinOp cons nil" => refine stop ?_
  revert X
  k_fill
  intro X
  have hvl : vs.length ≤ 63 := by rw [strs_len hi]; exact hlen
  have hlw : ∀ x ∈ (o.toList ++ xs : List Str), x.length ≤ 100 := by
    intro x hx
    rcases List.mem_append.mp hx with hx | hx
    · exact hlo x (by cases o with | none => cases hx | some y => rw [List.mem_singleton.mp hx]; rfl)
    · exact hlx x hx
  refine wpAny_call ?_
  k_dflt cell_enter
  k_steps
  refine Stop.go ?_
  (rename Fr _ _ _ _ => lF')
  (with_unfolding_all refine' For_invVF lF' ?k1 ?k2 ?_)
  case k1 => exact rfl
  case k2 => exact rfl
  refine wpAny_mono (Q := BMid s (bfG lF') (bfL lF') (bfM lF') ((q, listOf vs.toArray n) :: news) (o.toList ++ xs)) ?first (fun xv s' hv => ?second) fun _ _ e => e
  case first =>
    cases o with
    | none =>
      simp only [optV] at lF'
      k_steps
      (rename News _ _ _ (_ :: _) => kN)
      (rename Fr _ _ _ _ => kF)
      exact .mk _ _ _ _ _ _ kF kN (fun p hp => (show ∀ q ∈ _, q ∈ _ by kcf_all) p hp) (by first | assumption | exact .cons _ _ (by assumption))
    | some o =>
      simp only [optV] at lF'
      k_steps
      (rename News _ _ _ (_ :: _) => kN)
      (rename Fr _ _ _ _ => kF)
      exact .mk _ _ _ _ _ _ kF kN (fun p hp => (show ∀ q ∈ _, q ∈ _ by kcf_all) p hp) (by first | assumption | exact .cons _ _ (by assumption))
  case second =>
    obtain ⟨h1, tk1, W, wvs, nW, rest, F1, N1, hsub, hw⟩ := hv
    dsimp only [bfG, bfL, bfM] at F1 N1
    clear lF'
    have hwl : wvs.length ≤ 70 := by
      rw [strs_len hw, List.length_append]
      have : o.toList.length ≤ 1 := by cases o <;> simp
      omega
    k_steps
    refine Stop.go ?_
    refine loop_led (σ := Unit) (fun _ => _) (fun i _ => (List.take i (o.toList ++ xs)).findSome? bindingFault = none) ["fault"] () rfl (fun _ => .head _) F1 N1 rfl ?turn ?done
    case turn =>
      intro i c v u h tk own hv hoff hP F2 N2
      obtain ⟨z, tz, rfl, hz⟩ := strs_get hw hv
      have hlz : z.length ≤ 100 := hlw z (List.mem_of_getElem? hz)
      have htake : List.take (i + 1) (o.toList ++ xs) = List.take i (o.toList ++ xs) ++ [z] := by rw [List.take_add_one, hz]; rfl
      clear F1 N1
      (try dsimp only at N2)
      simp only [List.cons_append] at N2
      k_steps
      · have hz0 : bindingFault z = none := by assumption
        refine InvEndG.intro (by k_asm) (by k_asm) ⟨(), rfl, ?_, fun y h1 h2 => ?_⟩ hoff ?_ ?_
        · rw [htake, List.findSome?_append, hP, List.findSome?_cons, hz0]; rfl
        · have hy : ¬ y = "fault" := by intro e; rw [e] at h2; exact absurd h2 (by decide)
          simp only [if_neg hy, if_neg h1]
          rw [if_neg (by rw [h2]; exact Bool.false_ne_true)]
          try rfl
        · exact fun p hp => (List.mem_cons.mp hp).elim (fun e => e ▸ .head _) fun hp => .tail _ (List.mem_append.mpr (.inl hp))
        · exact fun p hp => .tail _ (List.mem_append.mpr (.inr hp))
      · rename Fr h₀ L _ m => kF
        rename News h₀ L _ _ => kN
        rename bindingFault z = some _ => hz0
        have hpf := pf_some (xs := xs) hz hP hz0
        refine (?_ : Q (optV _ (some _)) _)
        rw [← hpf]
        exact hret _ _ _ kF (fun p hp => kN p (.tail _ (List.mem_append.mpr (.inl (hsub p hp)))))
    case done =>
      intro c u h tk hP F2 N2
      (try dsimp only at N2)
      have N3 : News _ _ h ((q, listOf vs.toArray n) :: (W, listOf wvs.toArray nW) :: rest) := fun p hp => (List.mem_cons.mp hp).elim (fun e => by subst e; exact N2 _ (.tail _ (hsub _ (.head _)))) (N2 p)
      clear N2 F1 N1
      have hP' : List.findSome? bindingFault (o.toList ++ xs) = none := by rw [strs_len hw, List.take_length] at hP; exact hP
      k_steps
      all_goals (rename Fr h₀ L _ m => kF)
      all_goals (rename News h₀ L _ _ => kN)
      · have hft : firstTwice [] xs = none := by assumption
        have hpf : paramsFault (o.toList ++ xs) xs = none := by unfold paramsFault; rw [hP', hft]; rfl
        refine (?_ : Q (optV 0 none) _)
        rw [← hpf]
        exact hret _ _ _ kF (fun p hp => kN p (.tail _ (.tail _ (hsub p hp))))
      · rename firstTwice [] xs = some _ => hft
        have hpf := pf_twice hP' hft
        refine (?_ : Q (optV _ (some _)) _)
        rw [← hpf]
        exact hret _ _ _ kF (fun p hp => kN p (.tail _ (.tail _ (hsub p hp))))
end
end
end PartBF

section PartNF
open PySem PySem.W PyProof.Rows PySem.Calls
section
variable {w : World} {loose : List Str} {mean : ExcName → Option Value} {mg mb : Str → Option Value} {dp un : Nat} {gd : Option (List Code)} {cn : Str} {cs : Scope} {a : Addr} {ccd : Value} {cl : List (Str × Addr)} {outer : List Env} {A₀ : Around} {base h₀ : Heap} {L : Addr} {m : Str → Option Value} {s : Shared} {Q E : Value → Shared → Prop} {news : List (Addr × Obj)}
section
set_option maxRecDepth 100000 in
set_option maxHeartbeats 4000000 in
theorem nf_ok {x : Str} {t : Tok} {strict : Bool}
    (B : Below A₀ base outer h₀) (F : Fr h₀ L s.heap m) (X : (hd.heap_39 w.params).In h₀) (N : News h₀ L s.heap news)
    (T : Top hd.view_39 loose mean mg mb h₀) (hk : cs.kind = .function) (hdp : dp + 4 < recursionLimit) (hun : un + 100 < cLine)
    (hlen : x.length ≤ 100)
    (hret : ∀ (r : Option Str) (t' : Tok) (h' : Heap) (tk' : Nat), r.isNone = !(strict && strictWords.any (· == x)) → Fr h₀ L h' m → News h₀ L h' news → Q (optV t' r) { s with heap := h', toks := tk' }) :
    wpAny (model PySem.Challenge.rw_pc0067_01.row.prog w) (ktrTop dp un gd cn cs L a ccd cl outer) (call (.ref 24) [.str x t, .bool strict]) Q E s := by
  k_with_none
  k_with "room" => (first | exact un1 (by assumption) (by decide) | exact un2 (by assumption) (by decide) | exact un3 (by assumption) (by decide) | exact un0 (by assumption) | exact Nat.le_of_ble_eq_true rfl | fail "room")
  k_with "ne" => (first | assumption | exact Ne.symm (by assumption) | exact Nat.ne_of_lt (by assumption) | exact Nat.ne_of_gt (by assumption) | exact (cj1 (by assumption)) | exact (cj2 (by assumption)) | exact (cj3 (by assumption)) | exact (cj4 (by assumption)) | exact (cj5 (by assumption)) | exact (cj6 (by assumption)) | exact (cj7 (by assumption)) | exact (cj8 (by assumption)) | exact (cj9 (by assumption)) | exact (cj10 (by assumption)) | exact (cj11 (by assumption)) | exact (cj12 (by assumption)) | exact (ce2 (by assumption)) | exact (ce3 (by assumption)) | exact (ce4 (by assumption)) | exact (ce5 (by assumption)) | exact (ce6 (by assumption)) | exact (ce7 (by assumption)) | exact (ce8 (by assumption)) | exact (ce9 (by assumption)) | exact (ce10 (by assumption)) | exact (ce11 (by assumption)) | exact (ce12 (by assumption)) | exact Ne.symm (cj1 (by assumption)) | exact Ne.symm (cj2 (by assumption)) | exact Ne.symm (cj3 (by assumption)) | exact Ne.symm (cj4 (by assumption)) | exact Ne.symm (cj5 (by assumption)) | exact Ne.symm (cj6 (by assumption)) | exact Ne.symm (cj7 (by assumption)) | exact Ne.symm (cj8 (by assumption)) | exact Ne.symm (cj9 (by assumption)) | exact Ne.symm (cj10 (by assumption)) | exact Ne.symm (cj11 (by assumption)) | exact Ne.symm (cj12 (by assumption)) | exact Ne.symm (ce2 (by assumption)) | exact Ne.symm (ce3 (by assumption)) | exact Ne.symm (ce4 (by assumption)) | exact Ne.symm (ce5 (by assumption)) | exact Ne.symm (ce6 (by assumption)) | exact Ne.symm (ce7 (by assumption)) | exact Ne.symm (ce8 (by assumption)) | exact Ne.symm (ce9 (by assumption)) | exact Ne.symm (ce10 (by assumption)) | exact Ne.symm (ce11 (by assumption)) | exact Ne.symm (ce12 (by assumption)) | exact Nat.ne_of_lt (cj1 (by assumption)) | exact Nat.ne_of_lt (cj2 (by assumption)) | exact Nat.ne_of_lt (cj3 (by assumption)) | exact Nat.ne_of_lt (cj4 (by assumption)) | exact Nat.ne_of_lt (cj5 (by assumption)) | exact Nat.ne_of_lt (cj6 (by assumption)) | exact Nat.ne_of_lt (cj7 (by assumption)) | exact Nat.ne_of_lt (cj8 (by assumption)) | exact Nat.ne_of_lt (cj9 (by assumption)) | exact Nat.ne_of_lt (cj10 (by assumption)) | exact Nat.ne_of_lt (cj11 (by assumption)) | exact Nat.ne_of_lt (cj12 (by assumption)) | exact Nat.ne_of_lt (ce2 (by assumption)) | exact Nat.ne_of_lt (ce3 (by assumption)) | exact Nat.ne_of_lt (ce4 (by assumption)) | exact Nat.ne_of_lt (ce5 (by assumption)) | exact Nat.ne_of_lt (ce6 (by assumption)) | exact Nat.ne_of_lt (ce7 (by assumption)) | exact Nat.ne_of_lt (ce8 (by assumption)) | exact Nat.ne_of_lt (ce9 (by assumption)) | exact Nat.ne_of_lt (ce10 (by assumption)) | exact Nat.ne_of_lt (ce11 (by assumption)) | exact Nat.ne_of_lt (ce12 (by assumption)) | exact Nat.ne_of_gt (cj1 (by assumption)) | exact Nat.ne_of_gt (cj2 (by assumption)) | exact Nat.ne_of_gt (cj3 (by assumption)) | exact Nat.ne_of_gt (cj4 (by assumption)) | exact Nat.ne_of_gt (cj5 (by assumption)) | exact Nat.ne_of_gt (cj6 (by assumption)) | exact Nat.ne_of_gt (cj7 (by assumption)) | exact Nat.ne_of_gt (cj8 (by assumption)) | exact Nat.ne_of_gt (cj9 (by assumption)) | exact Nat.ne_of_gt (cj10 (by assumption)) | exact Nat.ne_of_gt (cj11 (by assumption)) | exact Nat.ne_of_gt (cj12 (by assumption)) | exact Nat.ne_of_gt (ce2 (by assumption)) | exact Nat.ne_of_gt (ce3 (by assumption)) | exact Nat.ne_of_gt (ce4 (by assumption)) | exact Nat.ne_of_gt (ce5 (by assumption)) | exact Nat.ne_of_gt (ce6 (by assumption)) | exact Nat.ne_of_gt (ce7 (by assumption)) | exact Nat.ne_of_gt (ce8 (by assumption)) | exact Nat.ne_of_gt (ce9 (by assumption)) | exact Nat.ne_of_gt (ce10 (by assumption)) | exact Nat.ne_of_gt (ce11 (by assumption)) | exact Nat.ne_of_gt (ce12 (by assumption)) | exact cj1 (cj1 (by assumption)) | exact cj2 (cj1 (by assumption)) | exact ce3 (cj1 (by assumption)) | exact cj1 (cj2 (by assumption)) | exact cj2 (cj2 (by assumption)) | exact ce3 (cj2 (by assumption)) | exact cj1 (cj3 (by assumption)) | exact cj2 (cj3 (by assumption)) | exact ce3 (cj3 (by assumption)) | exact cj1 (cj4 (by assumption)) | exact cj2 (cj4 (by assumption)) | exact ce3 (cj4 (by assumption)) | exact cj1 (cj5 (by assumption)) | exact cj2 (cj5 (by assumption)) | exact ce3 (cj5 (by assumption)) | exact cj1 (cj6 (by assumption)) | exact cj2 (cj6 (by assumption)) | exact ce3 (cj6 (by assumption)) | exact cj1 (cj7 (by assumption)) | exact cj2 (cj7 (by assumption)) | exact ce3 (cj7 (by assumption)) | exact Ne.symm (cj1 (cj1 (by assumption))) | exact Ne.symm (cj2 (cj1 (by assumption))) | exact Ne.symm (ce3 (cj1 (by assumption))) | exact Ne.symm (cj1 (cj2 (by assumption))) | exact Ne.symm (cj2 (cj2 (by assumption))) | exact Ne.symm (ce3 (cj2 (by assumption))) | exact Ne.symm (cj1 (cj3 (by assumption))) | exact Ne.symm (cj2 (cj3 (by assumption))) | exact Ne.symm (ce3 (cj3 (by assumption))) | exact Ne.symm (cj1 (cj4 (by assumption))) | exact Ne.symm (cj2 (cj4 (by assumption))) | exact Ne.symm (ce3 (cj4 (by assumption))) | exact Ne.symm (cj1 (cj5 (by assumption))) | exact Ne.symm (cj2 (cj5 (by assumption))) | exact Ne.symm (ce3 (cj5 (by assumption))) | exact Ne.symm (cj1 (cj6 (by assumption))) | exact Ne.symm (cj2 (cj6 (by assumption))) | exact Ne.symm (ce3 (cj6 (by assumption))) | exact Ne.symm (cj1 (cj7 (by assumption))) | exact Ne.symm (cj2 (cj7 (by assumption))) | exact Ne.symm (ce3 (cj7 (by assumption))) | exact ls1 (cj1 (by assumption)) | exact Ne.symm (ls1 (cj1 (by assumption))) | exact ls1 (ce2 (by assumption)) | exact Ne.symm (ls1 (ce2 (by assumption))) | exact ls2 (cj1 (by assumption)) | exact Ne.symm (ls2 (cj1 (by assumption))) | exact ls2 (ce2 (by assumption)) | exact Ne.symm (ls2 (ce2 (by assumption))) | exact ls3 | exact Ne.symm ls3 | exact Nat.ne_of_gt (Nat.lt_trans (cj1 (by assumption)) (by assumption)) | exact Nat.ne_of_lt (Nat.lt_trans (cj1 (by assumption)) (by assumption)) | exact Nat.ne_of_gt (Nat.lt_trans (cj2 (by assumption)) (by assumption)) | exact Nat.ne_of_lt (Nat.lt_trans (cj2 (by assumption)) (by assumption)) | exact Nat.ne_of_gt (Nat.lt_trans (ce2 (by assumption)) (by assumption)) | exact Nat.ne_of_lt (Nat.lt_trans (ce2 (by assumption)) (by assumption)) | exact Nat.ne_of_gt (Nat.lt_trans (ce3 (by assumption)) (by assumption)) | exact Nat.ne_of_lt (Nat.lt_trans (ce3 (by assumption)) (by assumption)) | fail "ne")
  k_with "compareOp In str ref" => (k_here; k_dflt (refine' in_tuple_strs ?t_w ?i_w ?_; (case t_w => exact ⟨_, (show (hd.heap_39 _).In _ from by k_in) _ _ (by k_is), rfl, _, rfl⟩); (case i_w => kct_strs)))
  revert X
  k_fill
  intro X
  refine wpAny_call ?_
  k_dflt cell_enter
  cases strict with
  | false =>
    k_steps
    all_goals (rename Fr h₀ L _ m => kF)
    all_goals (rename News h₀ L _ news => kN)
    exact hret none 0 _ _ rfl kF kN
  | true =>
    k_steps
    all_goals (rename Fr h₀ L _ m => kF)
    all_goals (rename News h₀ L _ news => kN)
    · have h1 : (strictWords.any (· == x)) = true := by assumption
      exact hret (some _) _ _ _ (by rw [h1]; rfl) kF kN
    · have h1 : (strictWords.any (· == x)) = false := by assumption
      exact hret none 0 _ _ (by rw [h1]; rfl) kF kN
set_option maxRecDepth 100000 in
set_option maxHeartbeats 4000000 in
theorem bs_ok {x : Str} {t : Tok} {strict : Bool}
    (B : Below A₀ base outer h₀) (F : Fr h₀ L s.heap m) (X : (hd.heap_39 w.params).In h₀) (N : News h₀ L s.heap news)
    (T : Top hd.view_39 loose mean mg mb h₀) (hk : cs.kind = .function) (hdp : dp + 8 < recursionLimit) (hun : un + 200 < cLine)
    (hlen : x.length ≤ 100)
    (hret : ∀ (r : Option Str) (t' : Tok) (h' : Heap) (tk' : Nat), r.isNone = !(strict && (restricted.any (· == x) || strictWords.any (· == x))) → Fr h₀ L h' m → News h₀ L h' news → Q (optV t' r) { s with heap := h', toks := tk' }) :
    wpAny (model PySem.Challenge.rw_pc0067_01.row.prog w) (ktrTop dp un gd cn cs L a ccd cl outer) (call (.ref 31) [.str x t, .bool strict]) Q E s := by
  k_with_none
  k_with "room" => (first | exact un1 (by assumption) (by decide) | exact un2 (by assumption) (by decide) | exact un3 (by assumption) (by decide) | exact un0 (by assumption) | exact Nat.le_of_ble_eq_true rfl | fail "room")
  k_with "ne" => (first | assumption | exact Ne.symm (by assumption) | exact Nat.ne_of_lt (by assumption) | exact Nat.ne_of_gt (by assumption) | exact (cj1 (by assumption)) | exact (cj2 (by assumption)) | exact (cj3 (by assumption)) | exact (cj4 (by assumption)) | exact (cj5 (by assumption)) | exact (cj6 (by assumption)) | exact (cj7 (by assumption)) | exact (cj8 (by assumption)) | exact (cj9 (by assumption)) | exact (cj10 (by assumption)) | exact (cj11 (by assumption)) | exact (cj12 (by assumption)) | exact (ce2 (by assumption)) | exact (ce3 (by assumption)) | exact (ce4 (by assumption)) | exact (ce5 (by assumption)) | exact (ce6 (by assumption)) | exact (ce7 (by assumption)) | exact (ce8 (by assumption)) | exact (ce9 (by assumption)) | exact (ce10 (by assumption)) | exact (ce11 (by assumption)) | exact (ce12 (by assumption)) | exact Ne.symm (cj1 (by assumption)) | exact Ne.symm (cj2 (by assumption)) | exact Ne.symm (cj3 (by assumption)) | exact Ne.symm (cj4 (by assumption)) | exact Ne.symm (cj5 (by assumption)) | exact Ne.symm (cj6 (by assumption)) | exact Ne.symm (cj7 (by assumption)) | exact Ne.symm (cj8 (by assumption)) | exact Ne.symm (cj9 (by assumption)) | exact Ne.symm (cj10 (by assumption)) | exact Ne.symm (cj11 (by assumption)) | exact Ne.symm (cj12 (by assumption)) | exact Ne.symm (ce2 (by assumption)) | exact Ne.symm (ce3 (by assumption)) | exact Ne.symm (ce4 (by assumption)) | exact Ne.symm (ce5 (by assumption)) | exact Ne.symm (ce6 (by assumption)) | exact Ne.symm (ce7 (by assumption)) | exact Ne.symm (ce8 (by assumption)) | exact Ne.symm (ce9 (by assumption)) | exact Ne.symm (ce10 (by assumption)) | exact Ne.symm (ce11 (by assumption)) | exact Ne.symm (ce12 (by assumption)) | exact Nat.ne_of_lt (cj1 (by assumption)) | exact Nat.ne_of_lt (cj2 (by assumption)) | exact Nat.ne_of_lt (cj3 (by assumption)) | exact Nat.ne_of_lt (cj4 (by assumption)) | exact Nat.ne_of_lt (cj5 (by assumption)) | exact Nat.ne_of_lt (cj6 (by assumption)) | exact Nat.ne_of_lt (cj7 (by assumption)) | exact Nat.ne_of_lt (cj8 (by assumption)) | exact Nat.ne_of_lt (cj9 (by assumption)) | exact Nat.ne_of_lt (cj10 (by assumption)) | exact Nat.ne_of_lt (cj11 (by assumption)) | exact Nat.ne_of_lt (cj12 (by assumption)) | exact Nat.ne_of_lt (ce2 (by assumption)) | exact Nat.ne_of_lt (ce3 (by assumption)) | exact Nat.ne_of_lt (ce4 (by assumption)) | exact Nat.ne_of_lt (ce5 (by assumption)) | exact Nat.ne_of_lt (ce6 (by assumption)) | exact Nat.ne_of_lt (ce7 (by assumption)) | exact Nat.ne_of_lt (ce8 (by assumption)) | exact Nat.ne_of_lt (ce9 (by assumption)) | exact Nat.ne_of_lt (ce10 (by assumption)) | exact Nat.ne_of_lt (ce11 (by assumption)) | exact Nat.ne_of_lt (ce12 (by assumption)) | exact Nat.ne_of_gt (cj1 (by assumption)) | exact Nat.ne_of_gt (cj2 (by assumption)) | exact Nat.ne_of_gt (cj3 (by assumption)) | exact Nat.ne_of_gt (cj4 (by assumption)) | exact Nat.ne_of_gt (cj5 (by assumption)) | exact Nat.ne_of_gt (cj6 (by assumption)) | exact Nat.ne_of_gt (cj7 (by assumption)) | exact Nat.ne_of_gt (cj8 (by assumption)) | exact Nat.ne_of_gt (cj9 (by assumption)) | exact Nat.ne_of_gt (cj10 (by assumption)) | exact Nat.ne_of_gt (cj11 (by assumption)) | exact Nat.ne_of_gt (cj12 (by assumption)) | exact Nat.ne_of_gt (ce2 (by assumption)) | exact Nat.ne_of_gt (ce3 (by assumption)) | exact Nat.ne_of_gt (ce4 (by assumption)) | exact Nat.ne_of_gt (ce5 (by assumption)) | exact Nat.ne_of_gt (ce6 (by assumption)) | exact Nat.ne_of_gt (ce7 (by assumption)) | exact Nat.ne_of_gt (ce8 (by assumption)) | exact Nat.ne_of_gt (ce9 (by assumption)) | exact Nat.ne_of_gt (ce10 (by assumption)) | exact Nat.ne_of_gt (ce11 (by assumption)) | exact Nat.ne_of_gt (ce12 (by assumption)) | exact cj1 (cj1 (by assumption)) | exact cj2 (cj1 (by assumption)) | exact ce3 (cj1 (by assumption)) | exact cj1 (cj2 (by assumption)) | exact cj2 (cj2 (by assumption)) | exact ce3 (cj2 (by assumption)) | exact cj1 (cj3 (by assumption)) | exact cj2 (cj3 (by assumption)) | exact ce3 (cj3 (by assumption)) | exact cj1 (cj4 (by assumption)) | exact cj2 (cj4 (by assumption)) | exact ce3 (cj4 (by assumption)) | exact cj1 (cj5 (by assumption)) | exact cj2 (cj5 (by assumption)) | exact ce3 (cj5 (by assumption)) | exact cj1 (cj6 (by assumption)) | exact cj2 (cj6 (by assumption)) | exact ce3 (cj6 (by assumption)) | exact cj1 (cj7 (by assumption)) | exact cj2 (cj7 (by assumption)) | exact ce3 (cj7 (by assumption)) | exact Ne.symm (cj1 (cj1 (by assumption))) | exact Ne.symm (cj2 (cj1 (by assumption))) | exact Ne.symm (ce3 (cj1 (by assumption))) | exact Ne.symm (cj1 (cj2 (by assumption))) | exact Ne.symm (cj2 (cj2 (by assumption))) | exact Ne.symm (ce3 (cj2 (by assumption))) | exact Ne.symm (cj1 (cj3 (by assumption))) | exact Ne.symm (cj2 (cj3 (by assumption))) | exact Ne.symm (ce3 (cj3 (by assumption))) | exact Ne.symm (cj1 (cj4 (by assumption))) | exact Ne.symm (cj2 (cj4 (by assumption))) | exact Ne.symm (ce3 (cj4 (by assumption))) | exact Ne.symm (cj1 (cj5 (by assumption))) | exact Ne.symm (cj2 (cj5 (by assumption))) | exact Ne.symm (ce3 (cj5 (by assumption))) | exact Ne.symm (cj1 (cj6 (by assumption))) | exact Ne.symm (cj2 (cj6 (by assumption))) | exact Ne.symm (ce3 (cj6 (by assumption))) | exact Ne.symm (cj1 (cj7 (by assumption))) | exact Ne.symm (cj2 (cj7 (by assumption))) | exact Ne.symm (ce3 (cj7 (by assumption))) | exact ls1 (cj1 (by assumption)) | exact Ne.symm (ls1 (cj1 (by assumption))) | exact ls1 (ce2 (by assumption)) | exact Ne.symm (ls1 (ce2 (by assumption))) | exact ls2 (cj1 (by assumption)) | exact Ne.symm (ls2 (cj1 (by assumption))) | exact ls2 (ce2 (by assumption)) | exact Ne.symm (ls2 (ce2 (by assumption))) | exact ls3 | exact Ne.symm ls3 | exact Nat.ne_of_gt (Nat.lt_trans (cj1 (by assumption)) (by assumption)) | exact Nat.ne_of_lt (Nat.lt_trans (cj1 (by assumption)) (by assumption)) | exact Nat.ne_of_gt (Nat.lt_trans (cj2 (by assumption)) (by assumption)) | exact Nat.ne_of_lt (Nat.lt_trans (cj2 (by assumption)) (by assumption)) | exact Nat.ne_of_gt (Nat.lt_trans (ce2 (by assumption)) (by assumption)) | exact Nat.ne_of_lt (Nat.lt_trans (ce2 (by assumption)) (by assumption)) | exact Nat.ne_of_gt (Nat.lt_trans (ce3 (by assumption)) (by assumption)) | exact Nat.ne_of_lt (Nat.lt_trans (ce3 (by assumption)) (by assumption)) | fail "ne")
  k_with "compareOp In str ref" => (k_here; k_dflt (refine' in_tuple_strs ?t_w ?i_w ?_; (case t_w => exact ⟨_, (show (hd.heap_39 _).In _ from by k_in) _ _ (by k_is), rfl, _, rfl⟩); (case i_w => kct_strs)))
  k_with "call ref" => (k_here; (with_reducible show wpAny _ _ (call (Value.ref 24) _) _ _ _); k_dflt (refine' nf_ok ?B_w ?F_w ?X_w ?N_w ?T_w ?K_w ?D_w ?R_w ?l_w ?_; (case B_w => k_asm); (case F_w => k_asm); (case X_w => k_asm); (case N_w => k_asm); (case T_w => k_asm); (case K_w => first | rfl | assumption); (case D_w => ktr_room); (case R_w => ktr_units); (case l_w => assumption)); intro r9_w t9_w h9_w tk9_w hr9_w F9_w N9_w; walk_say "NF")
  revert X
  k_fill
  intro X
  refine wpAny_call ?_
  k_dflt cell_enter
  cases strict with
  | false =>
    k_steps
    all_goals (rename Fr h₀ L _ m => kF)
    all_goals (rename News h₀ L _ news => kN)
    rename (Option.isNone _ = _) => hr
    exact hret _ _ _ _ hr kF kN
  | true =>
    k_steps
    all_goals (rename Fr h₀ L _ m => kF)
    all_goals (rename News h₀ L _ news => kN)
    · have h1 : (restricted.any (· == x)) = true := by assumption
      exact hret (some _) _ _ _ (by rw [h1]; rfl) kF kN
    · have h1 : (restricted.any (· == x)) = false := by assumption
      rename (Option.isNone _ = _) => hr
      exact hret _ _ _ _ (by rw [h1, hr]; rfl) kF kN
end
end
end PartNF

section PartJM
open PySem PySem.W PyProof.Rows PySem.Calls
section
variable {w : World} {loose : List Str} {mean : ExcName → Option Value} {mg mb : Str → Option Value} {dp un : Nat} {gd : Option (List Code)} {cn : Str} {cs : Scope} {a : Addr} {ccd : Value} {cl : List (Str × Addr)} {outer : List Env} {A₀ : Around} {base h₀ : Heap} {L : Addr} {m : Str → Option Value} {s : Shared} {Q E : Value → Shared → Prop} {news : List (Addr × Obj)}
/-- the labels' rows on the ledger -/
inductive LabAre (led : List (Addr × Obj)) : List Value → List (Str × Bool) → Prop
  | nil : LabAre led [] []
  | cons {q : Addr} {x : Str} {t : Tok} {b : Bool} {n : Nat} {vs : List Value} {R : List (Str × Bool)} : (q, listOf #[.str x t, .bool b] n) ∈ led → LabAre led vs R → LabAre led (.ref q :: vs) ((x, b) :: R)
theorem LabAre.length {led : List (Addr × Obj)} {vs : List Value} {R : List (Str × Bool)} (h : LabAre led vs R) : vs.length = R.length := by
  induction h with
  | nil => rfl
  | cons _ _ ih => simp [ih]
noncomputable def LabRef (led : List (Addr × Obj)) (q : Str × Bool) (v : Value) : Prop := ∃ (z : Addr) (t : Tok) (n : Nat), v = .ref z ∧ (z, listOf #[.str q.1 t, .bool q.2] n) ∈ led
theorem LabAre.get {led : List (Addr × Obj)} {vs : List Value} {R : List (Str × Bool)} (h : LabAre led vs R) : ∀ {i : Nat} {v : Value}, vs[i]? = some v → ∃ q, R[i]? = some q ∧ LabRef led q v := by
  induction h with
  | nil => intro i v e; simp at e
  | @cons q x t b n vs R hm _ ih =>
    intro i v e
    cases i with
    | zero => simp at e; subst e; exact ⟨(x, b), rfl, q, t, n, rfl, hm⟩
    | succ i => simpa using ih (by simpa using e)
theorem strs_of {α : Type} {f : α → Str} {r : List α} {bs : List Value} (h : All2 (fun (q : α) (y : Value) => ∃ t, y = Value.str (f q) t) r bs) : StrsAre bs (r.map f) := by
  induction h with
  | nil => exact .nil
  | cons g _ ih => obtain ⟨t, rfl⟩ := g; exact .cons _ t ih
theorem News.cons_old {h₀ h : Heap} {L : Addr} {led : List (Addr × Obj)} {q : Addr × Obj} (N : News h₀ L h led) (hq : q ∈ led) : News h₀ L h (q :: led) := fun p hp => by
  rcases List.mem_cons.mp hp with rfl | hp
  · exact N _ hq
  · exact N p hp
theorem lab_turns {R : List (Str × Bool)} {led : List (Addr × Obj)} {x : Str} {H : Heap} {WW : Addr → Str × Bool → Shared → (Value → Shared → Prop) → Prop} (F : Fr h₀ L H m) (N : News h₀ L H led) (hs : ∀ p ∈ news, p ∈ led)
    (h : ∀ C z b y ty ny s₃ m₃ E' oC, (z, b) ∈ R → LCg.NsObj oC m₃ → Fr h₀ L s₃.heap m → News h₀ L s₃.heap ((y, listOf #[.str z ty, .bool b] ny) :: (C, oC) :: led) → m₃ x = some (.ref y) → WW C (z, b) s₃ E') :
    ∀ (C : Addr) (q : Str × Bool) (a : Value) (s₃ : Shared) (m₃ : Str → Option Value) (E' : Value → Shared → Prop), q ∈ R → LabRef news q a → (∀ z o, H.get? z = some o → s₃.heap.get? z = some o) → H.get? C = none → s₃.heap.Ns C m₃ → m₃ x = some a → WW C q s₃ E' := by
  rintro C ⟨z, b⟩ v s₃ m₃ E' hq ⟨y, ty, ny, rfl, hy⟩ hk3 hC hn hx1
  obtain ⟨oC, hoC, F3, N3⟩ := pt_turn F N hk3 hC hn
  exact h C z b y ty ny s₃ m₃ E' oC hq hoC F3 (News.cons_old N3 (.tail _ (hs _ hy))) hx1
noncomputable abbrev jLed (o dx lb : Addr) (h1 h2 h3 : Int) (a1 a2 a3 b2 b3 : Tok) (lo sw : Int) (n3 n4 : Nat) (refs : List Value) (news : List (Addr × Obj)) : List (Addr × Obj) :=
  (o, instObj 112 dx) :: (dx, dictOf [⟨h1, .str "labels" a1, .ref lb⟩, ⟨h2, .str "loops" a2, .int lo b2⟩, ⟨h3, .str "switches" a3, .int sw b3⟩] n3) :: (lb, listOf refs.toArray n4) :: news
theorem any_names {R : List (Str × Bool)} {x : Str} (h : ((R.map (·.1)).any (· == x)) = false) : (R.any fun q => q.1 == x && q.2) = false := by
  induction R with
  | nil => rfl
  | cons q r ih =>
    simp only [List.map_cons, List.any_cons, Bool.or_eq_false_iff] at h ⊢
    exact ⟨by rw [h.1]; rfl, ih h.2⟩
theorem any_filter {R : List (Str × Bool)} {x : Str} : (((R.filter (·.2)).map (·.1)).any (· == x)) = (R.any fun q => q.1 == x && q.2) := by
  induction R with
  | nil => rfl
  | cons q r ih =>
    rw [List.filter_cons, List.any_cons]
    cases h : q.2
    · simp only [Bool.false_eq_true, if_false, Bool.and_false, Bool.false_or]; exact ih
    · simp only [if_true, List.map_cons, List.any_cons, Bool.and_true, ih]
theorem filter_tt {α : Type} (l : List α) : l.filter (fun _ => true) = l := by simp
theorem any_len {R : List (Str × Bool)} : (R.filter (·.2)).length ≤ R.length := List.length_filter_le _ _
section
set_option maxRecDepth 100000 in
set_option maxHeartbeats 4000000 in
theorem lf_ok {o dx lb : Addr} {h1 h2 h3 : Int} {a1 a2 a3 b2 b3 : Tok} {lo sw : Int} {n3 n4 : Nat} {refs : List Value} {R : List (Str × Bool)} {x : Str} {t0 : Tok}
    (B : Below A₀ base outer h₀) (F : Fr h₀ L s.heap m) (X : (hd.heap_39 w.params).In h₀) (N : News h₀ L s.heap (jLed o dx lb h1 h2 h3 a1 a2 a3 b2 b3 lo sw n3 n4 refs news))
    (T : Top hd.view_39 loose mean mg mb h₀) (hk : cs.kind = .function) (hdp : dp + 4 < recursionLimit) (hun : un + 100 < cLine)
    (hR : LabAre news refs R) (hlen : R.length ≤ 63) (hx : x.length ≤ 100)
    (hret : ∀ (r : Option Str) (t : Tok) (h' : Heap) (tk' : Nat), r.isNone = !(R.map (·.1)).any (· == x) → Fr h₀ L h' m → News h₀ L h' (jLed o dx lb h1 h2 h3 a1 a2 a3 b2 b3 lo sw n3 n4 refs news) → Q (optV t r) { s with heap := h', toks := tk' }) :
    wpAny (model PySem.Challenge.rw_pc0067_01.row.prog w) (ktrTop dp un gd cn cs L a ccd cl outer) (call (.ref 99) [.ref o, .str x t0]) Q E s := by
  k_with_none
  k_with "room" => (first | exact un1 (by assumption) (by decide) | exact un2 (by assumption) (by decide) | exact un3 (by assumption) (by decide) | exact un0 (by assumption) | exact Nat.le_of_ble_eq_true rfl | fail "room")
  k_with "ne" => (first | assumption | exact Ne.symm (by assumption) | exact Nat.ne_of_lt (by assumption) | exact Nat.ne_of_gt (by assumption) | exact (cj1 (by assumption)) | exact (cj2 (by assumption)) | exact (cj3 (by assumption)) | exact (cj4 (by assumption)) | exact (cj5 (by assumption)) | exact (cj6 (by assumption)) | exact (cj7 (by assumption)) | exact (cj8 (by assumption)) | exact (cj9 (by assumption)) | exact (cj10 (by assumption)) | exact (cj11 (by assumption)) | exact (cj12 (by assumption)) | exact (ce2 (by assumption)) | exact (ce3 (by assumption)) | exact (ce4 (by assumption)) | exact (ce5 (by assumption)) | exact (ce6 (by assumption)) | exact (ce7 (by assumption)) | exact (ce8 (by assumption)) | exact (ce9 (by assumption)) | exact (ce10 (by assumption)) | exact (ce11 (by assumption)) | exact (ce12 (by assumption)) | exact Ne.symm (cj1 (by assumption)) | exact Ne.symm (cj2 (by assumption)) | exact Ne.symm (cj3 (by assumption)) | exact Ne.symm (cj4 (by assumption)) | exact Ne.symm (cj5 (by assumption)) | exact Ne.symm (cj6 (by assumption)) | exact Ne.symm (cj7 (by assumption)) | exact Ne.symm (cj8 (by assumption)) | exact Ne.symm (cj9 (by assumption)) | exact Ne.symm (cj10 (by assumption)) | exact Ne.symm (cj11 (by assumption)) | exact Ne.symm (cj12 (by assumption)) | exact Ne.symm (ce2 (by assumption)) | exact Ne.symm (ce3 (by assumption)) | exact Ne.symm (ce4 (by assumption)) | exact Ne.symm (ce5 (by assumption)) | exact Ne.symm (ce6 (by assumption)) | exact Ne.symm (ce7 (by assumption)) | exact Ne.symm (ce8 (by assumption)) | exact Ne.symm (ce9 (by assumption)) | exact Ne.symm (ce10 (by assumption)) | exact Ne.symm (ce11 (by assumption)) | exact Ne.symm (ce12 (by assumption)) | exact Nat.ne_of_lt (cj1 (by assumption)) | exact Nat.ne_of_lt (cj2 (by assumption)) | exact Nat.ne_of_lt (cj3 (by assumption)) | exact Nat.ne_of_lt (cj4 (by assumption)) | exact Nat.ne_of_lt (cj5 (by assumption)) | exact Nat.ne_of_lt (cj6 (by assumption)) | exact Nat.ne_of_lt (cj7 (by assumption)) | exact Nat.ne_of_lt (cj8 (by assumption)) | exact Nat.ne_of_lt (cj9 (by assumption)) | exact Nat.ne_of_lt (cj10 (by assumption)) | exact Nat.ne_of_lt (cj11 (by assumption)) | exact Nat.ne_of_lt (cj12 (by assumption)) | exact Nat.ne_of_lt (ce2 (by assumption)) | exact Nat.ne_of_lt (ce3 (by assumption)) | exact Nat.ne_of_lt (ce4 (by assumption)) | exact Nat.ne_of_lt (ce5 (by assumption)) | exact Nat.ne_of_lt (ce6 (by assumption)) | exact Nat.ne_of_lt (ce7 (by assumption)) | exact Nat.ne_of_lt (ce8 (by assumption)) | exact Nat.ne_of_lt (ce9 (by assumption)) | exact Nat.ne_of_lt (ce10 (by assumption)) | exact Nat.ne_of_lt (ce11 (by assumption)) | exact Nat.ne_of_lt (ce12 (by assumption)) | exact Nat.ne_of_gt (cj1 (by assumption)) | exact Nat.ne_of_gt (cj2 (by assumption)) | exact Nat.ne_of_gt (cj3 (by assumption)) | exact Nat.ne_of_gt (cj4 (by assumption)) | exact Nat.ne_of_gt (cj5 (by assumption)) | exact Nat.ne_of_gt (cj6 (by assumption)) | exact Nat.ne_of_gt (cj7 (by assumption)) | exact Nat.ne_of_gt (cj8 (by assumption)) | exact Nat.ne_of_gt (cj9 (by assumption)) | exact Nat.ne_of_gt (cj10 (by assumption)) | exact Nat.ne_of_gt (cj11 (by assumption)) | exact Nat.ne_of_gt (cj12 (by assumption)) | exact Nat.ne_of_gt (ce2 (by assumption)) | exact Nat.ne_of_gt (ce3 (by assumption)) | exact Nat.ne_of_gt (ce4 (by assumption)) | exact Nat.ne_of_gt (ce5 (by assumption)) | exact Nat.ne_of_gt (ce6 (by assumption)) | exact Nat.ne_of_gt (ce7 (by assumption)) | exact Nat.ne_of_gt (ce8 (by assumption)) | exact Nat.ne_of_gt (ce9 (by assumption)) | exact Nat.ne_of_gt (ce10 (by assumption)) | exact Nat.ne_of_gt (ce11 (by assumption)) | exact Nat.ne_of_gt (ce12 (by assumption)) | exact cj1 (cj1 (by assumption)) | exact cj2 (cj1 (by assumption)) | exact ce3 (cj1 (by assumption)) | exact cj1 (cj2 (by assumption)) | exact cj2 (cj2 (by assumption)) | exact ce3 (cj2 (by assumption)) | exact cj1 (cj3 (by assumption)) | exact cj2 (cj3 (by assumption)) | exact ce3 (cj3 (by assumption)) | exact cj1 (cj4 (by assumption)) | exact cj2 (cj4 (by assumption)) | exact ce3 (cj4 (by assumption)) | exact cj1 (cj5 (by assumption)) | exact cj2 (cj5 (by assumption)) | exact ce3 (cj5 (by assumption)) | exact cj1 (cj6 (by assumption)) | exact cj2 (cj6 (by assumption)) | exact ce3 (cj6 (by assumption)) | exact cj1 (cj7 (by assumption)) | exact cj2 (cj7 (by assumption)) | exact ce3 (cj7 (by assumption)) | exact Ne.symm (cj1 (cj1 (by assumption))) | exact Ne.symm (cj2 (cj1 (by assumption))) | exact Ne.symm (ce3 (cj1 (by assumption))) | exact Ne.symm (cj1 (cj2 (by assumption))) | exact Ne.symm (cj2 (cj2 (by assumption))) | exact Ne.symm (ce3 (cj2 (by assumption))) | exact Ne.symm (cj1 (cj3 (by assumption))) | exact Ne.symm (cj2 (cj3 (by assumption))) | exact Ne.symm (ce3 (cj3 (by assumption))) | exact Ne.symm (cj1 (cj4 (by assumption))) | exact Ne.symm (cj2 (cj4 (by assumption))) | exact Ne.symm (ce3 (cj4 (by assumption))) | exact Ne.symm (cj1 (cj5 (by assumption))) | exact Ne.symm (cj2 (cj5 (by assumption))) | exact Ne.symm (ce3 (cj5 (by assumption))) | exact Ne.symm (cj1 (cj6 (by assumption))) | exact Ne.symm (cj2 (cj6 (by assumption))) | exact Ne.symm (ce3 (cj6 (by assumption))) | exact Ne.symm (cj1 (cj7 (by assumption))) | exact Ne.symm (cj2 (cj7 (by assumption))) | exact Ne.symm (ce3 (cj7 (by assumption))) | exact ls1 (cj1 (by assumption)) | exact Ne.symm (ls1 (cj1 (by assumption))) | exact ls1 (ce2 (by assumption)) | exact Ne.symm (ls1 (ce2 (by assumption))) | exact ls2 (cj1 (by assumption)) | exact Ne.symm (ls2 (cj1 (by assumption))) | exact ls2 (ce2 (by assumption)) | exact Ne.symm (ls2 (ce2 (by assumption))) | exact ls3 | exact Ne.symm ls3 | exact Nat.ne_of_gt (Nat.lt_trans (cj1 (by assumption)) (by assumption)) | exact Nat.ne_of_lt (Nat.lt_trans (cj1 (by assumption)) (by assumption)) | exact Nat.ne_of_gt (Nat.lt_trans (cj2 (by assumption)) (by assumption)) | exact Nat.ne_of_lt (Nat.lt_trans (cj2 (by assumption)) (by assumption)) | exact Nat.ne_of_gt (Nat.lt_trans (ce2 (by assumption)) (by assumption)) | exact Nat.ne_of_lt (Nat.lt_trans (ce2 (by assumption)) (by assumption)) | exact Nat.ne_of_gt (Nat.lt_trans (ce3 (by assumption)) (by assumption)) | exact Nat.ne_of_lt (Nat.lt_trans (ce3 (by assumption)) (by assumption)) | fail "ne")
  k_with "eval ListComp" => refine stop ?_
  k_with "compareOp In str ref" => (k_here; k_dflt (refine' in_list_strs ?l_w ?i_w ?_; (case i_w => assumption); (case l_w => exact News.isList (by k_asm) (by k_mem))))
  k_with "compareOp NotIn str ref" => (k_here; k_dflt (refine' notin_list_strs ?l_w ?i_w ?_; (case i_w => assumption); (case l_w => exact News.isList (by k_asm) (by k_mem))))
  revert X
  k_fill
  intro X
  refine wpAny_call ?_
  k_dflt cell_enter
  k_steps
  refine Stop.go ?_
  rename News _ _ _ _ => N1
  rename Fr _ _ _ _ => F1
  k_dflt (refine ListComp_st (items := R) (LabRef news) (fun _ => true) (fun q y => ∃ t, y = .str q.1 t) rfl (by rw [sizeLine_eq]; omega) (by rfl) (by decide) (by rfl) (by decide) (by rfl) ?_)
  refine mono_stop ?_
  k_steps
  refine Stop.go ?_
  refine ⟨_, _, rfl, News.isList N1 (by k_mem), by rw [List.size_toArray, hR.length], fun i v hv => hR.get (by simpa using hv), ?_, ?_, ?_⟩
  · intro C q v s₃ m₃ E' hq hy hk3 hC hn hx1
    exact wpAny_tests_nil ⟨rfl, _, _, rfl, fun _ _ e => e⟩
  · refine lab_turns F1 N1 (fun p hp => .tail _ (.tail _ (.tail _ hp))) fun C z b y ty ny s₃ m₃ E' oC hq hoC F3 N4 hx1 => ?_
    (try dsimp only at hx1)
    refine mono_stop ?_
    k_steps
    exact Stop.go ⟨⟨_, rfl⟩, _, _, rfl, fun _ _ e => e⟩
  · intro D h tk ys hk3 hD hys hDs
    obtain ⟨F5, N5, l5⟩ := pt_after F1 N1 hk3 hD hDs
    have hst : StrsAre ys (R.map (·.1)) := by
      have h9 := strs_of hys
      rw [filter_tt] at h9
      exact h9
    k_steps
    · have hz : ((R.map (·.1)).any (· == x)) = true := by assumption
      rename News h₀ L _ _ => kN
      exact hret (some _) _ _ _ (by rw [hz]; rfl) (by assumption) (fun p hp => kN p (.tail _ hp))
    · have hz : ((R.map (·.1)).any (· == x)) = false := by assumption
      rename News h₀ L _ _ => kN
      exact hret none 0 _ _ (by rw [hz]; rfl) (by assumption) (fun p hp => kN p (.tail _ hp))
set_option maxRecDepth 100000 in
set_option maxHeartbeats 4000000 in
theorem brk_ok {o dx lb : Addr} {h1 h2 h3 : Int} {a1 a2 a3 b2 b3 : Tok} {lo sw : Int} {n3 n4 : Nat} {refs : List Value} {R : List (Str × Bool)} {x : Str} {t0 : Tok}
    (B : Below A₀ base outer h₀) (F : Fr h₀ L s.heap m) (X : (hd.heap_39 w.params).In h₀) (N : News h₀ L s.heap (jLed o dx lb h1 h2 h3 a1 a2 a3 b2 b3 lo sw n3 n4 refs news))
    (T : Top hd.view_39 loose mean mg mb h₀) (hk : cs.kind = .function) (hdp : dp + 4 < recursionLimit) (hun : un + 100 < cLine)
    (hR : LabAre news refs R) (hlen : R.length ≤ 63) (hx : x.length ≤ 100)
    (hret : ∀ (r : Option Str) (t : Tok) (h' : Heap) (tk' : Nat), r.isNone = (R.map (·.1)).any (· == x) → Fr h₀ L h' m → News h₀ L h' (jLed o dx lb h1 h2 h3 a1 a2 a3 b2 b3 lo sw n3 n4 refs news) → Q (optV t r) { s with heap := h', toks := tk' }) :
    wpAny (model PySem.Challenge.rw_pc0067_01.row.prog w) (ktrTop dp un gd cn cs L a ccd cl outer) (call (.ref 104) [.ref o, .str x t0]) Q E s := by
  k_with_none
  k_with "room" => (first | exact un1 (by assumption) (by decide) | exact un2 (by assumption) (by decide) | exact un3 (by assumption) (by decide) | exact un0 (by assumption) | exact Nat.le_of_ble_eq_true rfl | fail "room")
  k_with "ne" => (first | assumption | exact Ne.symm (by assumption) | exact Nat.ne_of_lt (by assumption) | exact Nat.ne_of_gt (by assumption) | exact (cj1 (by assumption)) | exact (cj2 (by assumption)) | exact (cj3 (by assumption)) | exact (cj4 (by assumption)) | exact (cj5 (by assumption)) | exact (cj6 (by assumption)) | exact (cj7 (by assumption)) | exact (cj8 (by assumption)) | exact (cj9 (by assumption)) | exact (cj10 (by assumption)) | exact (cj11 (by assumption)) | exact (cj12 (by assumption)) | exact (ce2 (by assumption)) | exact (ce3 (by assumption)) | exact (ce4 (by assumption)) | exact (ce5 (by assumption)) | exact (ce6 (by assumption)) | exact (ce7 (by assumption)) | exact (ce8 (by assumption)) | exact (ce9 (by assumption)) | exact (ce10 (by assumption)) | exact (ce11 (by assumption)) | exact (ce12 (by assumption)) | exact Ne.symm (cj1 (by assumption)) | exact Ne.symm (cj2 (by assumption)) | exact Ne.symm (cj3 (by assumption)) | exact Ne.symm (cj4 (by assumption)) | exact Ne.symm (cj5 (by assumption)) | exact Ne.symm (cj6 (by assumption)) | exact Ne.symm (cj7 (by assumption)) | exact Ne.symm (cj8 (by assumption)) | exact Ne.symm (cj9 (by assumption)) | exact Ne.symm (cj10 (by assumption)) | exact Ne.symm (cj11 (by assumption)) | exact Ne.symm (cj12 (by assumption)) | exact Ne.symm (ce2 (by assumption)) | exact Ne.symm (ce3 (by assumption)) | exact Ne.symm (ce4 (by assumption)) | exact Ne.symm (ce5 (by assumption)) | exact Ne.symm (ce6 (by assumption)) | exact Ne.symm (ce7 (by assumption)) | exact Ne.symm (ce8 (by assumption)) | exact Ne.symm (ce9 (by assumption)) | exact Ne.symm (ce10 (by assumption)) | exact Ne.symm (ce11 (by assumption)) | exact Ne.symm (ce12 (by assumption)) | exact Nat.ne_of_lt (cj1 (by assumption)) | exact Nat.ne_of_lt (cj2 (by assumption)) | exact Nat.ne_of_lt (cj3 (by assumption)) | exact Nat.ne_of_lt (cj4 (by assumption)) | exact Nat.ne_of_lt (cj5 (by assumption)) | exact Nat.ne_of_lt (cj6 (by assumption)) | exact Nat.ne_of_lt (cj7 (by assumption)) | exact Nat.ne_of_lt (cj8 (by assumption)) | exact Nat.ne_of_lt (cj9 (by assumption)) | exact Nat.ne_of_lt (cj10 (by assumption)) | exact Nat.ne_of_lt (cj11 (by assumption)) | exact Nat.ne_of_lt (cj12 (by assumption)) | exact Nat.ne_of_lt (ce2 (by assumption)) | exact Nat.ne_of_lt (ce3 (by assumption)) | exact Nat.ne_of_lt (ce4 (by assumption)) | exact Nat.ne_of_lt (ce5 (by assumption)) | exact Nat.ne_of_lt (ce6 (by assumption)) | exact Nat.ne_of_lt (ce7 (by assumption)) | exact Nat.ne_of_lt (ce8 (by assumption)) | exact Nat.ne_of_lt (ce9 (by assumption)) | exact Nat.ne_of_lt (ce10 (by assumption)) | exact Nat.ne_of_lt (ce11 (by assumption)) | exact Nat.ne_of_lt (ce12 (by assumption)) | exact Nat.ne_of_gt (cj1 (by assumption)) | exact Nat.ne_of_gt (cj2 (by assumption)) | exact Nat.ne_of_gt (cj3 (by assumption)) | exact Nat.ne_of_gt (cj4 (by assumption)) | exact Nat.ne_of_gt (cj5 (by assumption)) | exact Nat.ne_of_gt (cj6 (by assumption)) | exact Nat.ne_of_gt (cj7 (by assumption)) | exact Nat.ne_of_gt (cj8 (by assumption)) | exact Nat.ne_of_gt (cj9 (by assumption)) | exact Nat.ne_of_gt (cj10 (by assumption)) | exact Nat.ne_of_gt (cj11 (by assumption)) | exact Nat.ne_of_gt (cj12 (by assumption)) | exact Nat.ne_of_gt (ce2 (by assumption)) | exact Nat.ne_of_gt (ce3 (by assumption)) | exact Nat.ne_of_gt (ce4 (by assumption)) | exact Nat.ne_of_gt (ce5 (by assumption)) | exact Nat.ne_of_gt (ce6 (by assumption)) | exact Nat.ne_of_gt (ce7 (by assumption)) | exact Nat.ne_of_gt (ce8 (by assumption)) | exact Nat.ne_of_gt (ce9 (by assumption)) | exact Nat.ne_of_gt (ce10 (by assumption)) | exact Nat.ne_of_gt (ce11 (by assumption)) | exact Nat.ne_of_gt (ce12 (by assumption)) | exact cj1 (cj1 (by assumption)) | exact cj2 (cj1 (by assumption)) | exact ce3 (cj1 (by assumption)) | exact cj1 (cj2 (by assumption)) | exact cj2 (cj2 (by assumption)) | exact ce3 (cj2 (by assumption)) | exact cj1 (cj3 (by assumption)) | exact cj2 (cj3 (by assumption)) | exact ce3 (cj3 (by assumption)) | exact cj1 (cj4 (by assumption)) | exact cj2 (cj4 (by assumption)) | exact ce3 (cj4 (by assumption)) | exact cj1 (cj5 (by assumption)) | exact cj2 (cj5 (by assumption)) | exact ce3 (cj5 (by assumption)) | exact cj1 (cj6 (by assumption)) | exact cj2 (cj6 (by assumption)) | exact ce3 (cj6 (by assumption)) | exact cj1 (cj7 (by assumption)) | exact cj2 (cj7 (by assumption)) | exact ce3 (cj7 (by assumption)) | exact Ne.symm (cj1 (cj1 (by assumption))) | exact Ne.symm (cj2 (cj1 (by assumption))) | exact Ne.symm (ce3 (cj1 (by assumption))) | exact Ne.symm (cj1 (cj2 (by assumption))) | exact Ne.symm (cj2 (cj2 (by assumption))) | exact Ne.symm (ce3 (cj2 (by assumption))) | exact Ne.symm (cj1 (cj3 (by assumption))) | exact Ne.symm (cj2 (cj3 (by assumption))) | exact Ne.symm (ce3 (cj3 (by assumption))) | exact Ne.symm (cj1 (cj4 (by assumption))) | exact Ne.symm (cj2 (cj4 (by assumption))) | exact Ne.symm (ce3 (cj4 (by assumption))) | exact Ne.symm (cj1 (cj5 (by assumption))) | exact Ne.symm (cj2 (cj5 (by assumption))) | exact Ne.symm (ce3 (cj5 (by assumption))) | exact Ne.symm (cj1 (cj6 (by assumption))) | exact Ne.symm (cj2 (cj6 (by assumption))) | exact Ne.symm (ce3 (cj6 (by assumption))) | exact Ne.symm (cj1 (cj7 (by assumption))) | exact Ne.symm (cj2 (cj7 (by assumption))) | exact Ne.symm (ce3 (cj7 (by assumption))) | exact ls1 (cj1 (by assumption)) | exact Ne.symm (ls1 (cj1 (by assumption))) | exact ls1 (ce2 (by assumption)) | exact Ne.symm (ls1 (ce2 (by assumption))) | exact ls2 (cj1 (by assumption)) | exact Ne.symm (ls2 (cj1 (by assumption))) | exact ls2 (ce2 (by assumption)) | exact Ne.symm (ls2 (ce2 (by assumption))) | exact ls3 | exact Ne.symm ls3 | exact Nat.ne_of_gt (Nat.lt_trans (cj1 (by assumption)) (by assumption)) | exact Nat.ne_of_lt (Nat.lt_trans (cj1 (by assumption)) (by assumption)) | exact Nat.ne_of_gt (Nat.lt_trans (cj2 (by assumption)) (by assumption)) | exact Nat.ne_of_lt (Nat.lt_trans (cj2 (by assumption)) (by assumption)) | exact Nat.ne_of_gt (Nat.lt_trans (ce2 (by assumption)) (by assumption)) | exact Nat.ne_of_lt (Nat.lt_trans (ce2 (by assumption)) (by assumption)) | exact Nat.ne_of_gt (Nat.lt_trans (ce3 (by assumption)) (by assumption)) | exact Nat.ne_of_lt (Nat.lt_trans (ce3 (by assumption)) (by assumption)) | fail "ne")
  k_with "eval ListComp" => refine stop ?_
  k_with "compareOp In str ref" => (k_here; k_dflt (refine' in_list_strs ?l_w ?i_w ?_; (case i_w => assumption); (case l_w => exact News.isList (by k_asm) (by k_mem))))
  k_with "compareOp NotIn str ref" => (k_here; k_dflt (refine' notin_list_strs ?l_w ?i_w ?_; (case i_w => assumption); (case l_w => exact News.isList (by k_asm) (by k_mem))))
  revert X
  k_fill
  intro X
  refine wpAny_call ?_
  k_dflt cell_enter
  k_steps
  refine Stop.go ?_
  rename News _ _ _ _ => N1
  rename Fr _ _ _ _ => F1
  k_dflt (refine ListComp_st (items := R) (LabRef news) (fun _ => true) (fun q y => ∃ t, y = .str q.1 t) rfl (by rw [sizeLine_eq]; omega) (by rfl) (by decide) (by rfl) (by decide) (by rfl) ?_)
  refine mono_stop ?_
  k_steps
  refine Stop.go ?_
  refine ⟨_, _, rfl, News.isList N1 (by k_mem), by rw [List.size_toArray, hR.length], fun i v hv => hR.get (by simpa using hv), ?_, ?_, ?_⟩
  · intro C q v s₃ m₃ E' hq hy hk3 hC hn hx1
    exact wpAny_tests_nil ⟨rfl, _, _, rfl, fun _ _ e => e⟩
  · refine lab_turns F1 N1 (fun p hp => .tail _ (.tail _ (.tail _ hp))) fun C z b y ty ny s₃ m₃ E' oC hq hoC F3 N4 hx1 => ?_
    (try dsimp only at hx1)
    refine mono_stop ?_
    k_steps
    exact Stop.go ⟨⟨_, rfl⟩, _, _, rfl, fun _ _ e => e⟩
  · intro D h tk ys hk3 hD hys hDs
    obtain ⟨F5, N5, l5⟩ := pt_after F1 N1 hk3 hD hDs
    have hst : StrsAre ys (R.map (·.1)) := by
      have h9 := strs_of hys
      rw [filter_tt] at h9
      exact h9
    k_steps
    · have hz : ((R.map (·.1)).any (· == x)) = true := by assumption
      rename News h₀ L _ _ => kN
      exact hret none 0 _ _ (by rw [hz]; rfl) (by assumption) (fun p hp => kN p (.tail _ hp))
    · have hz : ((R.map (·.1)).any (· == x)) = false := by assumption
      rename News h₀ L _ _ => kN
      exact hret (some _) _ _ _ (by rw [hz]; rfl) (by assumption) (fun p hp => kN p (.tail _ hp))
set_option maxRecDepth 100000 in
set_option maxHeartbeats 4000000 in
theorem cnt_ok {o dx lb : Addr} {h1 h2 h3 : Int} {a1 a2 a3 b2 b3 : Tok} {lo sw : Int} {n3 n4 : Nat} {refs : List Value} {R : List (Str × Bool)} {x : Str} {t0 : Tok}
    (B : Below A₀ base outer h₀) (F : Fr h₀ L s.heap m) (X : (hd.heap_39 w.params).In h₀) (N : News h₀ L s.heap (jLed o dx lb h1 h2 h3 a1 a2 a3 b2 b3 lo sw n3 n4 refs news))
    (T : Top hd.view_39 loose mean mg mb h₀) (hk : cs.kind = .function) (hdp : dp + 4 < recursionLimit) (hun : un + 100 < cLine)
    (hR : LabAre news refs R) (hlen : R.length ≤ 63) (hx : x.length ≤ 100)
    (hret : ∀ (r : Option Str) (t : Tok) (h' : Heap) (tk' : Nat), r.isNone = (R.any fun q => q.1 == x && q.2) → Fr h₀ L h' m → News h₀ L h' (jLed o dx lb h1 h2 h3 a1 a2 a3 b2 b3 lo sw n3 n4 refs news) → Q (optV t r) { s with heap := h', toks := tk' }) :
    wpAny (model PySem.Challenge.rw_pc0067_01.row.prog w) (ktrTop dp un gd cn cs L a ccd cl outer) (call (.ref 109) [.ref o, .str x t0]) Q E s := by
  k_with_none
  k_with "room" => (first | exact un1 (by assumption) (by decide) | exact un2 (by assumption) (by decide) | exact un3 (by assumption) (by decide) | exact un0 (by assumption) | exact Nat.le_of_ble_eq_true rfl | fail "room")
  k_with "ne" => (first | assumption | exact Ne.symm (by assumption) | exact Nat.ne_of_lt (by assumption) | exact Nat.ne_of_gt (by assumption) | exact (cj1 (by assumption)) | exact (cj2 (by assumption)) | exact (cj3 (by assumption)) | exact (cj4 (by assumption)) | exact (cj5 (by assumption)) | exact (cj6 (by assumption)) | exact (cj7 (by assumption)) | exact (cj8 (by assumption)) | exact (cj9 (by assumption)) | exact (cj10 (by assumption)) | exact (cj11 (by assumption)) | exact (cj12 (by assumption)) | exact (ce2 (by assumption)) | exact (ce3 (by assumption)) | exact (ce4 (by assumption)) | exact (ce5 (by assumption)) | exact (ce6 (by assumption)) | exact (ce7 (by assumption)) | exact (ce8 (by assumption)) | exact (ce9 (by assumption)) | exact (ce10 (by assumption)) | exact (ce11 (by assumption)) | exact (ce12 (by assumption)) | exact Ne.symm (cj1 (by assumption)) | exact Ne.symm (cj2 (by assumption)) | exact Ne.symm (cj3 (by assumption)) | exact Ne.symm (cj4 (by assumption)) | exact Ne.symm (cj5 (by assumption)) | exact Ne.symm (cj6 (by assumption)) | exact Ne.symm (cj7 (by assumption)) | exact Ne.symm (cj8 (by assumption)) | exact Ne.symm (cj9 (by assumption)) | exact Ne.symm (cj10 (by assumption)) | exact Ne.symm (cj11 (by assumption)) | exact Ne.symm (cj12 (by assumption)) | exact Ne.symm (ce2 (by assumption)) | exact Ne.symm (ce3 (by assumption)) | exact Ne.symm (ce4 (by assumption)) | exact Ne.symm (ce5 (by assumption)) | exact Ne.symm (ce6 (by assumption)) | exact Ne.symm (ce7 (by assumption)) | exact Ne.symm (ce8 (by assumption)) | exact Ne.symm (ce9 (by assumption)) | exact Ne.symm (ce10 (by assumption)) | exact Ne.symm (ce11 (by assumption)) | exact Ne.symm (ce12 (by assumption)) | exact Nat.ne_of_lt (cj1 (by assumption)) | exact Nat.ne_of_lt (cj2 (by assumption)) | exact Nat.ne_of_lt (cj3 (by assumption)) | exact Nat.ne_of_lt (cj4 (by assumption)) | exact Nat.ne_of_lt (cj5 (by assumption)) | exact Nat.ne_of_lt (cj6 (by assumption)) | exact Nat.ne_of_lt (cj7 (by assumption)) | exact Nat.ne_of_lt (cj8 (by assumption)) | exact Nat.ne_of_lt (cj9 (by assumption)) | exact Nat.ne_of_lt (cj10 (by assumption)) | exact Nat.ne_of_lt (cj11 (by assumption)) | exact Nat.ne_of_lt (cj12 (by assumption)) | exact Nat.ne_of_lt (ce2 (by assumption)) | exact Nat.ne_of_lt (ce3 (by assumption)) | exact Nat.ne_of_lt (ce4 (by assumption)) | exact Nat.ne_of_lt (ce5 (by assumption)) | exact Nat.ne_of_lt (ce6 (by assumption)) | exact Nat.ne_of_lt (ce7 (by assumption)) | exact Nat.ne_of_lt (ce8 (by assumption)) | exact Nat.ne_of_lt (ce9 (by assumption)) | exact Nat.ne_of_lt (ce10 (by assumption)) | exact Nat.ne_of_lt (ce11 (by assumption)) | exact Nat.ne_of_lt (ce12 (by assumption)) | exact Nat.ne_of_gt (cj1 (by assumption)) | exact Nat.ne_of_gt (cj2 (by assumption)) | exact Nat.ne_of_gt (cj3 (by assumption)) | exact Nat.ne_of_gt (cj4 (by assumption)) | exact Nat.ne_of_gt (cj5 (by assumption)) | exact Nat.ne_of_gt (cj6 (by assumption)) | exact Nat.ne_of_gt (cj7 (by assumption)) | exact Nat.ne_of_gt (cj8 (by assumption)) | exact Nat.ne_of_gt (cj9 (by assumption)) | exact Nat.ne_of_gt (cj10 (by assumption)) | exact Nat.ne_of_gt (cj11 (by assumption)) | exact Nat.ne_of_gt (cj12 (by assumption)) | exact Nat.ne_of_gt (ce2 (by assumption)) | exact Nat.ne_of_gt (ce3 (by assumption)) | exact Nat.ne_of_gt (ce4 (by assumption)) | exact Nat.ne_of_gt (ce5 (by assumption)) | exact Nat.ne_of_gt (ce6 (by assumption)) | exact Nat.ne_of_gt (ce7 (by assumption)) | exact Nat.ne_of_gt (ce8 (by assumption)) | exact Nat.ne_of_gt (ce9 (by assumption)) | exact Nat.ne_of_gt (ce10 (by assumption)) | exact Nat.ne_of_gt (ce11 (by assumption)) | exact Nat.ne_of_gt (ce12 (by assumption)) | exact cj1 (cj1 (by assumption)) | exact cj2 (cj1 (by assumption)) | exact ce3 (cj1 (by assumption)) | exact cj1 (cj2 (by assumption)) | exact cj2 (cj2 (by assumption)) | exact ce3 (cj2 (by assumption)) | exact cj1 (cj3 (by assumption)) | exact cj2 (cj3 (by assumption)) | exact ce3 (cj3 (by assumption)) | exact cj1 (cj4 (by assumption)) | exact cj2 (cj4 (by assumption)) | exact ce3 (cj4 (by assumption)) | exact cj1 (cj5 (by assumption)) | exact cj2 (cj5 (by assumption)) | exact ce3 (cj5 (by assumption)) | exact cj1 (cj6 (by assumption)) | exact cj2 (cj6 (by assumption)) | exact ce3 (cj6 (by assumption)) | exact cj1 (cj7 (by assumption)) | exact cj2 (cj7 (by assumption)) | exact ce3 (cj7 (by assumption)) | exact Ne.symm (cj1 (cj1 (by assumption))) | exact Ne.symm (cj2 (cj1 (by assumption))) | exact Ne.symm (ce3 (cj1 (by assumption))) | exact Ne.symm (cj1 (cj2 (by assumption))) | exact Ne.symm (cj2 (cj2 (by assumption))) | exact Ne.symm (ce3 (cj2 (by assumption))) | exact Ne.symm (cj1 (cj3 (by assumption))) | exact Ne.symm (cj2 (cj3 (by assumption))) | exact Ne.symm (ce3 (cj3 (by assumption))) | exact Ne.symm (cj1 (cj4 (by assumption))) | exact Ne.symm (cj2 (cj4 (by assumption))) | exact Ne.symm (ce3 (cj4 (by assumption))) | exact Ne.symm (cj1 (cj5 (by assumption))) | exact Ne.symm (cj2 (cj5 (by assumption))) | exact Ne.symm (ce3 (cj5 (by assumption))) | exact Ne.symm (cj1 (cj6 (by assumption))) | exact Ne.symm (cj2 (cj6 (by assumption))) | exact Ne.symm (ce3 (cj6 (by assumption))) | exact Ne.symm (cj1 (cj7 (by assumption))) | exact Ne.symm (cj2 (cj7 (by assumption))) | exact Ne.symm (ce3 (cj7 (by assumption))) | exact ls1 (cj1 (by assumption)) | exact Ne.symm (ls1 (cj1 (by assumption))) | exact ls1 (ce2 (by assumption)) | exact Ne.symm (ls1 (ce2 (by assumption))) | exact ls2 (cj1 (by assumption)) | exact Ne.symm (ls2 (cj1 (by assumption))) | exact ls2 (ce2 (by assumption)) | exact Ne.symm (ls2 (ce2 (by assumption))) | exact ls3 | exact Ne.symm ls3 | exact Nat.ne_of_gt (Nat.lt_trans (cj1 (by assumption)) (by assumption)) | exact Nat.ne_of_lt (Nat.lt_trans (cj1 (by assumption)) (by assumption)) | exact Nat.ne_of_gt (Nat.lt_trans (cj2 (by assumption)) (by assumption)) | exact Nat.ne_of_lt (Nat.lt_trans (cj2 (by assumption)) (by assumption)) | exact Nat.ne_of_gt (Nat.lt_trans (ce2 (by assumption)) (by assumption)) | exact Nat.ne_of_lt (Nat.lt_trans (ce2 (by assumption)) (by assumption)) | exact Nat.ne_of_gt (Nat.lt_trans (ce3 (by assumption)) (by assumption)) | exact Nat.ne_of_lt (Nat.lt_trans (ce3 (by assumption)) (by assumption)) | fail "ne")
  k_with "eval ListComp" => refine stop ?_
  k_with "compareOp In str ref" => (k_here; k_dflt (refine' in_list_strs ?l_w ?i_w ?_; (case i_w => assumption); (case l_w => exact News.isList (by k_asm) (by k_mem))))
  k_with "compareOp NotIn str ref" => (k_here; k_dflt (refine' notin_list_strs ?l_w ?i_w ?_; (case i_w => assumption); (case l_w => exact News.isList (by k_asm) (by k_mem))))
  revert X
  k_fill
  intro X
  refine wpAny_call ?_
  k_dflt cell_enter
  k_steps
  refine Stop.go ?_
  rename News _ _ _ _ => N1
  rename Fr _ _ _ _ => F1
  k_dflt (refine ListComp_st (items := R) (LabRef news) (fun _ => true) (fun q y => ∃ t, y = .str q.1 t) rfl (by rw [sizeLine_eq]; omega) (by rfl) (by decide) (by rfl) (by decide) (by rfl) ?_)
  refine mono_stop ?_
  k_steps
  refine Stop.go ?_
  refine ⟨_, _, rfl, News.isList N1 (by k_mem), by rw [List.size_toArray, hR.length], fun i v hv => hR.get (by simpa using hv), ?_, ?_, ?_⟩
  · intro C q v s₃ m₃ E' hq hy hk3 hC hn hx1
    exact wpAny_tests_nil ⟨rfl, _, _, rfl, fun _ _ e => e⟩
  · refine lab_turns F1 N1 (fun p hp => .tail _ (.tail _ (.tail _ hp))) fun C z b y ty ny s₃ m₃ E' oC hq hoC F3 N4 hx1 => ?_
    (try dsimp only at hx1)
    refine mono_stop ?_
    k_steps
    exact Stop.go ⟨⟨_, rfl⟩, _, _, rfl, fun _ _ e => e⟩
  · intro D h tk ys hk3 hD hys hDs
    obtain ⟨F5, N5, l5⟩ := pt_after F1 N1 hk3 hD hDs
    have hst : StrsAre ys (R.map (·.1)) := by
      have h9 := strs_of hys
      rw [filter_tt] at h9
      exact h9
    k_steps
    · clear hD hk3 hys N1 F1
      refine Stop.go ?_
      rename News _ _ _ _ => N1
      rename Fr _ _ _ _ => F1
      k_dflt (refine ListComp_st (items := R) (LabRef news) (fun q => q.2) (fun q y => ∃ t, y = .str q.1 t) rfl (by rw [sizeLine_eq]; omega) (by rfl) (by decide) (by rfl) (by decide) (by rfl) ?_)
      refine mono_stop ?_
      k_steps
      refine Stop.go ?_
      refine ⟨_, _, rfl, News.isList N1 (by k_mem), by rw [List.size_toArray, hR.length], fun i v hv => hR.get (by simpa using hv), ?_, ?_, ?_⟩
      · refine lab_turns F1 N1 (fun p hp => .tail _ (.tail _ (.tail _ (.tail _ hp)))) fun C z b y ty ny s₃ m₃ E' oC hq hoC F3 N4 hx1 => ?_
        (try dsimp only at hx1)
        refine wpAny_tests_one ?_
        refine mono_stop ?_
        k_steps
        exact Stop.go ⟨rfl, _, _, rfl, fun _ _ e => e⟩
      · refine lab_turns F1 N1 (fun p hp => .tail _ (.tail _ (.tail _ (.tail _ hp)))) fun C z b y ty ny s₃ m₃ E' oC hq hoC F3 N4 hx1 => ?_
        (try dsimp only at hx1)
        refine mono_stop ?_
        k_steps
        exact Stop.go ⟨⟨_, rfl⟩, _, _, rfl, fun _ _ e => e⟩
      · intro D h tk ys hk3 hD hys hDs
        obtain ⟨F5, N5, l5⟩ := pt_after F1 N1 hk3 hD hDs
        have hst2 : StrsAre ys (((R.filter (·.2))).map (·.1)) := strs_of hys
        clear hst
        k_steps
        · have hz2 : (((R.filter (·.2)).map (·.1)).any (· == x)) = true := by assumption
          rename News h₀ L _ _ => kN
          exact hret none 0 _ _ (by rw [← any_filter, hz2]; rfl) (by assumption) (fun p hp => kN p (.tail _ (.tail _ hp)))
        · have hz2 : (((R.filter (·.2)).map (·.1)).any (· == x)) = false := by assumption
          rename News h₀ L _ _ => kN
          exact hret (some _) _ _ _ (by rw [← any_filter, hz2]; rfl) (by assumption) (fun p hp => kN p (.tail _ (.tail _ hp)))
    · have hz : ((R.map (·.1)).any (· == x)) = false := by assumption
      rename News h₀ L _ _ => kN
      exact hret (some _) _ _ _ (by rw [any_names hz]; rfl) (by assumption) (fun p hp => kN p (.tail _ hp))
end
end
end PartJM

section PartJH
open PySem PySem.W PyProof.Rows PySem.Calls
section
variable {w : World} {loose : List Str} {mean : ExcName → Option Value} {mg mb : Str → Option Value} {dp un : Nat} {gd : Option (List Code)} {cn : Str} {cs : Scope} {a : Addr} {ccd : Value} {cl : List (Str × Addr)} {outer : List Env} {A₀ : Around} {base h₀ : Heap} {L : Addr} {m : Str → Option Value} {s : Shared} {Q E : Value → Shared → Prop} {news : List (Addr × Obj)}
/-- rows of a name and a bool, as tuples on the ledger -/
inductive RowB (led : List (Addr × Obj)) : List Value → List (Str × Bool) → Prop
  | nil : RowB led [] []
  | cons {q : Addr} {x : Str} {t : Tok} {b : Bool} {n : Nat} {vs : List Value} {R : List (Str × Bool)} : (q, ({ cls := .type "tuple", data := .seq #[.str x t, .bool b] n } : Obj)) ∈ led → RowB led vs R → RowB led (.ref q :: vs) ((x, b) :: R)
noncomputable abbrev rowD (q : Str × Bool) : PyData := .tuple [.str q.1, .bool q.2]
theorem reads_pair {h : Heap} {q : Addr} {x : Str} {t : Tok} {b : Bool} {n : Nat} (e : h.get? q = some { cls := .type "tuple", data := .seq #[.str x t, .bool b] n }) : Reads h (.ref q) (rowD (x, b)) [] :=
  Reads.tuple e rfl rfl (ReadsAll.cons (Reads.str x t) (ReadsAll.cons (Reads.bool b) ReadsAll.nil))
theorem reads_rows {h₀ h : Heap} {L : Addr} {led : List (Addr × Obj)} (N : News h₀ L h led) {vs : List Value} {R : List (Str × Bool)} (hr : RowB led vs R) : ReadsAll h vs (R.map rowD) [] := by
  induction hr with
  | nil => exact .nil
  | cons hm _ ih => exact ReadsAll.cons (reads_pair (N _ hm).1) ih
theorem rows_canLay {R : List (Str × Bool)} (h : ∀ q ∈ R, PyData.strOk q.1 = true) : PyData.canLayAll0 (R.map rowD) = true := by
  induction R with
  | nil => simp [PyData.canLayAll0]
  | cons q r ih =>
    simp only [List.map_cons, PyData.canLayAll0, ih (fun y hy => h y (.tail _ hy)), rowD, PyData.canLay0, h q (.head _), Bool.and_self]
theorem rows_any {R : List (Str × Bool)} {x : Str} : ((R.map rowD).any fun y => PyData.eqv y (rowD (x, true))) = R.any fun q => q.1 == x && q.2 := by
  induction R with
  | nil => rfl
  | cons q r ih =>
    rw [List.map_cons, List.any_cons, List.any_cons, ih]
    congr 1
    simp [rowD, PyData.eqv, PyData.eqvAll]
section
variable {prog : Program} {A : Around}
theorem in_rows {l tu : Addr} {vs : List Value} {R : List (Str × Bool)} {n n2 : Nat} {x : Str} {t : Tok} (N : News h₀ L s.heap news) (hl : (l, listOf vs.toArray n) ∈ news) (htu : (tu, ({ cls := .type "tuple", data := .seq #[.str x t, .bool true] n2 } : Obj)) ∈ news)
    (hr : RowB news vs R) (ho : ∀ q ∈ R, PyData.strOk q.1 = true) (hx : PyData.strOk x = true) (hu : A.units + 10 < cLine) (h : Q (.bool (R.any fun q => q.1 == x && q.2)) s) :
    wpAny (model prog w) A (compareOp .In (.ref tu) (.ref l)) Q E s := by
  refine PySem.SeqAt.in_list_reads (xs := R.map rowD) (d := rowD (x, true)) (as := [l]) (bs := []) (Reads.list (N _ hl).1 rfl rfl (by simpa using reads_rows N hr)) (reads_pair (N _ htu).1) (rows_canLay ho) (by simp [rowD, PyData.canLay0, PyData.canLayAll0, hx]) ?_ (by rw [rows_any]; exact h)
  have : PyData.depth (rowD (x, true)) ≤ 2 := by simp [rowD, PyData.depth, PyData.depthAll]
  have h2 := Nat.min_le_right (PyData.depthAll (R.map rowD)) (PyData.depth (rowD (x, true)))
  omega
theorem is_none_optV {r : Option Str} {t : Tok} {M : Model} (h : Q (.bool r.isNone) s) : wpAny M A (compareOp .Is (optV t r) .none) Q E s := by
  cases r with
  | none => exact wpAny_is_self rfl h
  | some x => exact is_str_none h
end
theorem lf_use {o dx lb : Addr} {h1 h2 h3 : Int} {a1 a2 a3 b2 b3 : Tok} {lo sw : Int} {n3 n4 : Nat} {refs : List Value} {R : List (Str × Bool)} {x : Str} {t0 : Tok}
    (B : Below A₀ base outer h₀) (F : Fr h₀ L s.heap m) (X : (hd.heap_39 w.params).In h₀) (N : News h₀ L s.heap news)
    (T : Top hd.view_39 loose mean mg mb h₀) (hk : cs.kind = .function) (hdp : dp + 4 < recursionLimit) (hun : un + 100 < cLine)
    (ho : (o, instObj 112 dx) ∈ news) (hdx : (dx, dictOf [⟨h1, .str "labels" a1, .ref lb⟩, ⟨h2, .str "loops" a2, .int lo b2⟩, ⟨h3, .str "switches" a3, .int sw b3⟩] n3) ∈ news) (hlb : (lb, listOf refs.toArray n4) ∈ news)
    (hR : LabAre news refs R) (hlen : R.length ≤ 63) (hx : x.length ≤ 100)
    (hret : ∀ (r : Option Str) (t : Tok) (h' : Heap) (tk' : Nat), r.isNone = !(R.map (·.1)).any (· == x) → Fr h₀ L h' m → News h₀ L h' news → Q (optV t r) { s with heap := h', toks := tk' }) :
    wpAny (model PySem.Challenge.rw_pc0067_01.row.prog w) (ktrTop dp un gd cn cs L a ccd cl outer) (call (.ref 99) [.ref o, .str x t0]) Q E s := by
  refine lf_ok (news := news) (dx := dx) (lb := lb) (h1 := h1) (h2 := h2) (h3 := h3) (a1 := a1) (a2 := a2) (a3 := a3) (b2 := b2) (b3 := b3) (lo := lo) (sw := sw) (n3 := n3) (n4 := n4) B F X (fun p hp => ?_) T hk hdp hun hR hlen hx fun r t h' tk' hr F' N' => hret r t h' tk' hr F' fun p hp => N' p (.tail _ (.tail _ (.tail _ hp)))
  rcases List.mem_cons.mp hp with rfl | hp
  · exact N _ ho
  rcases List.mem_cons.mp hp with rfl | hp
  · exact N _ hdx
  rcases List.mem_cons.mp hp with rfl | hp
  · exact N _ hlb
  · exact N p hp
theorem brk_use {o dx lb : Addr} {h1 h2 h3 : Int} {a1 a2 a3 b2 b3 : Tok} {lo sw : Int} {n3 n4 : Nat} {refs : List Value} {R : List (Str × Bool)} {x : Str} {t0 : Tok}
    (B : Below A₀ base outer h₀) (F : Fr h₀ L s.heap m) (X : (hd.heap_39 w.params).In h₀) (N : News h₀ L s.heap news)
    (T : Top hd.view_39 loose mean mg mb h₀) (hk : cs.kind = .function) (hdp : dp + 4 < recursionLimit) (hun : un + 100 < cLine)
    (ho : (o, instObj 112 dx) ∈ news) (hdx : (dx, dictOf [⟨h1, .str "labels" a1, .ref lb⟩, ⟨h2, .str "loops" a2, .int lo b2⟩, ⟨h3, .str "switches" a3, .int sw b3⟩] n3) ∈ news) (hlb : (lb, listOf refs.toArray n4) ∈ news)
    (hR : LabAre news refs R) (hlen : R.length ≤ 63) (hx : x.length ≤ 100)
    (hret : ∀ (r : Option Str) (t : Tok) (h' : Heap) (tk' : Nat), r.isNone = (R.map (·.1)).any (· == x) → Fr h₀ L h' m → News h₀ L h' news → Q (optV t r) { s with heap := h', toks := tk' }) :
    wpAny (model PySem.Challenge.rw_pc0067_01.row.prog w) (ktrTop dp un gd cn cs L a ccd cl outer) (call (.ref 104) [.ref o, .str x t0]) Q E s := by
  refine brk_ok (news := news) (dx := dx) (lb := lb) (h1 := h1) (h2 := h2) (h3 := h3) (a1 := a1) (a2 := a2) (a3 := a3) (b2 := b2) (b3 := b3) (lo := lo) (sw := sw) (n3 := n3) (n4 := n4) B F X (fun p hp => ?_) T hk hdp hun hR hlen hx fun r t h' tk' hr F' N' => hret r t h' tk' hr F' fun p hp => N' p (.tail _ (.tail _ (.tail _ hp)))
  rcases List.mem_cons.mp hp with rfl | hp
  · exact N _ ho
  rcases List.mem_cons.mp hp with rfl | hp
  · exact N _ hdx
  rcases List.mem_cons.mp hp with rfl | hp
  · exact N _ hlb
  · exact N p hp
theorem cnt_use {o dx lb : Addr} {h1 h2 h3 : Int} {a1 a2 a3 b2 b3 : Tok} {lo sw : Int} {n3 n4 : Nat} {refs : List Value} {R : List (Str × Bool)} {x : Str} {t0 : Tok}
    (B : Below A₀ base outer h₀) (F : Fr h₀ L s.heap m) (X : (hd.heap_39 w.params).In h₀) (N : News h₀ L s.heap news)
    (T : Top hd.view_39 loose mean mg mb h₀) (hk : cs.kind = .function) (hdp : dp + 4 < recursionLimit) (hun : un + 100 < cLine)
    (ho : (o, instObj 112 dx) ∈ news) (hdx : (dx, dictOf [⟨h1, .str "labels" a1, .ref lb⟩, ⟨h2, .str "loops" a2, .int lo b2⟩, ⟨h3, .str "switches" a3, .int sw b3⟩] n3) ∈ news) (hlb : (lb, listOf refs.toArray n4) ∈ news)
    (hR : LabAre news refs R) (hlen : R.length ≤ 63) (hx : x.length ≤ 100)
    (hret : ∀ (r : Option Str) (t : Tok) (h' : Heap) (tk' : Nat), r.isNone = (R.any fun q => q.1 == x && q.2) → Fr h₀ L h' m → News h₀ L h' news → Q (optV t r) { s with heap := h', toks := tk' }) :
    wpAny (model PySem.Challenge.rw_pc0067_01.row.prog w) (ktrTop dp un gd cn cs L a ccd cl outer) (call (.ref 109) [.ref o, .str x t0]) Q E s := by
  refine cnt_ok (news := news) (dx := dx) (lb := lb) (h1 := h1) (h2 := h2) (h3 := h3) (a1 := a1) (a2 := a2) (a3 := a3) (b2 := b2) (b3 := b3) (lo := lo) (sw := sw) (n3 := n3) (n4 := n4) B F X (fun p hp => ?_) T hk hdp hun hR hlen hx fun r t h' tk' hr F' N' => hret r t h' tk' hr F' fun p hp => N' p (.tail _ (.tail _ (.tail _ hp)))
  rcases List.mem_cons.mp hp with rfl | hp
  · exact N _ ho
  rcases List.mem_cons.mp hp with rfl | hp
  · exact N _ hdx
  rcases List.mem_cons.mp hp with rfl | hp
  · exact N _ hlb
  · exact N p hp
section
variable {prog : Program} {A : Around}
theorem ne_bools3 {l1 l2 : Addr} {a1 a2 a3 b1 b2 b3 : Bool} {n1 n2 : Nat} (h1 : s.heap.get? l1 = some (listOf #[.bool a1, .bool a2, .bool a3] n1)) (h2 : s.heap.get? l2 = some (listOf #[.bool b1, .bool b2, .bool b3] n2)) (hu : A.units + 64 < cLine)
    (h : Q (.bool (!(a1 == b1 && (a2 == b2 && a3 == b3)))) s) : wpAny (model prog w) A (compareOp .NotEq (.ref l1) (.ref l2)) Q E s :=
  ne_dataH_same (da := .list [.bool a1, .bool a2, .bool a3]) (db := .list [.bool b1, .bool b2, .bool b3]) (Reads.list h1 rfl rfl (.cons (.bool a1) (.cons (.bool a2) (.cons (.bool a3) .nil)))) (Reads.list h2 rfl rfl (.cons (.bool b1) (.cons (.bool b2) (.cons (.bool b3) .nil)))) (by simp [SeqAt.shaped, PyData.canLay0, PyData.canLayAll0, PyData.depth, PyData.depthAll]) (by simp [SeqAt.shaped, PyData.canLay0, PyData.canLayAll0, PyData.depth, PyData.depthAll]) hu (by simp [SeqAt.noMix, SeqAt.noMixAll]) (by simpa [PySem.Spec.same, PySem.Spec.sameAll] using h)
theorem eq_bools2 {l1 l2 : Addr} {a1 a2 b1 b2 : Bool} {n1 n2 : Nat} (h1 : s.heap.get? l1 = some (listOf #[.bool a1, .bool a2] n1)) (h2 : s.heap.get? l2 = some (listOf #[.bool b1, .bool b2] n2)) (hu : A.units + 64 < cLine)
    (h : Q (.bool (a1 == b1 && a2 == b2)) s) : wpAny (model prog w) A (compareOp .Eq (.ref l1) (.ref l2)) Q E s :=
  eq_dataH_same (da := .list [.bool a1, .bool a2]) (db := .list [.bool b1, .bool b2]) (Reads.list h1 rfl rfl (.cons (.bool a1) (.cons (.bool a2) .nil))) (Reads.list h2 rfl rfl (.cons (.bool b1) (.cons (.bool b2) .nil))) (by simp [SeqAt.shaped, PyData.canLay0, PyData.canLayAll0, PyData.depth, PyData.depthAll]) (by simp [SeqAt.shaped, PyData.canLay0, PyData.canLayAll0, PyData.depth, PyData.depthAll]) hu (by simp [SeqAt.noMix, SeqAt.noMixAll]) (by simpa [PySem.Spec.same, PySem.Spec.sameAll] using h)
end
theorem b_pq : ((("p" : Str)) == ("q" : Str)) = false := by decide
theorem b_pr : ((("p" : Str)) == ("r" : Str)) = false := by decide
theorem b_ps : ((("p" : Str)) == ("s" : Str)) = false := by decide
theorem b_qp : ((("q" : Str)) == ("p" : Str)) = false := by decide
theorem b_qr : ((("q" : Str)) == ("r" : Str)) = false := by decide
theorem b_qs : ((("q" : Str)) == ("s" : Str)) = false := by decide
theorem b_rp : ((("r" : Str)) == ("p" : Str)) = false := by decide
theorem b_rq : ((("r" : Str)) == ("q" : Str)) = false := by decide
theorem b_rs : ((("r" : Str)) == ("s" : Str)) = false := by decide
theorem b_sp : ((("s" : Str)) == ("p" : Str)) = false := by decide
theorem b_sq : ((("s" : Str)) == ("q" : Str)) = false := by decide
theorem b_sr : ((("s" : Str)) == ("r" : Str)) = false := by decide
section
variable {M : Model} {A : Around}
theorem is_none_c {r : Option Str} {c : Bool} {t : Tok} (hr : r.isNone = c) (h : Q (.bool c) s) : wpAny M A (compareOp .Is (optV t r) .none) Q E s := by
  subst hr
  exact is_none_optV h
theorem isnot_none_c {r : Option Str} {c : Bool} {t : Tok} (hr : r.isNone = c) (h : Q (.bool (!c)) s) : wpAny M A (compareOp .IsNot (optV t r) .none) Q E s := by
  subst hr
  cases r with
  | none => exact wpAny_isNot_self rfl h
  | some x => exact isnot_str_none h
end
end
end PartJH

section PartGR
open PySem PySem.W PyProof.Rows PySem.Calls
section
variable {w : World} {loose : List Str} {mean : ExcName → Option Value} {mg mb : Str → Option Value} {dp un : Nat} {gd : Option (List Code)} {cn : Str} {cs : Scope} {a : Addr} {ccd : Value} {cl : List (Str × Addr)} {outer : List Env} {A₀ : Around} {base h₀ : Heap} {L : Addr} {m : Str → Option Value} {s : Shared} {Q E : Value → Shared → Prop} {news : List (Addr × Obj)}
theorem off3_grow {I C D T : Addr} {oT : Obj} {l l' tail : List (Addr × Obj)} (h : LCg.Off3 I C D (l ++ tail)) (e : l'.map (·.1) = l.map (·.1)) (hT : (@Ne Nat T I) ∧ (@Ne Nat T C) ∧ (@Ne Nat T D)) : LCg.Off3 I C D (l' ++ (T, oT) :: tail) := by
  have hm := h.mem
  refine LCg.Off3.of fun p hp => ?_
  rcases List.mem_append.mp hp with hp | hp
  · have : p.1 ∈ l'.map (·.1) := List.mem_map.mpr ⟨p, hp, rfl⟩
    rw [e] at this
    obtain ⟨q, hq, eq⟩ := List.mem_map.mp this
    rw [← eq]
    exact hm q (List.mem_append.mpr (.inl hq))
  · rcases List.mem_cons.mp hp with rfl | hp
    · exact hT
    · exact hm p (List.mem_append.mpr (.inr hp))
theorem sub_grow {α : Type} {t i c d : α} {l tail : List α} : ∀ p ∈ i :: c :: d :: (l ++ t :: tail), p ∈ t :: i :: c :: d :: (l ++ tail) := by
  intro p hp
  simp only [List.mem_cons, List.mem_append] at hp ⊢
  rcases hp with h | h | h | h | h | h
  · exact .inr (.inl h)
  · exact .inr (.inr (.inl h))
  · exact .inr (.inr (.inr (.inl h)))
  · exact .inr (.inr (.inr (.inr (.inl h))))
  · exact .inl h
  · exact .inr (.inr (.inr (.inr (.inr h))))
/-- one more object behind what the ledger holds -/
theorem off3_new {I C D T : Addr} {oT : Obj} {l nx : List (Addr × Obj)} (h : LCg.Off3 I C D (l ++ nx)) (hT : (@Ne Nat T I) ∧ (@Ne Nat T C) ∧ (@Ne Nat T D)) : LCg.Off3 I C D (l ++ (T, oT) :: nx) := off3_grow h rfl hT
theorem updF_map {d : Addr} {o o₁ o₂ : Obj} {l : List (Addr × Obj)} {g : Obj → List (Addr × Obj)} (U : UpdF d o l g) : (g o₁).map (·.1) = (g o₂).map (·.1) := by
  obtain ⟨pre, post, a, b, _, _⟩ := U.split
  rw [b, b]
  simp
theorem LabAre.sub {a b : List (Addr × Obj)} (h : ∀ p ∈ a, p ∈ b) {vs : List Value} {R : List (Str × Bool)} (r : LabAre a vs R) : LabAre b vs R := by
  induction r with
  | nil => exact .nil
  | cons hm _ ih => exact .cons (h _ hm) ih
theorem RowB.sub {a b : List (Addr × Obj)} (h : ∀ p ∈ a, p ∈ b) {vs : List Value} {R : List (Str × Bool)} (r : RowB a vs R) : RowB b vs R := by
  induction r with
  | nil => exact .nil
  | cons hm _ ih => exact .cons (h _ hm) ih
theorem LabAre.up {a b : List (Addr × Obj)} {vs : List Value} {R : List (Str × Bool)} (r : LabAre a vs R) (h : ∀ p ∈ a, p ∈ b) : LabAre b vs R := r.sub h
theorem RowB.up {a b : List (Addr × Obj)} {vs : List Value} {R : List (Str × Bool)} (r : RowB a vs R) (h : ∀ p ∈ a, p ∈ b) : RowB b vs R := r.sub h
theorem LabAre.snoc {a : List (Addr × Obj)} {vs : List Value} {R : List (Str × Bool)} (r : LabAre a vs R) {q : Addr} {x : Str} {t : Tok} {b : Bool} {n : Nat} (h : (q, listOf #[.str x t, .bool b] n) ∈ a) : LabAre a (vs ++ [.ref q]) (R ++ [(x, b)]) := by
  induction r with
  | nil => exact .cons h .nil
  | cons hm _ ih => exact .cons hm ih
theorem RowB.snoc {a : List (Addr × Obj)} {vs : List Value} {R : List (Str × Bool)} (r : RowB a vs R) {q : Addr} {x : Str} {t : Tok} {b : Bool} {n : Nat} (h : (q, ({ cls := .type "tuple", data := .seq #[.str x t, .bool b] n } : Obj)) ∈ a) : RowB a (vs ++ [.ref q]) (R ++ [(x, b)]) := by
  induction r with
  | nil => exact .cons h .nil
  | cons hm _ ih => exact .cons hm ih
theorem RowB.length {a : List (Addr × Obj)} {vs : List Value} {R : List (Str × Bool)} (r : RowB a vs R) : vs.length = R.length := by
  induction r with
  | nil => rfl
  | cons _ _ ih => simp [ih]
theorem RowB.get {a : List (Addr × Obj)} {vs : List Value} {R : List (Str × Bool)} (r : RowB a vs R) : ∀ {i : Nat} {v : Value}, vs[i]? = some v → ∃ q z t n, R[i]? = some q ∧ v = .ref z ∧ (z, ({ cls := .type "tuple", data := .seq #[.str q.1 t, .bool q.2] n } : Obj)) ∈ a := by
  induction r with
  | nil => intro i v e; simp at e
  | @cons z x t b n vs R hm _ ih =>
    intro i v e
    cases i with
    | zero => simp at e; subst e; exact ⟨(x, b), z, t, n, rfl, rfl, hm⟩
    | succ i => simpa using ih (by simpa using e)
theorem take_get {α : Type} {R : List α} {i : Nat} {q : α} (h : R[i]? = some q) : R.take (i + 1) = R.take i ++ [q] := by rw [List.take_add_one, h]; rfl
theorem off_lt3 {I C D T : Addr} {oI oC oD : Obj} {nw : List (Addr × Obj)} (h : I < T ∧ C < T ∧ D < T ∧ AllLt T nw) : ∀ p ∈ (I, oI) :: (C, oC) :: (D, oD) :: nw, (@Ne Nat p.1 T) := by
  intro p hp
  rcases List.mem_cons.mp hp with rfl | hp
  · exact Nat.ne_of_lt h.1
  rcases List.mem_cons.mp hp with rfl | hp
  · exact Nat.ne_of_lt h.2.1
  rcases List.mem_cons.mp hp with rfl | hp
  · exact Nat.ne_of_lt h.2.2.1
  · exact Nat.ne_of_lt (ktn_ltOf h.2.2.2 p hp)
theorem off_lt4 {z I C D T : Addr} {oI oC oD : Obj} {nw : List (Addr × Obj)} (h : z < T ∧ I < T ∧ C < T ∧ D < T ∧ AllLt T nw) : ∀ p ∈ (I, oI) :: (C, oC) :: (D, oD) :: nw, (@Ne Nat p.1 T) := off_lt3 h.2
theorem News.drop2 {h₀ h : Heap} {L : Addr} {a b : Addr × Obj} {r : List (Addr × Obj)} (N : News h₀ L h (a :: b :: r)) : News h₀ L h (a :: r) := fun p hp => by
  rcases List.mem_cons.mp hp with rfl | hp
  · exact N _ (.head _)
  · exact N _ (.tail _ (.tail _ hp))
theorem tail_off {tail lit : List (Addr × Obj)} {d : Addr} {o : Obj} (h : ∀ q ∈ tail, ∀ q' ∈ lit, (@Ne Nat q'.1 q.1)) (hm : (d, o) ∈ lit) : ∀ p ∈ tail, p.1 ≠ d := fun q hq => Ne.symm (h q hq _ hm)
theorem app_off {a b : List (Addr × Obj)} {d : Addr} (h : ∀ p ∈ a, p.1 ≠ d) (h2 : ∀ p ∈ b, p.1 ≠ d) : ∀ p ∈ a ++ b, p.1 ≠ d := fun q hq => (List.mem_append.mp hq).elim (h q) (h2 q)
theorem pqr_ok : ∀ x ∈ (["p", "q", "r"] : List Str), PyData.strOk x = true := by decide +kernel
noncomputable def pqr : List Str := ["p", "q", "r"]
section
variable {prog : Program} {A : Around} {env : Env} {elt : Expr} {x x₂ : Str} {scope : Scope} {s₁ : Shared} {Fin : Shared → List Value → List (Addr × Obj) → Prop}
inductive RowsJ (l : Addr) (k c : Int) (t2 : Tok) (n1 : Nat) (g : Obj → List (Addr × Obj)) (news : List (Addr × Obj)) (i : Nat) (ys : List Value) : List (Addr × Obj) → Prop
  | mk (tail : List (Addr × Obj)) (t' : Tok) (R : List (Str × Bool)) (hR : RowB tail ys R) (hpq : R.map (·.1) = pqr.take i) (htl : ∀ q ∈ tail, ∀ q' ∈ news, (@Ne Nat q'.1 q.1)) : RowsJ l k c t2 n1 g news i ys (g (penObj l k t' c t2 n1) ++ tail)
theorem rows_snoc {p l T : Addr} {k k' c : Int} {t1 t2 t'' tx : Tok} {n1 n i : Nat} {g : Obj → List (Addr × Obj)} {ys : List Value} {tail : List (Addr × Obj)} {R : List (Str × Bool)} {z : Str} {bb : Bool} (U : UpdF p (penObj l k t1 c t2 n1) news g) (hR : RowB tail ys R) (hpq : R.map (·.1) = pqr.take i)
    (htl : ∀ q ∈ tail, ∀ q' ∈ news, (@Ne Nat q'.1 q.1)) (hz : pqr[i]? = some z) (hTa : ∀ q ∈ g (penObj l k' t'' c t2 n1), (@Ne Nat q.1 T)) :
    RowsJ l k' c t2 n1 g news (i + 1) (ys ++ [.ref T]) (g (penObj l k' t'' c t2 n1) ++ (T, ({ cls := .type "tuple", data := .seq #[.str z tx, .bool bb] n } : Obj)) :: tail) := by
  refine .mk _ t'' (R ++ [(z, bb)]) (RowB.snoc (hR.sub fun p hp => .tail _ hp) (.head _)) (by rw [List.map_append, hpq, take_get hz]; rfl) fun q hq q' hq' => ?_
  rcases List.mem_cons.mp hq with rfl | hq
  · have h3 : q'.1 ∈ (g (penObj l k' t'' c t2 n1)).map (·.1) := by
      rw [updF_map (o₂ := penObj l k t1 c t2 n1) U, updF_self U]
      exact List.mem_map.mpr ⟨q', hq', rfl⟩
    obtain ⟨q2, hq2, e2⟩ := List.mem_map.mp h3
    exact e2 ▸ hTa q2 hq2
  · exact htl q hq q' hq'
theorem rows_src {p l r : Addr} {k b c : Int} {t1 t2 ta tb tc : Tok} {n1 : Nat} {g : Obj → List (Addr × Obj)}
    (hh : A.handled = none) (F : Fr h₀ L s₁.heap m) (N : News h₀ L s₁.heap news) (hr : IsRange s₁.heap r 0 b 1 ta tb tc) (hb0 : 0 ≤ b) (hb1 : b < 4) (U : UpdF p (penObj l k t1 c t2 n1) news g)
    (turn : ∀ (i : Nat) (j : Int) (k' : Int) tail ys t' tv I oI C oC D m₂ h tk gg (E' : Value → Shared → Prop), i < 3 → j = (i : Int) → k ≤ k' → k' ≤ k + 3 → LCg.NsObj oC m₂ → m₂ x = some (.int j tv) → Fr h₀ L h m → News h₀ L h ((I, oI) :: (C, oC) :: (D, LCg.lst ys) :: (g (penObj l k' t' c t2 n1) ++ tail)) → LCg.Off3 I C D (g (penObj l k' t' c t2 n1) ++ tail) → ((@Ne Nat I C) ∧ (@Ne Nat I D) ∧ (@Ne Nat C D)) → (∀ q ∈ tail, ∀ q' ∈ news, (@Ne Nat q'.1 q.1)) →
      (hend : ∀ h' tk' T tx t'' bb n z, pqr[i]? = some z → Fr h₀ L h' m → News h₀ L h' ((T, ({ cls := .type "tuple", data := .seq #[.str z tx, .bool bb] n } : Obj)) :: (I, oI) :: (C, oC) :: (D, LCg.lst ys) :: (g (penObj l (k' + 1) t'' c t2 n1) ++ tail)) → AllLt T ((I, oI) :: (C, oC) :: (D, LCg.lst ys) :: (g (penObj l (k' + 1) t'' c t2 n1) ++ tail)) →
        LCg.CompEnd h₀ L m { s₁ with heap := h, toks := tk } I oI C oC D (LCg.lst ys) (fun _ => True) (fun y news' => RowsJ l (k' + 1) c t2 n1 g news (i + 1) (ys ++ [y]) news') (.ref T) { s₁ with heap := h', toks := tk' }) →
      wpAny (model prog w) A (eval elt (compEnvC scope cl C env)) (LCg.CompEnd h₀ L m { s₁ with heap := h, toks := tk } I oI C oC D (LCg.lst ys) (fun _ => True) (fun y news' => RowsJ l (k' + 1) c t2 n1 g news (i + 1) (ys ++ [y]) news')) E' { ({ s₁ with heap := gg } : Shared) with heap := h, toks := tk })
    (fin : ∀ gg tail ys k' t' R, RowB tail ys R → R.length ≤ 3 → (∀ q ∈ R, q.1 ∈ pqr) → (∀ q ∈ tail, ∀ q' ∈ news, (@Ne Nat q'.1 q.1)) → k ≤ k' → k' ≤ k + 3 → Fin { s₁ with heap := gg } ys (g (penObj l k' t' c t2 n1) ++ tail)) :
    LCg.CompSrc prog w A h₀ L m env elt x scope cl Fin (.ref r) s₁ := by
  have hn : Builtin.Range.rangeSize 0 b 1 = ((b.toNat : Nat) : Int) := by
    rw [rangeSize_nat, Int.sub_zero]
  refine LCg.CompSrc.range (n := b.toNat) hh F N hr (small_one (by decide) (by decide) (Int.le_trans (by decide) hb0) (Int.lt_trans hb1 (by decide))) hn ?_ ?_
  · rw [sizeLine_eq]; exact Nat.le_trans (ar_nle (K := 4) (Int.le_of_lt hb1)) (by decide)
  intro gg
  refine rest_ind (n := b.toNat) (fun i ys nw => RowsJ l (k + i) c t2 n1 g news i ys nw) ?_ ?_ _ 0 [] news (Nat.zero_add _) ?_
  · rintro i ys nw v I oI C oC D m₂ h tk E' hi ⟨tail, t', R, hR, hpq, htl⟩ hv hC hx F N off ne
    obtain ⟨tv, rfl⟩ := hv
    rw [Int.zero_add] at hx
    have hi3 : (i : Int) < 3 := Int.lt_of_lt_of_le (ar_nlt hb0 hi) (Int.le_of_lt_add_one hb1)
    refine wpAny_mono (turn i (i : Int) (k + i) tail ys t' tv I oI C oC D m₂ h tk gg E' (ar_lt hi3) rfl (ar_ge (Int.natCast_nonneg i)) (ar_add (Int.le_of_lt hi3)) hC hx F N off ne htl fun h' tk' T tx t'' bb n z hz F' N' hlt => ?_)
      (fun y s₂ hq => cend_map hq fun nw hz => by rw [← ar_suc]; exact hz) fun _ _ e => e
    have hTa := fun p hp => Nat.ne_of_lt (ktn_ltOf hlt p hp)
    refine LCg.CompEnd.intro F' N' _ sub_grow (off3_grow off (updF_map U) ⟨Ne.symm (hTa (I, oI) (.head _)), Ne.symm (hTa (C, oC) (.tail _ (.head _))), Ne.symm (hTa (D, LCg.lst ys) (.tail _ (.tail _ (.head _))))⟩) trivial (rows_snoc U hR hpq htl hz fun q2 hq2 => hTa q2 (.tail _ (.tail _ (.tail _ (List.mem_append.mpr (.inl hq2))))))
  · rintro ys nw ⟨tail, t', R, hR, hpq, htl⟩
    rw [ar_nat hb0]
    refine fin gg tail ys (k + b) t' R hR ?_ ?_ htl (ar_ge hb0) (ar_add (Int.le_of_lt_add_one hb1))
    · have := congrArg List.length hpq
      rw [List.length_map, List.length_take] at this
      rw [this]
      exact Nat.min_le_right _ _
    · intro q hq
      have : q.1 ∈ R.map (·.1) := List.mem_map.mpr ⟨q, hq, rfl⟩
      rw [hpq] at this
      exact List.mem_of_mem_take this
  · have := RowsJ.mk (l := l) (k := k) (c := c) (t2 := t2) (n1 := n1) (g := g) (news := news) (i := 0) [] t1 [] .nil rfl (fun _ h => nomatch h)
    rw [updF_self U, List.append_nil] at this
    show RowsJ l (k + 0) c t2 n1 g news 0 [] news
    rwa [Int.add_zero]
section
variable {s : Shared} {S : List (Addr × Obj) → Prop} {P : Nat → Value → Prop} {Fin : List Value → List (Addr × Obj) → Prop}
theorem pair_map {v : Value} {nw : List (Addr × Obj)} {R R' : Value → Value → Prop} (h : ∃ (t : Addr) (ot : Obj) (v₁ v₂ : Value) (nt : Nat), v = .ref t ∧ (t, ot) ∈ nw ∧ ot.cls = .type "tuple" ∧ ot.data = .seq #[v₁, v₂] nt ∧ R v₁ v₂) (f : ∀ v₁ v₂, R v₁ v₂ → R' v₁ v₂) :
    ∃ (t : Addr) (ot : Obj) (v₁ v₂ : Value) (nt : Nat), v = .ref t ∧ (t, ot) ∈ nw ∧ ot.cls = .type "tuple" ∧ ot.data = .seq #[v₁, v₂] nt ∧ R' v₁ v₂ :=
  let ⟨t, ot, v₁, v₂, nt, e1, e2, e3, e4, r⟩ := h
  ⟨t, ot, v₁, v₂, nt, e1, e2, e3, e4, f _ _ r⟩
/-- a comprehension over pairs by an invariant over the turn's number, what it has gathered and the ledger -/
theorem rest_indP {n : Nat} (J : Nat → List Value → List (Addr × Obj) → Prop)
    (turn : ∀ i ys news v, i < n → J i ys news → P i v → ∃ (t : Addr) (ot : Obj) (v₁ v₂ : Value) (nt : Nat), v = .ref t ∧ (t, ot) ∈ news ∧ ot.cls = .type "tuple" ∧ ot.data = .seq #[v₁, v₂] nt ∧
      ∀ I oI C oC D m₂ h tk (E' : Value → Shared → Prop), LCg.NsObj oC m₂ → m₂ x = some v₁ → m₂ x₂ = some v₂ → Fr h₀ L h m → News h₀ L h ((I, oI) :: (C, oC) :: (D, LCg.lst ys) :: news) → LCg.Off3 I C D news → ((@Ne Nat I C) ∧ (@Ne Nat I D) ∧ (@Ne Nat C D)) →
      wpAny (model prog w) A (eval elt (compEnvC scope cl C env)) (LCg.CompEnd h₀ L m { s with heap := h, toks := tk } I oI C oC D (LCg.lst ys) S (fun y news' => J (i + 1) (ys ++ [y]) news')) E' { s with heap := h, toks := tk })
    (fin : ∀ ys news, J n ys news → Fin ys news) : ∀ (j i : Nat) (ys : List Value) (news : List (Addr × Obj)), i + j = n → J i ys news → LCp.CompRestP prog w A h₀ L m env elt x x₂ scope cl s S P Fin j i ys news := by
  intro j
  induction j with
  | zero =>
    intro i ys news hi hy
    obtain rfl : i = n := hi
    exact LCp.CompRestP.zero (fin ys news hy)
  | succ j ih =>
    intro i ys news hi hy
    refine LCp.CompRestP.succ ?_
    intro v hv
    exact pair_map (turn i ys news v (ar_r1 hi) hy hv) fun v₁ v₂ rest I oI C oC D m₂ h tk E' hC hx hx2 F N off ne =>
      wpAny_mono (rest I oI C oC D m₂ h tk E' hC hx hx2 F N off ne) (fun y s₂ hq => cend_map hq fun nw hJ => ih (i + 1) _ _ (ar_r2 hi) hJ) fun _ _ e => e
end
/-- a turn that makes a list of a name and a bool -/
inductive LabEnd (h₀ : Heap) (L : Addr) (m : Str → Option Value) (s : Shared) (q : Str × Bool) (nw : List (Addr × Obj)) : Value → Shared → Prop
  | mk (T : Addr) (n : Nat) (t : Tok) (h' : Heap) (tk' : Nat) (F' : Fr h₀ L h' m) (N' : News h₀ L h' ((T, listOf #[.str q.1 t, .bool q.2] n) :: nw)) (hT : ∀ p ∈ nw, (@Ne Nat p.1 T)) : LabEnd h₀ L m s q nw (.ref T) { s with heap := h', toks := tk' }
inductive LabJ (news : List (Addr × Obj)) (R : List (Str × Bool)) (i : Nat) (ys : List Value) : List (Addr × Obj) → Prop
  | mk (nx : List (Addr × Obj)) (hL : LabAre nx ys (R.take i)) (hnx : ∀ q ∈ nx, ∀ q' ∈ news, (@Ne Nat q'.1 q.1)) : LabJ news R i ys (news ++ nx)
theorem lab_end {s s₂ : Shared} {I C D ax : Addr} {oI oC oD : Obj} {its : List Value} {kk i : Nat} {R : List (Str × Bool)} {q : Str × Bool} {ys : List Value} {nx : List (Addr × Obj)} {y : Value} (hq : LabEnd h₀ L m s q ((I, oI) :: (C, oC) :: (D, oD) :: (news ++ nx)) y s₂) (off : LCg.Off3 I C D (news ++ nx)) (hm : (ax, listOf its.toArray kk) ∈ news) (hg : R[i]? = some q)
    (hL : LabAre nx ys (R.take i)) (hnx : ∀ q ∈ nx, ∀ q' ∈ news, (@Ne Nat q'.1 q.1)) : LCg.CompEnd h₀ L m s I oI C oC D oD (LCg.SrcAt h₀ ax its.toArray) (fun y news' => LabJ news R (i + 1) (ys ++ [y]) news') y s₂ := by
  induction hq
  rename_i T n' t' h' tk' F' N' hT
  refine LCg.CompEnd.intro F' N' _ sub_grow (off3_new off ⟨Ne.symm (hT _ (.head _)), Ne.symm (hT _ (.tail _ (.head _))), Ne.symm (hT _ (.tail _ (.tail _ (.head _))))⟩) (.inr ⟨_, List.mem_append.mpr (.inl hm), rfl, _, rfl⟩) (.mk _ ?_ ?_)
  · rw [take_get hg]
    exact LabAre.snoc (hL.sub fun p hp => .tail _ hp) (.head _)
  · intro q hq q' hq'
    rcases List.mem_cons.mp hq with rfl | hq
    · exact hT q' (.tail _ (.tail _ (.tail _ (List.mem_append.mpr (.inl hq')))))
    · exact hnx q hq q' hq'
inductive RowBAt (a : List (Addr × Obj)) (R : List (Str × Bool)) (i : Nat) : Value → Prop
  | mk (q : Str × Bool) (z : Addr) (t : Tok) (n : Nat) (hq : R[i]? = some q) (hz : (z, ({ cls := .type "tuple", data := .seq #[.str q.1 t, .bool q.2] n } : Obj)) ∈ a) : RowBAt a R i (.ref z)
theorem RowB.item {a : List (Addr × Obj)} {vs : List Value} {R : List (Str × Bool)} {i : Nat} {v : Value} (r : RowB a vs R) (h : vs.toArray[i]? = some v) : RowBAt a R i v := by
  obtain ⟨q, z, t, n, hq, rfl, hz⟩ := r.get (by simpa using h)
  exact ⟨q, z, t, n, hq, hz⟩
theorem labels_src {ax : Addr} {its : List Value} {kk : Nat} {R : List (Str × Bool)}
    (hh : A.handled = none) (F : Fr h₀ L s₁.heap m) (N : News h₀ L s₁.heap news) (hm : (ax, listOf its.toArray kk) ∈ news) (hR : RowB news its R) (hlen : R.length ≤ 63)
    (turn : ∀ (q : Str × Bool) t ys nw I oI C oC D m₂ h tk gg (E' : Value → Shared → Prop), LCg.NsObj oC m₂ → m₂ x = some (.str q.1 t) → m₂ x₂ = some (.bool q.2) → Fr h₀ L h m → News h₀ L h ((I, oI) :: (C, oC) :: (D, LCg.lst ys) :: nw) → LCg.Off3 I C D nw → ((@Ne Nat I C) ∧ (@Ne Nat I D) ∧ (@Ne Nat C D)) →
      wpAny (model prog w) A (eval elt (compEnvC scope cl C env)) (LabEnd h₀ L m { s₁ with heap := h, toks := tk } q ((I, oI) :: (C, oC) :: (D, LCg.lst ys) :: nw)) E' { ({ s₁ with heap := gg } : Shared) with heap := h, toks := tk })
    (fin : ∀ gg nx ys, LabAre nx ys R → (∀ q ∈ nx, ∀ q' ∈ news, (@Ne Nat q'.1 q.1)) → Fin { s₁ with heap := gg } ys (news ++ nx)) :
    LCp.SrcLP prog w A h₀ L m env elt x x₂ scope cl Fin (.ref ax) s₁ := by
  refine LCp.SrcLP.ledger hh F N hm ?_ ?_
  · rw [sizeLine_eq, List.size_toArray, hR.length]; exact Nat.le_trans hlen (by decide)
  intro gg
  refine rest_indP (n := its.toArray.size) (fun i ys nw => LabJ news R i ys nw) ?_ ?_ _ 0 [] news (Nat.zero_add _) (by have := LabJ.mk (news := news) (R := R) (i := 0) [] .nil (fun _ h => nomatch h); rwa [List.append_nil] at this)
  · rintro i ys nw v hi ⟨nx, hL, hnx⟩ hv
    replace hv := RowB.item hR hv
    obtain ⟨q, z, t, n, hg, hz⟩ := hv
    refine ⟨z, _, _, _, _, rfl, List.mem_append.mpr (.inl hz), rfl, rfl, ?_⟩
    intro I oI C oC D m₂ h tk E' hC hx hx2 F N off ne
    exact wpAny_mono (turn q t ys _ I oI C oC D m₂ h tk gg E' hC hx hx2 F N off ne) (fun y s₂ hq => lab_end hq off hm hg hL hnx) fun _ _ e => e
  · rintro ys nw ⟨nx, hL, hnx⟩
    refine fin gg nx ys ?_ hnx
    rwa [List.size_toArray, hR.length, List.take_length] at hL
theorem lists_src {ax : Addr} {its : List Value} {kk : Nat} {R : List (Str × Bool)}
    (hh : A.handled = none) (F : Fr h₀ L s₁.heap m) (N : News h₀ L s₁.heap news) (hm : (ax, listOf its.toArray kk) ∈ news) (hR : RowB news its R) (hlen : R.length ≤ 63)
    (turn : ∀ (q : Str × Bool) z t n ys nw I oI C oC D m₂ h tk gg (E' : Value → Shared → Prop), LCg.NsObj oC m₂ → m₂ x = some (.ref z) → Fr h₀ L h m → News h₀ L h ((z, ({ cls := .type "tuple", data := .seq #[.str q.1 t, .bool q.2] n } : Obj)) :: (I, oI) :: (C, oC) :: (D, LCg.lst ys) :: nw) → LCg.Off3 I C D nw → ((@Ne Nat I C) ∧ (@Ne Nat I D) ∧ (@Ne Nat C D)) →
      wpAny (model prog w) A (eval elt (compEnvC scope cl C env)) (LabEnd h₀ L m { s₁ with heap := h, toks := tk } q ((I, oI) :: (C, oC) :: (D, LCg.lst ys) :: nw)) E' { ({ s₁ with heap := gg } : Shared) with heap := h, toks := tk })
    (fin : ∀ gg nx ys, LabAre nx ys R → (∀ q ∈ nx, ∀ q' ∈ news, (@Ne Nat q'.1 q.1)) → Fin { s₁ with heap := gg } ys (news ++ nx)) :
    LCg.CompSrc prog w A h₀ L m env elt x scope cl Fin (.ref ax) s₁ := by
  refine LCg.CompSrc.ledger hh F N hm ?_ ?_
  · rw [sizeLine_eq, List.size_toArray, hR.length]; exact Nat.le_trans hlen (by decide)
  intro gg
  refine rest_ind (n := its.toArray.size) (fun i ys nw => LabJ news R i ys nw) ?_ ?_ _ 0 [] news (Nat.zero_add _) (by have := LabJ.mk (news := news) (R := R) (i := 0) [] .nil (fun _ h => nomatch h); rwa [List.append_nil] at this)
  · rintro i ys nw v I oI C oC D m₂ h tk E' hi ⟨nx, hL, hnx⟩ hv hC hx F N off ne
    replace hv := RowB.item hR hv
    obtain ⟨q, z, t, n, hg, hz⟩ := hv
    exact wpAny_mono (turn q z t n ys _ I oI C oC D m₂ h tk gg E' hC hx F (News.cons_old N (.tail _ (.tail _ (.tail _ (List.mem_append.mpr (.inl hz)))))) off ne) (fun y s₂ hq => lab_end hq off hm hg hL hnx) fun _ _ e => e
  · rintro ys nw ⟨nx, hL, hnx⟩
    refine fin gg nx ys ?_ hnx
    rwa [List.size_toArray, hR.length, List.take_length] at hL
theorem names_src {ax : Addr} {its : List Value} {kk : Nat} {R : List (Str × Bool)}
    (hh : A.handled = none) (F : Fr h₀ L s₁.heap m) (N : News h₀ L s₁.heap news) (hm : (ax, listOf its.toArray kk) ∈ news) (hR : RowB news its R) (hlen : R.length ≤ 63)
    (turn : ∀ (q : Str × Bool) t ys nw I oI C oC D m₂ h tk gg (E' : Value → Shared → Prop), LCg.NsObj oC m₂ → m₂ x = some (.str q.1 t) → m₂ x₂ = some (.bool q.2) → Fr h₀ L h m → News h₀ L h ((I, oI) :: (C, oC) :: (D, LCg.lst ys) :: nw) → LCg.Off3 I C D nw → ((@Ne Nat I C) ∧ (@Ne Nat I D) ∧ (@Ne Nat C D)) →
      wpAny (model prog w) A (eval elt (compEnvC scope cl C env)) (fun y s' => ∃ t h' tk', y = .str q.1 t ∧ s' = { s₁ with heap := h', toks := tk' } ∧ Fr h₀ L h' m ∧ News h₀ L h' ((I, oI) :: (C, oC) :: (D, LCg.lst ys) :: nw)) E' { ({ s₁ with heap := gg } : Shared) with heap := h, toks := tk })
    (fin : ∀ gg ys, StrsAre ys (R.map (·.1)) → Fin { s₁ with heap := gg } ys news) :
    LCp.SrcLP prog w A h₀ L m env elt x x₂ scope cl Fin (.ref ax) s₁ := by
  refine LCp.SrcLP.ledger hh F N hm ?_ ?_
  · rw [sizeLine_eq, List.size_toArray, hR.length]; exact Nat.le_trans hlen (by decide)
  intro gg
  refine rest_indP (n := its.toArray.size) (fun i ys nw => nw = news ∧ StrsAre ys ((R.take i).map (·.1))) ?_ ?_ _ 0 [] news (Nat.zero_add _) ⟨rfl, .nil⟩
  · rintro i ys nw v hi ⟨rfl, hL⟩ hv
    replace hv := RowB.item hR hv
    obtain ⟨q, z, t, n, hq, hz⟩ := hv
    refine ⟨z, _, _, _, _, rfl, hz, rfl, rfl, ?_⟩
    intro I oI C oC D m₂ h tk E' hC hx hx2 F N off ne
    refine wpAny_mono (turn q t ys _ I oI C oC D m₂ h tk gg E' hC hx hx2 F N off ne) (fun y s₂ hq => ?_) fun _ _ e => e
    obtain ⟨t', h', tk', rfl, rfl, F', N'⟩ := hq
    refine LCg.CompEnd.intro F' N' _ (fun _ h => h) off (.inr ⟨_, hm, rfl, _, rfl⟩) ⟨rfl, ?_⟩
    rw [take_get hq, List.map_append]
    exact strs_snoc hL _ _
  · rintro ys nw ⟨rfl, hL⟩
    refine fin gg ys ?_
    rwa [List.size_toArray, hR.length, List.take_length] at hL
end
noncomputable abbrev labD (q : Str × Bool) : PyData := .list [.str q.1, .bool q.2]
theorem reads_labs {h : Heap} {led : List (Addr × Obj)} (N : News h₀ L h led) {vs : List Value} {R : List (Str × Bool)} (hr : LabAre led vs R) : ∃ as, ReadsAll h vs (R.map labD) as := by
  induction hr with
  | nil => exact ⟨[], .nil⟩
  | cons hm _ ih =>
    obtain ⟨as, ih⟩ := ih
    exact ⟨_, ReadsAll.cons (Reads.list (N _ hm).1 rfl rfl (ReadsAll.cons (Reads.str _ _) (ReadsAll.cons (Reads.bool _) ReadsAll.nil))) ih⟩
theorem labs_canLay : ∀ {R : List (Str × Bool)}, (∀ q ∈ R, PyData.strOk q.1 = true) → PyData.canLayAll0 (R.map labD) = true
  | [], _ => by simp [PyData.canLayAll0]
  | q :: r, h => by
    simp only [List.map_cons, PyData.canLayAll0, labs_canLay (R := r) (fun y hy => h y (.tail _ hy)), labD, PyData.canLay0, h q (.head _), Bool.and_self]
theorem labs_depth : ∀ R : List (Str × Bool), PyData.depthAll (R.map labD) ≤ 1
  | [] => by simp [PyData.depthAll]
  | q :: r => by
    have := labs_depth r
    simp [PyData.depthAll, PyData.depth] at this ⊢
    exact Nat.max_le.mpr ⟨Nat.le_refl _, this⟩
theorem labs_shaped {R : List (Str × Bool)} (h : ∀ q ∈ R, PyData.strOk q.1 = true) : SeqAt.shaped (.list (R.map labD)) = true := by
  have := labs_depth R
  simp [SeqAt.shaped, PyData.canLay0, PyData.depth, labs_canLay h]
  exact Nat.le_trans this (by decide)
theorem eq_labs {prog : Program} {A : Around} {l1 l2 : Addr} {vs us : List Value} {R : List (Str × Bool)} {n1 n2 : Nat} (N : News h₀ L s.heap news) (h1 : (l1, listOf vs.toArray n1) ∈ news) (h2 : (l2, listOf us.toArray n2) ∈ news)
    (ha : LabAre news vs R) (hb : LabAre news us R) (ok : ∀ q ∈ R, PyData.strOk q.1 = true) (hu : A.units + 64 < cLine) (h : Q (.bool true) s) : wpAny (model prog w) A (compareOp .Eq (.ref l1) (.ref l2)) Q E s := by
  obtain ⟨as, ra⟩ := reads_labs N ha
  obtain ⟨bs, rb⟩ := reads_labs N hb
  refine eq_dataH (da := .list (R.map labD)) (db := .list (R.map labD)) (Reads.list (N _ h1).1 rfl rfl (by simpa using ra)) (Reads.list (N _ h2).1 rfl rfl (by simpa using rb)) (labs_shaped ok) (labs_shaped ok) hu ?_
  rw [PySem.SeqAt.eqv_refl _ (SeqAt.canLay_of_shaped (labs_shaped ok))]
  exact h
end
end PartGR

local macro_rules | `(tactic| k_all) => `(tactic| first | assumption | exact tail_off (by assumption) (by k_mem) | (refine app_off ?_ ?_ <;> k_all))
section PartJN
open PySem PySem.W PyProof.Rows PySem.Calls
section
variable {w : World} {loose : List Str} {mean : ExcName → Option Value} {mg mb : Str → Option Value} {dp un : Nat} {gd : Option (List Code)} {cn : Str} {cs : Scope} {a : Addr} {ccd : Value} {cl : List (Str × Addr)} {outer : List Env} {A₀ : Around} {base h₀ : Heap} {L : Addr} {m : Str → Option Value} {s : Shared} {Q E : Value → Shared → Prop} {news : List (Addr × Obj)}
section
set_option maxRecDepth 100000 in
set_option maxHeartbeats 4000000 in
theorem brkN_ok {o dx lb : Addr} {h1 h2 h3 : Int} {a1 a2 a3 b2 b3 : Tok} {lo sw : Int} {n3 n4 : Nat} {refs : List Value}
    (B : Below A₀ base outer h₀) (F : Fr h₀ L s.heap m) (X : (hd.heap_39 w.params).In h₀) (N : News h₀ L s.heap (jLed o dx lb h1 h2 h3 a1 a2 a3 b2 b3 lo sw n3 n4 refs news))
    (T : Top hd.view_39 loose mean mg mb h₀) (hk : cs.kind = .function) (hdp : dp + 4 < recursionLimit) (hun : un + 100 < cLine)
    (hret : ∀ (r : Option Str) (t : Tok) (h' : Heap) (tk' : Nat), r.isNone = decide (0 < lo + sw) → Fr h₀ L h' m → News h₀ L h' (jLed o dx lb h1 h2 h3 a1 a2 a3 b2 b3 lo sw n3 n4 refs news) → Q (optV t r) { s with heap := h', toks := tk' }) :
    wpAny (model PySem.Challenge.rw_pc0067_01.row.prog w) (ktrTop dp un gd cn cs L a ccd cl outer) (call (.ref 104) [.ref o, .none]) Q E s := by
  k_with_none
  k_with "room" => (first | exact un1 (by assumption) (by decide) | exact un2 (by assumption) (by decide) | exact un3 (by assumption) (by decide) | exact un0 (by assumption) | exact Nat.le_of_ble_eq_true rfl | fail "room")
  k_with "ne" => (first | assumption | exact Ne.symm (by assumption) | exact Nat.ne_of_lt (by assumption) | exact Nat.ne_of_gt (by assumption) | exact (cj1 (by assumption)) | exact (cj2 (by assumption)) | exact (cj3 (by assumption)) | exact (cj4 (by assumption)) | exact (cj5 (by assumption)) | exact (cj6 (by assumption)) | exact (cj7 (by assumption)) | exact (cj8 (by assumption)) | exact (cj9 (by assumption)) | exact (cj10 (by assumption)) | exact (cj11 (by assumption)) | exact (cj12 (by assumption)) | exact (ce2 (by assumption)) | exact (ce3 (by assumption)) | exact (ce4 (by assumption)) | exact (ce5 (by assumption)) | exact (ce6 (by assumption)) | exact (ce7 (by assumption)) | exact (ce8 (by assumption)) | exact (ce9 (by assumption)) | exact (ce10 (by assumption)) | exact (ce11 (by assumption)) | exact (ce12 (by assumption)) | exact Ne.symm (cj1 (by assumption)) | exact Ne.symm (cj2 (by assumption)) | exact Ne.symm (cj3 (by assumption)) | exact Ne.symm (cj4 (by assumption)) | exact Ne.symm (cj5 (by assumption)) | exact Ne.symm (cj6 (by assumption)) | exact Ne.symm (cj7 (by assumption)) | exact Ne.symm (cj8 (by assumption)) | exact Ne.symm (cj9 (by assumption)) | exact Ne.symm (cj10 (by assumption)) | exact Ne.symm (cj11 (by assumption)) | exact Ne.symm (cj12 (by assumption)) | exact Ne.symm (ce2 (by assumption)) | exact Ne.symm (ce3 (by assumption)) | exact Ne.symm (ce4 (by assumption)) | exact Ne.symm (ce5 (by assumption)) | exact Ne.symm (ce6 (by assumption)) | exact Ne.symm (ce7 (by assumption)) | exact Ne.symm (ce8 (by assumption)) | exact Ne.symm (ce9 (by assumption)) | exact Ne.symm (ce10 (by assumption)) | exact Ne.symm (ce11 (by assumption)) | exact Ne.symm (ce12 (by assumption)) | exact Nat.ne_of_lt (cj1 (by assumption)) | exact Nat.ne_of_lt (cj2 (by assumption)) | exact Nat.ne_of_lt (cj3 (by assumption)) | exact Nat.ne_of_lt (cj4 (by assumption)) | exact Nat.ne_of_lt (cj5 (by assumption)) | exact Nat.ne_of_lt (cj6 (by assumption)) | exact Nat.ne_of_lt (cj7 (by assumption)) | exact Nat.ne_of_lt (cj8 (by assumption)) | exact Nat.ne_of_lt (cj9 (by assumption)) | exact Nat.ne_of_lt (cj10 (by assumption)) | exact Nat.ne_of_lt (cj11 (by assumption)) | exact Nat.ne_of_lt (cj12 (by assumption)) | exact Nat.ne_of_lt (ce2 (by assumption)) | exact Nat.ne_of_lt (ce3 (by assumption)) | exact Nat.ne_of_lt (ce4 (by assumption)) | exact Nat.ne_of_lt (ce5 (by assumption)) | exact Nat.ne_of_lt (ce6 (by assumption)) | exact Nat.ne_of_lt (ce7 (by assumption)) | exact Nat.ne_of_lt (ce8 (by assumption)) | exact Nat.ne_of_lt (ce9 (by assumption)) | exact Nat.ne_of_lt (ce10 (by assumption)) | exact Nat.ne_of_lt (ce11 (by assumption)) | exact Nat.ne_of_lt (ce12 (by assumption)) | exact Nat.ne_of_gt (cj1 (by assumption)) | exact Nat.ne_of_gt (cj2 (by assumption)) | exact Nat.ne_of_gt (cj3 (by assumption)) | exact Nat.ne_of_gt (cj4 (by assumption)) | exact Nat.ne_of_gt (cj5 (by assumption)) | exact Nat.ne_of_gt (cj6 (by assumption)) | exact Nat.ne_of_gt (cj7 (by assumption)) | exact Nat.ne_of_gt (cj8 (by assumption)) | exact Nat.ne_of_gt (cj9 (by assumption)) | exact Nat.ne_of_gt (cj10 (by assumption)) | exact Nat.ne_of_gt (cj11 (by assumption)) | exact Nat.ne_of_gt (cj12 (by assumption)) | exact Nat.ne_of_gt (ce2 (by assumption)) | exact Nat.ne_of_gt (ce3 (by assumption)) | exact Nat.ne_of_gt (ce4 (by assumption)) | exact Nat.ne_of_gt (ce5 (by assumption)) | exact Nat.ne_of_gt (ce6 (by assumption)) | exact Nat.ne_of_gt (ce7 (by assumption)) | exact Nat.ne_of_gt (ce8 (by assumption)) | exact Nat.ne_of_gt (ce9 (by assumption)) | exact Nat.ne_of_gt (ce10 (by assumption)) | exact Nat.ne_of_gt (ce11 (by assumption)) | exact Nat.ne_of_gt (ce12 (by assumption)) | exact cj1 (cj1 (by assumption)) | exact cj2 (cj1 (by assumption)) | exact ce3 (cj1 (by assumption)) | exact cj1 (cj2 (by assumption)) | exact cj2 (cj2 (by assumption)) | exact ce3 (cj2 (by assumption)) | exact cj1 (cj3 (by assumption)) | exact cj2 (cj3 (by assumption)) | exact ce3 (cj3 (by assumption)) | exact cj1 (cj4 (by assumption)) | exact cj2 (cj4 (by assumption)) | exact ce3 (cj4 (by assumption)) | exact cj1 (cj5 (by assumption)) | exact cj2 (cj5 (by assumption)) | exact ce3 (cj5 (by assumption)) | exact cj1 (cj6 (by assumption)) | exact cj2 (cj6 (by assumption)) | exact ce3 (cj6 (by assumption)) | exact cj1 (cj7 (by assumption)) | exact cj2 (cj7 (by assumption)) | exact ce3 (cj7 (by assumption)) | exact Ne.symm (cj1 (cj1 (by assumption))) | exact Ne.symm (cj2 (cj1 (by assumption))) | exact Ne.symm (ce3 (cj1 (by assumption))) | exact Ne.symm (cj1 (cj2 (by assumption))) | exact Ne.symm (cj2 (cj2 (by assumption))) | exact Ne.symm (ce3 (cj2 (by assumption))) | exact Ne.symm (cj1 (cj3 (by assumption))) | exact Ne.symm (cj2 (cj3 (by assumption))) | exact Ne.symm (ce3 (cj3 (by assumption))) | exact Ne.symm (cj1 (cj4 (by assumption))) | exact Ne.symm (cj2 (cj4 (by assumption))) | exact Ne.symm (ce3 (cj4 (by assumption))) | exact Ne.symm (cj1 (cj5 (by assumption))) | exact Ne.symm (cj2 (cj5 (by assumption))) | exact Ne.symm (ce3 (cj5 (by assumption))) | exact Ne.symm (cj1 (cj6 (by assumption))) | exact Ne.symm (cj2 (cj6 (by assumption))) | exact Ne.symm (ce3 (cj6 (by assumption))) | exact Ne.symm (cj1 (cj7 (by assumption))) | exact Ne.symm (cj2 (cj7 (by assumption))) | exact Ne.symm (ce3 (cj7 (by assumption))) | exact ls1 (cj1 (by assumption)) | exact Ne.symm (ls1 (cj1 (by assumption))) | exact ls1 (ce2 (by assumption)) | exact Ne.symm (ls1 (ce2 (by assumption))) | exact ls2 (cj1 (by assumption)) | exact Ne.symm (ls2 (cj1 (by assumption))) | exact ls2 (ce2 (by assumption)) | exact Ne.symm (ls2 (ce2 (by assumption))) | exact ls3 | exact Ne.symm ls3 | exact Nat.ne_of_gt (Nat.lt_trans (cj1 (by assumption)) (by assumption)) | exact Nat.ne_of_lt (Nat.lt_trans (cj1 (by assumption)) (by assumption)) | exact Nat.ne_of_gt (Nat.lt_trans (cj2 (by assumption)) (by assumption)) | exact Nat.ne_of_lt (Nat.lt_trans (cj2 (by assumption)) (by assumption)) | exact Nat.ne_of_gt (Nat.lt_trans (ce2 (by assumption)) (by assumption)) | exact Nat.ne_of_lt (Nat.lt_trans (ce2 (by assumption)) (by assumption)) | exact Nat.ne_of_gt (Nat.lt_trans (ce3 (by assumption)) (by assumption)) | exact Nat.ne_of_lt (Nat.lt_trans (ce3 (by assumption)) (by assumption)) | fail "ne")
  revert X
  k_fill
  intro X
  refine wpAny_call ?_
  k_dflt cell_enter
  k_steps
  · have hz : 0 < lo + sw := by first | assumption | (simp at *; omega)
    exact hret none 0 _ _ (by rw [decide_eq_true hz]; rfl) (by assumption) (by assumption)
  · have hz : ¬ (0 < lo + sw) := by first | assumption | (simp at *; omega)
    exact hret (some _) _ _ _ (by rw [decide_eq_false hz]; rfl) (by assumption) (by assumption)
set_option maxRecDepth 100000 in
set_option maxHeartbeats 4000000 in
theorem cntN_ok {o dx lb : Addr} {h1 h2 h3 : Int} {a1 a2 a3 b2 b3 : Tok} {lo sw : Int} {n3 n4 : Nat} {refs : List Value}
    (B : Below A₀ base outer h₀) (F : Fr h₀ L s.heap m) (X : (hd.heap_39 w.params).In h₀) (N : News h₀ L s.heap (jLed o dx lb h1 h2 h3 a1 a2 a3 b2 b3 lo sw n3 n4 refs news))
    (T : Top hd.view_39 loose mean mg mb h₀) (hk : cs.kind = .function) (hdp : dp + 4 < recursionLimit) (hun : un + 100 < cLine)
    (hret : ∀ (r : Option Str) (t : Tok) (h' : Heap) (tk' : Nat), r.isNone = decide (0 < lo) → Fr h₀ L h' m → News h₀ L h' (jLed o dx lb h1 h2 h3 a1 a2 a3 b2 b3 lo sw n3 n4 refs news) → Q (optV t r) { s with heap := h', toks := tk' }) :
    wpAny (model PySem.Challenge.rw_pc0067_01.row.prog w) (ktrTop dp un gd cn cs L a ccd cl outer) (call (.ref 109) [.ref o, .none]) Q E s := by
  k_with_none
  k_with "room" => (first | exact un1 (by assumption) (by decide) | exact un2 (by assumption) (by decide) | exact un3 (by assumption) (by decide) | exact un0 (by assumption) | exact Nat.le_of_ble_eq_true rfl | fail "room")
  k_with "ne" => (first | assumption | exact Ne.symm (by assumption) | exact Nat.ne_of_lt (by assumption) | exact Nat.ne_of_gt (by assumption) | exact (cj1 (by assumption)) | exact (cj2 (by assumption)) | exact (cj3 (by assumption)) | exact (cj4 (by assumption)) | exact (cj5 (by assumption)) | exact (cj6 (by assumption)) | exact (cj7 (by assumption)) | exact (cj8 (by assumption)) | exact (cj9 (by assumption)) | exact (cj10 (by assumption)) | exact (cj11 (by assumption)) | exact (cj12 (by assumption)) | exact (ce2 (by assumption)) | exact (ce3 (by assumption)) | exact (ce4 (by assumption)) | exact (ce5 (by assumption)) | exact (ce6 (by assumption)) | exact (ce7 (by assumption)) | exact (ce8 (by assumption)) | exact (ce9 (by assumption)) | exact (ce10 (by assumption)) | exact (ce11 (by assumption)) | exact (ce12 (by assumption)) | exact Ne.symm (cj1 (by assumption)) | exact Ne.symm (cj2 (by assumption)) | exact Ne.symm (cj3 (by assumption)) | exact Ne.symm (cj4 (by assumption)) | exact Ne.symm (cj5 (by assumption)) | exact Ne.symm (cj6 (by assumption)) | exact Ne.symm (cj7 (by assumption)) | exact Ne.symm (cj8 (by assumption)) | exact Ne.symm (cj9 (by assumption)) | exact Ne.symm (cj10 (by assumption)) | exact Ne.symm (cj11 (by assumption)) | exact Ne.symm (cj12 (by assumption)) | exact Ne.symm (ce2 (by assumption)) | exact Ne.symm (ce3 (by assumption)) | exact Ne.symm (ce4 (by assumption)) | exact Ne.symm (ce5 (by assumption)) | exact Ne.symm (ce6 (by assumption)) | exact Ne.symm (ce7 (by assumption)) | exact Ne.symm (ce8 (by assumption)) | exact Ne.symm (ce9 (by assumption)) | exact Ne.symm (ce10 (by assumption)) | exact Ne.symm (ce11 (by assumption)) | exact Ne.symm (ce12 (by assumption)) | exact Nat.ne_of_lt (cj1 (by assumption)) | exact Nat.ne_of_lt (cj2 (by assumption)) | exact Nat.ne_of_lt (cj3 (by assumption)) | exact Nat.ne_of_lt (cj4 (by assumption)) | exact Nat.ne_of_lt (cj5 (by assumption)) | exact Nat.ne_of_lt (cj6 (by assumption)) | exact Nat.ne_of_lt (cj7 (by assumption)) | exact Nat.ne_of_lt (cj8 (by assumption)) | exact Nat.ne_of_lt (cj9 (by assumption)) | exact Nat.ne_of_lt (cj10 (by assumption)) | exact Nat.ne_of_lt (cj11 (by assumption)) | exact Nat.ne_of_lt (cj12 (by assumption)) | exact Nat.ne_of_lt (ce2 (by assumption)) | exact Nat.ne_of_lt (ce3 (by assumption)) | exact Nat.ne_of_lt (ce4 (by assumption)) | exact Nat.ne_of_lt (ce5 (by assumption)) | exact Nat.ne_of_lt (ce6 (by assumption)) | exact Nat.ne_of_lt (ce7 (by assumption)) | exact Nat.ne_of_lt (ce8 (by assumption)) | exact Nat.ne_of_lt (ce9 (by assumption)) | exact Nat.ne_of_lt (ce10 (by assumption)) | exact Nat.ne_of_lt (ce11 (by assumption)) | exact Nat.ne_of_lt (ce12 (by assumption)) | exact Nat.ne_of_gt (cj1 (by assumption)) | exact Nat.ne_of_gt (cj2 (by assumption)) | exact Nat.ne_of_gt (cj3 (by assumption)) | exact Nat.ne_of_gt (cj4 (by assumption)) | exact Nat.ne_of_gt (cj5 (by assumption)) | exact Nat.ne_of_gt (cj6 (by assumption)) | exact Nat.ne_of_gt (cj7 (by assumption)) | exact Nat.ne_of_gt (cj8 (by assumption)) | exact Nat.ne_of_gt (cj9 (by assumption)) | exact Nat.ne_of_gt (cj10 (by assumption)) | exact Nat.ne_of_gt (cj11 (by assumption)) | exact Nat.ne_of_gt (cj12 (by assumption)) | exact Nat.ne_of_gt (ce2 (by assumption)) | exact Nat.ne_of_gt (ce3 (by assumption)) | exact Nat.ne_of_gt (ce4 (by assumption)) | exact Nat.ne_of_gt (ce5 (by assumption)) | exact Nat.ne_of_gt (ce6 (by assumption)) | exact Nat.ne_of_gt (ce7 (by assumption)) | exact Nat.ne_of_gt (ce8 (by assumption)) | exact Nat.ne_of_gt (ce9 (by assumption)) | exact Nat.ne_of_gt (ce10 (by assumption)) | exact Nat.ne_of_gt (ce11 (by assumption)) | exact Nat.ne_of_gt (ce12 (by assumption)) | exact cj1 (cj1 (by assumption)) | exact cj2 (cj1 (by assumption)) | exact ce3 (cj1 (by assumption)) | exact cj1 (cj2 (by assumption)) | exact cj2 (cj2 (by assumption)) | exact ce3 (cj2 (by assumption)) | exact cj1 (cj3 (by assumption)) | exact cj2 (cj3 (by assumption)) | exact ce3 (cj3 (by assumption)) | exact cj1 (cj4 (by assumption)) | exact cj2 (cj4 (by assumption)) | exact ce3 (cj4 (by assumption)) | exact cj1 (cj5 (by assumption)) | exact cj2 (cj5 (by assumption)) | exact ce3 (cj5 (by assumption)) | exact cj1 (cj6 (by assumption)) | exact cj2 (cj6 (by assumption)) | exact ce3 (cj6 (by assumption)) | exact cj1 (cj7 (by assumption)) | exact cj2 (cj7 (by assumption)) | exact ce3 (cj7 (by assumption)) | exact Ne.symm (cj1 (cj1 (by assumption))) | exact Ne.symm (cj2 (cj1 (by assumption))) | exact Ne.symm (ce3 (cj1 (by assumption))) | exact Ne.symm (cj1 (cj2 (by assumption))) | exact Ne.symm (cj2 (cj2 (by assumption))) | exact Ne.symm (ce3 (cj2 (by assumption))) | exact Ne.symm (cj1 (cj3 (by assumption))) | exact Ne.symm (cj2 (cj3 (by assumption))) | exact Ne.symm (ce3 (cj3 (by assumption))) | exact Ne.symm (cj1 (cj4 (by assumption))) | exact Ne.symm (cj2 (cj4 (by assumption))) | exact Ne.symm (ce3 (cj4 (by assumption))) | exact Ne.symm (cj1 (cj5 (by assumption))) | exact Ne.symm (cj2 (cj5 (by assumption))) | exact Ne.symm (ce3 (cj5 (by assumption))) | exact Ne.symm (cj1 (cj6 (by assumption))) | exact Ne.symm (cj2 (cj6 (by assumption))) | exact Ne.symm (ce3 (cj6 (by assumption))) | exact Ne.symm (cj1 (cj7 (by assumption))) | exact Ne.symm (cj2 (cj7 (by assumption))) | exact Ne.symm (ce3 (cj7 (by assumption))) | exact ls1 (cj1 (by assumption)) | exact Ne.symm (ls1 (cj1 (by assumption))) | exact ls1 (ce2 (by assumption)) | exact Ne.symm (ls1 (ce2 (by assumption))) | exact ls2 (cj1 (by assumption)) | exact Ne.symm (ls2 (cj1 (by assumption))) | exact ls2 (ce2 (by assumption)) | exact Ne.symm (ls2 (ce2 (by assumption))) | exact ls3 | exact Ne.symm ls3 | exact Nat.ne_of_gt (Nat.lt_trans (cj1 (by assumption)) (by assumption)) | exact Nat.ne_of_lt (Nat.lt_trans (cj1 (by assumption)) (by assumption)) | exact Nat.ne_of_gt (Nat.lt_trans (cj2 (by assumption)) (by assumption)) | exact Nat.ne_of_lt (Nat.lt_trans (cj2 (by assumption)) (by assumption)) | exact Nat.ne_of_gt (Nat.lt_trans (ce2 (by assumption)) (by assumption)) | exact Nat.ne_of_lt (Nat.lt_trans (ce2 (by assumption)) (by assumption)) | exact Nat.ne_of_gt (Nat.lt_trans (ce3 (by assumption)) (by assumption)) | exact Nat.ne_of_lt (Nat.lt_trans (ce3 (by assumption)) (by assumption)) | fail "ne")
  revert X
  k_fill
  intro X
  refine wpAny_call ?_
  k_dflt cell_enter
  k_steps
  · have hz : 0 < lo := by first | assumption | (simp at *; omega)
    exact hret none 0 _ _ (by rw [decide_eq_true hz]; rfl) (by assumption) (by assumption)
  · have hz : ¬ (0 < lo) := by first | assumption | (simp at *; omega)
    exact hret (some _) _ _ _ (by rw [decide_eq_false hz]; rfl) (by assumption) (by assumption)
end
theorem execs_append {xs ys : List Stmt} {env : Env} : execs (xs ++ ys) env = (execs xs env >>= fun f => match f with | .next => execs ys env | f => pure f) := by
  induction xs with
  | nil => rw [List.nil_append]; simp only [execs, pure_bind]
  | cons st r ih =>
    rw [List.cons_append, execs_cons, execs_cons, bind_assoc]
    refine congrArg (exec st env >>= ·) (funext fun f => ?_)
    cases f <;> first | exact ih | simp only [pure_bind]
theorem execs_cut {M : Model} {A : Around} {env : Env} {xs ys : List Stmt} {Q : Flow → Shared → Prop} {E : Value → Shared → Prop} {s : Shared} (J : Shared → Prop)
    (h1 : wpAny M A (execs xs env) (fun f s' => f = .next ∧ J s') E s) (h2 : ∀ s', J s' → wpAny M A (execs ys env) Q E s') : wpAny M A (execs (xs ++ ys) env) Q E s := by
  rw [execs_append]
  refine wpAny_bind (wpAny_mono h1 (fun f s' hq => ?_) fun _ _ e => e)
  obtain ⟨rfl, hJ⟩ := hq
  exact h2 s' hJ
theorem execs_at {M : Model} {A : Around} {env : Env} {zs : List Stmt} {Q : Flow → Shared → Prop} {E : Value → Shared → Prop} {s : Shared} (n : Nat) (J : Shared → Prop)
    (h1 : wpAny M A (execs (zs.take n) env) (fun f s' => f = .next ∧ J s') E s) (h2 : ∀ s', J s' → wpAny M A (execs (zs.drop n) env) Q E s') : wpAny M A (execs zs env) Q E s := by
  have h := execs_cut J h1 h2
  rwa [List.take_append_drop] at h
theorem execs_atF {M : Model} {A : Around} {env : Env} {zs : List Stmt} {Q : Flow → Shared → Prop} {E : Value → Shared → Prop} {s : Shared} (n : Nat) (J : Shared → Prop)
    (h1 : wpAny M A (execs (zs.take n) env) (fun f s' => f = .next ∧ J s') (fun _ _ => False) s) (h2 : ∀ s', J s' → wpAny M A (execs (zs.drop n) env) Q E s') : wpAny M A (execs zs env) Q E s :=
  execs_at n J (wpAny_mono h1 (fun _ _ h => h) fun _ _ h => h.elim) h2
theorem turn_gen {M : Model} {A : Around} {t : Sem Flow} {J : (Str → Option Value) → List (Addr × Obj) → Prop} {own : List (Addr × Obj)} {s₁ : Shared} {Q : Flow → Shared → Prop} {E : Value → Shared → Prop}
    (h : ∀ (QQ : Flow → Shared → Prop) (E' : Value → Shared → Prop), (∀ s₂, InvEndG h₀ L J own s₁ s₂ → QQ .next s₂) → wpAny M A t QQ E' s) : wpAny M A t (InvPostG h₀ L J own s₁ Q) E s := h _ _ fun _ x => x
theorem brkN_use {o dx lb : Addr} {h1 h2 h3 : Int} {a1 a2 a3 b2 b3 : Tok} {lo sw : Int} {n3 n4 : Nat} {refs : List Value}
    (B : Below A₀ base outer h₀) (F : Fr h₀ L s.heap m) (X : (hd.heap_39 w.params).In h₀) (N : News h₀ L s.heap news)
    (T : Top hd.view_39 loose mean mg mb h₀) (hk : cs.kind = .function) (hdp : dp + 4 < recursionLimit) (hun : un + 100 < cLine)
    (ho : (o, instObj 112 dx) ∈ news) (hdx : (dx, dictOf [⟨h1, .str "labels" a1, .ref lb⟩, ⟨h2, .str "loops" a2, .int lo b2⟩, ⟨h3, .str "switches" a3, .int sw b3⟩] n3) ∈ news) (hlb : (lb, listOf refs.toArray n4) ∈ news)
    (hret : ∀ (r : Option Str) (t : Tok) (h' : Heap) (tk' : Nat), r.isNone = decide (0 < lo + sw) → Fr h₀ L h' m → News h₀ L h' news → Q (optV t r) { s with heap := h', toks := tk' }) :
    wpAny (model PySem.Challenge.rw_pc0067_01.row.prog w) (ktrTop dp un gd cn cs L a ccd cl outer) (call (.ref 104) [.ref o, .none]) Q E s := by
  refine brkN_ok (news := news) (dx := dx) (lb := lb) (h1 := h1) (h2 := h2) (h3 := h3) (a1 := a1) (a2 := a2) (a3 := a3) (b2 := b2) (b3 := b3) (lo := lo) (sw := sw) (n3 := n3) (n4 := n4) (refs := refs) B F X (fun p hp => ?_) T hk hdp hun fun r t h' tk' hr F' N' => hret r t h' tk' hr F' fun p hp => N' p (.tail _ (.tail _ (.tail _ hp)))
  rcases List.mem_cons.mp hp with rfl | hp
  · exact N _ ho
  rcases List.mem_cons.mp hp with rfl | hp
  · exact N _ hdx
  rcases List.mem_cons.mp hp with rfl | hp
  · exact N _ hlb
  · exact N p hp
theorem cntN_use {o dx lb : Addr} {h1 h2 h3 : Int} {a1 a2 a3 b2 b3 : Tok} {lo sw : Int} {n3 n4 : Nat} {refs : List Value}
    (B : Below A₀ base outer h₀) (F : Fr h₀ L s.heap m) (X : (hd.heap_39 w.params).In h₀) (N : News h₀ L s.heap news)
    (T : Top hd.view_39 loose mean mg mb h₀) (hk : cs.kind = .function) (hdp : dp + 4 < recursionLimit) (hun : un + 100 < cLine)
    (ho : (o, instObj 112 dx) ∈ news) (hdx : (dx, dictOf [⟨h1, .str "labels" a1, .ref lb⟩, ⟨h2, .str "loops" a2, .int lo b2⟩, ⟨h3, .str "switches" a3, .int sw b3⟩] n3) ∈ news) (hlb : (lb, listOf refs.toArray n4) ∈ news)
    (hret : ∀ (r : Option Str) (t : Tok) (h' : Heap) (tk' : Nat), r.isNone = decide (0 < lo) → Fr h₀ L h' m → News h₀ L h' news → Q (optV t r) { s with heap := h', toks := tk' }) :
    wpAny (model PySem.Challenge.rw_pc0067_01.row.prog w) (ktrTop dp un gd cn cs L a ccd cl outer) (call (.ref 109) [.ref o, .none]) Q E s := by
  refine cntN_ok (news := news) (dx := dx) (lb := lb) (h1 := h1) (h2 := h2) (h3 := h3) (a1 := a1) (a2 := a2) (a3 := a3) (b2 := b2) (b3 := b3) (lo := lo) (sw := sw) (n3 := n3) (n4 := n4) (refs := refs) B F X (fun p hp => ?_) T hk hdp hun fun r t h' tk' hr F' N' => hret r t h' tk' hr F' fun p hp => N' p (.tail _ (.tail _ (.tail _ hp)))
  rcases List.mem_cons.mp hp with rfl | hp
  · exact N _ ho
  rcases List.mem_cons.mp hp with rfl | hp
  · exact N _ hdx
  rcases List.mem_cons.mp hp with rfl | hp
  · exact N _ hlb
  · exact N p hp
/-- what stands when the law's own rows are laid -/
inductive JMid (s : Shared) (g : Heap) (L' : Addr)  : Shared → Prop
  | mk (h' : Heap) (tk' : Nat) (o dx lb rl nl : Addr) (h1 h2 h3 : Int) (a1 a2 a3 b2 b3 : Tok) (lo sw : Int) (n3 n4 n5 n6 : Nat) (refs vs nvs : List Value) (R : List (Str × Bool)) (led : List (Addr × Obj)) (m' : Str → Option Value) (_ : Fr g L' h' (fun y => if y = "names" then some (.ref nl) else if y = "rows" then some (.ref rl) else if y = "around" then some (.ref o) else m' y)) (_ : News g L' h' (jLed o dx lb h1 h2 h3 a1 a2 a3 b2 b3 lo sw n3 n4 refs ((rl, listOf vs.toArray n5) :: (nl, listOf nvs.toArray n6) :: led))) (_ : LabAre led refs R) (_ : RowB led vs R) (_ : StrsAre nvs (R.map (·.1))) (_ : R.length ≤ 3) (_ : (∀ q ∈ R, PyData.strOk q.1 = true)) : JMid s g L' { s with heap := h', toks := tk' }
end
end PartJN

section PartJR
open PySem PySem.W PyProof.Rows PySem.Calls
section
variable {w : World} {loose : List Str} {mean : ExcName → Option Value} {mg mb : Str → Option Value} {dp un : Nat} {gd : Option (List Code)} {cn : Str} {cs : Scope} {a : Addr} {ccd : Value} {cl : List (Str × Addr)} {outer : List Env} {A₀ : Around} {base h₀ : Heap} {L : Addr} {m : Str → Option Value} {s : Shared} {Q E : Value → Shared → Prop} {news : List (Addr × Obj)}
theorem pqrs_get {t1 t2 t3 t4 : Tok} {i : Nat} {v : Value} (h : ([.str "p" t1, .str "q" t2, .str "r" t3, .str "s" t4] : List Value)[i]? = some v) : ∃ z t, v = .str z t ∧ z.length ≤ 100 ∧ PyData.strOk z = true := by
  match i, h with
  | 0, h => exact ⟨_, _, (Option.some.inj h).symm, by decide, by decide +kernel⟩
  | 1, h => exact ⟨_, _, (Option.some.inj h).symm, by decide, by decide +kernel⟩
  | 2, h => exact ⟨_, _, (Option.some.inj h).symm, by decide, by decide +kernel⟩
  | 3, h => exact ⟨_, _, (Option.some.inj h).symm, by decide, by decide +kernel⟩
  | _ + 4, h => simp at h
noncomputable abbrev frG {g h : Heap} {L : Addr} {m : Str → Option Value} (_ : Fr g L h m) : Heap := g
noncomputable abbrev frL {g h : Heap} {L : Addr} {m : Str → Option Value} (_ : Fr g L h m) : Addr := L
theorem i3_cases {i : Nat} (h : i < 3) : i = 0 ∨ i = 1 ∨ i = 2 := (by decide : ∀ i : Nat, i < 3 → i = 0 ∨ i = 1 ∨ i = 2) i h
theorem lt_four {v : Int} (h : v < 4) : v < 4 := h
theorem four_cases {v : Int} (h0 : 0 ≤ v) (h1 : v < 4) : v = 0 ∨ v = 1 ∨ v = 2 ∨ v = 3 := ar_four h0 h1
section
set_option maxRecDepth 100000 in
set_option maxHeartbeats 8000000 in
theorem jr_ok {p l : Addr} {vs : List Value} {ns : List Int} {n1 n2 : Nat} {k c : Int} {t1 t2 : Tok}
    (B : Below A₀ base outer h₀) (F : Fr h₀ L s.heap m) (X : (hd.heap_39 w.params).In h₀) (N : News h₀ L s.heap [(p, penObj l k t1 c t2 n1), (l, listOf vs.toArray n2)])
    (T : Top hd.view_39 loose mean mg mb h₀) (hk : cs.kind = .function) (hdp : dp + 8 < recursionLimit) (hun : un + 400 < cLine)
    (hi : IntsAre vs ns) (hlen : ns.length ≤ 63) (k0 : 0 ≤ k) (k1 : k ≤ 50) (c0 : 0 ≤ c) (c1 : c < 997)
    (hpl : @Ne Nat p l) (hpl2 : @Ne Nat l p)
    (hret : ∀ (h' : Heap) (tk' : Nat), Fr h₀ L h' m → Q (.bool true) { s with heap := h', toks := tk' }) :
    wpAny (model PySem.Challenge.rw_pc0067_01.row.prog w) (ktrTop dp un gd cn cs L a ccd cl outer) (call (.ref 144) [.ref p]) Q E s := by
  k_with_none
  k_with "room" => (first | exact un1 (by assumption) (by decide) | exact un2 (by assumption) (by decide) | exact un3 (by assumption) (by decide) | exact un0 (by assumption) | exact Nat.le_of_ble_eq_true rfl | fail "room")
  k_with "ne" => (first | assumption | exact Ne.symm (by assumption) | exact Nat.ne_of_lt (by assumption) | exact Nat.ne_of_gt (by assumption) | exact (cj1 (by assumption)) | exact (cj2 (by assumption)) | exact (cj3 (by assumption)) | exact (cj4 (by assumption)) | exact (cj5 (by assumption)) | exact (cj6 (by assumption)) | exact (cj7 (by assumption)) | exact (cj8 (by assumption)) | exact (cj9 (by assumption)) | exact (cj10 (by assumption)) | exact (cj11 (by assumption)) | exact (cj12 (by assumption)) | exact (ce2 (by assumption)) | exact (ce3 (by assumption)) | exact (ce4 (by assumption)) | exact (ce5 (by assumption)) | exact (ce6 (by assumption)) | exact (ce7 (by assumption)) | exact (ce8 (by assumption)) | exact (ce9 (by assumption)) | exact (ce10 (by assumption)) | exact (ce11 (by assumption)) | exact (ce12 (by assumption)) | exact Ne.symm (cj1 (by assumption)) | exact Ne.symm (cj2 (by assumption)) | exact Ne.symm (cj3 (by assumption)) | exact Ne.symm (cj4 (by assumption)) | exact Ne.symm (cj5 (by assumption)) | exact Ne.symm (cj6 (by assumption)) | exact Ne.symm (cj7 (by assumption)) | exact Ne.symm (cj8 (by assumption)) | exact Ne.symm (cj9 (by assumption)) | exact Ne.symm (cj10 (by assumption)) | exact Ne.symm (cj11 (by assumption)) | exact Ne.symm (cj12 (by assumption)) | exact Ne.symm (ce2 (by assumption)) | exact Ne.symm (ce3 (by assumption)) | exact Ne.symm (ce4 (by assumption)) | exact Ne.symm (ce5 (by assumption)) | exact Ne.symm (ce6 (by assumption)) | exact Ne.symm (ce7 (by assumption)) | exact Ne.symm (ce8 (by assumption)) | exact Ne.symm (ce9 (by assumption)) | exact Ne.symm (ce10 (by assumption)) | exact Ne.symm (ce11 (by assumption)) | exact Ne.symm (ce12 (by assumption)) | exact Nat.ne_of_lt (cj1 (by assumption)) | exact Nat.ne_of_lt (cj2 (by assumption)) | exact Nat.ne_of_lt (cj3 (by assumption)) | exact Nat.ne_of_lt (cj4 (by assumption)) | exact Nat.ne_of_lt (cj5 (by assumption)) | exact Nat.ne_of_lt (cj6 (by assumption)) | exact Nat.ne_of_lt (cj7 (by assumption)) | exact Nat.ne_of_lt (cj8 (by assumption)) | exact Nat.ne_of_lt (cj9 (by assumption)) | exact Nat.ne_of_lt (cj10 (by assumption)) | exact Nat.ne_of_lt (cj11 (by assumption)) | exact Nat.ne_of_lt (cj12 (by assumption)) | exact Nat.ne_of_lt (ce2 (by assumption)) | exact Nat.ne_of_lt (ce3 (by assumption)) | exact Nat.ne_of_lt (ce4 (by assumption)) | exact Nat.ne_of_lt (ce5 (by assumption)) | exact Nat.ne_of_lt (ce6 (by assumption)) | exact Nat.ne_of_lt (ce7 (by assumption)) | exact Nat.ne_of_lt (ce8 (by assumption)) | exact Nat.ne_of_lt (ce9 (by assumption)) | exact Nat.ne_of_lt (ce10 (by assumption)) | exact Nat.ne_of_lt (ce11 (by assumption)) | exact Nat.ne_of_lt (ce12 (by assumption)) | exact Nat.ne_of_gt (cj1 (by assumption)) | exact Nat.ne_of_gt (cj2 (by assumption)) | exact Nat.ne_of_gt (cj3 (by assumption)) | exact Nat.ne_of_gt (cj4 (by assumption)) | exact Nat.ne_of_gt (cj5 (by assumption)) | exact Nat.ne_of_gt (cj6 (by assumption)) | exact Nat.ne_of_gt (cj7 (by assumption)) | exact Nat.ne_of_gt (cj8 (by assumption)) | exact Nat.ne_of_gt (cj9 (by assumption)) | exact Nat.ne_of_gt (cj10 (by assumption)) | exact Nat.ne_of_gt (cj11 (by assumption)) | exact Nat.ne_of_gt (cj12 (by assumption)) | exact Nat.ne_of_gt (ce2 (by assumption)) | exact Nat.ne_of_gt (ce3 (by assumption)) | exact Nat.ne_of_gt (ce4 (by assumption)) | exact Nat.ne_of_gt (ce5 (by assumption)) | exact Nat.ne_of_gt (ce6 (by assumption)) | exact Nat.ne_of_gt (ce7 (by assumption)) | exact Nat.ne_of_gt (ce8 (by assumption)) | exact Nat.ne_of_gt (ce9 (by assumption)) | exact Nat.ne_of_gt (ce10 (by assumption)) | exact Nat.ne_of_gt (ce11 (by assumption)) | exact Nat.ne_of_gt (ce12 (by assumption)) | exact cj1 (cj1 (by assumption)) | exact cj2 (cj1 (by assumption)) | exact ce3 (cj1 (by assumption)) | exact cj1 (cj2 (by assumption)) | exact cj2 (cj2 (by assumption)) | exact ce3 (cj2 (by assumption)) | exact cj1 (cj3 (by assumption)) | exact cj2 (cj3 (by assumption)) | exact ce3 (cj3 (by assumption)) | exact cj1 (cj4 (by assumption)) | exact cj2 (cj4 (by assumption)) | exact ce3 (cj4 (by assumption)) | exact cj1 (cj5 (by assumption)) | exact cj2 (cj5 (by assumption)) | exact ce3 (cj5 (by assumption)) | exact cj1 (cj6 (by assumption)) | exact cj2 (cj6 (by assumption)) | exact ce3 (cj6 (by assumption)) | exact cj1 (cj7 (by assumption)) | exact cj2 (cj7 (by assumption)) | exact ce3 (cj7 (by assumption)) | exact Ne.symm (cj1 (cj1 (by assumption))) | exact Ne.symm (cj2 (cj1 (by assumption))) | exact Ne.symm (ce3 (cj1 (by assumption))) | exact Ne.symm (cj1 (cj2 (by assumption))) | exact Ne.symm (cj2 (cj2 (by assumption))) | exact Ne.symm (ce3 (cj2 (by assumption))) | exact Ne.symm (cj1 (cj3 (by assumption))) | exact Ne.symm (cj2 (cj3 (by assumption))) | exact Ne.symm (ce3 (cj3 (by assumption))) | exact Ne.symm (cj1 (cj4 (by assumption))) | exact Ne.symm (cj2 (cj4 (by assumption))) | exact Ne.symm (ce3 (cj4 (by assumption))) | exact Ne.symm (cj1 (cj5 (by assumption))) | exact Ne.symm (cj2 (cj5 (by assumption))) | exact Ne.symm (ce3 (cj5 (by assumption))) | exact Ne.symm (cj1 (cj6 (by assumption))) | exact Ne.symm (cj2 (cj6 (by assumption))) | exact Ne.symm (ce3 (cj6 (by assumption))) | exact Ne.symm (cj1 (cj7 (by assumption))) | exact Ne.symm (cj2 (cj7 (by assumption))) | exact Ne.symm (ce3 (cj7 (by assumption))) | exact ls1 (cj1 (by assumption)) | exact Ne.symm (ls1 (cj1 (by assumption))) | exact ls1 (ce2 (by assumption)) | exact Ne.symm (ls1 (ce2 (by assumption))) | exact ls2 (cj1 (by assumption)) | exact Ne.symm (ls2 (cj1 (by assumption))) | exact ls2 (ce2 (by assumption)) | exact Ne.symm (ls2 (ce2 (by assumption))) | exact ls3 | exact Ne.symm ls3 | exact Nat.ne_of_gt (Nat.lt_trans (cj1 (by assumption)) (by assumption)) | exact Nat.ne_of_lt (Nat.lt_trans (cj1 (by assumption)) (by assumption)) | exact Nat.ne_of_gt (Nat.lt_trans (cj2 (by assumption)) (by assumption)) | exact Nat.ne_of_lt (Nat.lt_trans (cj2 (by assumption)) (by assumption)) | exact Nat.ne_of_gt (Nat.lt_trans (ce2 (by assumption)) (by assumption)) | exact Nat.ne_of_lt (Nat.lt_trans (ce2 (by assumption)) (by assumption)) | exact Nat.ne_of_gt (Nat.lt_trans (ce3 (by assumption)) (by assumption)) | exact Nat.ne_of_lt (Nat.lt_trans (ce3 (by assumption)) (by assumption)) | fail "ne")
  k_with "call ref" => (k_here; (with_reducible show wpAny _ _ (call (Value.ref 124) _) _ _ _); k_dflt (refine' pick_use ?B_w ?F_w ?X_w ?N_w ?T_w ?K_w ?D_w ?R_w ?U_w ?l_w ?i_w ?len_w ?k0_w ?k1_w ?c0_w ?c1_w ?m0_w ?m1_w ?_; (case B_w => k_asm); (case F_w => k_asm); (case X_w => k_asm); (case N_w => k_asm); (case T_w => k_asm); (case K_w => first | rfl | assumption); (case D_w => ktr_room); (case R_w => ktr_units); (case U_w => k_updF); (case l_w => k_mem); (case i_w => assumption); (case len_w => assumption); (case k0_w => first | assumption | exact Int.add_nonneg (by assumption) (by decide) | omega); (case k1_w => first | exact leK (K := 60) (by assumption) (by decide) | exact leK1 (K := 60) (by assumption) (by decide) | exact leK (K := 50) (by assumption) (by decide) | omega); (case c0_w => assumption); (case c1_w => assumption); (case m0_w => decide); (case m1_w => decide); k_whole); intro vq_w tq_w t2q_w hq_w tkq_w v0q_w v1q_w Fq_w Nq_w; (try dsimp only at Nq_w); (try dsimp only);  walk_say "PICK")
  k_with "call ref" => (k_here; (with_reducible show wpAny _ _ (call (Value.ref 99) _) _ _ _); k_dflt (refine' lf_use ?B_w ?F_w ?X_w ?N_w ?T_w ?K_w ?D_w ?R_w ?o_w ?d_w ?l_w ?r_w ?n_w ?x_w ?_; (case B_w => k_asm); (case F_w => k_asm); (case X_w => k_asm); (case N_w => k_asm); (case T_w => k_asm); (case K_w => first | rfl | assumption); (case D_w => ktr_room); (case R_w => ktr_units); (case o_w => k_mem); (case d_w => k_mem); (case l_w => k_mem); (case r_w => first | exact LabAre.nil | (refine LabAre.up (by assumption) ?_; intro p_w hp_w; kcf_m)); (case n_w => first | decide | assumption); (case x_w => first | decide | assumption)); intro r9_w t9_w h9_w tk9_w hr9_w F9_w N9_w; (try dsimp only at hr9_w); walk_say "METHOD")
  k_with "call ref" => (k_here; (with_reducible show wpAny _ _ (call (Value.ref 104) [Value.ref _, Value.str _ _]) _ _ _); k_dflt (refine' brk_use ?B_w ?F_w ?X_w ?N_w ?T_w ?K_w ?D_w ?R_w ?o_w ?d_w ?l_w ?r_w ?n_w ?x_w ?_; (case B_w => k_asm); (case F_w => k_asm); (case X_w => k_asm); (case N_w => k_asm); (case T_w => k_asm); (case K_w => first | rfl | assumption); (case D_w => ktr_room); (case R_w => ktr_units); (case o_w => k_mem); (case d_w => k_mem); (case l_w => k_mem); (case r_w => first | exact LabAre.nil | (refine LabAre.up (by assumption) ?_; intro p_w hp_w; kcf_m)); (case n_w => first | decide | assumption); (case x_w => first | decide | assumption)); intro r9_w t9_w h9_w tk9_w hr9_w F9_w N9_w; (try dsimp only at hr9_w); walk_say "METHOD")
  k_with "call ref" => (k_here; (with_reducible show wpAny _ _ (call (Value.ref 109) [Value.ref _, Value.str _ _]) _ _ _); k_dflt (refine' cnt_use ?B_w ?F_w ?X_w ?N_w ?T_w ?K_w ?D_w ?R_w ?o_w ?d_w ?l_w ?r_w ?n_w ?x_w ?_; (case B_w => k_asm); (case F_w => k_asm); (case X_w => k_asm); (case N_w => k_asm); (case T_w => k_asm); (case K_w => first | rfl | assumption); (case D_w => ktr_room); (case R_w => ktr_units); (case o_w => k_mem); (case d_w => k_mem); (case l_w => k_mem); (case r_w => first | exact LabAre.nil | (refine LabAre.up (by assumption) ?_; intro p_w hp_w; kcf_m)); (case n_w => first | decide | assumption); (case x_w => first | decide | assumption)); intro r9_w t9_w h9_w tk9_w hr9_w F9_w N9_w; (try dsimp only at hr9_w); walk_say "METHOD")
  k_with "compareOp Is none" => ((with_reducible show wpAny _ _ (compareOp CmpOp.Is (optV _ _) Value.none) _ _ _); refine is_none_c (by assumption) ?_; (try simp only [List.map_cons, List.map_nil, List.any_cons, List.any_nil, b_pq, b_pr, b_ps, b_qp, b_qr, b_qs, b_rp, b_rq, b_rs, b_sp, b_sq, b_sr, beq_self_eq_true, Bool.true_and, Bool.false_and, Bool.and_true, Bool.and_false, Bool.or_false, Bool.false_or, Bool.or_true, Bool.true_or, Bool.not_true, Bool.not_false, Bool.and_self]))
  k_with "compareOp IsNot none" => ((with_reducible show wpAny _ _ (compareOp CmpOp.IsNot (optV _ _) Value.none) _ _ _); refine isnot_none_c (by assumption) ?_; (try simp only [List.map_cons, List.map_nil, List.any_cons, List.any_nil, b_pq, b_pr, b_ps, b_qp, b_qr, b_qs, b_rp, b_rq, b_rs, b_sp, b_sq, b_sr, beq_self_eq_true, Bool.true_and, Bool.false_and, Bool.and_true, Bool.and_false, Bool.or_false, Bool.false_or, Bool.or_true, Bool.true_or, Bool.not_true, Bool.not_false, Bool.and_self]))
  k_with "compareOp NotEq ref ref" => (k_here; k_dflt (refine' ne_bools3 ?a_w ?b_w ?u_w ?_; (case a_w => exact News.get (by k_asm) (by k_mem)); (case b_w => exact News.get (by k_asm) (by k_mem)); (case u_w => ktr_units)); (try simp only [List.map_cons, List.map_nil, List.any_cons, List.any_nil, b_pq, b_pr, b_ps, b_qp, b_qr, b_qs, b_rp, b_rq, b_rs, b_sp, b_sq, b_sr, beq_self_eq_true, Bool.true_and, Bool.false_and, Bool.and_true, Bool.and_false, Bool.or_false, Bool.false_or, Bool.or_true, Bool.true_or, Bool.not_true, Bool.not_false, Bool.and_self]); walk_say "BOOLS3")
  k_with "compareOp Eq ref ref" => (k_here; k_dflt (refine' eq_bools2 ?a_w ?b_w ?u_w ?_; (case a_w => exact News.get (by k_asm) (by k_mem)); (case b_w => exact News.get (by k_asm) (by k_mem)); (case u_w => ktr_units)); (try simp only [List.map_cons, List.map_nil, List.any_cons, List.any_nil, b_pq, b_pr, b_ps, b_qp, b_qr, b_qs, b_rp, b_rq, b_rs, b_sp, b_sq, b_sr, beq_self_eq_true, Bool.true_and, Bool.false_and, Bool.and_true, Bool.and_false, Bool.or_false, Bool.false_or, Bool.or_true, Bool.true_or, Bool.not_true, Bool.not_false, Bool.and_self]); walk_say "BOOLS2")
  k_with "compareOp In ref ref" => (k_here; k_dflt (refine' in_rows ?N_w ?l_w ?t_w ?r_w ?o_w ?x_w ?u_w ?_; (case N_w => k_asm); (case l_w => k_mem); (case t_w => k_mem); (case r_w => (refine RowB.up (by assumption) ?_; intro p_w hp_w; kcf_m)); (case o_w => assumption); (case x_w => assumption); (case u_w => ktr_units)); (try simp only [List.map_cons, List.map_nil, List.any_cons, List.any_nil, b_pq, b_pr, b_ps, b_qp, b_qr, b_qs, b_rp, b_rq, b_rs, b_sp, b_sq, b_sr, beq_self_eq_true, Bool.true_and, Bool.false_and, Bool.and_true, Bool.and_false, Bool.or_false, Bool.false_or, Bool.or_true, Bool.true_or, Bool.not_true, Bool.not_false, Bool.and_self]); walk_say "IN ROWS")
  k_with "CompSrc" => refine stop ?_
  k_with "SrcLP" => refine stop ?_
  k_with "call ref" => (k_here; (with_reducible show wpAny _ _ (call (Value.ref 104) [Value.ref _, Value.none]) _ _ _); k_dflt (refine' brkN_use ?B_w ?F_w ?X_w ?N_w ?T_w ?K_w ?D_w ?R_w ?o_w ?d_w ?l_w ?_; (case B_w => k_asm); (case F_w => k_asm); (case X_w => k_asm); (case N_w => k_asm); (case T_w => k_asm); (case K_w => first | rfl | assumption); (case D_w => ktr_room); (case R_w => ktr_units); (case o_w => k_mem); (case d_w => k_mem); (case l_w => k_mem)); intro r9_w t9_w h9_w tk9_w hr9_w F9_w N9_w; (try simp only [Int.zero_add, Int.add_zero, Int.lt_irrefl, decide_false] at hr9_w); walk_say "METHOD")
  k_with "call ref" => (k_here; (with_reducible show wpAny _ _ (call (Value.ref 109) [Value.ref _, Value.none]) _ _ _); k_dflt (refine' cntN_use ?B_w ?F_w ?X_w ?N_w ?T_w ?K_w ?D_w ?R_w ?o_w ?d_w ?l_w ?_; (case B_w => k_asm); (case F_w => k_asm); (case X_w => k_asm); (case N_w => k_asm); (case T_w => k_asm); (case K_w => first | rfl | assumption); (case D_w => ktr_room); (case R_w => ktr_units); (case o_w => k_mem); (case d_w => k_mem); (case l_w => k_mem)); intro r9_w t9_w h9_w tk9_w hr9_w F9_w N9_w; (try simp only [Int.zero_add, Int.add_zero, Int.lt_irrefl, decide_false] at hr9_w); walk_say "METHOD")
  k_with "compareOp In str ref" => (k_here; k_dflt (refine' in_list_strs ?l_w ?i_w ?_; (case i_w => assumption); (case l_w => exact News.isList (by k_asm) (by k_mem))))
  k_with "compareOp NotIn str ref" => (k_here; k_dflt (refine' notin_list_strs ?l_w ?i_w ?_; (case i_w => assumption); (case l_w => exact News.isList (by k_asm) (by k_mem))))
  k_with "exec For Name Tuple cons nil" => refine stop ?_
  k_with "pyIter ref" => refine stop ?_
  k_with "compareOp Eq ref ref" => (k_here; k_dflt (refine' eq_labs ?N_w ?a_w ?b_w ?ha_w ?hb_w ?ok_w ?u_w ?_; (case N_w => k_asm); (case a_w => k_mem); (case b_w => k_mem); (case ha_w => refine LabAre.up (by assumption) ?_; intro p_w hp_w; kcf_m); (case hb_w => refine LabAre.up (by assumption) ?_; intro p_w hp_w; kcf_m); (case ok_w => assumption); (case u_w => ktr_units)); walk_say "LABS")
  revert X
  k_fill
  intro X
  refine wpAny_call ?_
  k_dflt ((refine' code_defC ?k1 ?k2 ?k3 ?k4 ?k5 ?kA ?kF ?kK ?k6 ?k7 ?k8 ?k9 ?kB ?kD ?_ ?c2 ?c3 ?c4; (case kA => exact rfl); (case kF => exact rfl); (case kK => first | exact rfl | assumption); (case k1 => k_asm); (case k2 => k_asm); (case k3 => k_asm); (case k4 => k_asm); (case k5 => k_asm); (case k6 => k_is); (case k7 => k_is); (case k8 => ktr_room); (case k9 => exact BindsTo.of_eq rfl); (case kB => exact rfl); (case kD => decide +kernel); (case c2 => exact rfl); (case c3 => exact rfl); (case c4 => exact rfl); k_whole; intro gq_w Lq_w hq_w tkq_w cellsq_w FGq_w Fq_w Nq_w Yq_w Bq_w Xq_w Tq_w l1_w; (try k_lt l1_w); k_cells Yq_w; (try simp only [List.cons_append, List.nil_append] at Nq_w); (try dsimp only); (try k_lift Bq_w); (try k_fold)))
  (rename Fr _ _ _ (bindL _ _ _) => F5)
  refine execs_atF 6 (JMid s (frG F5) (frL F5)) ?_ ?_
  · with_reducible (dsimp only [List.take, List.drop, frG, frL])
    refine mono_stop ?_
    k_steps
    refine Stop.go ?_
    k_dflt (refine' rows_src (p := p) (by rfl) ?F ?N ?R ?b0 ?b1 ?U ?turn ?fin)
    case R => assumption
    case F => k_asm
    case N => k_asm
    case b0 => assumption
    case b1 => assumption
    case U => k_updF
    case turn =>
      intro i' j' k' tail' ys' t' tv' I' oI' C' oC' D' m' h' tk' gg' E' hi3' hj' hk1' hk2' hC' hx' F' N' off' ne' htl' hend'
      have hkA : 0 ≤ k' := Int.le_trans k0 (Int.le_trans (ar_ge (by decide)) hk1')
      have hkB : k' ≤ 60 := ar_up0 (Int.add_le_add_right k1 1) hk2' (by decide)
      (try dsimp only at N' off' hend')
      (try dsimp only)
      (try simp only [List.cons_append, List.nil_append] at N' off' hend')
      simp only [LCg.Off3] at off'
      refine mono_stop ?_
      (rcases i3_cases hi3' with e9 | e9 | e9 <;> subst e9 <;> (first | (have e0 : j' = 0 := hj'; subst e0) | (have e0 : j' = 1 := hj'; subst e0) | (have e0 : j' = 2 := hj'; subst e0)))
      all_goals k_steps
      all_goals (rename News _ _ _ ((_, { cls := Value.type "tuple", dict := _, data := _ }) :: _) => kN)
      all_goals (rename (I' < _ ∧ _) => l9)
      all_goals exact hend' _ _ _ _ _ _ _ _ rfl (by k_asm) kN l9
    case fin =>
      intro gg' tail' ys' k' t' R' hR' hR3' hRp' htl' hk1' hk2'
      have hkA : 0 ≤ k' := Int.le_trans k0 (Int.le_trans (ar_ge (by decide)) hk1')
      have hkB : k' ≤ 60 := ar_up0 (Int.add_le_add_right k1 1) hk2' (by decide)
      (try dsimp only)
      (try simp only [List.cons_append, List.nil_append])
      k_steps
      refine Stop.go ?_
      k_dflt (refine' labels_src (R := R') (by rfl) ?F ?N ?m ?r ?l ?turn ?fin)
      case F => k_asm
      case N => k_asm
      case m => k_mem
      case r => exact RowB.sub (by intro p hp; kcf_m) hR'
      case l => first | assumption | exact Nat.le_trans (by assumption : _ ≤ (3 : Nat)) (by decide)
      case turn =>
        intro q' t' ys' nw' I' oI' C' oC' D' m' h' tk' gg' E' hC' hx' hx2' F' N' off' ne'
        (try dsimp only)
        refine mono_stop ?_
        k_steps
        refine Stop.go ?_
        exact .mk _ _ _ _ _ (by k_asm) (by k_asm) (off_lt3 (by assumption))
      case fin =>
        intro gg2 nx2 zs2 hL2 hnx2
        (try dsimp only)
        (try simp only [List.cons_append, List.nil_append])
        k_steps
        refine Stop.go ?_
        k_dflt (refine' names_src (R := R') (by rfl) ?F ?N ?m ?r ?l ?turn ?fin)
        case F => k_asm
        case N => k_asm
        case m => k_mem
        case r => exact RowB.sub (by intro p hp; kcf_m) hR'
        case l => first | assumption | exact Nat.le_trans (by assumption : _ ≤ (3 : Nat)) (by decide)
        case turn =>
          intro q' t' ys' nw' I' oI' C' oC' D' m' h' tk' gg' E' hC' hx' hx2' F' N' off' ne'
          (try dsimp only)
          refine mono_stop ?_
          k_steps
          refine Stop.go ?_
          exact ⟨_, _, _, rfl, rfl, by k_asm, by k_asm⟩
        case fin =>
          intro gg3 zs3 hS3
          (try dsimp only)
          k_steps
          refine Stop.go ?_
          refine ⟨rfl, ?_⟩
          (rename News _ _ _ _ => kN)
          refine ⟨_, _, _, _, _, _, _, _, _, _, _, _, _, _, _, _, _, _, _, _, _, _, _, _, R', tail' ++ nx2, _, by k_asm, (fun q hq => kN q ((show ∀ q ∈ _, q ∈ _ by kcf_all) q hq)), hL2.sub (by intro p hp; kcf_m), hR'.sub (by intro p hp; kcf_m), hS3, hR3', fun q hq => pqr_ok _ (hRp' q hq)⟩
  · with_reducible (dsimp only [List.take, List.drop, frG, frL])
    intro s' h9
    induction h9
    rename_i h' tk' o dx lb rl nl h1 h2 h3 a1 a2 a3 b2 b3 lo sw n3 n4 n5 n6 refs vs' nvs R led m' F' N' hL hRB hS hR3 hok
    have hR63 : R.length ≤ 63 := Nat.le_trans hR3 (by decide)
    clear F5
    simp only [jLed] at N'
    (rename News _ _ _ [_, (p, penObj l k t1 c t2 n1), (l, listOf vs.toArray n2)] => Nold)
    clear Nold
    k_steps
    refine Stop.go ?_
    (rename Fr _ _ _ _ => lF')
    (with_unfolding_all refine' For_invVF lF' ?k1 ?k2 ?_)
    case k1 => exact rfl
    case k2 => exact rfl
    k_steps
    refine Stop.go ?_
    rename News _ _ _ (_ :: _) => N1
    rename Fr _ _ _ _ => F1
    k_dflt (refine loop_tup (σ := Unit) (vs := [_, _, _, _]) (fun _ => _) (fun i _ => True) ["found"] () rfl (fun _ => .head _) F1 N1 trivial ?turn ?done)
    case turn =>
      intro i c v u h tk own hv hoff hP F2 N2
      obtain ⟨z, tz, rfl, hz1, hz2⟩ := pqrs_get hv
      clear hv N1 F1
      refine turn_gen (fun QQ E9 hend => ?_)
      (try dsimp only at N2)
      simp only [List.cons_append] at N2
      k_steps
      refine hend _ (InvEndG.intro (by k_asm) (by k_asm) ⟨(), rfl, trivial, fun y h1 h2 => ?_⟩ hoff ?_ ?_)
      · have hy : ¬ y = "found" := by intro e; rw [e] at h2; exact absurd h2 (by decide)
        simp only [if_neg hy, if_neg h1]
        rw [if_neg (by rw [h2]; exact Bool.false_ne_true)]
      · kcf_all
      · kcf_all
    case done =>
      intro c u h tk hP F2 N2
      clear N1 F1
      (try dsimp only at N2)
      k_steps
      refine Stop.go ?_
      k_dflt (refine' lists_src (R := R) (by rfl) ?F ?N ?m ?r ?l ?turn ?fin)
      case F => k_asm
      case N => k_asm
      case m => k_mem
      case r => exact RowB.sub (by intro p hp; kcf_m) hRB
      case l => first | assumption | exact Nat.le_trans (by assumption : _ ≤ (3 : Nat)) (by decide)
      case turn =>
        intro q' z' t' n' ys' nw' I' oI' C' oC' D' m' h' tk' gg' E' hC' hx' F' N' off' ne'
        (try dsimp only)
        refine mono_stop ?_
        k_steps
        (rename News _ _ _ (_ :: (z', _) :: _) => kN)
        exact .mk _ _ _ _ _ (by k_asm) (News.drop2 kN) (off_lt4 (by assumption))
      case fin =>
        intro gg2 nx2 zs2 hL2 hnx2
        (try dsimp only)
        (try simp only [List.cons_append, List.nil_append])
        k_steps
        exact hret _ _ (by k_asm)
end
theorem jr_use {p l : Addr} {vs : List Value} {ns : List Int} {n1 n2 : Nat} {k c : Int} {t1 t2 : Tok} {u : Obj → List (Addr × Obj)}
    (B : Below A₀ base outer h₀) (F : Fr h₀ L s.heap m) (X : (hd.heap_39 w.params).In h₀) (N : News h₀ L s.heap news)
    (T : Top hd.view_39 loose mean mg mb h₀) (hk : cs.kind = .function) (hdp : dp + 8 < recursionLimit) (hun : un + 400 < cLine)
    (U : UpdF p (penObj l k t1 c t2 n1) news u) (hl : (l, listOf vs.toArray n2) ∈ news)
    (hi : IntsAre vs ns) (hlen : ns.length ≤ 63) (k0 : 0 ≤ k) (k1 : k ≤ 50) (c0 : 0 ≤ c) (c1 : c < 997)
    (hret : ∀ (h' : Heap) (tk' : Nat), Fr h₀ L h' m → Q (.bool true) { s with heap := h', toks := tk' }) :
    wpAny (model PySem.Challenge.rw_pc0067_01.row.prog w) (ktrTop dp un gd cn cs L a ccd cl outer) (call (.ref 144) [.ref p]) Q E s := by
  obtain ⟨rest, hne, hne', hnew, N0, hu, _⟩ := pen_nf N U hl hi
  refine jr_ok (n1 := n1) (n2 := n2) (t1 := t1) (t2 := t2) B F X (fun q hq => N0 q ?_) T hk hdp hun hi hlen k0 k1 c0 c1 hne hne' hret
  rcases List.mem_cons.mp hq with rfl | hq
  · exact .head _
  · rw [List.mem_singleton.mp hq]
    exact .tail _ (.head _)
end
end PartJR

section PartLK
open PySem PyProof.Rows
set_option maxRecDepth 100000
theorem lk_list_keys : typeLookup (.type "list") "keys" = pure none := by rw [typeLookup_type, builtinLookup_eq_fast]; kernel_rfl
section
variable {prog : Program} {w : World} {A : Around} {E : Value → Shared → Prop} {h : Heap} {g : Array GenState} {d : Drawn} {t : Nat} {os : OsState} {a : Addr} {o : Obj}
theorem keys_entry_list {tk : Tok} {Q : Fin → Shared → Prop} {items : Array Value} {n : Nat} (hh : A.handled = none) (hx : h.get? a = some (W.listOf items n)) 
   (hq : ∀ e h' t', (∀ b o, h.get? b = some o → h'.get? b = some o) → (⟨h', g, d, t', os⟩ : Shared).TypeIs e "AttributeError" → E e ⟨h', g, d, t', os⟩) :
    wpAny (model prog w) A (Builtin.«object.__getattribute__» ⟨[.ref a, .str "keys" tk], []⟩) Q E ⟨h, g, d, t, os⟩ := by
  have hT : (⟨h, g, d, t, os⟩ : Shared).TypeIs (.ref a) "list" := ⟨_, hx, rfl⟩
  have f4 := lk_list_keys
  repeat (any_goals (first | assumption | wp_step))
  unfold raiseAttrError
  refine wpAny_bind (m := mkStr _) (wpAny_mkStr' ?_ (by size_fits))
  refine wpAny_bind ?_
  simp only [newExc, newTuple]
  refine wpAny_bind (wpAny_newObj_type ?_ (by size_fits))
  refine wpAny_bind (m := firstArgMember _ _) (wpAny_of_eq (a := Value.none) (by first | rfl | (simp only [firstArgMember]; rfl)) ?_)
  refine wpAny_newObj_type ?_ (by size_fits)
  dsimp only
  generalize hH : (h.push _).push _ = H
  generalize he : (h.push _).objs.size = e
  have hE : H.get? e = some { cls := .type "AttributeError", data := .fields #[.ref h.objs.size, .none, .none, .none, .bool false, .none, unsetMember, unsetMember] } := by
    rw [← hH, ← he]
    exact Heap.get?_push_size _ rfl
  have hold : ∀ b o, h.get? b = some o → H.get? b = some o := fun b o x => by
    rw [← hH]
    exact Heap.get?_push_of_some _ (Heap.get?_push_of_some _ x)
  have hne : ∀ b o, h.get? b = some o → b ≠ e := fun b o x hb => by
    have h1 := Heap.lt_size x
    rw [hb, ← he] at h1
    have h2 : h.objs.size < (h.push { cls := Value.type "tuple", data := .seq #[.str (Str.ofString (toString "'" ++ toString ((Manifest.find? "list").elim "list" fun x => x.tpName) ++ toString "' object has no attribute '") ++ "keys" ++ "'") t] }).objs.size := Heap.lt_size (Heap.get?_push_size _ rfl)
    exact absurd h1 (Nat.lt_asymm h2)
  clear hH he
  refine wpAny_bind (m := mkText _) (wpAny_bind (m := fresh) (wpAny_fresh' (wpAny_pure ?_)))
  refine wpAny_bind ?_
  unfold noteAttr
  show wpAny _ _ (lacksNameAndObj (.ref e) >>= _) _ _ _
  refine wpAny_bind ?_
  unfold lacksNameAndObj
  show wpAny _ _ (isInstance (.ref e) (.type "AttributeError") >>= _) _ _ _
  refine wpAny_bind (wpAny_isInstance (T := "AttributeError") (b := true) ⟨_, hE, rfl⟩ (by rw [isSubtype_type]; kernel_rfl) ?_)
  simp only [Bool.not_true, Bool.false_eq_true, if_false]
  refine wpAny_bind (wpAny_load hE ?_)
  dsimp only
  refine wpAny_ite_false (by first | rfl | decide) ?_
  refine wpAny_ite_false (by first | rfl | decide) (wpAny_pure ?_)
  refine wpAny_ite_true (by first | rfl | decide) (wpAny_bind (wpAny_rule ?_))
  refine wpAny_bind (wpAny_typeOf (T := "AttributeError") ⟨_, hE, rfl⟩ ?_)
  dsimp only
  refine wpAny_layMembers hE rfl ?_
  have hup := Heap.get?_update_self (Obj.mapFields fun vs => vs.extract 0 6 ++ #[Value.str "keys" (t + 1), Value.ref a]) hE rfl
  dsimp only at hup ⊢
  simp only [raiseNew]
  refine wpAny_bind (wpAny_handled ?_)
  rw [hh]
  refine wpAny_bind (wpAny_pure (wpAny_throw ?_))
  refine hq _ _ _ (fun b o x => (Heap.get?_update_other _ _ (Ne.symm (hne b o x))).trans (hold b o x)) ⟨_, hup, rfl⟩
theorem keys_call_list {tk : Tok} {R : Result → Shared → Prop} {items : Array Value} {n : Nat} (hh : A.handled = none) (hx : h.get? a = some (W.listOf items n))
    (hq : ∀ e h' t', (∀ b o, h.get? b = some o → h'.get? b = some o) → (⟨h', g, d, t', os⟩ : Shared).TypeIs e "AttributeError" → R (.error e) ⟨h', g, d, t', os⟩) :
    codeAny (model prog w) A (.call (.builtin "list.__getattribute__") ⟨[.ref a, .str "keys" tk], []⟩) R ⟨h, g, d, t, os⟩ :=
  codeAny_call_builtin F.slot_list_getattribute.plain F.entry_list_ga (F.slot_list_getattribute.check _ _ _ _ _ _ _ _ (show (⟨h, g, d, t, os⟩ : Shared).TypeIs (.ref a) "list" from ⟨_, hx, rfl⟩) (F.args_list_getattribute_2 _ _) (keys_entry_list hh hx hq))
theorem keys_by_list {tk : Tok} {Q : Value → Shared → Prop} {items : Array Value} {n : Nat} (hh : A.handled = none) (hx : h.get? a = some (W.listOf items n))
    (hq : ∀ e h' t', (∀ b o, h.get? b = some o → h'.get? b = some o) → (⟨h', g, d, t', os⟩ : Shared).TypeIs e "AttributeError" → E e ⟨h', g, d, t', os⟩) :
    wpAny (model prog w) A (getAttrBy (.ref a) (.str "keys" tk) false) Q E ⟨h, g, d, t, os⟩ := by
  have hT : (⟨h, g, d, t, os⟩ : Shared).TypeIs (.ref a) "list" := ⟨_, hx, rfl⟩
  have f2 := F.slot_list_getattribute.lookup
  have f3 := F.slot_list_getattribute.bind (.ref a)
  repeat (any_goals (first | assumption | wp_step))
  refine keys_call_list hh hx fun e h' t' ho hT' => ?_
  dsimp only
  have f5 : isSubtype (.type "AttributeError") (.type "AttributeError") = pure true := by rw [isSubtype_type]; kernel_rfl
  have f6 : typeLookup (.type "list") "__getattr__" = pure none := by rw [typeLookup_type, builtinLookup_eq_fast]; kernel_rfl
  unfold getattributeRaised
  refine wpAny_bind (wpAny_isInstance (T := "AttributeError") (b := true) hT' f5 ?_)
  simp only [if_true]
  refine wpAny_bind (wpAny_of_eq f6 ?_)
  simp only [hookOrError, attributeErrorLeaves, Bool.not_false, if_true]
  exact wpAny_bind (wpAny_throw (hq e h' t' ho hT'))
theorem keys_attr_list {Q : Option Value → Shared → Prop} {items : Array Value} {n : Nat} (hh : A.handled = none) (hx : h.get? a = some (W.listOf items n))
    (hq : ∀ h' t', (∀ b o, h.get? b = some o → h'.get? b = some o) → Q none ⟨h', g, d, t', os⟩) :
    wpAny (model prog w) A (getAttr? (.ref a) "keys") Q E ⟨h, g, d, t, os⟩ := by
  unfold getAttr? getAttrBy?
  refine wpAny_bind (m := mkText _) (wpAny_bind (m := fresh) (wpAny_fresh' (wpAny_pure ?_)))
  refine wpAny_bind (wpAny_attempt (keys_by_list hh hx fun e h' t' ho hT' => ?_))
  dsimp only
  refine wpAny_bind (wpAny_isInstance (T := "AttributeError") (b := true) hT' (by rw [isSubtype_type]; kernel_rfl) ?_)
  exact wpAny_pure (hq _ _ ho)
end
end PartLK

section PartDQ
open PySem PySem.W PyProof.Rows PySem.Calls
section
variable {w : World} {loose : List Str} {mean : ExcName → Option Value} {mg mb : Str → Option Value} {dp un : Nat} {gd : Option (List Code)} {cn : Str} {cs : Scope} {a : Addr} {ccd : Value} {cl : List (Str × Addr)} {outer : List Env} {A₀ : Around} {base h₀ : Heap} {L : Addr} {m : Str → Option Value} {s : Shared} {Q E : Value → Shared → Prop} {news : List (Addr × Obj)}
theorem entry_dict_loop : entryFor table "dict.update.loop" = some Builtin.«dict.update.loop» := entryFor_of_fast (by kernel_rfl)
theorem plain_dict_loop : plainId "dict.update.loop" = true := by decide +kernel
/-- pairs of a text and a value, as tuples of the heap -/
inductive PairsH (h : Heap) : List Value → List (Str × Value) → Prop
  | nil : PairsH h [] []
  | cons {q : Addr} {k : Str} {t : Tok} {x : Value} {n : Nat} {vs : List Value} {ps : List (Str × Value)} : h.get? q = some { cls := .type "tuple", data := .seq #[.str k t, x] n } → PairsH h vs ps → PairsH h (.ref q :: vs) ((k, x) :: ps)
theorem PairsH.get {h : Heap} {vs : List Value} {ps : List (Str × Value)} (r : PairsH h vs ps) : ∀ {i : Nat}, i < ps.length → ∃ q k t x n, vs[i]? = some (.ref q) ∧ ps[i]? = some (k, x) ∧ h.get? q = some { cls := .type "tuple", data := .seq #[.str k t, x] n } := by
  induction r with
  | nil => intro i hi; exact absurd hi (Nat.not_lt_zero _)
  | @cons q k t x n vs ps hm _ ih =>
    intro i hi
    cases i with
    | zero => exact ⟨q, k, t, x, n, rfl, rfl, hm⟩
    | succ i => simpa using ih (by simpa using hi)
theorem PairsH.length {h : Heap} {vs : List Value} {ps : List (Str × Value)} (r : PairsH h vs ps) : vs.length = ps.length := by
  induction r with
  | nil => rfl
  | cons _ _ ih => simp [ih]
noncomputable abbrev storeAll (kvs ps : List (Str × Value)) : List (Str × Value) := ps.foldl (fun m p => PySem.stored m p.1 p.2) kvs
theorem stored_length {kvs : List (Str × Value)} {k : Str} {v : Value} : (PySem.stored kvs k v).length ≤ kvs.length + 1 := by
  unfold PySem.stored
  split <;> simp
section
variable {prog : Program} {w : World} {A : Around} {s : Shared} {R : Result → Shared → Prop}
theorem dict_loop {D I l : Addr} {vs : List Value} {ps : List (Str × Value)} {hp : Heap} (hh : A.handled = none) (r : PairsH hp vs ps) (hDI : D ≠ I) (hlI : l ≠ I) (hlD : l ≠ D)
    (hold : ∀ b o, hp.get? b = some o → b ≠ D ∧ b ≠ I) (hsz : ps.length ≤ 1000) (hl0 : hp.IsList l vs.toArray) :
    ∀ (j i : Nat) (h : Heap) (tk : Nat) (kvs : List (Str × Value)), ps.length = i + j → kvs.length ≤ i → h.DictOf (strKind prog w) D kvs → h.IsListIter I l i → (∀ b o, hp.get? b = some o → h.get? b = some o) →
      (∀ h' tk', h'.DictOf (strKind prog w) D (storeAll kvs (ps.drop i)) → (∀ b o, hp.get? b = some o → h'.get? b = some o) → R (.ok (.ret .none)) { s with heap := h', toks := tk' }) →
      codeAny (model prog w) A (.builtin "dict.update.loop" ⟨[.ref D, .ref I, .int (i : Int) 0, .none], []⟩) R { s with heap := h, toks := tk } := by
  have isL : ∀ h : Heap, (∀ b o, hp.get? b = some o → h.get? b = some o) → h.IsList l vs.toArray := fun h k => let ⟨o, ho, x⟩ := hl0; ⟨o, k _ _ ho, x⟩
  intro j
  induction j with
  | zero =>
    intro i h tk kvs hj hk hD hI hkeep hR
    refine codeAny_builtin entry_dict_loop ?_
    rw [Around.under_plainId plain_dict_loop _]
    show wpAny _ A.in1 (pyNext (.ref I) >>= _) _ _ _
    refine wpAny_bind (wpAny_pyNext_list_end (A := A.in1) hh hI (isL _ hkeep) (by simp; rw [r.length]; omega) fun h' he => ?_)
    show wpAny _ _ (Builtin.Dict.addKeywords D [] >>= _) _ _ _
    refine wpAny_bind (wpAny_pure (wpAny_pure (hR h' tk ?_ fun b o e => he b o (hold b o e).2 (hkeep b o e))))
    rw [List.drop_of_length_le (by omega)]
    exact hD.extBut he hDI
  | succ j ih =>
    intro i h tk kvs hj hk hD hI hkeep hR
    obtain ⟨q, k, t, x, n, hv, hps, hq⟩ := r.get (i := i) (by omega)
    refine codeAny_builtin entry_dict_loop ?_
    rw [Around.under_plainId plain_dict_loop _]
    show wpAny _ A.in1 (pyNext (.ref I) >>= _) _ _ _
    refine wpAny_bind (wpAny_pyNext_list_item hI (isL _ hkeep) (x := .ref q) (by simpa using hv) fun h' hI' hs' => ?_)
    have hkeep' : ∀ b o, hp.get? b = some o → h'.get? b = some o := fun b o e => hs'.extBut b o (hold b o e).2 (hkeep b o e)
    have hq' := hkeep' _ _ hq
    dsimp only
    refine wpAny_bind (wpAny_holding ?_)
    refine wpAny_bind (wpAny_tryCatch ?_)
    unfold Builtin.Dict.pairItems
    refine wpAny_bind (wpAny_typeOf (T := "tuple") ⟨_, hq', rfl⟩ ?_)
    refine wpAny_ite_true (by decide) ?_
    refine wpAny_bind (wpAny_seqItems hq' rfl (wpAny_pure ?_))
    dsimp only [Option.getD]
    refine wpAny_holding (wpAny_dictSet_pairs (knd := strKind prog w) (strKind_is _ _ _ _) (hD.extBut hs'.extBut hDI) (fun h2 hD2 hs2 => ?_) (by rw [sizeLine_eq]; omega))
    refine wpAny_pure ⟨plainId_quiet plain_dict_loop _, ?_⟩
    have e1 : (rawInt ((i : Int) + 1)) = .int ((i + 1 : Nat) : Int) 0 := by simp [rawInt]
    rw [e1]
    refine ih (i + 1) h2 _ (PySem.stored kvs k x) (by omega) (Nat.le_trans stored_length (by omega)) hD2 ?_ (fun b o e => hs2.extBut b o (hold b o e).1 (hkeep' b o e)) fun h3 tk3 hD3 hk3 => hR h3 tk3 ?_ hk3
    · exact hI'.extBut hs2.extBut (Ne.symm hDI)
    · have : ps.drop i = (k, x) :: ps.drop (i + 1) := by
        rw [List.drop_eq_getElem_cons (by omega)]
        have h5 := List.getElem?_eq_getElem (l := ps) (i := i) (by omega)
        rw [hps] at h5
        rw [← Option.some.inj h5]
      rw [this]
      exact hD3
end
section
variable {prog : Program} {A : Around} 
theorem dict_pairs {l : Addr} {vs : List Value} {ps : List (Str × Value)} {n : Nat} (hh : A.handled = none) (F : Fr h₀ L s.heap m) (N : News h₀ L s.heap news) (hbig : sysModules < h₀.objs.size) (hl : (l, listOf vs.toArray n) ∈ news) (r : PairsH s.heap vs ps) (hsz : ps.length ≤ 1000)
    (k : ∀ h' tk' o, Fr h₀ L h' m → News h₀ L h' ((s.heap.objs.size, o) :: news) → (s.heap.objs.size == sysModules) = false → o.IsDictOf (strKind prog w) (storeAll [] ps) → (∀ p ∈ news, p.1 ≠ s.heap.objs.size) → Q (.ref s.heap.objs.size) { s with heap := h', toks := tk' }) :
    wpAny (model prog w) A (call (.type "dict") [.ref l]) Q E s := by
  have hx := (N _ hl).1
  have key : ∀ h' tk', h'.DictOf (strKind prog w) s.heap.objs.size (storeAll [] ps) → (∀ b o, s.heap.get? b = some o → h'.get? b = some o) → Q (.ref s.heap.objs.size) { s with heap := h', toks := tk' } := by
    intro h' tk' hD hk
    obtain ⟨o', ho', hd'⟩ := Heap.dictOf_iff.mp hD
    refine k h' tk' o' (F.keeps hk) ?_ (F.notModules hbig) hd' N.apart
    exact news_pushed F N hk ho' rfl
  refine callType_codes (Q₁ := fun obj s₁ => obj = .ref s.heap.objs.size ∧ s₁ = { s with heap := s.heap.push { cls := .type "dict", data := .dict #[] } }) PySem.F.kt_called_dict (PySem.F.kt_typeCall_dict_1 _) PySem.F.entry_dict_init (kt_code_dict_new _ ⟨rfl, rfl⟩) ?_
  rintro obj s₁ ⟨rfl, rfl⟩
  have hnew : (s.heap.push { cls := .type "dict", data := .dict #[] }).DictOf (strKind prog w) s.heap.objs.size [] := Heap.DictOf.new s.heap
  have hx' : (s.heap.push { cls := .type "dict", data := .dict #[] }).get? l = some (listOf vs.toArray n) := Heap.get?_push_of_some _ hx
  refine ⟨hnew.typeIs, PySem.F.args_dict_init_2 _ _, ?_⟩
  unfold Builtin.«dict.__init__»
  refine wpAny_bind ?_
  unfold Builtin.Dict.selfAndRest
  refine wpAny_bind (wpAny_notOrdered_dict hnew.typeIs ?_)
  show wpAny _ _ (pure (s.heap.objs.size, [Value.ref l])) _ _ _
  refine wpAny_pure ?_
  show wpAny _ _ (Builtin.Dict.updateFrom "dict.__init__" s.heap.objs.size (.ref l) [] .none) _ _ _
  unfold Builtin.Dict.updateFrom
  refine wpAny_bind (wpAny_typeOf (T := "list") ⟨_, hx', rfl⟩ ?_)
  rw [if_pos (by decide)]
  refine wpAny_bind (keys_attr_list (A := _) hh hx' fun h2 t2 ho2 => ?_)
  simp only [Option.isNone_none, if_true]
  refine wpAny_bind (wpAny_rule ?_)
  have hl2 : h2.get? l = some (listOf vs.toArray n) := ho2 _ _ hx'
  refine wpAny_bind (wpAny_pyIter_list ⟨_, hl2, rfl, _, rfl⟩ ?_)
  have hD2 : h2.DictOf (strKind prog w) s.heap.objs.size [] := let ⟨o, es, ep, ho, x⟩ := hnew; ⟨o, es, ep, ho2 _ _ ho, x⟩
  have hDl : s.heap.objs.size < h2.objs.size := by
    obtain ⟨o, es, ep, ho, x⟩ := hD2
    exact Heap.lt_size ho
  refine wpAny_pure ⟨plainId_quiet plain_dict_loop _, ?_⟩
  refine dict_loop (A := A.in1) (s := s) (hp := s.heap) hh r (Nat.ne_of_lt hDl) (Nat.ne_of_lt (Heap.lt_size hl2)) (Nat.ne_of_lt (Heap.lt_size hx)) (fun b o e => ⟨Nat.ne_of_lt (Heap.lt_size e), Nat.ne_of_lt (Nat.lt_trans (Heap.lt_size e) hDl)⟩) hsz ⟨_, hx, rfl, _, rfl⟩ ps.length 0 _ _ [] (Nat.zero_add _).symm (Nat.zero_le _) (hD2.push _) ⟨{ cls := .type "list_iterator", data := .fields #[.ref l, .int 0 0] }, Heap.get?_push_size _ rfl, rfl, rfl⟩ (fun b o e => Heap.get?_push_of_some _ (ho2 _ _ (Heap.get?_push_of_some _ e))) fun h' tk' hD' hk' => ?_
  exact ⟨rfl, key h' tk' hD' hk'⟩
end
end
end PartDQ

section PartCC
open PySem PySem.W PyProof.Rows PySem.Calls
section
variable {w : World} {loose : List Str} {mean : ExcName → Option Value} {mg mb : Str → Option Value} {dp un : Nat} {gd : Option (List Code)} {cn : Str} {cs : Scope} {a : Addr} {ccd : Value} {cl : List (Str × Addr)} {outer : List Env} {A₀ : Around} {base h₀ : Heap} {L : Addr} {m : Str → Option Value} {s : Shared} {Q E : Value → Shared → Prop} {news : List (Addr × Obj)}
section
variable {prog : Program} {A : Around} {env : Env} {elt iter : Expr} {x x₂ : Str} {px px₂ tp : Pos} {kk : Nat} {scope : Scope} {pos : Pos}
theorem newEnv_cell {M : Model} {Q : Env → Shared → Prop} (hcells : ∀ n, cellsFrom n scope.names cl = (x₂, n) :: cl) (hpush : ∀ h, pushCells h scope.names = h.push { cls := .type "cell", data := .cell none })
    (hQ : Q { scope, locals := s.heap.objs.size, globals := env.globals, cells := (x₂, s.heap.objs.size + 1) :: cl, qual := env.qual, func := none, code := env.code, frame := env.frame, builtins := env.builtins }
      { s with heap := (s.heap.push { cls := .type "dict", data := .dict #[] }).push { cls := .type "cell", data := .cell none } }) :
    wpAny M A (newFunctionEnv scope env.globals cl [] env.qual none .none (some env)) Q E s := by
  simp only [newFunctionEnv, Option.isSome_some, if_true]
  refine wpAny_bind (wpAny_alloc ?_)
  refine wpAny_bind (wpAny_layCells _ (fun name kind cells => by cases hkc : kind == NameKind.cell <;> simp [hkc]) _ _ _ _ ?_)
  rw [hcells, hpush]
  rw [show ({ s with heap := s.heap.push { cls := .type "dict", data := .dict #[] } } : Shared).heap.objs.size = s.heap.objs.size + 1 from Heap.size_push ..]
  rw [List.forIn_nil]
  exact wpAny_bind (wpAny_pure (wpAny_pure hQ))
/-- the end of a turn of a block with one cell -/
inductive CEnd (h₀ : Heap) (L : Addr) (m : Str → Option Value) (s₁ : Shared) (I : Addr) (oI : Obj) (C : Addr) (oC : Obj) (c : Addr) (oc : Obj) (D : Addr) (oD : Obj) (rest : Value → List (Addr × Obj) → Prop) (y : Value) : Shared → Prop
  | mk (h' : Heap) (tk : Nat) (news' : List (Addr × Obj)) (F : Fr h₀ L h' m) (N : News h₀ L h' ((I, oI) :: (C, oC) :: (c, oc) :: (D, oD) :: news')) (off : LCg.Off3 I C D news') (offc : ∀ p ∈ news', (@Ne Nat p.1 c)) (r : rest y news') :
    CEnd h₀ L m s₁ I oI C oC c oc D oD rest y { s₁ with heap := h', toks := tk }
/-- what stands between the turns -/
inductive PcInv (h₀ : Heap) (L : Addr) (m : Str → Option Value) (s₂ : Shared) (I ax C D c : Addr) (its : List Value) (J : Nat → List Value → List (Addr × Obj) → Prop) : Nat → Shared → Prop
  | mk (h' : Heap) (tk i : Nat) (ys : List Value) (m' : Str → Option Value) (news' : List (Addr × Obj)) (oc : Option Value) (hi : i ≤ its.length) (hyl : ys.length = i) (hI : h'.IsListIter I ax i) (F : Fr h₀ L h' m) (hn : h'.Ns C m') (hc : h'.IsCell c oc)
      (N : News h₀ L h' ((D, LCg.lst ys) :: news')) (off : LCg.Off3 I C D news') (offc : ∀ p ∈ news', (@Ne Nat p.1 c)) (hJ : J i ys news') : PcInv h₀ L m s₂ I ax C D c its J (its.length + 1 - i) { s₂ with heap := h', toks := tk }
/-- a value of the ledger that is a pair -/
inductive PairAt (nw : List (Addr × Obj)) (v : Value) (R : Value → Value → Prop) : Prop
  | mk (t : Addr) (ot : Obj) (v₁ v₂ : Value) (nt : Nat) (hv : v = .ref t) (hm : (t, ot) ∈ nw) (hc : ot.cls = .type "tuple") (hd : ot.data = .seq #[v₁, v₂] nt) (r : R v₁ v₂) : PairAt nw v R
theorem PairAt.imp {nw : List (Addr × Obj)} {v : Value} {R R' : Value → Value → Prop} (h : PairAt nw v R) (f : ∀ v₁ v₂, R v₁ v₂ → R' v₁ v₂) : PairAt nw v R' :=
  let ⟨t, ot, v₁, v₂, nt, hv, hm, hc, hd, r⟩ := h
  ⟨t, ot, v₁, v₂, nt, hv, hm, hc, hd, f _ _ r⟩
theorem block_PC {s₂ : Shared} {I ax : Addr} {its : List Value} {ki : Nat} (J : Nat → List Value → List (Addr × Obj) → Prop) {RR : Value → Addr → Result → Shared → Prop}
    (hh : A.handled = none) (hsz : its.length ≤ sizeLine) (hcells : ∀ n, cellsFrom n scope.names cl = (x₂, n) :: cl) (hpush : ∀ h, pushCells h scope.names = h.push { cls := .type "cell", data := .cell none })
    (hkind : scope.kind = .function) (hx : scope.names.lookup x = some .local) (hx₂ : ∀ c C, (compEnvC scope ((x₂, c) :: cl) C env).kindOf x₂ = some .cell)
    (hI : s₂.heap.IsListIter I ax 0) (hne : ax ≠ I)
    (F : Fr h₀ L s₂.heap m) (N : News h₀ L s₂.heap news) (hIL : L ≠ I) (hI₀ : h₀.get? I = none) (off : ∀ p ∈ news, p.1 ≠ I)
    (hJm : ∀ i ys nw, J i ys nw → (ax, listOf its.toArray ki) ∈ nw)
    (hJ : J 0 [] news)
    (turn : ∀ i v ys nw, its[i]? = some v → J i ys nw → PairAt nw v fun v₁ v₂ => ∀ oI C oC c oc D m₂ h tk (E' : Value → Shared → Prop), oc.data = .cell (some v₂) → LCg.NsObj oC m₂ → m₂ x = some v₁ → Fr h₀ L h m → News h₀ L h ((I, oI) :: (C, oC) :: (c, oc) :: (D, LCg.lst ys) :: nw) → LCg.Off3 I C D nw → (∀ p ∈ nw, (@Ne Nat p.1 c)) →
        wpAny (model prog w) A (eval elt (compEnvC scope ((x₂, c) :: cl) C env)) (CEnd h₀ L m { s₂ with heap := h, toks := tk } I oI C oC c oc D (LCg.lst ys) (fun y news' => J (i + 1) (ys ++ [y]) news')) E' { s₂ with heap := h, toks := tk })
    (hRR : ∀ D C h tk m' ys news', Fr h₀ L h m → News h₀ L h ((D, LCg.lst ys) :: news') → LCg.Off1 D news' → h.Ns C m' → h₀.get? C = none → h₀.get? D = none → C ≠ L → D ≠ L → C ≠ D → (∀ p ∈ news', p.1 ≠ C) → J its.length ys news' → RR (.ref D) C (.ok .next) { s₂ with heap := h, toks := tk }) :
    wpAny (model prog w) A (newList []) (fun acc s₃ => wpAny (model prog w) A (newFunctionEnv scope env.globals cl [] env.qual none .none (some env)) (fun cenv s₄ =>
      codeAny (model prog w) A (.compStart (.ListComp elt [⟨.Tuple [.Name x px, .Name x₂ px₂] kk tp, iter, [], 0⟩] scope pos) 0 (.ref I) acc { cenv with scope := relabel scope env }) (RR acc cenv.locals) s₄) E s₃) E s₂ := by
  refine wpAny_newObj_type (newEnv_cell hcells hpush ?_)
  dsimp only
  generalize hD : s₂.heap.objs.size = D
  have hC : (s₂.heap.push { cls := .type "list", dict := none, data := .seq ([] : List Value).toArray }).objs.size = D + 1 := by rw [Heap.size_push, hD]
  rw [hC]
  generalize hh1 : ((s₂.heap.push { cls := .type "list", dict := none, data := .seq ([] : List Value).toArray }).push { cls := .type "dict", data := .dict #[] }).push { cls := .type "cell", data := .cell none } = h₁
  have hlt : ∀ b o, s₂.heap.get? b = some o → b < D := fun b o e => hD ▸ Heap.lt_size e
  have old : ∀ b o, s₂.heap.get? b = some o → h₁.get? b = some o := fun b o e => by
    rw [← hh1]
    exact Heap.get?_push_of_some _ (Heap.get?_push_of_some _ (Heap.get?_push_of_some _ e))
  have hacc : h₁.get? D = some (LCg.lst []) := by
    rw [← hh1]
    refine Heap.get?_push_of_some _ (Heap.get?_push_of_some _ ?_)
    rw [← hD]
    exact Heap.get?_push_size _ rfl
  have hns₁ : h₁.Ns (D + 1) (fun _ => none) := by
    have := (Heap.Ns.new (s₂.heap.push { cls := .type "list", dict := none, data := .seq ([] : List Value).toArray }) (.type "dict"))
    rw [hC] at this
    rw [← hh1]
    exact this.at' fun o e => Heap.get?_push_of_some _ e
  have hcell₁ : h₁.IsCell (D + 2) none := by
    rw [← hh1]
    refine ⟨{ cls := .type "cell", data := .cell none }, ?_, rfl⟩
    have : ((s₂.heap.push { cls := .type "list", dict := none, data := .seq ([] : List Value).toArray }).push { cls := .type "dict", data := .dict #[] }).objs.size = D + 2 := by rw [Heap.size_push, hC]
    rw [← this]
    exact Heap.get?_push_size _ rfl
  have fresh₀ : ∀ a, D ≤ a → h₀.get? a = none := fun a ha => by
    cases e : h₀.get? a with
    | none => rfl
    | some o' => exact absurd (hlt a o' (F.keep a o' e)) (Nat.not_lt.mpr ha)
  have hD₀ : h₀.get? D = none := fresh₀ _ (Nat.le_refl _)
  have hC₀ : h₀.get? (D + 1) = none := fresh₀ _ (Nat.le_succ _)
  have hc₀ : h₀.get? (D + 2) = none := fresh₀ _ (Nat.le_add_right _ _)
  have hLlt : L < D := hD ▸ F.ns.lt
  have hDL : D ≠ L := Nat.ne_of_gt hLlt
  have hCL : D + 1 ≠ L := Nat.ne_of_gt (Nat.lt_succ_of_lt hLlt)
  have hcL : D + 2 ≠ L := Nat.ne_of_gt (Nat.lt_succ_of_lt (Nat.lt_succ_of_lt hLlt))
  have hIlt : I < D := by obtain ⟨o, e, _⟩ := hI; exact hlt _ _ e
  have hDI : D ≠ I := Nat.ne_of_gt hIlt
  have hCI : D + 1 ≠ I := Nat.ne_of_gt (Nat.lt_succ_of_lt hIlt)
  have hcI : D + 2 ≠ I := Nat.ne_of_gt (Nat.lt_succ_of_lt (Nat.lt_succ_of_lt hIlt))
  have hCD : D + 1 ≠ D := Nat.succ_ne_self D
  have hcD : D + 2 ≠ D := Nat.ne_of_gt (Nat.lt_add_of_pos_right (by decide))
  have hcC : D + 2 ≠ D + 1 := Nat.ne_of_gt (Nat.lt_succ_self _)
  have off₀ : LCg.Off3 I (D + 1) D news := LCg.Off3.of fun p hp => ⟨off p hp, Nat.ne_of_lt (Nat.lt_succ_of_lt (hlt _ _ (N p hp).1)), Nat.ne_of_lt (hlt _ _ (N p hp).1)⟩
  have off₁ : ∀ p ∈ news, (@Ne Nat p.1 (D + 2)) := fun p hp => Nat.ne_of_lt (Nat.lt_succ_of_lt (Nat.lt_succ_of_lt (hlt _ _ (N p hp).1)))
  have hI₁ : h₁.IsListIter I ax 0 := let ⟨o, e, r⟩ := hI; ⟨o, old _ _ e, r⟩
  have hzero : (fun x => ([] : List (Str × Value)).reverse.lookup x) = fun _ => none := rfl
  have loop : ∀ s₃ : Shared, s₃ = { s₂ with heap := h₁ } →
      codeAny (model prog w) A (.compLoop (.ListComp elt [⟨.Tuple [.Name x px, .Name x₂ px₂] kk tp, iter, [], 0⟩] scope pos) 0 (.ref I) (.ref D) (compEnvC scope ((x₂, D + 2) :: cl) (D + 1) env))
        (RR (.ref D) (D + 1)) s₃ := by
    rintro s₃ rfl
    refine LCp.codeAny_compLoop_pair
      (PcInv h₀ L m s₂ I ax (D + 1) D (D + 2) its J) ?_ (its.length + 1)
      (.mk h₁ _ 0 [] _ news _ (Nat.zero_le _) rfl hI₁ (F.keeps old) hns₁ hcell₁ (fun p hp => ?_) off₀ off₁ hJ)
    · intro k s' h9
      induction h9
      rename_i h' tk i ys m' news' oc hi hyl hI' F' hn' hc' N' off' offc J'
      have off3 := off'.mem
      have hl' : h'.IsList ax its.toArray := ⟨_, (N' _ (.tail _ (hJm _ _ _ J'))).1, rfl, ki, rfl⟩
      by_cases hlt' : i < its.length
      · refine wpAny_pyNext_list_item hI' hl' (x := its[i]) (by simp [hlt']) fun h₂ hI₂ hs₂ => ?_
        have hk₂ : ∀ b o, b ∉ [I] → h'.get? b = some o → h₂.get? b = some o := fun b o hb e => hs₂.extBut b o (by simpa using hb) e
        obtain ⟨t, ot, v₁, v₂, nt, hv, hmt, hct, hdt, R''⟩ := turn i its[i] ys news' (by simp [hlt']) J'
        dsimp only
        rw [hv]
        have N₂ : News h₀ L h₂ ((D, LCg.lst ys) :: news') := LCg.news_but N' hk₂ fun p hp => by
          rcases List.mem_cons.mp hp with rfl | hp
          · exact hDI
          · exact (off3 p hp).1
        have ht : IsTup h₂ t #[v₁, v₂] := ⟨ot, (N₂ _ (List.mem_cons_of_mem _ hmt)).1, hct, nt, hdt⟩
        refine wpAny_letOwnedTupleGo_listiter hI₂ ?_
        refine assign_Tuple_tuple hh ht rfl rfl fun h₅ he => ?_
        have he' : ∀ b o, h₂.get? b = some o → h₅.get? b = some o := fun b o e => he b o (Nat.ne_of_lt (Heap.lt_size e)) e
        refine assignInOrder_cons (wpAny_assign_Name (wpAny_storeName_local (lookup_relabel_local hx) ((hn'.at' fun o e => hk₂ _ o (by simpa using hCI) e).at' fun o e => he' _ o e) (fun h₆ hn₆ hs₆ => ?_) (by simp [compEnvC, relabel, hkind])))
        have hc₆ : h₆.IsCell (D + 2) oc := by
          obtain ⟨o, e, r⟩ := hc'
          exact ⟨o, hs₆.extBut _ _ hcC (he' _ _ (hs₂.extBut _ _ hcI e)), r⟩
        refine assignInOrder_cons (wpAny_assign_Name (wpAny_storeName_cell (c := D + 2) (by simp [compEnvC, relabel, hkind]) (hx₂ _ _) (by simp [compEnvC]) hc₆ (fun h₃ hc₃ hs₃ => ?_)))
        refine assignInOrder_nil ?_
        have hn₃ := hn₆.sameBut hs₃ (Ne.symm hcC)
        have old3 : ∀ b o, b ≠ D + 1 → b ≠ D + 2 → h₂.get? b = some o → h₃.get? b = some o := fun b o hb hb2 e => hs₃.extBut b o hb2 (hs₆.extBut b o hb (he' b o e))
        have hI₃ : h₃.IsListIter I ax (i + 1) := let ⟨o, e, r⟩ := hI₂; ⟨o, old3 _ _ (Ne.symm hCI) (Ne.symm hcI) e, r⟩
        refine gen_goal fun G9 hG9 => ?_
        obtain ⟨oI, heI, hrI⟩ := hI₃
        obtain ⟨oC, heC, hoC⟩ := LCg.ns_obj hn₃
        obtain ⟨oc₃, hec, hoc⟩ := hc₃
        refine hG9 ?_
        clear hG9 G9
        have F₃ : Fr h₀ L h₃ m := (((LCg.fr_but F' hk₂ hIL hI₀).keeps he').change hs₆ hCL hC₀).change hs₃ hcL hc₀
        have N₃ : News h₀ L h₃ ((I, oI) :: (D + 1, oC) :: (D + 2, oc₃) :: (D, LCg.lst ys) :: news') := fun p hp => by
          rcases List.mem_cons.mp hp with rfl | hp
          · exact ⟨heI, Ne.symm hIL, hI₀⟩
          rcases List.mem_cons.mp hp with rfl | hp
          · exact ⟨heC, hCL, hC₀⟩
          rcases List.mem_cons.mp hp with rfl | hp
          · exact ⟨hec, hcL, hc₀⟩
          · have z := N₂ p hp
            refine ⟨old3 _ _ ?_ ?_ z.1, z.2⟩
            · rcases List.mem_cons.mp hp with rfl | hp
              · exact Ne.symm hCD
              · exact (off3 p hp).2.1
            · rcases List.mem_cons.mp hp with rfl | hp
              · exact Ne.symm hcD
              · exact offc p hp
        refine wpAny_mono (R'' oI (D + 1) oC (D + 2) oc₃ D _ h₃ _ _ hoc hoC (by simp) F₃ N₃ off' offc) (fun y s₄ h₄ => ?_) fun _ _ e => e
        induction h₄
        rename_i h₄ tk₄ news₄ F₄ N₄ off₄ offc₄ J₄
        have zI := (N₄ (I, oI) (.head _)).1
        have zC := (N₄ (D + 1, oC) (.tail _ (.head _))).1
        have zc := (N₄ (D + 2, oc₃) (.tail _ (.tail _ (.head _)))).1
        have zD := (N₄ (D, LCg.lst ys) (.tail _ (.tail _ (.tail _ (.head _))))).1
        have N₄' : News h₀ L h₄ news₄ := fun p hp => N₄ p (.tail _ (.tail _ (.tail _ (.tail _ hp))))
        refine append_at (hsz := by show ys.toArray.size ≤ sizeLine; rw [List.size_toArray, hyl]; exact Nat.le_trans hi hsz) zD fun h₅ hs₅ hD₅ => ?_
        have off4 := off₄.mem
        refine ⟨_, ar_dec hlt', .mk h₅ tk₄ (i + 1) (ys ++ [y]) _ news₄ _ hlt' (by rw [List.length_append, List.length_singleton, hyl]) ⟨oI, hs₅.extBut _ _ (Ne.symm hDI) zI, hrI⟩ (F₄.change hs₅ hDL hD₀)
          ((hoC.ns zC).sameBut hs₅ hCD) ⟨oc₃, hs₅.extBut _ _ hcD zc, hoc⟩ (fun p hp => ?_) off₄ offc₄ J₄⟩
        rcases List.mem_cons.mp hp with rfl | hp
        · exact ⟨hD₅.trans (congrArg some (LCg.lst_snoc ys y)), hDL, hD₀⟩
        · exact ⟨hs₅.extBut _ _ (off4 p hp).2.2 (N₄' p hp).1, (N₄' p hp).2⟩
      · obtain rfl : i = its.length := Nat.le_antisymm hi (Nat.not_lt.mp hlt')
        refine wpAny_pyNext_list_end hh hI' hl' (by simp) fun h₂ hs₂ => ?_
        have hk₂ : ∀ b o, b ∉ [I] → h'.get? b = some o → h₂.get? b = some o := fun b o hb e => hs₂ b o (by simpa using hb) e
        exact hRR _ _ h₂ tk _ ys news' (LCg.fr_but F' hk₂ hIL hI₀) (LCg.news_but N' hk₂ fun p hp => by
          rcases List.mem_cons.mp hp with rfl | hp
          · exact hDI
          · exact (off3 p hp).1) off'.one (hn'.at' fun o e => hk₂ _ o (by simpa using hCI) e) hC₀ hD₀ hCL hDL hCD (fun p hp => (off3 p hp).2.1) J'
    · rcases List.mem_cons.mp hp with rfl | hp
      · exact ⟨hacc, hDL, hD₀⟩
      · exact ⟨old _ _ (N p hp).1, (N p hp).2⟩
  refine codeAny_compStart_list (loop _ rfl) ?_
  obtain ⟨o, e, r⟩ := hI₁
  exact wpAny_pyIter_listiter ⟨o, e, r⟩ (loop _ rfl)
/-- what is iterated is a ledger's list of pairs -/
inductive SrcPC (prog : Program) (w : World) (A : Around) (env : Env) (elt : Expr) (x x₂ : Str) (scope : Scope) (cl : List (Str × Addr)) (h₀ : Heap) (L : Addr) (m : Str → Option Value) (its : List Value) (ki : Nat) (ax : Addr) (J : List (Addr × Obj) → Nat → List Value → List (Addr × Obj) → Prop) (Q : Value → Shared → Prop) : Value → Shared → Prop
  | mk (s₁ : Shared) (news : List (Addr × Obj)) (F : Fr h₀ L s₁.heap m) (N : News h₀ L s₁.heap news) (hJm : ∀ i ys nw, J news i ys nw → (ax, listOf its.toArray ki) ∈ nw) (hJ : J news 0 [] news)
      (turn : ∀ g i v ys nw, its[i]? = some v → J news i ys nw → PairAt nw v fun v₁ v₂ =>
        ∀ I oI C oC c oc D m₂ h tk (E' : Value → Shared → Prop), oc.data = .cell (some v₂) → LCg.NsObj oC m₂ → m₂ x = some v₁ → Fr h₀ L h m → News h₀ L h ((I, oI) :: (C, oC) :: (c, oc) :: (D, LCg.lst ys) :: nw) → LCg.Off3 I C D nw → (∀ p ∈ nw, (@Ne Nat p.1 c)) →
          wpAny (model prog w) A (eval elt (compEnvC scope ((x₂, c) :: cl) C env)) (CEnd h₀ L m { s₁ with heap := h, toks := tk } I oI C oC c oc D (LCg.lst ys) (fun y news' => J news (i + 1) (ys ++ [y]) news')) E' { ({ s₁ with heap := g } : Shared) with heap := h, toks := tk })
      (fin : ∀ g D h tk ys nw, J news its.length ys nw → Fr h₀ L h m → News h₀ L h ((D, LCg.lst ys) :: nw) → LCg.Off1 D nw → Q (.ref D) { ({ s₁ with heap := g } : Shared) with heap := h, toks := tk }) :
      SrcPC prog w A env elt x x₂ scope cl h₀ L m its ki ax J Q (.ref ax) s₁
/-- a comprehension over a ledger's list of pairs, the second name kept in a cell -/
theorem ListComp_PC {its : List Value} {ki : Nat} {ax : Addr} (J : List (Addr × Obj) → Nat → List Value → List (Addr × Obj) → Prop) (hh : A.handled = none) (hsz : its.length ≤ sizeLine)
    (hclos : closureFor scope env = pure cl) (hnames : ∀ y ∈ scope.names, y.2 = .local → scope.names.lookup y.1 = some .local)
    (hcells : ∀ n, cellsFrom n scope.names cl = (x₂, n) :: cl) (hpush : ∀ h, pushCells h scope.names = h.push { cls := .type "cell", data := .cell none })
    (hkind : scope.kind = .function) (hx : scope.names.lookup x = some .local) (hx₂ : ∀ c C, (compEnvC scope ((x₂, c) :: cl) C env).kindOf x₂ = some .cell)
    (h : wpAny (model prog w) A (eval iter env) (SrcPC prog w A env elt x x₂ scope cl h₀ L m its ki ax J Q) E s)
    (hs : ∀ x, foldedSetIterable iter env x = pure x := by intro _; rfl) :
    wpAny (model prog w) A (eval (.ListComp elt [⟨.Tuple [.Name x px, .Name x₂ px₂] kk tp, iter, [], 0⟩] scope pos) env) Q E s := by
  rw [eval_ListComp]
  refine wpAny_comprehension_free (use := none) rfl hs hclos hkind hnames (wpAny_mono h (fun xv s₁ h₁ => ?_) fun _ _ e => e)
  obtain ⟨_, news, F, N, hJm, hJ, turn, fin⟩ := h₁
  have hm := hJm _ _ _ hJ
  have hl : s₁.heap.IsList ax its.toArray := ⟨_, (N _ hm).1, rfl, ki, rfl⟩
  have hlt : ax < s₁.heap.objs.size := Heap.lt_size (N _ hm).1
  refine wpAny_pyIter_list hl ?_
  have up : ∀ b o, s₁.heap.get? b = some o → (s₁.heap.push { cls := .type "list_iterator", data := .fields #[.ref ax, .int 0 0] }).get? b = some o := fun b o e => Heap.get?_push_of_some _ e
  refine block_PC (its := its) (ki := ki) (ax := ax) (J news) hh hsz hcells hpush hkind hx hx₂ ⟨_, Heap.get?_push_size _ rfl, rfl, rfl⟩ (Nat.ne_of_lt hlt) (F.keeps up) (N.grown up) (Nat.ne_of_lt F.ns.lt) (next_is_new F) (fun p hp => Nat.ne_of_lt (Heap.lt_size (N p hp).1)) hJm hJ ?_ ?_
  · exact fun i v ys nw hv hJ' => (turn (s₁.heap.push { cls := .type "list_iterator", data := .fields #[.ref ax, .int 0 0] }) i v ys nw hv hJ').imp fun v₁ v₂ R => R _
  · intro D C h tk m' ys news' F' N' o1 hn hC₀ hD₀ hCL hDL hCD offC hJ'
    refine ⟨m', hn, fun h'' hs'' => fin s₁.heap D h'' tk ys news' hJ' (F'.change hs'' hCL hC₀) (fun p hp => ?_) o1⟩
    refine ⟨hs''.extBut _ _ ?_ (N' p hp).1, (N' p hp).2⟩
    rcases List.mem_cons.mp hp with rfl | hp
    · exact Ne.symm hCD
    · exact offC p hp
end
end
end PartCC

section PartEF
open PySem PySem.W PyProof.Rows PySem.Calls
section
variable {w : World} {loose : List Str} {mean : ExcName → Option Value} {mg mb : Str → Option Value} {dp un : Nat} {gd : Option (List Code)} {cn : Str} {cs : Scope} {a : Addr} {ccd : Value} {cl : List (Str × Addr)} {outer : List Env} {A₀ : Around} {base h₀ : Heap} {L : Addr} {m : Str → Option Value} {s : Shared} {Q E : Value → Shared → Prop} {news : List (Addr × Obj)}
/-- whether an entry of this sort is wrong behind those sorts -/
noncomputable def faultB (sort : Str) (sorts : List Str) (strict : Bool) : Bool :=
  bif sort == "init" then (sorts.any (· == "get") || sorts.any (· == "set") || (strict && sorts.any (· == "init"))) else (sorts.any (· == "init") || sorts.any (· == sort))
/-- what a dict of lists of texts holds at a key -/
noncomputable def HoldsAt (news : List (Addr × Obj)) (kvs : List (Str × Value)) (key : Str) (sorts : List Str) : Prop :=
  (valueAt kvs key = none ∧ sorts = []) ∨ ∃ a vs n, valueAt kvs key = some (.ref a) ∧ (a, listOf vs.toArray n) ∈ news ∧ StrsAre vs sorts
theorem off_lt1 {kd T : Addr} {od : Obj} {nw : List (Addr × Obj)} (h : kd < T ∧ AllLt T nw) : ∀ p ∈ (kd, od) :: nw, (@Ne Nat p.1 T) := by
  intro p hp
  rcases List.mem_cons.mp hp with rfl | hp
  · exact Nat.ne_of_lt h.1
  · exact Nat.ne_of_lt (ktn_ltOf h.2 p hp)
theorem key_in2 {a key b : Str} {x : Str} (h : x ∈ (some (a ++ key ++ b) : Option Str)) : ∃ a b, x = a ++ key ++ b := by
  cases h
  exact ⟨a, b, rfl⟩
theorem list_not_dict {h : Heap} {knd : KeyKind prog w Str} {h₀ : Heap} {L : Addr} {led : List (Addr × Obj)} {a kd : Addr} {vs : Array Value} {n : Nat} {od : Obj} {kvs : List (Str × Value)} (N : News h₀ L h led) (hd : od.IsDictOf knd kvs) (h1 : (a, listOf vs n) ∈ led) (h2 : (kd, od) ∈ led) : @Ne Nat a kd := by
  rintro rfl
  have e := (N _ h1).1
  rw [(N _ h2).1] at e
  obtain ⟨es, ep, _, hdt, _⟩ := hd
  have e2 := congrArg (fun o : Option Obj => o.map (·.data)) e
  simp only [Option.map_some, Option.some.injEq, hdt] at e2
  cases e2
section
variable {prog : Program} {A : Around}
theorem add_led {a b : Addr} {vs us : List Value} {n n2 : Nat} (F : Fr h₀ L s.heap m) (N : News h₀ L s.heap news) (ha : (a, listOf vs.toArray n) ∈ news) (hb : (b, listOf us.toArray n2) ∈ news)
    (h : ∀ D h', Fr h₀ L h' m → News h₀ L h' ((D, listOf (vs ++ us).toArray 0) :: news) → (∀ p ∈ news, p.1 < D) → Q (.ref D) { s with heap := h' })
    (hz : vs.length + us.length ≤ sizeLine) : wpAny (model prog w) A (binaryOp .Add (.ref a) (.ref b)) Q E s :=
  kmk_add_lit F N (News.isList N ha) (News.isList N hb) (zs := vs ++ us) (by simp) h (by simpa using hz)
theorem ef_get {D kd : Addr} {od : Obj} {kvs : List (Str × Value)} {key : Str} {t : Tok} {sorts : List Str} (N : News h₀ L s.heap ((D, listOf #[] 0) :: (kd, od) :: news)) (hd : od.IsDictOf (strKind prog w) kvs) (lo : (kd == sysModules) = false)
    (hg : HoldsAt news kvs key sorts) (h : ∀ sa svs sn, (@Ne Nat sa kd) → StrsAre svs sorts → News h₀ L s.heap ((sa, listOf svs.toArray sn) :: (D, listOf #[] 0) :: (kd, od) :: news) → Q (.ref sa) { s with toks := s.toks + 1 }) :
    wpAny (model prog w) A (call (.builtin "dict.get") [.ref kd, .str key t, .ref D]) Q E s := by
  refine kdg_get2 (knd := strKind prog w) N (.tail _ (.head _)) hd lo (strKind_is _ _ _ _) _ rfl ?_
  rcases hg with ⟨e, rfl⟩ | ⟨a, vs, n, e, hm, hS⟩
  · rw [e]
    exact h D [] 0 (list_not_dict N hd (.head _) (.tail _ (.head _))) .nil (News.cons_old N (.head _))
  · rw [e]
    exact h a vs n (list_not_dict N hd (.tail _ (.tail _ hm)) (.tail _ (.head _))) hS (News.cons_old N (.tail _ (.tail _ hm)))
end
section
set_option maxRecDepth 100000 in
set_option maxHeartbeats 4000000 in
theorem ef_ok {kd : Addr} {od : Obj} {kvs : List (Str × Value)} {sort key : Str} {sorts : List Str} {strict : Bool} {t1 t2 : Tok}
    (B : Below A₀ base outer h₀) (F : Fr h₀ L s.heap m) (X : (hd.heap_39 w.params).In h₀) (N : News h₀ L s.heap ((kd, od) :: news))
    (T : Top hd.view_39 loose mean mg mb h₀) (hk : cs.kind = .function) (hdp : dp + 4 < recursionLimit) (hun : un + 100 < cLine)
    (hd : od.IsDictOf (strKind PySem.Challenge.rw_pc0067_01.row.prog w) kvs) (lo : (kd == sysModules) = false) (hkl : kvs.length ≤ 63) (hg : HoldsAt news kvs key sorts) (hlen : sorts.length ≤ 63) (hx : key.length ≤ 100) (hoff : ∀ q ∈ news, q.1 ≠ kd)
    (hret : ∀ (r : Option Str) (t : Tok) (L' : Addr) (ys : List Value) (n : Nat) (od' : Obj) (h' : Heap) (tk' : Nat), r.isSome = faultB sort sorts strict → (∀ x ∈ r, ∃ a b, x = a ++ key ++ b) → Fr h₀ L h' m → News h₀ L h' ((L', listOf ys.toArray n) :: (kd, od') :: news) →
      od'.IsDictOf (strKind PySem.Challenge.rw_pc0067_01.row.prog w) (PySem.stored kvs key (.ref L')) → StrsAre ys (sorts ++ [sort]) → (∀ q ∈ (kd, od) :: news, (@Ne Nat q.1 L')) → Q (optV t r) { s with heap := h', toks := tk' }) :
    wpAny (model PySem.Challenge.rw_pc0067_01.row.prog w) (ktrTop dp un gd cn cs L a ccd cl outer) (call (.ref 73) [.ref kd, .str sort t1, .str key t2, .bool strict]) Q E s := by
  k_with_none
  k_with "room" => (first | exact un1 (by assumption) (by decide) | exact un2 (by assumption) (by decide) | exact un3 (by assumption) (by decide) | exact un0 (by assumption) | exact Nat.le_of_ble_eq_true rfl | fail "room")
  k_with "ne" => (first | assumption | exact Ne.symm (by assumption) | exact Nat.ne_of_lt (by assumption) | exact Nat.ne_of_gt (by assumption) | exact (cj1 (by assumption)) | exact (cj2 (by assumption)) | exact (cj3 (by assumption)) | exact (cj4 (by assumption)) | exact (cj5 (by assumption)) | exact (cj6 (by assumption)) | exact (cj7 (by assumption)) | exact (cj8 (by assumption)) | exact (cj9 (by assumption)) | exact (cj10 (by assumption)) | exact (cj11 (by assumption)) | exact (cj12 (by assumption)) | exact (ce2 (by assumption)) | exact (ce3 (by assumption)) | exact (ce4 (by assumption)) | exact (ce5 (by assumption)) | exact (ce6 (by assumption)) | exact (ce7 (by assumption)) | exact (ce8 (by assumption)) | exact (ce9 (by assumption)) | exact (ce10 (by assumption)) | exact (ce11 (by assumption)) | exact (ce12 (by assumption)) | exact Ne.symm (cj1 (by assumption)) | exact Ne.symm (cj2 (by assumption)) | exact Ne.symm (cj3 (by assumption)) | exact Ne.symm (cj4 (by assumption)) | exact Ne.symm (cj5 (by assumption)) | exact Ne.symm (cj6 (by assumption)) | exact Ne.symm (cj7 (by assumption)) | exact Ne.symm (cj8 (by assumption)) | exact Ne.symm (cj9 (by assumption)) | exact Ne.symm (cj10 (by assumption)) | exact Ne.symm (cj11 (by assumption)) | exact Ne.symm (cj12 (by assumption)) | exact Ne.symm (ce2 (by assumption)) | exact Ne.symm (ce3 (by assumption)) | exact Ne.symm (ce4 (by assumption)) | exact Ne.symm (ce5 (by assumption)) | exact Ne.symm (ce6 (by assumption)) | exact Ne.symm (ce7 (by assumption)) | exact Ne.symm (ce8 (by assumption)) | exact Ne.symm (ce9 (by assumption)) | exact Ne.symm (ce10 (by assumption)) | exact Ne.symm (ce11 (by assumption)) | exact Ne.symm (ce12 (by assumption)) | exact Nat.ne_of_lt (cj1 (by assumption)) | exact Nat.ne_of_lt (cj2 (by assumption)) | exact Nat.ne_of_lt (cj3 (by assumption)) | exact Nat.ne_of_lt (cj4 (by assumption)) | exact Nat.ne_of_lt (cj5 (by assumption)) | exact Nat.ne_of_lt (cj6 (by assumption)) | exact Nat.ne_of_lt (cj7 (by assumption)) | exact Nat.ne_of_lt (cj8 (by assumption)) | exact Nat.ne_of_lt (cj9 (by assumption)) | exact Nat.ne_of_lt (cj10 (by assumption)) | exact Nat.ne_of_lt (cj11 (by assumption)) | exact Nat.ne_of_lt (cj12 (by assumption)) | exact Nat.ne_of_lt (ce2 (by assumption)) | exact Nat.ne_of_lt (ce3 (by assumption)) | exact Nat.ne_of_lt (ce4 (by assumption)) | exact Nat.ne_of_lt (ce5 (by assumption)) | exact Nat.ne_of_lt (ce6 (by assumption)) | exact Nat.ne_of_lt (ce7 (by assumption)) | exact Nat.ne_of_lt (ce8 (by assumption)) | exact Nat.ne_of_lt (ce9 (by assumption)) | exact Nat.ne_of_lt (ce10 (by assumption)) | exact Nat.ne_of_lt (ce11 (by assumption)) | exact Nat.ne_of_lt (ce12 (by assumption)) | exact Nat.ne_of_gt (cj1 (by assumption)) | exact Nat.ne_of_gt (cj2 (by assumption)) | exact Nat.ne_of_gt (cj3 (by assumption)) | exact Nat.ne_of_gt (cj4 (by assumption)) | exact Nat.ne_of_gt (cj5 (by assumption)) | exact Nat.ne_of_gt (cj6 (by assumption)) | exact Nat.ne_of_gt (cj7 (by assumption)) | exact Nat.ne_of_gt (cj8 (by assumption)) | exact Nat.ne_of_gt (cj9 (by assumption)) | exact Nat.ne_of_gt (cj10 (by assumption)) | exact Nat.ne_of_gt (cj11 (by assumption)) | exact Nat.ne_of_gt (cj12 (by assumption)) | exact Nat.ne_of_gt (ce2 (by assumption)) | exact Nat.ne_of_gt (ce3 (by assumption)) | exact Nat.ne_of_gt (ce4 (by assumption)) | exact Nat.ne_of_gt (ce5 (by assumption)) | exact Nat.ne_of_gt (ce6 (by assumption)) | exact Nat.ne_of_gt (ce7 (by assumption)) | exact Nat.ne_of_gt (ce8 (by assumption)) | exact Nat.ne_of_gt (ce9 (by assumption)) | exact Nat.ne_of_gt (ce10 (by assumption)) | exact Nat.ne_of_gt (ce11 (by assumption)) | exact Nat.ne_of_gt (ce12 (by assumption)) | exact cj1 (cj1 (by assumption)) | exact cj2 (cj1 (by assumption)) | exact ce3 (cj1 (by assumption)) | exact cj1 (cj2 (by assumption)) | exact cj2 (cj2 (by assumption)) | exact ce3 (cj2 (by assumption)) | exact cj1 (cj3 (by assumption)) | exact cj2 (cj3 (by assumption)) | exact ce3 (cj3 (by assumption)) | exact cj1 (cj4 (by assumption)) | exact cj2 (cj4 (by assumption)) | exact ce3 (cj4 (by assumption)) | exact cj1 (cj5 (by assumption)) | exact cj2 (cj5 (by assumption)) | exact ce3 (cj5 (by assumption)) | exact cj1 (cj6 (by assumption)) | exact cj2 (cj6 (by assumption)) | exact ce3 (cj6 (by assumption)) | exact cj1 (cj7 (by assumption)) | exact cj2 (cj7 (by assumption)) | exact ce3 (cj7 (by assumption)) | exact Ne.symm (cj1 (cj1 (by assumption))) | exact Ne.symm (cj2 (cj1 (by assumption))) | exact Ne.symm (ce3 (cj1 (by assumption))) | exact Ne.symm (cj1 (cj2 (by assumption))) | exact Ne.symm (cj2 (cj2 (by assumption))) | exact Ne.symm (ce3 (cj2 (by assumption))) | exact Ne.symm (cj1 (cj3 (by assumption))) | exact Ne.symm (cj2 (cj3 (by assumption))) | exact Ne.symm (ce3 (cj3 (by assumption))) | exact Ne.symm (cj1 (cj4 (by assumption))) | exact Ne.symm (cj2 (cj4 (by assumption))) | exact Ne.symm (ce3 (cj4 (by assumption))) | exact Ne.symm (cj1 (cj5 (by assumption))) | exact Ne.symm (cj2 (cj5 (by assumption))) | exact Ne.symm (ce3 (cj5 (by assumption))) | exact Ne.symm (cj1 (cj6 (by assumption))) | exact Ne.symm (cj2 (cj6 (by assumption))) | exact Ne.symm (ce3 (cj6 (by assumption))) | exact Ne.symm (cj1 (cj7 (by assumption))) | exact Ne.symm (cj2 (cj7 (by assumption))) | exact Ne.symm (ce3 (cj7 (by assumption))) | exact ls1 (cj1 (by assumption)) | exact Ne.symm (ls1 (cj1 (by assumption))) | exact ls1 (ce2 (by assumption)) | exact Ne.symm (ls1 (ce2 (by assumption))) | exact ls2 (cj1 (by assumption)) | exact Ne.symm (ls2 (cj1 (by assumption))) | exact ls2 (ce2 (by assumption)) | exact Ne.symm (ls2 (ce2 (by assumption))) | exact ls3 | exact Ne.symm ls3 | exact Nat.ne_of_gt (Nat.lt_trans (cj1 (by assumption)) (by assumption)) | exact Nat.ne_of_lt (Nat.lt_trans (cj1 (by assumption)) (by assumption)) | exact Nat.ne_of_gt (Nat.lt_trans (cj2 (by assumption)) (by assumption)) | exact Nat.ne_of_lt (Nat.lt_trans (cj2 (by assumption)) (by assumption)) | exact Nat.ne_of_gt (Nat.lt_trans (ce2 (by assumption)) (by assumption)) | exact Nat.ne_of_lt (Nat.lt_trans (ce2 (by assumption)) (by assumption)) | exact Nat.ne_of_gt (Nat.lt_trans (ce3 (by assumption)) (by assumption)) | exact Nat.ne_of_lt (Nat.lt_trans (ce3 (by assumption)) (by assumption)) | fail "ne")
  k_with "getMethod ref" => (k_here; (with_reducible show wpAny _ _ (getMethod (Value.ref _) (Str.ofString "get") _) _ _ _); k_dflt (refine kdg_method (knd := PySem.strKind _ _) (by k_asm) (by k_mem) (by k_asm) ?_))
  k_with "call builtin:dict.get" => (k_here; k_dflt (refine ef_get (by k_asm) (by k_asm) (by k_asm) (by k_asm) ?_); intro saq_w svsq_w snq_w hneq_w hSq_w Nq_w; walk_say "GET")
  k_with "binaryOp Add ref ref" => (k_here; k_dflt (refine' add_led ?F_w ?N_w ?l_w ?b_w ?_ ?z_w; (case F_w => k_asm); (case N_w => k_asm); (case l_w => k_mem); (case b_w => k_mem); (case z_w => (rw [sizeLine_eq]; (rename StrsAre _ _ => hS9_w); rw [strs_len hS9_w]; simp only [List.length_cons, List.length_nil]; omega))); intro Dq_w hq_w Fq_w Nq_w l1_w; (try k_lt l1_w); walk_say "ADD")
  k_with "setItem ref str" => (k_here; k_dflt (refine' kda_set (knd := PySem.strKind _ _) ?F_w ?N_w ?U_w ?d_w (strKind_is _ _ _ _) ?z_w ?_; (case F_w => k_asm); (case N_w => k_asm); (case U_w => k_updF); (case d_w => assumption); (case z_w => (rw [sizeLine_eq]; omega))); intro hq_w oq_w Fq_w Nq_w hdq_w; (try dsimp only at Nq_w))
  k_with "compareOp In str ref" => (k_here; k_dflt (refine' in_list_strs ?l_w ?i_w ?_; (case i_w => assumption); (case l_w => exact News.isList (by k_asm) (by k_mem))))
  revert X
  k_fill
  intro X
  refine wpAny_call ?_
  k_dflt cell_enter
  k_steps
  all_goals (rename News h₀ L _ _ => kN)
  all_goals (rename StrsAre _ sorts => kS)
  all_goals (rename (_ ∧ _ ∧ _ ∧ _ ∧ AllLt _ news) => l9)
  all_goals first
    | (refine hret (some _) _ _ _ _ _ _ _ ?_ (fun x hx => key_in2 hx) (by k_asm) (fun p hp => kN p ((show ∀ q ∈ _, q ∈ _ by kcf_all) p hp)) (by assumption) (strs_snoc kS sort t1) (off_lt1 l9.2.2.2); simp only [faultB, *, Option.isSome, cond_true, cond_false, Bool.true_or, Bool.or_true, Bool.false_or, Bool.or_false, Bool.and_true, Bool.true_and, Bool.and_self]; done)
    | (refine hret none 0 _ _ _ _ _ _ ?_ (fun x hx => nomatch hx) (by k_asm) (fun p hp => kN p ((show ∀ q ∈ _, q ∈ _ by kcf_all) p hp)) (by assumption) (strs_snoc kS sort t1) (off_lt1 l9.2.2.2); simp only [faultB, *, Option.isSome, cond_true, cond_false, Bool.true_or, Bool.or_true, Bool.false_or, Bool.or_false, Bool.and_true, Bool.true_and, Bool.and_false, Bool.false_and, Bool.and_self]; done)
end
theorem HoldsAt.up {a b : List (Addr × Obj)} {kvs : List (Str × Value)} {key : Str} {sorts : List Str} (h : HoldsAt a kvs key sorts) (hs : ∀ p ∈ a, p ∈ b) : HoldsAt b kvs key sorts := by
  rcases h with h | ⟨x, vs, n, e, hm, hS⟩
  · exact .inl h
  · exact .inr ⟨x, vs, n, e, hs _ hm, hS⟩
theorem ef_use {kd : Addr} {od : Obj} {kvs : List (Str × Value)} {sort key : Str} {sorts : List Str} {strict W : Bool} {t1 t2 : Tok} {u : Obj → List (Addr × Obj)}
    (B : Below A₀ base outer h₀) (F : Fr h₀ L s.heap m) (X : (hd.heap_39 w.params).In h₀) (N : News h₀ L s.heap news)
    (T : Top hd.view_39 loose mean mg mb h₀) (hk : cs.kind = .function) (hdp : dp + 4 < recursionLimit) (hun : un + 100 < cLine) (U : UpdF kd od news u)
    (hd : od.IsDictOf (strKind PySem.Challenge.rw_pc0067_01.row.prog w) kvs) (lo : (kd == sysModules) = false) (hkl : kvs.length ≤ 63) (hg : HoldsAt news kvs key sorts) (hlen : sorts.length ≤ 63) (hx : key.length ≤ 100) (hW : faultB sort sorts strict = W)
    (hret : ∀ (r : Option Str) (t : Tok) (L' : Addr) (ys : List Value) (n : Nat) (od' : Obj) (h' : Heap) (tk' : Nat), r.isSome = W → (∀ x ∈ r, ∃ a b, x = a ++ key ++ b) → Fr h₀ L h' m → News h₀ L h' ((L', listOf ys.toArray n) :: u od') →
      od'.IsDictOf (strKind PySem.Challenge.rw_pc0067_01.row.prog w) (PySem.stored kvs key (.ref L')) → StrsAre ys (sorts ++ [sort]) → (∀ q ∈ news, (@Ne Nat q.1 L')) → Q (optV t r) { s with heap := h', toks := tk' }) :
    wpAny (model PySem.Challenge.rw_pc0067_01.row.prog w) (ktrTop dp un gd cn cs L a ccd cl outer) (call (.ref 73) [.ref kd, .str sort t1, .str key t2, .bool strict]) Q E s := by
  obtain ⟨pre, post, rfl, hg', pa, pb⟩ := U.split
  have hmid : (kd, od) ∈ pre ++ (kd, od) :: post := List.mem_append.mpr (.inr (.head _))
  have hfw : ∀ q ∈ (kd, od) :: (pre ++ post), q ∈ pre ++ (kd, od) :: post := fun q hq => by
    rcases List.mem_cons.mp hq with rfl | hq
    · exact hmid
    · rcases List.mem_append.mp hq with hq | hq
      · exact List.mem_append.mpr (.inl hq)
      · exact List.mem_append.mpr (.inr (.tail _ hq))
  have hbw : ∀ o, ∀ q ∈ pre ++ (kd, o) :: post, q ∈ (kd, o) :: (pre ++ post) := fun o q hq => by
    rcases List.mem_append.mp hq with hq | hq
    · exact .tail _ (List.mem_append.mpr (.inl hq))
    · rcases List.mem_cons.mp hq with rfl | hq
      · exact .head _
      · exact .tail _ (List.mem_append.mpr (.inr hq))
  have hg2 : HoldsAt (pre ++ post) kvs key sorts := by
    rcases hg with h | ⟨x, vs, n, e, hm, hS⟩
    · exact .inl h
    · refine .inr ⟨x, vs, n, e, ?_, hS⟩
      have hne := list_not_dict N hd hm hmid
      rcases List.mem_cons.mp (hbw od _ hm) with e2 | h2
      · exact absurd (congrArg Prod.fst e2) hne
      · exact h2
  refine ef_ok (od := od) (kvs := kvs) (sorts := sorts) (news := pre ++ post) B F X (fun q hq => N q (hfw q hq)) T hk hdp hun hd lo hkl hg2 hlen hx (fun q hq => ?_) ?_
  · rcases List.mem_append.mp hq with hq | hq
    · exact pa q hq
    · exact pb q hq
  · intro r t L' ys n od' h' tk' hr hc F' N' hd' hS hoff
    refine hret r t L' ys n od' h' tk' (hr.trans hW) hc F' (fun q hq => N' q ?_) hd' hS fun q hq => hoff q (hbw od q hq)
    rcases List.mem_cons.mp hq with rfl | hq
    · exact .head _
    · rw [hg'] at hq
      exact .tail _ (hbw od' q hq)
end
end PartEF

section PartEP
open PySem PySem.W PyProof.Rows PySem.Calls
section
variable {w : World} {loose : List Str} {mean : ExcName → Option Value} {mg mb : Str → Option Value} {dp un : Nat} {gd : Option (List Code)} {cn : Str} {cs : Scope} {a : Addr} {ccd : Value} {cl : List (Str × Addr)} {outer : List Env} {A₀ : Around} {base h₀ : Heap} {L : Addr} {m : Str → Option Value} {s : Shared} {Q E : Value → Shared → Prop} {news : List (Addr × Obj)}
/-- rows of a sort and a key, as tuples on the ledger -/
inductive RowS (led : List (Addr × Obj)) : List Value → List (Str × Str) → Prop
  | nil : RowS led [] []
  | cons {q : Addr} {x y : Str} {t t2 : Tok} {n : Nat} {vs : List Value} {R : List (Str × Str)} : (q, tupOf [.str x t, .str y t2] n) ∈ led → RowS led vs R → RowS led (.ref q :: vs) ((x, y) :: R)
theorem RowS.length {a : List (Addr × Obj)} {vs : List Value} {R : List (Str × Str)} (r : RowS a vs R) : vs.length = R.length := by
  induction r with
  | nil => rfl
  | cons _ _ ih => simp [ih]
theorem RowS.up {a b : List (Addr × Obj)} {vs : List Value} {R : List (Str × Str)} (r : RowS a vs R) (h : ∀ p ∈ a, p ∈ b) : RowS b vs R := by
  induction r with
  | nil => exact .nil
  | cons hm _ ih => exact .cons (h _ hm) ih
theorem RowS.snoc {a : List (Addr × Obj)} {vs : List Value} {R : List (Str × Str)} (r : RowS a vs R) {q : Addr} {x y : Str} {t t2 : Tok} {n : Nat} (h : (q, tupOf [.str x t, .str y t2] n) ∈ a) : RowS a (vs ++ [.ref q]) (R ++ [(x, y)]) := by
  induction r with
  | nil => exact .cons h .nil
  | cons hm _ ih => exact .cons hm ih
theorem RowS.get {a : List (Addr × Obj)} {vs : List Value} {R : List (Str × Str)} (r : RowS a vs R) : ∀ {i : Nat} {v : Value}, vs[i]? = some v → ∃ q z t t2 n, R[i]? = some q ∧ v = .ref z ∧ (z, tupOf [.str q.1 t, .str q.2 t2] n) ∈ a := by
  induction r with
  | nil => intro i v e; simp at e
  | @cons z x y t t2 n vs R hm _ ih =>
    intro i v e
    cases i with
    | zero => simp at e; subst e; exact ⟨(x, y), z, t, t2, n, rfl, rfl, hm⟩
    | succ i => simpa using ih (by simpa using e)
noncomputable def aheadOf (rows : List (Str × Str)) (key : Str) : List Str := (rows.filter fun q => q.2 == key).map (·.1)
noncomputable def addKey (ks : List Str) (k : Str) : List Str := if k ∈ ks then ks else ks ++ [k]
noncomputable def keysOf (rows : List (Str × Str)) : List Str := (rows.map (·.2)).foldl addKey []
theorem addKey_mem {ks : List Str} {k x : Str} : x ∈ addKey ks k ↔ x ∈ ks ∨ x = k := by
  unfold addKey
  by_cases h : k ∈ ks
  · rw [if_pos h]
    constructor
    · exact .inl
    · rintro (h2 | rfl)
      · exact h2
      · exact h
  · rw [if_neg h, List.mem_append, List.mem_singleton]
theorem fold_mem {x : Str} : ∀ {l ks : List Str}, x ∈ l.foldl addKey ks ↔ x ∈ ks ∨ x ∈ l
  | [], ks => by simp
  | k :: l, ks => by
    rw [List.foldl_cons, fold_mem, addKey_mem, List.mem_cons]
    constructor
    · rintro ((h | h) | h)
      · exact .inl h
      · exact .inr (.inl h)
      · exact .inr (.inr h)
    · rintro (h | h | h)
      · exact .inl (.inl h)
      · exact .inl (.inr h)
      · exact .inr h
theorem ahead_nil {rows : List (Str × Str)} {key : Str} (h : key ∉ keysOf rows) : aheadOf rows key = [] := by
  unfold aheadOf
  rw [List.map_eq_nil_iff, List.filter_eq_nil_iff]
  intro q hq e
  refine h (fold_mem.mpr (.inr ?_))
  have : q.2 = key := by simpa using e
  exact List.mem_map.mpr ⟨q, hq, this⟩
theorem ahead_snoc_same {rows : List (Str × Str)} {sort key : Str} : aheadOf (rows ++ [(sort, key)]) key = aheadOf rows key ++ [sort] := by
  simp [aheadOf]
theorem ahead_snoc_other {rows : List (Str × Str)} {sort key k : Str} (h : k ≠ key) : aheadOf (rows ++ [(sort, key)]) k = aheadOf rows k := by
  have : ¬ key = k := fun e => h e.symm
  simp [aheadOf, this]
theorem keys_snoc {rows : List (Str × Str)} {sort key : Str} : keysOf (rows ++ [(sort, key)]) = addKey (keysOf rows) key := by
  simp [keysOf, List.foldl_append]
theorem ahead_mem {rows : List (Str × Str)} {key x : Str} (h : x ∈ aheadOf rows key) : ∃ q ∈ rows, q.1 = x := by
  obtain ⟨q, hq, e⟩ := List.mem_map.mp h
  exact ⟨q, (List.mem_filter.mp hq).1, e⟩
theorem ahead_len {rows : List (Str × Str)} {key : Str} : (aheadOf rows key).length ≤ rows.length := by
  unfold aheadOf
  rw [List.length_map]
  exact List.length_filter_le _ _
theorem stored_has {kvs : List (Str × Value)} {k : Str} {v : Value} : (PySem.stored kvs k v).map (·.1) = addKey (kvs.map (·.1)) k := by
  by_cases h : k ∈ kvs.map (·.1)
  · have hany : (kvs.any fun kv => decide (kv.1 = k)) = true := by
      obtain ⟨kv, hkv, he⟩ := List.mem_map.mp h
      exact List.any_eq_true.mpr ⟨kv, hkv, decide_eq_true he⟩
    rw [addKey, if_pos h, PySem.stored, if_pos hany, List.map_map]
    refine List.map_congr_left fun kv _ => ?_
    by_cases e : kv.1 = k
    · simp [e]
    · simp [e]
  · rw [stored_keys h, addKey, if_neg h]
theorem stored_mem {kvs : List (Str × Value)} {k k' : Str} {v v' : Value} (h : (k', v') ∈ PySem.stored kvs k v) : (k' = k ∧ v' = v) ∨ (k' ≠ k ∧ (k', v') ∈ kvs) := by
  unfold PySem.stored at h
  split at h
  · obtain ⟨kv, hkv, e⟩ := List.mem_map.mp h
    by_cases e2 : kv.1 = k
    · rw [if_pos e2] at e
      cases e
      exact .inl ⟨by first | exact e2 | rfl, rfl⟩
    · rw [if_neg e2] at e
      subst e
      exact .inr ⟨e2, hkv⟩
  · rename_i hn
    rcases List.mem_append.mp h with h | h
    · refine .inr ⟨fun e => hn ?_, h⟩
      exact List.any_eq_true.mpr ⟨_, h, decide_eq_true e⟩
    · cases List.mem_singleton.mp h
      exact .inl ⟨rfl, rfl⟩
theorem storeAll_keys : ∀ {ps kvs : List (Str × Value)}, (storeAll kvs ps).map (·.1) = (ps.map (·.1)).foldl addKey (kvs.map (·.1))
  | [], _ => rfl
  | p :: ps, kvs => by
    show (storeAll (PySem.stored kvs p.1 p.2) ps).map (·.1) = _
    rw [storeAll_keys, stored_has]
    rfl
theorem storeAll_mem {k : Str} {v : Value} : ∀ {ps kvs : List (Str × Value)}, (k, v) ∈ storeAll kvs ps → (k, v) ∈ kvs ∨ (k, v) ∈ ps
  | [], _, h => .inl h
  | p :: ps, kvs, h => by
    have h' : (k, v) ∈ storeAll (PySem.stored kvs p.1 p.2) ps := h
    rcases storeAll_mem h' with h2 | h2
    · rcases stored_mem h2 with ⟨rfl, rfl⟩ | ⟨_, h3⟩
      · exact .inr (.head _)
      · exact .inl h3
    · exact .inr (.tail _ h2)
theorem valueAt_mem {k : Str} {v : Value} : ∀ {kvs : List (Str × Value)}, valueAt kvs k = some v → (k, v) ∈ kvs
  | [], h => by simp [valueAt] at h
  | p :: r, h => by
    by_cases e : p.1 = k
    · have : some p.2 = some v := by simpa [valueAt, e] using h
      cases this
      subst e
      exact .head _
    · have : valueAt r k = some v := by simpa [valueAt, e] using h
      exact .tail _ (valueAt_mem this)
/-- what the dict of sorts holds behind these rows -/
noncomputable def KnownOk (news : List (Addr × Obj)) (rows : List (Str × Str)) (kvs : List (Str × Value)) : Prop :=
  kvs.map (·.1) = keysOf rows ∧ ∀ k v, (k, v) ∈ kvs → ∃ a vs n, v = .ref a ∧ (a, listOf vs.toArray n) ∈ news ∧ StrsAre vs (aheadOf rows k)
theorem KnownOk.holds {rows : List (Str × Str)} {kvs : List (Str × Value)} (h : KnownOk news rows kvs) (key : Str) : HoldsAt news kvs key (aheadOf rows key) := by
  cases e : valueAt kvs key with
  | none =>
    refine .inl ⟨e, ahead_nil ?_⟩
    rw [← h.1]
    intro hm
    have := valueAt_has (kvs := kvs) (k := key)
    rw [e] at this
    simp only [Option.isSome_none] at this
    exact absurd hm (of_decide_eq_false this.symm)
  | some v =>
    obtain ⟨a, vs, n, rfl, hm, hS⟩ := h.2 _ _ (valueAt_mem e)
    exact .inr ⟨a, vs, n, e, hm, hS⟩
theorem KnownOk.step {news' : List (Addr × Obj)} {rows : List (Str × Str)} {kvs : List (Str × Value)} {sort key : Str} {L' : Addr} {ys : List Value} {n : Nat} (h : KnownOk news rows kvs) (hsub : ∀ p ∈ news, p ∈ news') (hL : (L', listOf ys.toArray n) ∈ news') (hS : StrsAre ys (aheadOf rows key ++ [sort])) :
    KnownOk news' (rows ++ [(sort, key)]) (PySem.stored kvs key (.ref L')) := by
  refine ⟨by rw [stored_has, h.1, keys_snoc], ?_⟩
  intro k v hkv
  rcases stored_mem hkv with ⟨rfl, rfl⟩ | ⟨hne, hkv⟩
  · exact ⟨L', ys, n, rfl, hL, by rw [ahead_snoc_same]; exact hS⟩
  · obtain ⟨a, vs, n, rfl, hm, hS⟩ := h.2 _ _ hkv
    exact ⟨a, vs, n, rfl, hsub _ hm, by rw [ahead_snoc_other hne]; exact hS⟩
/-- the pairs that the law's own dict is made of -/
inductive PairL (rows : List (Str × Str)) (led : List (Addr × Obj)) : List Value → List (Str × Value) → Prop
  | nil : PairL rows led [] []
  | cons {q a : Addr} {k : Str} {t : Tok} {n n2 : Nat} {us vs : List Value} {ps : List (Str × Value)} : (q, tupOf [.str k t, .ref a] n) ∈ led → (a, listOf us.toArray n2) ∈ led → StrsAre us (aheadOf rows k) → PairL rows led vs ps → PairL rows led (.ref q :: vs) ((k, .ref a) :: ps)
theorem PairL.up {rows : List (Str × Str)} {a b : List (Addr × Obj)} {vs : List Value} {ps : List (Str × Value)} (r : PairL rows a vs ps) (h : ∀ p ∈ a, p ∈ b) : PairL rows b vs ps := by
  induction r with
  | nil => exact .nil
  | cons hm hm2 hs _ ih => exact .cons (h _ hm) (h _ hm2) hs ih
theorem PairL.snoc {rows : List (Str × Str)} {led : List (Addr × Obj)} {vs : List Value} {ps : List (Str × Value)} (r : PairL rows led vs ps) {q a : Addr} {k : Str} {t : Tok} {n n2 : Nat} {us : List Value} (h : (q, tupOf [.str k t, .ref a] n) ∈ led) (h2 : (a, listOf us.toArray n2) ∈ led) (hs : StrsAre us (aheadOf rows k)) :
    PairL rows led (vs ++ [.ref q]) (ps ++ [(k, .ref a)]) := by
  induction r with
  | nil => exact .cons h h2 hs .nil
  | cons hm hm2 hs' _ ih => exact .cons hm hm2 hs' ih
theorem PairL.heap {rows : List (Str × Str)} {led : List (Addr × Obj)} {vs : List Value} {ps : List (Str × Value)} {h : Heap} (N : News h₀ L h led) (r : PairL rows led vs ps) : PairsH h vs ps := by
  induction r with
  | nil => exact .nil
  | cons hm _ _ _ ih => exact .cons (N _ hm).1 ih
theorem PairL.mem {rows : List (Str × Str)} {led : List (Addr × Obj)} {vs : List Value} {ps : List (Str × Value)} (r : PairL rows led vs ps) {k : Str} {v : Value} (h : (k, v) ∈ ps) : ∃ a us n, v = .ref a ∧ (a, listOf us.toArray n) ∈ led ∧ StrsAre us (aheadOf rows k) := by
  induction r with
  | nil => cases h
  | cons hm hm2 hs _ ih =>
    rcases List.mem_cons.mp h with e | h
    · cases e
      exact ⟨_, _, _, rfl, hm2, hs⟩
    · exact ih h
theorem known_of_pairs {rows : List (Str × Str)} {led : List (Addr × Obj)} {vs : List Value} {ps : List (Str × Value)} (r : PairL rows led vs ps) (hk : ps.map (·.1) = rows.map (·.2)) : KnownOk led rows (storeAll [] ps) := by
  refine ⟨by rw [storeAll_keys, hk]; rfl, fun k v h => ?_⟩
  rcases storeAll_mem h with h | h
  · cases h
  · obtain ⟨a, us, n, rfl, hm, hS⟩ := r.mem h
    exact ⟨a, us, n, rfl, hm, hS⟩
section
variable {prog : Program} {A : Around}
theorem known_hits {rows : List (Str × Str)} {kb : List (Str × Value)} {led : List (Addr × Obj)} (N : News h₀ L s.heap led) (hb : KnownOk led rows kb) (ok : ∀ q ∈ rows, PyData.strOk q.1 = true) (hu : A.in1.units + 64 < cLine) :
    ∀ {ka : List (Str × Value)}, (∀ k v, (k, v) ∈ ka → k ∈ keysOf rows ∧ ∃ a vs n, v = .ref a ∧ (a, listOf vs.toArray n) ∈ led ∧ StrsAre vs (aheadOf rows k)) → KeqHits A.in1 s kb ka true
  | [], _ => .nil
  | (k, v) :: r, h => by
    obtain ⟨hk, a, vs, n, rfl, hm, hS⟩ := h k v (.head _)
    rw [← hb.1] at hk
    have hv := valueAt_has (kvs := kb) (k := k)
    rw [decide_eq_true hk] at hv
    obtain ⟨y, hy⟩ := Option.isSome_iff_exists.mp hv
    obtain ⟨b, us, n2, rfl, hm2, hS2⟩ := hb.2 _ _ (valueAt_mem hy)
    have hok : StrsOk (aheadOf rows k) := fun x hx => by
      obtain ⟨q, hq, rfl⟩ := ahead_mem hx
      exact ok q hq
    have e := eqAt_strs (A := A) (News.isList N hm) (News.isList N hm2) hS hS2 hok hok hu
    rw [decide_eq_true rfl] at e
    exact KeqHits.hit hy e (known_hits N hb ok hu (ka := r) fun k v hkv => h k v (.tail _ hkv))
theorem ne_known {rows : List (Str × Str)} {ka kb : List (Str × Value)} {led : List (Addr × Obj)} {a b : Addr} {oa ob : Obj} (N : News h₀ L s.heap led) (ma : (a, oa) ∈ led) (mb : (b, ob) ∈ led) (da : oa.IsDictOf (strKind prog w) ka) (db : ob.IsDictOf (strKind prog w) kb)
    (ha : (a == sysModules) = false) (hb : (b == sysModules) = false) (hka : KnownOk led rows ka) (hkb : KnownOk led rows kb) (ok : ∀ q ∈ rows, PyData.strOk q.1 = true) (hu : A.units + 128 < cLine) (h : Q (.bool false) s) :
    wpAny (model prog w) A (compareOp .NotEq (.ref a) (.ref b)) Q E s := by
  have hlen : ka.length = kb.length := by
    have h1 := congrArg List.length (hka.1.trans hkb.1.symm)
    simpa using h1
  refine keq_ne (knd := strKind prog w) ha hb (kda_dict N ma da) (kda_dict N mb db) (by omega) (fun _ => known_hits N hkb ok ?_ fun k v hkv => ⟨?_, hka.2 k v hkv⟩) ?_
  · show A.units + 1 + 64 < cLine
    omega
  · rw [← hka.1]
    exact List.mem_map.mpr ⟨_, hkv, rfl⟩
  · rw [hlen]
    simpa using h
end
end
end PartEP

section PartEN
open PySem PySem.W PyProof.Rows PySem.Calls
section
variable {w : World} {loose : List Str} {mean : ExcName → Option Value} {mg mb : Str → Option Value} {dp un : Nat} {gd : Option (List Code)} {cn : Str} {cs : Scope} {a : Addr} {ccd : Value} {cl : List (Str × Addr)} {outer : List Env} {A₀ : Around} {base h₀ : Heap} {L : Addr} {m : Str → Option Value} {s : Shared} {Q E : Value → Shared → Prop} {news : List (Addr × Obj)}
theorem en_ne1 {p l LE kd rl : Nat} (l1 : p < LE ∧ l < LE) (h1 : LE + 1 + 1 < kd) (h2 : kd < rl) : kd ≠ rl ∧ kd ≠ LE + 1 ∧ kd ≠ LE + 1 + 1 ∧ kd ≠ p ∧ kd ≠ l ∧ LE + 1 ≠ p ∧ LE + 1 ≠ l :=
  have a := Nat.lt_of_succ_lt h1
  have b := Nat.lt_of_succ_lt a
  ⟨Nat.ne_of_lt h2, Nat.ne_of_gt a, Nat.ne_of_gt h1, Nat.ne_of_gt (Nat.lt_trans l1.1 b), Nat.ne_of_gt (Nat.lt_trans l1.2 b), Nat.ne_of_gt (Nat.lt_succ_of_lt l1.1), Nat.ne_of_gt (Nat.lt_succ_of_lt l1.2)⟩
theorem en_ne2 {p l LE kd rl : Nat} (l1 : p < LE ∧ l < LE) (h1 : LE + 1 + 1 < kd) (h2 : kd < rl) : rl ≠ LE + 1 ∧ rl ≠ LE + 1 + 1 ∧ rl ≠ p ∧ rl ≠ l ∧ LE + 1 + 1 ≠ p ∧ LE + 1 + 1 ≠ l ∧ LE + 1 ≠ LE + 1 + 1 :=
  have h1 := Nat.lt_trans h1 h2
  have a := Nat.lt_of_succ_lt h1
  have b := Nat.lt_of_succ_lt a
  ⟨Nat.ne_of_gt a, Nat.ne_of_gt h1, Nat.ne_of_gt (Nat.lt_trans l1.1 b), Nat.ne_of_gt (Nat.lt_trans l1.2 b), Nat.ne_of_gt (Nat.lt_succ_of_lt (Nat.lt_succ_of_lt l1.1)), Nat.ne_of_gt (Nat.lt_succ_of_lt (Nat.lt_succ_of_lt l1.2)), Nat.ne_of_lt (Nat.lt_succ_self _)⟩
theorem en_i5 {v : Int} {i : Nat} (h1 : v < 5) (h : i < (1 + v).toNat) : i < 5 := Nat.lt_of_lt_of_le h (ar_nle (K := 5) (show 1 + v ≤ 1 + 4 from Int.add_le_add_left (Int.le_of_lt_add_one h1) 1))
theorem en_hi {k a : Int} {i : Nat} (h : a ≤ k + 1 + 2 * (i : Int)) : a + 1 + 1 ≤ k + 1 + 2 * ((i + 1 : Nat) : Int) := by
  rw [show ((i + 1 : Nat) : Int) = (i : Int) + 1 from rfl, Int.mul_add, ← Int.add_assoc, Int.add_assoc a]
  exact Int.add_le_add_right h 2
theorem en_60 {k a : Int} {i : Nat} (h0 : k ≤ 20) (h : a ≤ k + 1 + 2 * (i : Int)) (hi : i < 5) : a ≤ 60 :=
  Int.le_trans h (Int.le_trans (Int.add_le_add (Int.add_le_add_right h0 1) (Int.mul_le_mul_of_nonneg_left (Int.ofNat_le.mpr (Nat.le_of_lt hi)) (by decide))) (by decide))
theorem en_k20 {k a v : Int} (h0 : 0 ≤ v) (h1 : v < 5) (h : a ≤ k + 1 + 2 * (((1 + v).toNat : Nat) : Int)) : a ≤ k + 20 := by
  rw [ar_nat (Int.add_nonneg (by decide) h0), Int.add_assoc] at h
  have h2 : v ≤ 4 := Int.le_of_lt_add_one h1
  have h3 : 2 * (1 + v) ≤ 2 * (1 + 4) := Int.mul_le_mul_of_nonneg_left (Int.add_le_add_left h2 1) (by decide)
  have h4 : 1 + 2 * (1 + v) ≤ 1 + 2 * (1 + 4) := Int.add_le_add_left h3 1
  exact Int.le_trans h (ar_add (Int.le_trans h4 (by decide)))
noncomputable abbrev frM {g h : Heap} {L : Addr} {m : Str → Option Value} (_ : Fr g L h m) : Str → Option Value := m
theorem fr_chain3 {h : Heap} {a b c : Str} {va vb vc : Value} (F : Fr h₀ L h m) (ha : m a = some va) (hb : m b = some vb) (hc : m c = some vc) :
    Fr h₀ L h (fun y => if y = a then some va else if y = b then some vb else if y = c then some vc else m y) := fr_ext F fun y => by
  by_cases e1 : y = a
  · subst e1; rw [if_pos rfl]; exact ha
  rw [if_neg e1]
  by_cases e2 : y = b
  · subst e2; rw [if_pos rfl]; exact hb
  rw [if_neg e2]
  by_cases e3 : y = c
  · subst e3; rw [if_pos rfl]; exact hc
  rw [if_neg e3]
theorem fr_over {h : Heap} {a : Str} {v v' : Option Value} (F : Fr h₀ L h (fun y => if y = a then v else if y = a then v' else m y)) : Fr h₀ L h (fun y => if y = a then v else m y) := fr_ext F fun y => by
  by_cases e : y = a
  · rw [if_pos e, if_pos e]
  · rw [if_neg e, if_neg e, if_neg e]
noncomputable def sorts3 : List Str := ["init", "get", "set"]
noncomputable def keys2 : List Str := ["k", "j"]
theorem sorts_get3 {t1 t2 t3 : Tok} {v : Int} (h0 : 0 ≤ v) (h1 : v < 3) : ∃ x t, x ∈ sorts3 ∧ ([.str "init" t1, .str "get" t2, .str "set" t3] : List Value)[v.toNat]? = some (.str x t) := by
  have : v = 0 ∨ v = 1 ∨ v = 2 := ar_three h0 h1
  rcases this with rfl | rfl | rfl
  · exact ⟨"init", t1, by decide, rfl⟩
  · exact ⟨"get", t2, by decide, rfl⟩
  · exact ⟨"set", t3, by decide, rfl⟩
theorem sorts_item {prog : Program} {A : Around} {value slice : Expr} {l : Addr} {k : Int} {u t1 t2 t3 : Tok} (hl : s.heap.IsList l ([.str "init" t1, .str "get" t2, .str "set" t3] : List Value).toArray) (h0 : 0 ≤ k) (hhi : k < 3) (h : ∀ x t, x ∈ sorts3 → Q (.str x t) s)
    (hs : subscripted slice false (.ref l) (.int k u) = operate [.ref l, .int k u] (getItem (.ref l) (.int k u)) := by with_unfolding_all rfl) :
    wpAny (model prog w) A (subscriptTail value slice (.ref l) (.int k u)) Q E s := by
  obtain ⟨x, t, hx, e⟩ := sorts_get3 (t1 := t1) (t2 := t2) (t3 := t3) h0 hhi
  exact item_any hl h0 (Int.lt_trans hhi (by decide)) e (h x t hx) hs
noncomputable abbrev eLed (kd rl cr ck p l : Addr) (od : Obj) (rvs : List Value) (rn : Nat) (ro kc : Obj) (pen lst : Obj) (tail : List (Addr × Obj)) : List (Addr × Obj) :=
  (kd, od) :: (rl, listOf rvs.toArray rn) :: (cr, ro) :: (ck, kc) :: (p, pen) :: (l, lst) :: tail
/-- behind the first statement -/
inductive EJ1 (s : Shared) (g : Heap) (L' p l : Addr) (strict : Bool) (pen lst : Obj)  : Shared → Prop
  | mk (h' : Heap) (tk' : Nat) (kd rl : Addr) (od ro kc : Obj) (vk : Option Value) (m' : Str → Option Value) (_ : Fr g L' h' (fun y => if y = "known" then some (.ref kd) else if y = "pen" then some (.ref p) else if y = "is_strict" then some (.bool strict) else m' y)) (_ : News g L' h' (eLed kd rl (L' + 1) (L' + 1 + 1) p l od [] 0 ro kc pen lst [])) (_ : od.IsDictOf (strKind PySem.Challenge.rw_pc0067_01.row.prog w) []) (_ : (kd == sysModules) = false) (_ : ro.data = .cell (some (.ref rl))) (_ : kc.data = .cell vk) (_ : (@LT.lt Nat _ (L' + 1 + 1) kd)) (_ : (@LT.lt Nat _ kd rl)) : EJ1 s g L' p l strict pen lst { s with heap := h', toks := tk' }
structure EnS where
  od : Obj
  kvs : List (Str × Value)
  rvs : List Value
  rn : Nat
  kc : Obj
  k : Int
  t : Tok
  tail : List (Addr × Obj)
  rows : List (Str × Str)
noncomputable abbrev EnLed (kd rl cr ck p l : Addr) (cc : Int) (t2 : Tok) (n1 : Nat) (ro lst : Obj) (c : EnS) : List (Addr × Obj) := eLed kd rl cr ck p l c.od c.rvs c.rn ro c.kc (penObj l c.k c.t cc t2 n1) lst c.tail
structure EnP (w : World) (base : List (Addr × Obj)) (k : Int) (i : Nat) (c : EnS) : Prop where
  od : c.od.IsDictOf (strKind PySem.Challenge.rw_pc0067_01.row.prog w) c.kvs
  known : KnownOk c.tail c.rows c.kvs
  rows : RowS c.tail c.rvs c.rows
  len : c.rows.length = i
  ok : ∀ q ∈ c.rows, q.1 ∈ sorts3 ∧ q.2 ∈ keys2
  kc : ∃ v, c.kc.data = .cell v
  lo : k ≤ c.k
  hi : c.k ≤ k + 2 * i
  off : ∀ q ∈ c.tail, ∀ q' ∈ base, (@Ne Nat q'.1 q.1)
theorem rangeSz0 (b : Int) : Builtin.Range.rangeSize 0 b 1 = ((b.toNat : Nat) : Int) := by rw [rangeSize_nat, Int.sub_zero]
theorem three_cases {v : Int} (h0 : 0 ≤ v) (h1 : v < 3) : v = 0 ∨ v = 1 ∨ v = 2 := ar_three h0 h1
theorem two_cases {v : Int} (h0 : 0 ≤ v) (h1 : v < 2) : v = 0 ∨ v = 1 := ar_two h0 h1
theorem off_X {own tail base : List (Addr × Obj)} {led : List (Addr × Obj)} (h : ∀ q ∈ tail, ∀ q' ∈ base, (@Ne Nat q'.1 q.1)) (hoff : OwnOff own (led.map (·.1))) (hb : ∀ q' ∈ base, q'.1 ∈ led.map (·.1)) : ∀ q ∈ tail ++ own, ∀ q' ∈ base, (@Ne Nat q'.1 q.1) := by
  intro q hq q' hq'
  rcases List.mem_append.mp hq with hq | hq
  · exact h q hq q' hq'
  · exact Ne.symm (hoff q hq q'.1 (hb q' hq'))
theorem en_sub {kd rl cr ck p l : Addr} {od ro kc a b lst lst' od' ro' kc' : Obj} {rvs rvs' : List Value} {rn rn' : Nat} {tail : List (Addr × Obj)} : ∀ q' ∈ eLed kd rl cr ck p l od rvs rn ro kc a lst [], q'.1 ∈ (eLed kd rl cr ck p l od' rvs' rn' ro' kc' b lst' tail).map (·.1) := fun q' hq' => by
  have h : q'.1 ∈ (eLed kd rl cr ck p l od rvs rn ro kc a lst []).map (·.1) := List.mem_map.mpr ⟨q', hq', rfl⟩
  exact List.mem_append.mpr (.inl (show q'.1 ∈ [kd, rl, cr, ck, p, l] from h))
/-- within a turn, behind the drawn sort and key -/
inductive EJ2 (s : Shared) (g : Heap) (L' : Addr) (m₁ : Str → Option Value) (kd rl p l : Addr) (od : Obj) (rvs : List Value) (rn : Nat) (ro : Obj) (kk : Int) (cc : Int) (t2 : Tok) (n1 : Nat) (lst : Obj) (tail : List (Addr × Obj))  : Shared → Prop
  | mk (h' : Heap) (tk' : Nat) (sort key : Str) (ts tkey t' : Tok) (kc : Obj) (_ : Fr g L' h' (fun y => if y = "sort" then some (.str sort ts) else m₁ y)) (_ : News g L' h' (eLed kd rl (L' + 1) (L' + 1 + 1) p l od rvs rn ro kc (penObj l (kk + 1 + 1) t' cc t2 n1) lst tail)) (_ : kc.data = .cell (some (.str key tkey))) (_ : sort ∈ sorts3) (_ : key ∈ keys2) : EJ2 s g L' m₁ kd rl p l od rvs rn ro kk cc t2 n1 lst tail { s with heap := h', toks := tk' }
/-- within a turn, behind the law's own reading -/
inductive EJ3 (s : Shared) (g : Heap) (L' : Addr) (m₂ : Str → Option Value) (led : List (Addr × Obj)) (wrong : Bool)  : Shared → Prop
  | mk (h' : Heap) (tk' : Nat) (a : Addr) (_ : Fr g L' h' (fun y => if y = "is_wrong" then some (.bool wrong) else if y = "ahead" then some (.ref a) else m₂ y)) (_ : News g L' h' led) : EJ3 s g L' m₂ led wrong { s with heap := h', toks := tk' }
section
variable {prog : Program} {A : Around}
theorem countIn_strs {k : Str} : ∀ ys : List Str, PySem.Spec.countIn (.str k) (ys.map PyData.str) = ((ys.filter (· == k)).length : Int)
  | [] => rfl
  | y :: r => by
    have ih := countIn_strs (k := k) r
    simp only [List.map_cons, PySem.Spec.countIn, ih, List.filter_cons, PySem.Spec.same]
    by_cases h : y = k
    · simp [h, Int.add_comm]
    · simp [h]
theorem count_led {l : Addr} {vs : List Value} {ys : List Str} {k : Str} {t : Tok} (hl : s.heap.IsList l vs.toArray) (hi : StrsAre vs ys) (h : Q (.int ((ys.filter (· == k)).length : Int) s.toks) { s with toks := s.toks + 1 }) :
    wpAny (model prog w) A (call (.builtin "list.count") [.ref l, .str k t]) Q E s := count_list_strs hl hi (by rw [countIn_strs]; exact h)
theorem len_led {l : Addr} {vs : List Value} {ys : List Str} (hl : s.heap.IsList l vs.toArray) (hi : StrsAre vs ys) (hb : ys.length ≤ 1000) (h : Q (.int (ys.length : Int) (s.toks + 1)) { s with toks := s.toks + 1 + 1 }) :
    wpAny (model prog w) A (call (.builtin "len") [.ref l]) Q E s := by
  refine call_len_list hl ?_ ?_
  · rw [List.size_toArray, strs_len hi]; exact Int.ofNat_lt.mpr (Nat.lt_of_le_of_lt hb (by decide))
  · rw [List.size_toArray, strs_len hi]; exact h
theorem ne_nil {a b : Addr} {xs : List Value} {ns : List Str} (ha : s.heap.IsList a xs.toArray) (hb : s.heap.IsList b ([] : List Value).toArray) (hi : StrsAre xs ns) (ho : StrsOk ns) (hu : A.units + 64 < cLine) (h : Q (.bool (!decide (ns = []))) s) :
    wpAny (model prog w) A (compareOp .NotEq (.ref a) (.ref b)) Q E s := ne_strs ha hb hi .nil ho (fun _ h => nomatch h) hu h
end
theorem sorts3_ok : ∀ x ∈ sorts3, PyData.strOk x = true := by decide +kernel
theorem keys2_ok : ∀ x ∈ keys2, PyData.strOk x = true := by decide +kernel
section
variable {sort : Str} {A : List Str} {strict : Bool}
theorem lt_init : ∀ {A : List Str}, (∀ x ∈ A, x ∈ sorts3) → ((((A.filter (· == ("init" : Str))).length : Int) < (A.length : Int)) ↔ (A.any (· == ("get" : Str)) || A.any (· == ("set" : Str))) = true)
  | [], _ => by simp
  | x :: r, h => by
    have ih := lt_init (A := r) fun y hy => h y (.tail _ hy)
    have hle := List.length_filter_le (· == ("init" : Str)) r
    have hx := h x (.head _)
    simp only [sorts3, List.mem_cons, List.not_mem_nil, or_false] at hx
    rcases hx with rfl | rfl | rfl
    · rw [List.filter_cons_of_pos (by decide)]
      simp only [List.length_cons, List.any_cons, show (("init" : Str) == ("get" : Str)) = false from by decide, show (("init" : Str) == ("set" : Str)) = false from by decide, Bool.false_or]
      rw [← ih]
      omega
    · rw [List.filter_cons_of_neg (by decide)]
      simp only [List.length_cons, List.any_cons, beq_self_eq_true, Bool.true_or, iff_true]
      omega
    · rw [List.filter_cons_of_neg (by decide)]
      simp only [List.length_cons, List.any_cons, beq_self_eq_true, Bool.true_or, Bool.or_true, iff_true]
      omega
theorem nil_init : ∀ {A : List Str}, (∀ x ∈ A, x ∈ sorts3) → (A.any (· == ("get" : Str)) || A.any (· == ("set" : Str))) = false → (!decide (A = [])) = A.any (· == ("init" : Str))
  | [], _, _ => by simp
  | x :: r, h, h2 => by
    have hx := h x (.head _)
    simp only [sorts3, List.mem_cons, List.not_mem_nil, or_false] at hx
    rcases hx with rfl | rfl | rfl
    · simp
    · simp at h2
    · simp at h2
theorem W1 (h : (sort != "init") = true) (h2 : (A.any fun x => x == "init") = true) : (A.any fun x => x == "init") = faultB sort A strict := by
  have h' : (sort == ("init" : Str)) = false := by simpa using h
  simp only [faultB, h', cond_false, h2, Bool.true_or]
theorem W2 (h : (sort != "init") = true) (h2 : (A.any fun x => x == "init") = false) (h3 : (A.any fun x => x == sort) = true) : (A.any fun x => x == sort) = faultB sort A strict := by
  have h' : (sort == ("init" : Str)) = false := by simpa using h
  simp only [faultB, h', cond_false, h2, h3, Bool.or_true]
theorem W3 (hA : ∀ x ∈ A, x ∈ sorts3) (h : (sort == "init") = true) (h2 : ((A.filter (fun x => x == ("init" : Str))).length : Int) < (A.length : Int)) : decide (((A.filter (fun x => x == ("init" : Str))).length : Int) < (A.length : Int)) = faultB sort A strict := by
  have h3 := (lt_init hA).mp h2
  simp only [faultB, h, cond_true, h3, Bool.true_or, decide_eq_true h2]
theorem W4 (hA : ∀ x ∈ A, x ∈ sorts3) (h : (sort == "init") = true) (h2 : ¬ ((A.filter (fun x => x == ("init" : Str))).length : Int) < (A.length : Int)) (h4 : strict = true) : (!decide (A = [])) = faultB sort A strict := by
  have h3 : (A.any (· == ("get" : Str)) || A.any (· == ("set" : Str))) = false := Bool.eq_false_iff.mpr fun e => h2 ((lt_init hA).mpr e)
  rw [nil_init hA h3]
  simp only [faultB, h, cond_true, h3, h4, Bool.false_or, Bool.true_and]
theorem W5 (hA : ∀ x ∈ A, x ∈ sorts3) (h : (sort == "init") = true) (h2 : ¬ ((A.filter (fun x => x == ("init" : Str))).length : Int) < (A.length : Int)) (h4 : strict = false) : strict = faultB sort A strict := by
  have h3 : (A.any (· == ("get" : Str)) || A.any (· == ("set" : Str))) = false := Bool.eq_false_iff.mpr fun e => h2 ((lt_init hA).mpr e)
  simp only [faultB, h, cond_true, h3, h4, Bool.false_or, Bool.false_and]
theorem W6 (h : (sort == "init") = false) (h2 : (A.any fun x => x == "init") = false) (h3 : (A.any fun x => x == sort) = false) : (sort == "init") = faultB sort A strict := by
  simp only [faultB, h, cond_false, h2, h3, Bool.or_self]
theorem W7 (h : (sort == "init") = false) (h2 : (A.any fun x => x == "init") = false) (h3 : (A.any fun x => x == sort) = false) (h4 : strict = false) : strict = faultB sort A strict := by
  simp only [faultB, h, cond_false, h2, h3, Bool.or_self, h4]
theorem W8 {P : Prop} (h : (sort != "init") = false) (h2 : (sort == "init") = false) : P := by
  have : sort = "init" := by simpa using h
  rw [this] at h2
  simp at h2
end
theorem ej3_end {g h' : Heap} {L' : Addr} {m₂ : Str → Option Value} {led led' : List (Addr × Obj)} {wrong V : Bool} {v1 : Option Value} {a : Addr} {tk' : Nat} (hV : V = wrong)
    (F : Fr g L' h' (fun y => if y = "is_wrong" then some (.bool V) else if y = "is_wrong" then v1 else if y = "ahead" then some (.ref a) else m₂ y)) (N : News g L' h' led') (hsub : ∀ q ∈ led, q ∈ led') :
    EJ3 s g L' m₂ led wrong { s with heap := h', toks := tk' } := by
  subst hV
  exact ⟨h', tk', a, fr_over F, fun q hq => N q (hsub q hq)⟩
theorem addKey_len {ks : List Str} {k : Str} : (addKey ks k).length ≤ ks.length + 1 := by
  unfold addKey
  split <;> simp
theorem fold_len : ∀ {l ks : List Str}, (l.foldl addKey ks).length ≤ ks.length + l.length
  | [], _ => Nat.le_refl _
  | k :: l, ks => by
    rw [List.foldl_cons]
    have h1 := fold_len (l := l) (ks := addKey ks k)
    have h2 := addKey_len (ks := ks) (k := k)
    rw [List.length_cons]
    omega
theorem keys_len (rows : List (Str × Str)) : (keysOf rows).length ≤ rows.length := by
  have := fold_len (l := rows.map (·.2)) (ks := [])
  simpa [keysOf] using this
theorem keys2_len : ∀ x ∈ keys2, x.length ≤ 100 := by decide +kernel
section
variable {prog : Program} {A : Around}
theorem append_led {D : Addr} {vs : List Value} {n : Nat} {x : Value} {g : Obj → List (Addr × Obj)} (F : Fr h₀ L s.heap m) (N : News h₀ L s.heap news) (U : UpdF D (listOf vs.toArray n) news g) (hsz : vs.length ≤ sizeLine)
    (h : ∀ h', Fr h₀ L h' m → News h₀ L h' (g (listOf (vs ++ [x]).toArray (n + 1))) → Q .none { s with heap := h' }) :
    wpAny (model prog w) A (call (.builtin "list.append") [.ref D, x]) Q E s := by
  obtain ⟨pre, post, rfl, hg, pa, pb⟩ := U.split
  have hd := N (D, listOf vs.toArray n) (List.mem_append.mpr (.inr (.head _)))
  refine append_at (hsz := by rw [List.size_toArray]; exact hsz) hd.1 fun h' hs hD => h h' (F.change hs hd.2.1 hd.2.2) ?_
  rw [hg]
  refine N.setAt pa pb hs ?_
  rw [hD]
  simp [PySem.W.listOf]
end
theorem keys2_one : ∀ x ∈ keys2, ∃ c, x = ⟨#[c]⟩ := by
  intro x hx
  simp only [keys2, List.mem_cons, List.not_mem_nil, or_false] at hx
  rcases hx with rfl | rfl
  · exact ⟨107, by decide +kernel⟩
  · exact ⟨106, by decide +kernel⟩
theorem told_has {x key : Str} (hk : key ∈ keys2) (h : ∃ a b, x = a ++ key ++ b) (h2 : (Builtin.Str.occurrences x key 0 x.length 1).isEmpty = true) : False := by
  obtain ⟨c, rfl⟩ := keys2_one key hk
  obtain ⟨a, b, rfl⟩ := h
  rw [empty_one] at h2
  simp [Str.cps_append] at h2
/-- within a turn, behind the def's own telling -/
inductive EJ4 (s : Shared) (g : Heap) (L' : Addr) (m₃ : Str → Option Value) (kd rl cr ck p l : Addr) (rn : Nat) (crvs : List Value) (ro kc pen lst : Obj) (X : List (Addr × Obj)) (ckvs : List (Str × Value)) (sort key : Str) (ts tkey : Tok) (ahead : List Str)  : Shared → Prop
  | mk (h' : Heap) (tk' : Nat) (T L9 : Addr) (ys9 : List Value) (n9 : Nat) (od9 : Obj) (told : Value) (_ : Fr g L' h' (fun y => if y = "told" then some told else m₃ y)) (_ : News g L' h' ((L9, PySem.W.listOf ys9.toArray n9) :: (T, tupOf [.str sort ts, .str key tkey] 0) :: eLed kd rl cr ck p l od9 (crvs ++ [.ref T]) (rn + 1) ro kc pen lst X)) (_ : od9.IsDictOf (strKind PySem.Challenge.rw_pc0067_01.row.prog w) (PySem.stored ckvs key (.ref L9))) (_ : StrsAre ys9 (ahead ++ [sort])) (_ : (∀ q ∈ eLed kd rl cr ck p l od9 [] 0 ro kc pen lst X, (@Ne Nat q.1 L9) ∧ (@Ne Nat q.1 T))) : EJ4 s g L' m₃ kd rl cr ck p l rn crvs ro kc pen lst X ckvs sort key ts tkey ahead { s with heap := h', toks := tk' }
theorem off_pair {kd rl cr ck p l T L9 : Addr} {o1 o1' o2 o2' o3 o4 o5 o6 : Obj} {t : Addr × Obj} {X : List (Addr × Obj)} (h : ∀ q ∈ t :: (kd, o1) :: (rl, o2) :: (cr, o3) :: (ck, o4) :: (p, o5) :: (l, o6) :: X, (@Ne Nat q.1 L9))
    (hl : kd < T ∧ rl < T ∧ cr < T ∧ ck < T ∧ p < T ∧ l < T ∧ AllLt T X) : ∀ q ∈ (kd, o1') :: (rl, o2') :: (cr, o3) :: (ck, o4) :: (p, o5) :: (l, o6) :: X, (@Ne Nat q.1 L9) ∧ (@Ne Nat q.1 T) := by
  intro q hq
  rcases List.mem_cons.mp hq with rfl | hq
  · exact ⟨h (kd, o1) (.tail _ (.head _)), Nat.ne_of_lt hl.1⟩
  rcases List.mem_cons.mp hq with rfl | hq
  · exact ⟨h (rl, o2) (.tail _ (.tail _ (.head _))), Nat.ne_of_lt hl.2.1⟩
  rcases List.mem_cons.mp hq with rfl | hq
  · exact ⟨h (cr, o3) (.tail _ (.tail _ (.tail _ (.head _)))), Nat.ne_of_lt hl.2.2.1⟩
  rcases List.mem_cons.mp hq with rfl | hq
  · exact ⟨h (ck, o4) (.tail _ (.tail _ (.tail _ (.tail _ (.head _))))), Nat.ne_of_lt hl.2.2.2.1⟩
  rcases List.mem_cons.mp hq with rfl | hq
  · exact ⟨h (p, o5) (.tail _ (.tail _ (.tail _ (.tail _ (.tail _ (.head _)))))), Nat.ne_of_lt hl.2.2.2.2.1⟩
  rcases List.mem_cons.mp hq with rfl | hq
  · exact ⟨h (l, o6) (.tail _ (.tail _ (.tail _ (.tail _ (.tail _ (.tail _ (.head _))))))), Nat.ne_of_lt hl.2.2.2.2.2.1⟩
  · exact ⟨h q (.tail _ (.tail _ (.tail _ (.tail _ (.tail _ (.tail _ (.tail _ hq))))))), Nat.ne_of_lt (ktn_ltOf hl.2.2.2.2.2.2 q hq)⟩
theorem KnownOk.up {a b : List (Addr × Obj)} {rows : List (Str × Str)} {kvs : List (Str × Value)} (h : KnownOk a rows kvs) (hs : ∀ p ∈ a, p ∈ b) : KnownOk b rows kvs := ⟨h.1, fun k v hkv => by
  obtain ⟨x, vs, n, e, hm, hS⟩ := h.2 k v hkv
  exact ⟨x, vs, n, e, hs _ hm, hS⟩⟩
theorem en_off {kd rl cr ck p l T L9 : Addr} {o1 o3 o4 o5 o6 b1 b3 b4 b5 b6 oa ob : Obj} {X ctail : List (Addr × Obj)} (hO : ∀ q ∈ eLed kd rl cr ck p l o1 [] 0 o3 o4 o5 o6 X, (@Ne Nat q.1 L9) ∧ (@Ne Nat q.1 T))
    (poff : ∀ q ∈ ctail, ∀ q' ∈ eLed kd rl cr ck p l b1 [] 0 b3 b4 b5 b6 [], (@Ne Nat q'.1 q.1)) : ∀ q ∈ (L9, oa) :: (T, ob) :: ctail, ∀ q' ∈ eLed kd rl cr ck p l b1 [] 0 b3 b4 b5 b6 [], (@Ne Nat q'.1 q.1) := by
  have key : ∀ q' ∈ eLed kd rl cr ck p l b1 [] 0 b3 b4 b5 b6 [], (@Ne Nat q'.1 L9) ∧ (@Ne Nat q'.1 T) := by
    intro q' hq'
    have h3 : q'.1 ∈ (eLed kd rl cr ck p l o1 [] 0 o3 o4 o5 o6 X).map (·.1) := en_sub q' hq'
    obtain ⟨q2, hq2, e⟩ := List.mem_map.mp h3
    rw [← e]
    exact hO q2 hq2
  intro q hq q' hq'
  rcases List.mem_cons.mp hq with rfl | hq
  · exact (key q' hq').1
  rcases List.mem_cons.mp hq with rfl | hq
  · exact (key q' hq').2
  · exact poff q hq q' hq'
theorem en_own3 {kd rl cr ck p l T L9 : Addr} {od ro kc a b lst lst' od' ro' kc' x y : Obj} {rvs rvs' : List Value} {rn rn' : Nat} {tail : List (Addr × Obj)} : ∀ q ∈ (eLed kd rl cr ck p l od rvs rn ro kc a lst ((L9, x) :: (T, y) :: tail)).map (·.1), q ∈ (eLed kd rl cr ck p l od' rvs' rn' ro' kc' b lst' tail).map (·.1) ∨ q = L9 ∨ q = T := fun q hq => by
  rcases List.mem_append.mp (show q ∈ [kd, rl, cr, ck, p, l] ++ L9 :: T :: tail.map (·.1) from hq) with h | h
  · exact .inl (List.mem_append.mpr (.inl h))
  rcases List.mem_cons.mp h with h | h
  · exact .inr (.inl h)
  rcases List.mem_cons.mp h with h | h
  · exact .inr (.inr h)
  · exact .inl (List.mem_append.mpr (.inr h : q ∈ [kd, rl, cr, ck, p, l] ∨ q ∈ tail.map (·.1)))
theorem en_own {kd rl cr ck p l T L9 : Addr} {o1 o3 o4 o5 o6 : Obj} {own ctail : List (Addr × Obj)} {led led' : List (Addr × Obj)} (hO : ∀ q ∈ eLed kd rl cr ck p l o1 [] 0 o3 o4 o5 o6 (ctail ++ own), (@Ne Nat q.1 L9) ∧ (@Ne Nat q.1 T))
    (hoff : OwnOff own (led.map (·.1))) (hl : ∀ a ∈ led'.map (·.1), a ∈ led.map (·.1) ∨ a = L9 ∨ a = T) : OwnOff own (led'.map (·.1)) := by
  intro q hq a ha
  have hq2 : q ∈ eLed kd rl cr ck p l o1 [] 0 o3 o4 o5 o6 (ctail ++ own) := .tail _ (.tail _ (.tail _ (.tail _ (.tail _ (.tail _ (List.mem_append.mpr (.inr hq)))))))
  rcases hl a ha with h | rfl | rfl
  · exact hoff q hq a h
  · exact (hO q hq2).1
  · exact (hO q hq2).2
inductive EnJ (R9 : List (Str × Str)) (e : Addr × Obj) (news : List (Addr × Obj)) (i : Nat) (ys : List Value) : List (Addr × Obj) → Prop
  | mk (nx : List (Addr × Obj)) (ps : List (Str × Value)) (hPL : PairL R9 (news ++ nx) ys ps) (hpm : ps.map (·.1) = (R9.map (·.2)).take i) (hm : e ∈ news) : EnJ R9 e news i ys (news ++ nx)
theorem EnJ.nil {R9 : List (Str × Str)} {e : Addr × Obj} {news : List (Addr × Obj)} (hm : e ∈ news) : EnJ R9 e news 0 [] news := by
  have := EnJ.mk (R9 := R9) (i := 0) [] [] .nil rfl hm
  rwa [List.append_nil] at this
inductive RowSAt (a : List (Addr × Obj)) (R : List (Str × Str)) (i : Nat) : Value → Prop
  | mk (q : Str × Str) (z : Addr) (t t2 : Tok) (n : Nat) (hq : R[i]? = some q) (hz : (z, tupOf [.str q.1 t, .str q.2 t2] n) ∈ a) : RowSAt a R i (.ref z)
theorem RowS.item {a : List (Addr × Obj)} {vs : List Value} {R : List (Str × Str)} {i : Nat} {v : Value} (r : RowS a vs R) (h : vs[i]? = some v) : RowSAt a R i v := by
  obtain ⟨q, z, t, t2, n, hq, rfl, hz⟩ := r.get h
  exact ⟨q, z, t, t2, n, hq, hz⟩
/-- the turns of a comprehension over pairs of texts -/
theorem two_strs {items : List (Str × Str)} {x₁ x₂ : Str} {H : Heap} {WW : Addr → Str × Str → Shared → (Value → Shared → Prop) → Prop} (F : Fr h₀ L H m) (N : News h₀ L H news)
    (h : ∀ C x y ta tb s₃ m₃ E' oC, (x, y) ∈ items → LCg.NsObj oC m₃ → Fr h₀ L s₃.heap m → News h₀ L s₃.heap ((C, oC) :: news) → m₃ x₁ = some (.str x ta) → m₃ x₂ = some (.str y tb) → WW C (x, y) s₃ E') :
    ∀ (C : Addr) (q : Str × Str) (a b : Value) (s₃ : Shared) (m₃ : Str → Option Value) (E' : Value → Shared → Prop), q ∈ items → ((∃ t, a = .str q.1 t) ∧ ∃ t, b = .str q.2 t) → (∀ z o, H.get? z = some o → s₃.heap.get? z = some o) → H.get? C = none → s₃.heap.Ns C m₃ → m₃ x₁ = some a → m₃ x₂ = some b → WW C q s₃ E' := by
  rintro C ⟨x, y⟩ a b s₃ m₃ E' hq ⟨⟨ta, rfl⟩, tb, rfl⟩ hk3 hC hn hx1 hx2
  obtain ⟨oC, hoC, F3, N3⟩ := pt_turn F N hk3 hC hn
  exact h C x y ta tb s₃ m₃ E' oC hq hoC F3 N3 hx1 hx2
theorem cend_intro {h' : Heap} {tk' : Nat} {I C c D T Li : Addr} {oI oC oc oD oT oL : Obj} {lit nx : List (Addr × Obj)} {rest : Value → List (Addr × Obj) → Prop} {y : Value} {led : List (Addr × Obj)}
    (F : Fr h₀ L h' m) (N : News h₀ L h' led) (hsub : ∀ q ∈ (I, oI) :: (C, oC) :: (c, oc) :: (D, oD) :: (lit ++ (T, oT) :: (Li, oL) :: nx), q ∈ led) (off : LCg.Off3 I C D (lit ++ nx)) (offc : ∀ q ∈ lit ++ nx, (@Ne Nat q.1 c))
    (hT : I < T ∧ C < T ∧ c < T ∧ D < T) (hL : I < Li ∧ C < Li ∧ c < Li ∧ D < Li) (r : rest y (lit ++ (T, oT) :: (Li, oL) :: nx)) :
    CEnd h₀ L m s I oI C oC c oc D oD rest y { s with heap := h', toks := tk' } := by
  refine ⟨h', tk', _, F, fun q hq => N q (hsub q hq), ?_, ?_, r⟩
  · have hm := off.mem
    refine LCg.Off3.of fun q hq => ?_
    rcases List.mem_append.mp hq with hq | hq
    · exact hm q (List.mem_append.mpr (.inl hq))
    rcases List.mem_cons.mp hq with rfl | hq
    · exact ⟨Nat.ne_of_gt hT.1, Nat.ne_of_gt hT.2.1, Nat.ne_of_gt hT.2.2.2⟩
    rcases List.mem_cons.mp hq with rfl | hq
    · exact ⟨Nat.ne_of_gt hL.1, Nat.ne_of_gt hL.2.1, Nat.ne_of_gt hL.2.2.2⟩
    · exact hm q (List.mem_append.mpr (.inr hq))
  · intro q hq
    rcases List.mem_append.mp hq with hq | hq
    · exact offc q (List.mem_append.mpr (.inl hq))
    rcases List.mem_cons.mp hq with rfl | hq
    · exact Nat.ne_of_gt hT.2.2.1
    rcases List.mem_cons.mp hq with rfl | hq
    · exact Nat.ne_of_gt hL.2.2.1
    · exact offc q (List.mem_append.mpr (.inr hq))
section
set_option maxRecDepth 100000 in
set_option maxHeartbeats 8000000 in
theorem en_ok {p l : Addr} {vs : List Value} {ns : List Int} {n1 n2 : Nat} {k c : Int} {t1 t2 : Tok} {strict : Bool}
    (B : Below A₀ base outer h₀) (F : Fr h₀ L s.heap m) (X : (hd.heap_39 w.params).In h₀) (N : News h₀ L s.heap [(p, penObj l k t1 c t2 n1), (l, listOf vs.toArray n2)])
    (T : Top hd.view_39 loose mean mg mb h₀) (hk : cs.kind = .function) (hdp : dp + 8 < recursionLimit) (hun : un + 400 < cLine)
    (hi : IntsAre vs ns) (hlen : ns.length ≤ 63) (k0 : 0 ≤ k) (k1 : k ≤ 20) (c0 : 0 ≤ c) (c1 : c < 997)
    (hpl : @Ne Nat p l) (hpl2 : @Ne Nat l p)
    (hret : ∀ (k' : Int) (t' : Tok) (h' : Heap) (tk' : Nat), k ≤ k' → k' ≤ k + 20 → Fr h₀ L h' m → News h₀ L h' [(p, penObj l k' t' c t2 n1), (l, listOf vs.toArray n2)] → Q (.bool true) { s with heap := h', toks := tk' }) :
    wpAny (model PySem.Challenge.rw_pc0067_01.row.prog w) (ktrTop dp un gd cn cs L a ccd cl outer) (call (.ref 139) [.ref p, .bool strict]) Q E s := by
  k_with_none
  k_with "room" => (first | exact un1 (by assumption) (by decide) | exact un2 (by assumption) (by decide) | exact un3 (by assumption) (by decide) | exact un0 (by assumption) | exact Nat.le_of_ble_eq_true rfl | fail "room")
  k_with "ne" => (first | assumption | exact Ne.symm (by assumption) | exact Nat.ne_of_lt (by assumption) | exact Nat.ne_of_gt (by assumption) | exact (cj1 (by assumption)) | exact (cj2 (by assumption)) | exact (cj3 (by assumption)) | exact (cj4 (by assumption)) | exact (cj5 (by assumption)) | exact (cj6 (by assumption)) | exact (cj7 (by assumption)) | exact (cj8 (by assumption)) | exact (cj9 (by assumption)) | exact (cj10 (by assumption)) | exact (cj11 (by assumption)) | exact (cj12 (by assumption)) | exact (ce2 (by assumption)) | exact (ce3 (by assumption)) | exact (ce4 (by assumption)) | exact (ce5 (by assumption)) | exact (ce6 (by assumption)) | exact (ce7 (by assumption)) | exact (ce8 (by assumption)) | exact (ce9 (by assumption)) | exact (ce10 (by assumption)) | exact (ce11 (by assumption)) | exact (ce12 (by assumption)) | exact Ne.symm (cj1 (by assumption)) | exact Ne.symm (cj2 (by assumption)) | exact Ne.symm (cj3 (by assumption)) | exact Ne.symm (cj4 (by assumption)) | exact Ne.symm (cj5 (by assumption)) | exact Ne.symm (cj6 (by assumption)) | exact Ne.symm (cj7 (by assumption)) | exact Ne.symm (cj8 (by assumption)) | exact Ne.symm (cj9 (by assumption)) | exact Ne.symm (cj10 (by assumption)) | exact Ne.symm (cj11 (by assumption)) | exact Ne.symm (cj12 (by assumption)) | exact Ne.symm (ce2 (by assumption)) | exact Ne.symm (ce3 (by assumption)) | exact Ne.symm (ce4 (by assumption)) | exact Ne.symm (ce5 (by assumption)) | exact Ne.symm (ce6 (by assumption)) | exact Ne.symm (ce7 (by assumption)) | exact Ne.symm (ce8 (by assumption)) | exact Ne.symm (ce9 (by assumption)) | exact Ne.symm (ce10 (by assumption)) | exact Ne.symm (ce11 (by assumption)) | exact Ne.symm (ce12 (by assumption)) | exact Nat.ne_of_lt (cj1 (by assumption)) | exact Nat.ne_of_lt (cj2 (by assumption)) | exact Nat.ne_of_lt (cj3 (by assumption)) | exact Nat.ne_of_lt (cj4 (by assumption)) | exact Nat.ne_of_lt (cj5 (by assumption)) | exact Nat.ne_of_lt (cj6 (by assumption)) | exact Nat.ne_of_lt (cj7 (by assumption)) | exact Nat.ne_of_lt (cj8 (by assumption)) | exact Nat.ne_of_lt (cj9 (by assumption)) | exact Nat.ne_of_lt (cj10 (by assumption)) | exact Nat.ne_of_lt (cj11 (by assumption)) | exact Nat.ne_of_lt (cj12 (by assumption)) | exact Nat.ne_of_lt (ce2 (by assumption)) | exact Nat.ne_of_lt (ce3 (by assumption)) | exact Nat.ne_of_lt (ce4 (by assumption)) | exact Nat.ne_of_lt (ce5 (by assumption)) | exact Nat.ne_of_lt (ce6 (by assumption)) | exact Nat.ne_of_lt (ce7 (by assumption)) | exact Nat.ne_of_lt (ce8 (by assumption)) | exact Nat.ne_of_lt (ce9 (by assumption)) | exact Nat.ne_of_lt (ce10 (by assumption)) | exact Nat.ne_of_lt (ce11 (by assumption)) | exact Nat.ne_of_lt (ce12 (by assumption)) | exact Nat.ne_of_gt (cj1 (by assumption)) | exact Nat.ne_of_gt (cj2 (by assumption)) | exact Nat.ne_of_gt (cj3 (by assumption)) | exact Nat.ne_of_gt (cj4 (by assumption)) | exact Nat.ne_of_gt (cj5 (by assumption)) | exact Nat.ne_of_gt (cj6 (by assumption)) | exact Nat.ne_of_gt (cj7 (by assumption)) | exact Nat.ne_of_gt (cj8 (by assumption)) | exact Nat.ne_of_gt (cj9 (by assumption)) | exact Nat.ne_of_gt (cj10 (by assumption)) | exact Nat.ne_of_gt (cj11 (by assumption)) | exact Nat.ne_of_gt (cj12 (by assumption)) | exact Nat.ne_of_gt (ce2 (by assumption)) | exact Nat.ne_of_gt (ce3 (by assumption)) | exact Nat.ne_of_gt (ce4 (by assumption)) | exact Nat.ne_of_gt (ce5 (by assumption)) | exact Nat.ne_of_gt (ce6 (by assumption)) | exact Nat.ne_of_gt (ce7 (by assumption)) | exact Nat.ne_of_gt (ce8 (by assumption)) | exact Nat.ne_of_gt (ce9 (by assumption)) | exact Nat.ne_of_gt (ce10 (by assumption)) | exact Nat.ne_of_gt (ce11 (by assumption)) | exact Nat.ne_of_gt (ce12 (by assumption)) | exact cj1 (cj1 (by assumption)) | exact cj2 (cj1 (by assumption)) | exact ce3 (cj1 (by assumption)) | exact cj1 (cj2 (by assumption)) | exact cj2 (cj2 (by assumption)) | exact ce3 (cj2 (by assumption)) | exact cj1 (cj3 (by assumption)) | exact cj2 (cj3 (by assumption)) | exact ce3 (cj3 (by assumption)) | exact cj1 (cj4 (by assumption)) | exact cj2 (cj4 (by assumption)) | exact ce3 (cj4 (by assumption)) | exact cj1 (cj5 (by assumption)) | exact cj2 (cj5 (by assumption)) | exact ce3 (cj5 (by assumption)) | exact cj1 (cj6 (by assumption)) | exact cj2 (cj6 (by assumption)) | exact ce3 (cj6 (by assumption)) | exact cj1 (cj7 (by assumption)) | exact cj2 (cj7 (by assumption)) | exact ce3 (cj7 (by assumption)) | exact Ne.symm (cj1 (cj1 (by assumption))) | exact Ne.symm (cj2 (cj1 (by assumption))) | exact Ne.symm (ce3 (cj1 (by assumption))) | exact Ne.symm (cj1 (cj2 (by assumption))) | exact Ne.symm (cj2 (cj2 (by assumption))) | exact Ne.symm (ce3 (cj2 (by assumption))) | exact Ne.symm (cj1 (cj3 (by assumption))) | exact Ne.symm (cj2 (cj3 (by assumption))) | exact Ne.symm (ce3 (cj3 (by assumption))) | exact Ne.symm (cj1 (cj4 (by assumption))) | exact Ne.symm (cj2 (cj4 (by assumption))) | exact Ne.symm (ce3 (cj4 (by assumption))) | exact Ne.symm (cj1 (cj5 (by assumption))) | exact Ne.symm (cj2 (cj5 (by assumption))) | exact Ne.symm (ce3 (cj5 (by assumption))) | exact Ne.symm (cj1 (cj6 (by assumption))) | exact Ne.symm (cj2 (cj6 (by assumption))) | exact Ne.symm (ce3 (cj6 (by assumption))) | exact Ne.symm (cj1 (cj7 (by assumption))) | exact Ne.symm (cj2 (cj7 (by assumption))) | exact Ne.symm (ce3 (cj7 (by assumption))) | exact ls1 (cj1 (by assumption)) | exact Ne.symm (ls1 (cj1 (by assumption))) | exact ls1 (ce2 (by assumption)) | exact Ne.symm (ls1 (ce2 (by assumption))) | exact ls2 (cj1 (by assumption)) | exact Ne.symm (ls2 (cj1 (by assumption))) | exact ls2 (ce2 (by assumption)) | exact Ne.symm (ls2 (ce2 (by assumption))) | exact ls3 | exact Ne.symm ls3 | exact Nat.ne_of_gt (Nat.lt_trans (cj1 (by assumption)) (by assumption)) | exact Nat.ne_of_lt (Nat.lt_trans (cj1 (by assumption)) (by assumption)) | exact Nat.ne_of_gt (Nat.lt_trans (cj2 (by assumption)) (by assumption)) | exact Nat.ne_of_lt (Nat.lt_trans (cj2 (by assumption)) (by assumption)) | exact Nat.ne_of_gt (Nat.lt_trans (ce2 (by assumption)) (by assumption)) | exact Nat.ne_of_lt (Nat.lt_trans (ce2 (by assumption)) (by assumption)) | exact Nat.ne_of_gt (Nat.lt_trans (ce3 (by assumption)) (by assumption)) | exact Nat.ne_of_lt (Nat.lt_trans (ce3 (by assumption)) (by assumption)) | fail "ne")
  k_with "call ref" => (k_here; (with_reducible show wpAny _ _ (call (Value.ref 124) _) _ _ _); k_dflt (refine' pick_use ?B_w ?F_w ?X_w ?N_w ?T_w ?K_w ?D_w ?R_w ?U_w ?l_w ?i_w ?len_w ?k0_w ?k1_w ?c0_w ?c1_w ?m0_w ?m1_w ?_; (case B_w => k_asm); (case F_w => k_asm); (case X_w => k_asm); (case N_w => k_asm); (case T_w => k_asm); (case K_w => first | rfl | assumption); (case D_w => ktr_room); (case R_w => ktr_units); (case U_w => k_updF); (case l_w => k_mem); (case i_w => assumption); (case len_w => assumption); (case k0_w => first | assumption | exact Int.add_nonneg (by assumption) (by decide) | omega); (case k1_w => first | exact leK (K := 60) (by assumption) (by decide) | exact leK1 (K := 60) (by assumption) (by decide) | exact leK (K := 20) (by assumption) (by decide) | omega); (case c0_w => assumption); (case c1_w => assumption); (case m0_w => decide); (case m1_w => decide); k_whole); intro vq_w tq_w t2q_w hq_w tkq_w v0q_w v1q_w Fq_w Nq_w; (try dsimp only at Nq_w); (try dsimp only); (first | ((have v3q_w : _ < (2 : Int) := v1q_w); (rcases two_cases v0q_w v3q_w with e9 | e9 <;> subst e9)) | skip); walk_say "PICK")
  k_with "call ref" => (k_here; (with_reducible show wpAny _ _ (call (Value.ref 73) _) _ _ _); k_dflt (refine' ef_use ?B_w ?F_w ?X_w ?N_w ?T_w ?K_w ?D_w ?R_w ?U_w ?d_w ?o_w ?kl_w ?g_w ?len_w ?x_w ?W_w ?_; (case B_w => k_asm); (case F_w => k_asm); (case X_w => k_asm); (case N_w => k_asm); (case T_w => k_asm); (case K_w => first | rfl | assumption); (case D_w => ktr_room); (case R_w => ktr_units); (case U_w => k_updF); (case d_w => assumption); (case o_w => assumption); (case kl_w => assumption); (case g_w => exact HoldsAt.up (KnownOk.holds (by assumption) _) (by intro p_w hp_w; kcf_m)); (case len_w => assumption); (case x_w => assumption); (case W_w => assumption)); intro r9_w t9_w L9_w ys9_w n9_w od9_w h9_w tk9_w hr9_w hc9_w F9_w N9_w hd9_w hS9_w hoff9_w; (try dsimp only at N9_w); (cases r9_w <;> (simp only [Option.isSome] at hr9_w; subst hr9_w; simp only [optV])); walk_say "EF")
  k_with "subscriptTail" => (k_here; (with_reducible show wpAny _ _ (subscriptTail _ _ (Value.ref _) (Value.int _ _)) _ _ _); k_dflt (refine' sorts_item ?l_w ?a_w ?b_w ?_ ?s_w; (case l_w => exact News.isList (by k_asm) (by k_mem)); (case a_w => assumption); (case b_w => assumption); (case s_w => with_unfolding_all rfl)); intro x9q_w t9q_w hx9q_w; walk_say "SORT")
  k_with "exec For Name Call cons nil" => refine stop ?_
  k_with "call type:range" => ((rename Fr _ _ _ _ => Fq_w); (rename News _ _ _ _ => Nq_w); (with_unfolding_all refine range1_rows Fq_w Nq_w ?_; intro _ _ _ _ _ _ _ _ _))
  k_with "compareOp In str ref" => (k_here; k_dflt (refine' in_list_strs ?l_w ?i_w ?_; (case i_w => assumption); (case l_w => exact News.isList (by k_asm) (by k_mem))))
  k_with "compareOp NotEq ref ref" => (k_here; k_dflt (refine' ne_nil ?l_w ?b_w ?i_w ?o_w ?u_w ?_; (case i_w => assumption); (case l_w => exact News.isList (by k_asm) (by k_mem)); (case b_w => exact News.isList (by k_asm) (by k_mem)); (case o_w => assumption); (case u_w => ktr_units)))
  k_with "call builtin:len" => (k_here; k_dflt (refine' len_led ?l_w ?i_w ?b_w ?_; (case i_w => assumption); (case l_w => exact News.isList (by k_asm) (by k_mem)); (case b_w => assumption)))
  k_with "call builtin:list.append" => (k_here; k_dflt (refine' append_led ?F_w ?N_w ?U_w ?z_w ?_; (case F_w => k_asm); (case N_w => k_asm); (case U_w => k_updF); (case z_w => assumption)); intro hq_w Fq_w Nq_w; (try dsimp only at Nq_w))
  k_with "call type:dict" => (k_here; k_dflt (refine' dict_pairs ?hh_w ?F_w ?N_w ?b_w ?l_w ?r_w ?z_w ?_; (case hh_w => rfl); (case F_w => k_asm); (case N_w => k_asm); (case b_w => exact modules_low (TopRead.nolimit (by k_asm))); (case l_w => k_mem); (case r_w => exact PairL.heap (by k_asm) (PairL.up (by assumption) (by intro p_w hp_w; kcf_m))); (case z_w => assumption)); intro hq_w tkq_w oq_w Fq_w Nq_w loq_w hdq_w hapq_w; walk_say "DICT")
  k_with "compareOp NotEq ref ref" => (k_here; k_dflt (refine' ne_known ?N_w ?ma_w ?mb_w ?da_w ?db_w ?ha_w ?hb_w ?ka_w ?kb_w ?ok_w ?u_w ?_; (case N_w => k_asm); (case ma_w => k_mem); (case mb_w => k_mem); (case da_w => assumption); (case db_w => assumption); (case ha_w => assumption); (case hb_w => assumption); (case ka_w => exact KnownOk.up (by assumption) (by intro p_w hp_w; kcf_m)); (case kb_w => exact KnownOk.up (by assumption) (by intro p_w hp_w; kcf_m)); (case ok_w => assumption); (case u_w => ktr_units)); walk_say "KNOWN")
  k_with "call builtin:list.count" => (k_here; k_dflt (refine' count_led ?l_w ?i_w ?_; (case i_w => assumption); (case l_w => exact News.isList (by k_asm) (by k_mem))))
  k_with "pyIter ref" => refine stop ?_
  k_with "eval ListComp" => refine stop ?_
  k_with "exec Assign cons ListComp" => refine stop ?_
  revert X
  k_fill
  intro X
  refine wpAny_call ?_
  k_dflt (refine' code_defC ?k1 ?k2 ?k3 ?k4 ?k5 ?kA ?kF ?kK ?k6 ?k7 ?k8 ?k9 ?kB ?kD ?_ ?c2 ?c3 ?c4; (case kA => exact rfl); (case kF => exact rfl); (case kK => first | exact rfl | assumption); (case k1 => k_asm); (case k2 => k_asm); (case k3 => k_asm); (case k4 => k_asm); (case k5 => k_asm); (case k6 => k_is); (case k7 => k_is); (case k8 => ktr_room); (case k9 => exact BindsTo.of_eq rfl); (case kB => exact rfl); (case kD => decide +kernel); (case c2 => exact rfl); (case c3 => exact rfl); (case c4 => exact rfl); k_whole)
  intro gE LE hE tkE cellsE FGE FE NE YE BE XE TE l1
  (try k_lt l1)
  k_cells YE
  (try simp only [List.cons_append, List.nil_append] at NE)
  (try dsimp only)
  (try k_lift BE)
  (try k_fold)
  (rename Fr _ _ _ (bindL _ _ _) => F5)
  refine execs_atF 1 (EJ1 (w := w) s gE LE p l strict (penObj l k t1 c t2 n1) (listOf vs.toArray n2)) ?_ ?_
  · with_reducible (dsimp only [List.take, List.drop, frG, frL, frM])
    refine mono_stop ?_
    k_steps
    refine Stop.go ?_
    (rename News _ _ _ _ => kN)
    (rename Fr _ _ _ _ => kF)
    (rename Obj.IsDictOf (PySem.strKind _ _) _ [] => kD)
    (rename (_ == sysModules) = false => kLo)
    (rename Obj.data _ = Data.cell (some (Value.ref _)) => kRo)
    refine' ⟨rfl, _, _, _, _, _, _, _, _, _, fr_chain3 kF rfl rfl rfl, ?N, kD, kLo, kRo, ?K, ?A, ?B⟩
    case N => exact (fun q hq => kN q ((show ∀ q ∈ _, q ∈ _ by kcf_all) q hq))
    case K => assumption
    case A => first | assumption | exact cj1 (by assumption)
    case B => first | assumption | exact cj1 (by assumption)
  · with_reducible (dsimp only [List.take, List.drop, frG, frL, frM])
    intro s' h9
    induction h9
    rename_i h' tk' kd rl od ro kc vk m' F' N' hod hlo hro hkc hlt1 hlt2
    clear F5
    have hq1 := en_ne1 l1 hlt1 hlt2
    have hq2 := en_ne2 l1 hlt1 hlt2
    simp only [eLed] at N'
    k_steps
    refine Stop.go ?_
    (rename Fr _ _ _ _ => lF')
    (with_unfolding_all refine' For_invVF lF' ?k1 ?k2 ?_)
    case k1 => exact rfl
    case k2 => exact rfl
    k_steps
    refine Stop.go ?_
    rename IsRange _ _ _ _ _ _ _ _ => kR
    rename News _ _ _ (_ :: _) => N1
    rename Fr _ _ _ _ => F1
    (rename (0 : Int) ≤ _ => kv0)
    (rename _ < (5 : Int) => kv1)
    refine loop_rng (σ := EnS) (EnLed kd rl (LE + 1) (LE + 1 + 1) p l c t2 n1 ro (listOf vs.toArray n2)) (EnP w (eLed kd rl (LE + 1) (LE + 1 + 1) p l od [] 0 ro kc ro ro []) (k + 1)) ["sort", "ahead", "is_wrong", "told"] ⟨od, [], [], 0, kc, k + 1, _, [], []⟩ rfl kR (small_one (by decide) (by decide) (Int.le_trans (by decide) (Int.add_le_add_left kv0 1)) (Int.lt_trans (Int.add_lt_add_left kv1 1) (by decide))) (rangeSz0 _) F1 N1 ?hp ?turn ?done
    case hp => exact ⟨hod, ⟨rfl, fun _ _ h => nomatch h⟩, .nil, rfl, fun _ h => (nomatch h), ⟨vk, hkc⟩, Int.le_refl _, by simp, fun _ h => nomatch h⟩
    case turn =>
      rintro i ⟨cod, ckvs, crvs, crn, ckc, ck9, ct, ctail, crows⟩ tt u h tk own hi9 hoff hP F2 N2
      obtain ⟨pod, pkn, prows, plen, pok, ⟨pv, pkc⟩, plo, phi, poff⟩ := hP
      dsimp only [frL, frG] at pod pkn prows plen pok pkc plo phi poff N2 hoff
      have hi5 : i < 5 := en_i5 kv1 hi9
      have hc5 : crows.length ≤ 5 := by rw [plen]; exact Nat.le_of_lt hi5
      have hkA : 0 ≤ ck9 := Int.le_trans k0 (Int.le_trans (ar_ge (by decide)) plo)
      have hkB : ck9 ≤ 60 := en_60 k1 phi hi5
      have hoX := off_X poff hoff en_sub
      have hXt : ∀ p ∈ ctail, p ∈ ctail ++ own := fun p hp => List.mem_append.mpr (.inl hp)
      have hXo : ∀ p ∈ own, p ∈ ctail ++ own := fun p hp => List.mem_append.mpr (.inr hp)
      (try dsimp only [frL, frG])
      clear N1 F1
      simp only [EnLed, eLed, List.cons_append] at N2
      (try dsimp only)
      refine turn_gen (fun QQ E9 hend => ?_)
      refine execs_atF 1 (EJ2 s gE LE (frM F2) kd rl p l cod crvs crn ro ck9 c t2 n1 (listOf vs.toArray n2) (ctail ++ own)) ?_ ?_
      · with_reducible (dsimp only [List.take, List.drop, frG, frL, frM])
        refine mono_stop ?_
        k_steps
        all_goals refine Stop.go ?_
        all_goals (rename News _ _ _ _ => kN)
        all_goals (rename Fr _ _ _ _ => kF)
        all_goals (rename Obj.data _ = Data.cell (some (Value.str _ _)) => kD)
        all_goals exact ⟨rfl, _, _, _, _, _, _, _, _, kF, (fun q hq => kN q ((show ∀ q ∈ _, q ∈ _ by kcf_all) q hq)), kD, by first | assumption | decide, by first | assumption | decide⟩
      · with_reducible (dsimp only [List.take, List.drop, frG, frL, frM])
        intro s' h9
        induction h9
        rename_i h' tk' sort key ts tkey t' kc' F' N' hkc' hsort hkey
        clear F2 N2
        (try dsimp only)
        refine execs_atF 3 (EJ3 s gE LE (frM F') (eLed kd rl (LE + 1) (LE + 1 + 1) p l cod crvs crn ro kc' (penObj l (ck9 + 1 + 1) t' c t2 n1) (listOf vs.toArray n2) (ctail ++ own)) (faultB sort (aheadOf crows key) strict)) ?_ ?_
        · with_reducible (dsimp only [List.take, List.drop, frG, frL, frM])
          simp only [eLed] at N'
          k_steps
          refine Stop.go ?_
          rename News _ _ _ _ => N1
          rename Fr _ _ _ _ => F1
          k_dflt (refine Assign_ListComp_pt (items := crows) (fun q a b => (∃ t, a = .str q.1 t) ∧ ∃ t, b = .str q.2 t) (fun q => q.2 == key) (fun q y => ∃ t, y = .str q.1 t) rfl ?hsz (by with_unfolding_all rfl) (by with_unfolding_all rfl) (by decide) (by rfl) (by decide) (by rfl) (by rfl) (by decide) (by rfl) (by rfl) ?h)
          case hsz => rw [sizeLine_eq]; exact Nat.le_trans hc5 (by decide)
          case h =>
            refine mono_stop ?_
            k_steps
            refine Stop.go ?_
            have hl : Heap.IsList _ rl crvs.toArray := News.isList N1 (n := crn) (by k_mem)
            k_dflt (refine list_pt (items := crows) rfl hl ?_ ?_ ?_ ?_ ?_)
            · rw [List.size_toArray, prows.length]
            · intro i v hv
              obtain ⟨q, z, t9, t8, n9, hq, rfl, hz⟩ := prows.get (by simpa using hv)
              have hz2 := hXt _ hz
              exact ⟨z, _, _, q, rfl, hq, ⟨⟨t9, rfl⟩, t8, rfl⟩, ⟨tupOf [.str q.1 t9, .str q.2 t8] n9, (N1 (z, tupOf [.str q.1 t9, .str q.2 t8] n9) (by kcf_m)).1, rfl, n9, rfl⟩⟩
            · refine two_strs F1 N1 fun C z i ta tb s₃ m₃ E' oC hq hoC F3 N3 hx1 hx2 => ?_
              (try dsimp only at hx1 hx2)
              refine mono_stop ?_
              k_steps
              refine Stop.go ?_
              exact ⟨rfl, _, _, rfl, fun _ _ e => e⟩
            · refine two_strs F1 N1 fun C z i ta tb s₃ m₃ E' oC hq hoC F3 N3 hx1 hx2 => ?_
              (try dsimp only at hx1 hx2)
              refine mono_stop ?_
              k_steps
              exact Stop.go ⟨⟨_, rfl⟩, _, _, rfl, fun _ _ e => e⟩
            · intro D h tk ys hk3 hD hys hD0 hDs
              refine ⟨_, F1.ns, ?_⟩
              intro h4 tk4 hn4 hk4 hD4 hDs4 hys4
              obtain ⟨F5, N5, l5⟩ := pt_stored F1 N1 hn4 hk4 hD4 hDs4
              k_lt l5
              clear F1 N1 hn4 hk4 hD4 hk3 hD hl
              have hst : StrsAre ys (aheadOf crows key) := strs_of hys4
              have hso : StrsOk (aheadOf crows key) := fun x hx => by
                obtain ⟨q, hq, rfl⟩ := ahead_mem hx
                exact sorts3_ok _ (pok q hq).1
              have hal : (aheadOf crows key).length ≤ 1000 := Nat.le_trans ahead_len (Nat.le_trans hc5 (by decide))
              have hA3 : ∀ x ∈ aheadOf crows key, x ∈ sorts3 := fun x hx => by
                obtain ⟨q, hq, rfl⟩ := ahead_mem hx
                exact (pok q hq).1
              k_steps
              all_goals (rename News _ _ _ _ => kN)
              all_goals (rename Fr _ _ _ _ => kF)
              all_goals refine ej3_end ?_ kF kN (by kcf_all)
              all_goals first
                | exact W1 (by assumption) (by assumption)
                | exact W2 (by assumption) (by assumption) (by assumption)
                | exact W3 hA3 (by assumption) (by assumption)
                | exact W4 hA3 (by assumption) (by assumption) (by assumption)
                | exact W5 hA3 (by assumption) (by assumption) (by assumption)
                | exact W6 (by assumption) (by assumption) (by assumption)
                | exact W7 (by assumption) (by assumption) (by assumption) (by assumption)
                | exact W8 (by assumption) (by assumption)
        · with_reducible (dsimp only [List.take, List.drop, frG, frL, frM])
          intro s' h9
          induction h9
          rename_i h3 tk3 a9 F3 N3
          clear F' N'
          simp only [eLed] at N3
          generalize hW : faultB sort (aheadOf crows key) strict = W at F3
          have hkl : ckvs.length ≤ 63 := by
            have h1 := congrArg List.length pkn.1
            rw [List.length_map] at h1
            rw [h1]
            exact Nat.le_trans (keys_len _) (Nat.le_trans hc5 (by decide))
          have hal : (aheadOf crows key).length ≤ 63 := Nat.le_trans ahead_len (Nat.le_trans hc5 (by decide))
          have hrz : crvs.length ≤ sizeLine := by rw [sizeLine_eq, prows.length]; exact Nat.le_trans hc5 (by decide)
          have hkx : key.length ≤ 100 := keys2_len _ hkey
          refine execs_atF 3 (EJ4 (w := w) s gE LE (frM F3) kd rl (LE + 1) (LE + 1 + 1) p l crn crvs ro kc' (penObj l (ck9 + 1 + 1) t' c t2 n1) (listOf vs.toArray n2) (ctail ++ own) ckvs sort key ts tkey (aheadOf crows key)) ?_ ?_
          · with_reducible (dsimp only [List.take, List.drop, frG, frL, frM])
            k_steps
            all_goals first
              | exact (told_has hkey (by (rename (∀ x ∈ some _, ∃ a b, x = a ++ key ++ b) => hc); exact hc _ rfl) (by assumption)).elim
              | (((rename News _ _ _ _ => kN); (rename Fr _ _ _ _ => kF); (rename Obj.IsDictOf _ _ (stored ckvs key _) => kD); (rename StrsAre _ (aheadOf crows key ++ [sort]) => kS); (rename (∀ q ∈ (_ :: (kd, cod) :: _), q.1 ≠ _) => kO); (rename (kd < _ ∧ rl < _ ∧ _) => kL)); exact ⟨_, _, _, _, _, _, _, _, kF, kN, kD, kS, off_pair kO kL⟩)
          · with_reducible (dsimp only [List.take, List.drop, frG, frL, frM])
            intro s' h9
            induction h9
            rename_i h4 tk4 T L9 ys9 n9 od9 told F4 N4 hd9 hS9 hO9
            clear F3 N3
            simp only [eLed] at N4
            have hka : KnownOk ((L9, PySem.W.listOf ys9.toArray n9) :: (T, tupOf [.str sort ts, .str key tkey] 0) :: ctail) (crows ++ [(sort, key)]) (PySem.stored ckvs key (.ref L9)) := pkn.step (fun p hp => .tail _ (.tail _ hp)) (.head _) hS9
            have hrow : RowS ((L9, PySem.W.listOf ys9.toArray n9) :: (T, tupOf [.str sort ts, .str key tkey] 0) :: ctail) (crvs ++ [.ref T]) (crows ++ [(sort, key)]) := RowS.snoc (prows.up fun p hp => .tail _ (.tail _ hp)) (.tail _ (.head _))
            have hlen9 : (crows ++ [(sort, key)]).length ≤ 5 := by rw [List.length_append, List.length_singleton, plen]; exact hi5
            have hok9 : ∀ q ∈ crows ++ [(sort, key)], PyData.strOk q.1 = true := fun q hq => by
              rcases List.mem_append.mp hq with hq | hq
              · exact sorts3_ok _ (pok q hq).1
              · rw [List.mem_singleton.mp hq]; exact sorts3_ok _ hsort
            generalize hR9 : crows ++ [(sort, key)] = R9 at hka hrow hlen9 hok9
            k_steps
            refine Stop.go ?_
            rename News _ _ _ _ => N1
            rename Fr _ _ _ _ => F1
            k_dflt (refine ListComp_PC (h₀ := gE) (L := LE) (m := frM F1) (its := crvs ++ [Value.ref T]) (ki := crn + 1) (ax := rl) (EnJ R9 (rl, PySem.W.listOf (crvs ++ [Value.ref T]).toArray (crn + 1))) rfl ?hsz (by with_unfolding_all rfl) (by decide) (by intro _; rfl) (by intro _; rfl) (by rfl) (by rfl) (by intro _ _; rfl) ?h)
            case hsz => rw [sizeLine_eq, hrow.length]; exact Nat.le_trans hlen9 (by decide)
            case h =>
              refine mono_stop ?_
              k_steps
              refine Stop.go ?_
              refine ⟨_, _, by k_asm, N1, ?Jm, EnJ.nil (by k_mem), ?turn, ?fin⟩
              case Jm =>
                rintro i ys nw ⟨nx, ps, _, _, hm⟩
                exact List.mem_append.mpr (.inl hm)
              case turn =>
                rintro g i v ys nw hv ⟨nx, ps, hPL, hpm, hmr⟩
                replace hv := RowS.item hrow hv
                obtain ⟨q, z, t5, t6, n5, hq, hz⟩ := hv
                refine ⟨z, tupOf [.str q.1 t5, .str q.2 t6] n5, _, _, n5, rfl, List.mem_append.mpr (.inl (by rcases List.mem_cons.mp hz with e | hz; (rw [e]; k_mem); rcases List.mem_cons.mp hz with e | hz; (rw [e]; k_mem); kcf_m)), rfl, rfl, ?_⟩
                intro I' oI' C' oC' c' oc' D' m' h' tk' E' hoc' hC' hx' F' N' off' offc'
                simp only [List.cons_append, List.nil_append] at N'
                (try dsimp only [frM] at F')
                refine mono_stop ?_
                k_steps
                refine Stop.go ?_
                k_dflt (refine ListComp_pt (items := R9) (fun q a b => (∃ t, a = .str q.1 t) ∧ ∃ t, b = .str q.2 t) (fun q' => q'.2 == q.2) (fun q y => ∃ t, y = .str q.1 t) rfl ?hsz (by with_unfolding_all rfl) (by decide) (by rfl) (by decide) (by rfl) (by rfl) (by decide) ?h)
                case hsz => rw [sizeLine_eq]; exact Nat.le_trans hlen9 (by decide)
                case h =>
                  refine mono_stop ?_
                  k_steps
                  refine Stop.go ?_
                  have hl : Heap.IsList _ rl (crvs ++ [Value.ref T]).toArray := News.isList N' (n := crn + 1) (by k_mem)
                  k_dflt (refine list_pt (items := R9) rfl hl ?_ ?_ ?_ ?_ ?_)
                  · rw [List.size_toArray, hrow.length]
                  · intro i2 v2 hv2
                    obtain ⟨q2, z2, t9, t8, n8, hq2, rfl, hz2⟩ := hrow.get (by simpa using hv2)
                    have hz3 : (z2, tupOf [.str q2.1 t9, .str q2.2 t8] n8) ∈ (I', oI') :: (C', oC') :: (c', oc') :: (D', LCg.lst ys) :: (L9, PySem.W.listOf ys9.toArray n9) :: (T, tupOf [.str sort ts, .str key tkey] 0) :: (kd, od9) :: (rl, PySem.W.listOf (crvs ++ [Value.ref T]).toArray (crn + 1)) :: (LE + 1, ro) :: (LE + 1 + 1, kc') :: (p, penObj l (ck9 + 1 + 1) t' c t2 n1) :: (l, PySem.W.listOf vs.toArray n2) :: (ctail ++ own ++ nx) := by
                      rcases List.mem_cons.mp hz2 with e | hz2
                      · rw [e]; kcf_m
                      rcases List.mem_cons.mp hz2 with e | hz2
                      · rw [e]; kcf_m
                      · kcf_m
                    exact ⟨z2, _, _, q2, rfl, hq2, ⟨⟨t9, rfl⟩, t8, rfl⟩, ⟨tupOf [.str q2.1 t9, .str q2.2 t8] n8, (N' (z2, tupOf [.str q2.1 t9, .str q2.2 t8] n8) hz3).1, rfl, n8, rfl⟩⟩
                  · refine two_strs F' N' fun C z2 i2 ta tb s₃ m₃ E'' oC hq2 hoC F3 N3 hx1 hx2 => ?_
                    (try dsimp only at hx1 hx2)
                    refine mono_stop ?_
                    k_steps
                    refine Stop.go ?_
                    exact ⟨rfl, _, _, rfl, fun _ _ e => e⟩
                  · refine two_strs F' N' fun C z2 i2 ta tb s₃ m₃ E'' oC hq2 hoC F3 N3 hx1 hx2 => ?_
                    (try dsimp only at hx1 hx2)
                    refine mono_stop ?_
                    k_steps
                    exact Stop.go ⟨⟨_, rfl⟩, _, _, rfl, fun _ _ e => e⟩
                  · intro D h tk ys2 hk3 hD hys hD0 hDs
                    obtain ⟨F5, N5, l5⟩ := pt_after F' N' hk3 hD hDs
                    k_lt l5
                    have hst : StrsAre ys2 (aheadOf R9 q.2) := strs_of hys
                    clear hk3 hD hl
                    k_steps
                    refine Stop.go ?_
                    rename News _ _ _ (_ :: _ :: _) => kN
                    rename Fr _ _ _ _ => kF
                    rename (_ < _ ∧ _ < _ ∧ _) => kL
                    refine cend_intro (lit := (L9, PySem.W.listOf ys9.toArray n9) :: (T, tupOf [.str sort ts, .str key tkey] 0) :: eLed kd rl (LE + 1) (LE + 1 + 1) p l od9 (crvs ++ [.ref T]) (crn + 1) ro kc' (penObj l (ck9 + 1 + 1) t' c t2 n1) (PySem.W.listOf vs.toArray n2) (ctail ++ own)) (nx := nx) (oT := { cls := .type "tuple", data := .seq #[.str q.2 t6, .ref D] }) (oL := LCg.lst ys2) kF kN ?sub off' offc' ⟨kL.2.1, kL.2.2.1, kL.2.2.2.1, kL.2.2.2.2.1⟩ ⟨l5.1, l5.2.1, l5.2.2.1, l5.2.2.2.1⟩ (EnJ.mk (_ :: _ :: nx) (ps ++ [(q.2, .ref D)]) (PairL.snoc (t := t6) (n := 0) (n2 := ys2.length) (PairL.up hPL ?up) ?m1 ?m2 hst) ?tk hmr)
                    case sub => (simp only [eLed, List.cons_append]; kcf_all)
                    case up => (simp only [eLed, List.cons_append]; kcf_all)
                    case m1 => exact List.mem_append.mpr (.inr (.head _))
                    case m2 => exact List.mem_append.mpr (.inr (.tail _ (.head _)))
                    case tk => (rw [List.map_append, hpm, List.take_add_one, List.getElem?_map, hq]; rfl)
              case fin =>
                rintro g D h tk ys nw ⟨nx, ps, hPL, hpm, hmr⟩ F' N' o1'
                (try dsimp only [frM] at F')
                simp only [List.cons_append] at N'
                rw [hrow.length, ← List.length_map (f := (·.2)) (as := R9), List.take_length] at hpm
                have hps : ps.length ≤ 1000 := by
                  have h1 := congrArg List.length hpm
                  rw [List.length_map, List.length_map] at h1
                  rw [h1]; exact Nat.le_trans hlen9 (by decide)
                have hkb : KnownOk ((L9, PySem.W.listOf ys9.toArray n9) :: (T, tupOf [.str sort ts, .str key tkey] 0) :: (kd, od9) :: (rl, PySem.W.listOf (crvs ++ [Value.ref T]).toArray (crn + 1)) :: (LE + 1, ro) :: (LE + 1 + 1, kc') :: (p, penObj l (ck9 + 1 + 1) t' c t2 n1) :: (l, PySem.W.listOf vs.toArray n2) :: (ctail ++ own ++ nx)) R9 (storeAll [] ps) := known_of_pairs hPL hpm
                k_steps
                rename Obj.IsDictOf _ _ (storeAll [] ps) => hd8
                rename News _ _ _ ((_, _) :: (D, _) :: _) => N8
                rename Fr _ _ _ _ => F8
                rename (_ == sysModules) = false => hlo8
                k_dflt (refine ne_known N8 (.tail _ (.tail _ (.tail _ (.tail _ (.head _))))) (.head _) hd9 hd8 hlo hlo8 (KnownOk.up hka ?u1) (KnownOk.up hkb ?u2) hok9 ?u ?_)
                case u1 => (intro p hp; rcases List.mem_cons.mp hp with e | hp; (rw [e]; kcf_m); rcases List.mem_cons.mp hp with e | hp; (rw [e]; kcf_m); kcf_m)
                case u2 => (intro p hp; kcf_m)
                case u => ktr_units
                k_steps
                refine hend _ (InvEndG.intro (nx := EnLed kd rl (LE + 1) (LE + 1 + 1) p l c t2 n1 ro (PySem.W.listOf vs.toArray n2) ⟨od9, PySem.stored ckvs key (.ref L9), crvs ++ [.ref T], crn + 1, kc', ck9 + 1 + 1, t', (L9, PySem.W.listOf ys9.toArray n9) :: (T, tupOf [.str sort ts, .str key tkey] 0) :: ctail, R9⟩) F8 N8 ⟨_, rfl, ⟨hd9, hka, hrow, ?len, ?ok, ⟨_, hkc'⟩, ?lo, ?hi, en_off hO9 poff⟩, ?names⟩ ?off ?sub ?own)
                case sub => (simp only [EnLed, eLed]; kcf_all)
                case own => (intro q hq; kcf_m)
                case off => (refine en_own (led := EnLed kd rl (LE + 1) (LE + 1 + 1) p l c t2 n1 ro (PySem.W.listOf vs.toArray n2) { od := cod, kvs := ckvs, rvs := crvs, rn := crn, kc := ckc, k := ck9, t := ct, tail := ctail, rows := crows }) hO9 hoff ?_; exact en_own3)
                case len => rw [← hR9, List.length_append, List.length_singleton, plen]
                case ok => (intro q hq; rw [← hR9] at hq; rcases List.mem_append.mp hq with hq | hq; (exact pok q hq); (rw [List.mem_singleton.mp hq]; exact ⟨hsort, hkey⟩))
                case lo => exact Int.le_trans plo (Int.le_trans (ar_ge (by decide)) (ar_ge (by decide)))
                case hi => exact en_hi phi
                case names =>
                  intro z h1 h2
                  have e1 : ¬ z = "sort" := by rintro rfl; exact absurd h2 (by decide)
                  have e2 : ¬ z = "ahead" := by rintro rfl; exact absurd h2 (by decide)
                  have e3 : ¬ z = "is_wrong" := by rintro rfl; exact absurd h2 (by decide)
                  have e4 : ¬ z = "told" := by rintro rfl; exact absurd h2 (by decide)
                  simp only [e1, e2, e3, e4, h1, h2, if_false, Bool.false_eq_true]
    case done =>
      rintro ⟨cod, ckvs, crvs, crn, ckc, ck9, ct, ctail, crows⟩ u h tk hP F2 N2
      obtain ⟨pod, pkn, prows, plen, pok, ⟨pv, pkc⟩, plo, phi, poff⟩ := hP
      dsimp only [frL, frG] at pod pkn prows plen pok pkc plo phi poff N2
      clear N1 F1
      simp only [EnLed, eLed] at N2
      k_steps
      (rename News _ _ _ _ => kN)
      (rename Fr _ _ _ _ => kF)
      exact hret ck9 ct _ _ (Int.le_trans (ar_ge (by decide)) plo) (en_k20 kv0 kv1 phi) kF (fun q hq => kN q ((show ∀ q ∈ [(p, penObj l ck9 ct c t2 n1), (l, PySem.W.listOf vs.toArray n2)], q ∈ _ by kcf_all) q hq))
end
theorem en_use {p l : Addr} {vs : List Value} {ns : List Int} {n1 n2 : Nat} {k c : Int} {t1 t2 : Tok} {strict : Bool} {u : Obj → List (Addr × Obj)}
    (B : Below A₀ base outer h₀) (F : Fr h₀ L s.heap m) (X : (hd.heap_39 w.params).In h₀) (N : News h₀ L s.heap news)
    (T : Top hd.view_39 loose mean mg mb h₀) (hk : cs.kind = .function) (hdp : dp + 8 < recursionLimit) (hun : un + 400 < cLine)
    (U : UpdF p (penObj l k t1 c t2 n1) news u) (hl : (l, listOf vs.toArray n2) ∈ news)
    (hi : IntsAre vs ns) (hlen : ns.length ≤ 63) (k0 : 0 ≤ k) (k1 : k ≤ 20) (c0 : 0 ≤ c) (c1 : c < 997)
    (hret : ∀ (k' : Int) (t' : Tok) (h' : Heap) (tk' : Nat), k ≤ k' → k' ≤ k + 20 → Fr h₀ L h' m → News h₀ L h' [(p, penObj l k' t' c t2 n1), (l, listOf vs.toArray n2)] → Q (.bool true) { s with heap := h', toks := tk' }) :
    wpAny (model PySem.Challenge.rw_pc0067_01.row.prog w) (ktrTop dp un gd cn cs L a ccd cl outer) (call (.ref 139) [.ref p, .bool strict]) Q E s := by
  obtain ⟨rest, hne, hne', hnew, N0, hu, _⟩ := pen_nf N U hl hi
  refine en_ok (n1 := n1) (n2 := n2) (t1 := t1) (t2 := t2) B F X (fun q hq => N0 q ?_) T hk hdp hun hi hlen k0 k1 c0 c1 hne hne' hret
  rcases List.mem_cons.mp hq with rfl | hq
  · exact .head _
  · rw [List.mem_singleton.mp hq]
    exact .tail _ (.head _)
end
end PartEN

section PartAS
open PySem PySem.W PyProof.Rows PySem.Calls
section
variable {w : World} {loose : List Str} {mean : ExcName → Option Value} {mg mb : Str → Option Value} {dp un : Nat} {gd : Option (List Code)} {cn : Str} {cs : Scope} {a : Addr} {ccd : Value} {cl : List (Str × Addr)} {outer : List Env} {A₀ : Around} {base h₀ : Heap} {L : Addr} {m : Str → Option Value} {s : Shared} {Q E : Value → Shared → Prop} {news : List (Addr × Obj)}
section
variable {prog : Program} {A : Around} {env : Env}
/-- a comprehension over a list of the heap by places, given to a name -/
theorem Assign_ListComp_st {elt iter : Expr} {ifs : List Expr} {x y : Str} {px py : Pos} {scope : Scope} {cl : List (Str × Addr)} {pos spos : Pos} {α : Type} {items : List α} (R : α → Value → Prop) (p : α → Bool) (G : α → Value → Prop) {Q : Flow → Shared → Prop}
    (hh : A.handled = none) (hsz : items.length ≤ sizeLine)
    (hsw : swapsWith (.ListComp elt [⟨.Name x px, iter, ifs, 0⟩] scope pos) (some (.Name y py)) spos.line env = pure true)
    (hclos : closureFor scope env = pure cl) (hcell : ∀ y ∈ scope.names, y.2 ≠ .cell) (hkind : scope.kind = .function)
    (hnames : ∀ y ∈ scope.names, y.2 = .local → scope.names.lookup y.1 = some .local) (hx : scope.names.lookup x = some .local)
    (hy : env.kindOf y = some .local) (hp : (env.scope.kind == .class || (env.scope.kind == .module && env.locals != env.globals)) = false)
    (h : wpAny (model prog w) A (eval iter env) (StSrc prog w A env ifs elt x scope cl R items p G fun s₁ => ∃ m, s₁.heap.Ns env.locals m ∧ ∀ D h' tk' ys, h'.Ns env.locals (fun z => if z = y then some (.ref D) else m z) →
        (∀ z o, z ≠ env.locals → s₁.heap.get? z = some o → h'.get? z = some o) → h'.get? D = some (LCg.lst ys) → D ≥ s₁.heap.objs.size → All2 G (items.filter p) ys → Q .next { s₁ with heap := h', toks := tk' }) E s)
    (hs : ∀ x, foldedSetIterable iter env x = pure x := by intro _; rfl) :
    wpAny (model prog w) A (exec (.Assign [.Name y py] (.ListComp elt [⟨.Name x px, iter, ifs, 0⟩] scope pos) spos) env) Q E s := by
  rw [exec_Assign_Name_used _ _ _ _ hsw]
  refine wpAny_bind (wpAny_standAt (wpAny_bind ?_))
  show wpAny _ A (do let _ ← comprehension (.ListComp elt [⟨.Name x px, iter, ifs, 0⟩] scope pos) scope env _ (newList []) false (eval iter env) (some (assign (.Name y py) env))) _ _ s
  refine wpAny_bind (wpAny_mono (wpAny_comprehension_free (use := some (assign (.Name y py) env)) (Q := fun _ s' => Q .next s') rfl hs hclos hkind hnames
    (wpAny_mono h (fun xv s₁ h₁ => ?_) fun _ _ e => e)) (fun _ s' hq => wpAny_pure (wpAny_pure hq)) fun _ _ e => e)
  obtain ⟨ax, its, rfl, hl, hlen, hits, test, elem, m, hm, fin⟩ := h₁
  refine st_go hh hl hlen hits fun I fp wr St h₀ W hst hfp up hwr hHs => ?_
  refine st_block (H₁ := s₁.heap) R p G W hsz hcell hkind hx hst hfp up hwr test elem ?_ hHs
  intro D C h tk' m' ys hk hD hys hn hD₀ hC₀ hCD hDs
  have oldC : ∀ z o, s₁.heap.get? z = some o → z ≠ C := fun z o e q => by rw [q, hC₀] at e; cases e
  obtain ⟨oL, hoL⟩ : ∃ o, s₁.heap.get? env.locals = some o := by obtain ⟨o, _, _, e, _⟩ := hm; exact ⟨o, e⟩
  have hLC : C ≠ env.locals := (oldC _ _ hoL).symm
  have hLD : D ≠ env.locals := fun q => by rw [q, hoL] at hD₀; cases hD₀
  have hm' : h.Ns env.locals m := hm.at' fun o e => hk _ o e
  show wpAny _ A (assign (.Name y py) env (.ref D)) _ _ _
  refine wpAny_assign_Name (wpAny_storeName_local hy hm' (fun h₂ hn₂ hs₂ => ?_) hp)
  refine ⟨m', hn.sameBut hs₂ hLC, fun h'' hs'' => fin D h'' _ ys (hn₂.sameBut hs'' hLC.symm) (fun z o hz e => hs''.extBut z o (oldC z o e) (hs₂.extBut z o hz (hk z o e))) (hs''.extBut _ _ (Ne.symm hCD) (hs₂.extBut _ _ hLD hD)) hDs hys⟩
end
end
end PartAS

section PartLW
open PySem PySem.W PyProof.Rows PySem.Calls
section
variable {w : World} {loose : List Str} {mean : ExcName → Option Value} {mg mb : Str → Option Value} {dp un : Nat} {gd : Option (List Code)} {cn : Str} {cs : Scope} {a : Addr} {ccd : Value} {cl : List (Str × Addr)} {outer : List Env} {A₀ : Around} {base h₀ : Heap} {L : Addr} {m : Str → Option Value} {s : Shared} {Q E : Value → Shared → Prop} {news : List (Addr × Obj)}
theorem take_len {vs : List Value} {ns : List Int} (_ : IntsAre vs (ns.take 40)) : (ns.take 40).length ≤ 63 := by rw [List.length_take]; exact Nat.le_trans (Nat.min_le_left _ _) (by decide)
theorem take_fm0 {vs : List Value} {ns : List Int} (_ : IntsAre vs (ns.take 40)) : 0 ≤ (ns.take 40).sum.fmod 997 := fm0 (by decide)
theorem take_fm1 {vs : List Value} {ns : List Int} (_ : IntsAre vs (ns.take 40)) : (ns.take 40).sum.fmod 997 < 997 := fm1 (by decide)
/-- the pen drawn K times at most, and whether the code is strict -/
inductive LJ1 (K : Int) (s : Shared) (g : Heap) (L' : Addr)  : Shared → Prop
  | mk (h' : Heap) (tk' : Nat) (p l : Addr) (vs : List Value) (ns : List Int) (n1 n2 : Nat) (k c : Int) (t1 t2 : Tok) (strict : Bool) (m' : Str → Option Value) (_ : Fr g L' h' (fun y => if y = "is_strict" then some (.bool strict) else if y = "pen" then some (.ref p) else m' y)) (_ : News g L' h' [(p, penObj l k t1 c t2 n1), (l, listOf vs.toArray n2)]) (_ : (@Ne Nat p l)) (_ : (@Ne Nat l p)) (_ : IntsAre vs ns) (_ : ns.length ≤ 63) (_ : 0 ≤ c) (_ : c < 997) (_ : 0 ≤ k) (_ : k ≤ K) : LJ1 K s g L' { s with heap := h', toks := tk' }
noncomputable def owns : List (Option Str) := [none, some "a", some "eval", some "yield", some "f"]
/-- the names and the own name are drawn -/
inductive LJ3 (s : Shared) (g : Heap) (L' : Addr)  : Shared → Prop
  | mk (h' : Heap) (tk' : Nat) (D p l : Addr) (ys vs : List Value) (xs : List Str) (ns : List Int) (nD n1 n2 : Nat) (k c : Int) (t1 t2 to : Tok) (strict : Bool) (o : Option Str) (m' : Str → Option Value) (_ : Fr g L' h' (fun y => if y = "names" then some (.ref D) else if y = "own" then some (optV to o) else if y = "is_strict" then some (.bool strict) else if y = "pen" then some (.ref p) else m' y)) (_ : News g L' h' [(D, listOf ys.toArray nD), (p, penObj l k t1 c t2 n1), (l, listOf vs.toArray n2)]) (_ : (@Ne Nat p l)) (_ : (@Ne Nat l p)) (_ : (@Ne Nat p D)) (_ : (@Ne Nat D p)) (_ : (@Ne Nat l D)) (_ : (@Ne Nat D l)) (_ : IntsAre vs ns) (_ : ns.length ≤ 63) (_ : 0 ≤ c) (_ : c < 997) (_ : 0 ≤ k) (_ : k ≤ 40) (_ : StrsAre ys xs) (_ : xs.length ≤ 5) (_ : (∀ x ∈ xs, x ∈ words8)) (_ : o ∈ owns) : LJ3 s g L' { s with heap := h', toks := tk' }
/-- behind whole -/
inductive LJ5 (s : Shared) (g : Heap) (L' : Addr)  : Shared → Prop
  | mk (h' : Heap) (tk' : Nat) (W D p l : Addr) (wvs ys vs : List Value) (xs : List Str) (ns : List Int) (nW nD n1 n2 : Nat) (k c : Int) (t1 t2 to : Tok) (strict : Bool) (o : Option Str) (m' : Str → Option Value) (_ : Fr g L' h' (fun y => if y = "whole" then some (.ref W) else if y = "names" then some (.ref D) else if y = "own" then some (optV to o) else if y = "is_strict" then some (.bool strict) else if y = "pen" then some (.ref p) else m' y)) (_ : News g L' h' [(W, listOf wvs.toArray nW), (D, listOf ys.toArray nD), (p, penObj l k t1 c t2 n1), (l, listOf vs.toArray n2)]) (_ : (@Ne Nat p l)) (_ : (@Ne Nat l p)) (_ : (@Ne Nat p D)) (_ : (@Ne Nat D p)) (_ : (@Ne Nat l D)) (_ : (@Ne Nat D l)) (_ : IntsAre vs ns) (_ : ns.length ≤ 63) (_ : 0 ≤ c) (_ : c < 997) (_ : 0 ≤ k) (_ : k ≤ 40) (_ : StrsAre ys xs) (_ : xs.length ≤ 5) (_ : (∀ x ∈ xs, x ∈ words8)) (_ : o ∈ owns) (_ : StrsAre wvs (o.toList ++ xs)) : LJ5 s g L' { s with heap := h', toks := tk' }
noncomputable def bad5 : List Str := ["let", "static", "yield", "eval", "arguments"]
/-- behind bad -/
inductive LJ6 (s : Shared) (g : Heap) (L' : Addr)  : Shared → Prop
  | mk (h' : Heap) (tk' : Nat) (W D p l : Addr) (wvs ys vs : List Value) (xs : List Str) (ns : List Int) (nW nD n1 n2 : Nat) (k c : Int) (t1 t2 to : Tok) (strict : Bool) (o : Option Str) (m' : Str → Option Value) (_ : Fr g L' h' (fun y => if y = "bad" then some (.ref W) else if y = "names" then some (.ref D) else if y = "own" then some (optV to o) else if y = "is_strict" then some (.bool strict) else if y = "pen" then some (.ref p) else m' y)) (_ : News g L' h' [(W, listOf wvs.toArray nW), (D, listOf ys.toArray nD), (p, penObj l k t1 c t2 n1), (l, listOf vs.toArray n2)]) (_ : (@Ne Nat p l)) (_ : (@Ne Nat l p)) (_ : (@Ne Nat p D)) (_ : (@Ne Nat D p)) (_ : (@Ne Nat l D)) (_ : (@Ne Nat D l)) (_ : IntsAre vs ns) (_ : ns.length ≤ 63) (_ : 0 ≤ c) (_ : c < 997) (_ : 0 ≤ k) (_ : k ≤ 40) (_ : StrsAre ys xs) (_ : xs.length ≤ 5) (_ : (∀ x ∈ xs, x ∈ words8)) (_ : o ∈ owns) (_ : StrsAre wvs ((o.toList ++ xs).filter fun x => bad5.any (· == x))) : LJ6 s g L' { s with heap := h', toks := tk' }
/-- behind told and twice -/
inductive LJ7 (s : Shared) (g : Heap) (L' : Addr)  : Shared → Prop
  | mk (h' : Heap) (tk' : Nat) (W D p l : Addr) (wvs ys vs : List Value) (xs : List Str) (ns : List Int) (nW nD n1 n2 : Nat) (k c : Int) (t1 t2 to tt tw : Tok) (strict : Bool) (o : Option Str) (m' : Str → Option Value) (_ : Fr g L' h' (fun y => if y = "told" then some (optV tt (bif strict then paramsFault (o.toList ++ xs) xs else none)) else if y = "twice" then some (optV tw (firstTwice [] xs)) else if y = "bad" then some (.ref W) else if y = "names" then some (.ref D) else if y = "own" then some (optV to o) else if y = "is_strict" then some (.bool strict) else if y = "pen" then some (.ref p) else m' y)) (_ : News g L' h' [(W, listOf wvs.toArray nW), (D, listOf ys.toArray nD), (p, penObj l k t1 c t2 n1), (l, listOf vs.toArray n2)]) (_ : (@Ne Nat p l)) (_ : (@Ne Nat l p)) (_ : (@Ne Nat p D)) (_ : (@Ne Nat D p)) (_ : (@Ne Nat l D)) (_ : (@Ne Nat D l)) (_ : IntsAre vs ns) (_ : ns.length ≤ 63) (_ : 0 ≤ c) (_ : c < 997) (_ : 0 ≤ k) (_ : k ≤ 40) (_ : StrsAre ys xs) (_ : xs.length ≤ 5) (_ : (∀ x ∈ xs, x ∈ words8)) (_ : o ∈ owns) (_ : StrsAre wvs ((o.toList ++ xs).filter fun x => bad5.any (· == x))) : LJ7 s g L' { s with heap := h', toks := tk' }
theorem fr_chain5 {h : Heap} {a b c d e : Str} {va vb vc vd ve : Value} (F : Fr h₀ L h m) (ha : m a = some va) (hb : m b = some vb) (hc : m c = some vc) (hd : m d = some vd) (he : m e = some ve) :
    Fr h₀ L h (fun y => if y = a then some va else if y = b then some vb else if y = c then some vc else if y = d then some vd else if y = e then some ve else m y) := fr_ext F fun y => by
  by_cases e1 : y = a
  · subst e1; rw [if_pos rfl]; exact ha
  rw [if_neg e1]
  by_cases e2 : y = b
  · subst e2; rw [if_pos rfl]; exact hb
  rw [if_neg e2]
  by_cases e3 : y = c
  · subst e3; rw [if_pos rfl]; exact hc
  rw [if_neg e3]
  by_cases e4 : y = d
  · subst e4; rw [if_pos rfl]; exact hd
  rw [if_neg e4]
  by_cases e5 : y = e
  · subst e5; rw [if_pos rfl]; exact he
  rw [if_neg e5]
theorem tup_keep {M : Model} {A : Around} {vs : List Value} (F : Fr h₀ L s.heap m) (N : News h₀ L s.heap news)
    (h : ∀ D h', Fr h₀ L h' m → News h₀ L h' ((D, ({ cls := .type "tuple", data := .seq vs.toArray } : Obj)) :: news) → (∀ p ∈ news, p.1 < D) → (∀ b o, s.heap.get? b = some o → h'.get? b = some o) → Q (.ref D) { s with heap := h' }) (hz : vs.length ≤ sizeLine) : wpAny M A (newTuple vs) Q E s :=
  newTuple_NK F N (fun h' F' N' hk => h _ h' F' N' (fun p hp => Heap.lt_size (N p hp).1) hk) hz
theorem fr_chain2 {h : Heap} {a b : Str} {va vb : Value} (F : Fr h₀ L h m) (ha : m a = some va) (hb : m b = some vb) :
    Fr h₀ L h (fun y => if y = a then some va else if y = b then some vb else m y) := fr_ext F fun y => by
  by_cases e1 : y = a
  · subst e1; rw [if_pos rfl]; exact ha
  rw [if_neg e1]
  by_cases e2 : y = b
  · subst e2; rw [if_pos rfl]; exact hb
  rw [if_neg e2]
theorem fr_chain4 {h : Heap} {a b c d : Str} {va vb vc vd : Value} (F : Fr h₀ L h m) (ha : m a = some va) (hb : m b = some vb) (hc : m c = some vc) (hd : m d = some vd) :
    Fr h₀ L h (fun y => if y = a then some va else if y = b then some vb else if y = c then some vc else if y = d then some vd else m y) := fr_ext F fun y => by
  by_cases e1 : y = a
  · subst e1; rw [if_pos rfl]; exact ha
  rw [if_neg e1]
  by_cases e2 : y = b
  · subst e2; rw [if_pos rfl]; exact hb
  rw [if_neg e2]
  by_cases e3 : y = c
  · subst e3; rw [if_pos rfl]; exact hc
  rw [if_neg e3]
  by_cases e4 : y = d
  · subst e4; rw [if_pos rfl]; exact hd
  rw [if_neg e4]
theorem owns_get {t1 t2 t3 t4 : Tok} {v : Int} (h0 : 0 ≤ v) (h1 : v < 5) : ∃ o t, o ∈ owns ∧ ([.none, .str "a" t1, .str "eval" t2, .str "yield" t3, .str "f" t4] : List Value)[v.toNat]? = some (optV t o) := by
  have : v = 0 ∨ v = 1 ∨ v = 2 ∨ v = 3 ∨ v = 4 := ar_five h0 h1
  rcases this with rfl | rfl | rfl | rfl | rfl
  · exact ⟨none, 0, by decide, rfl⟩
  · exact ⟨some "a", t1, by decide, rfl⟩
  · exact ⟨some "eval", t2, by decide, rfl⟩
  · exact ⟨some "yield", t3, by decide, rfl⟩
  · exact ⟨some "f", t4, by decide, rfl⟩
section
variable {prog : Program} {A : Around}
theorem owns_item {value slice : Expr} {l : Addr} {k : Int} {u t1 t2 t3 t4 : Tok} (hl : s.heap.IsList l ([.none, .str "a" t1, .str "eval" t2, .str "yield" t3, .str "f" t4] : List Value).toArray) (h0 : 0 ≤ k) (hhi : k < 5) (h : ∀ o t, o ∈ owns → Q (optV t o) s)
    (hs : subscripted slice false (.ref l) (.int k u) = operate [.ref l, .int k u] (getItem (.ref l) (.int k u)) := by with_unfolding_all rfl) :
    wpAny (model prog w) A (subscriptTail value slice (.ref l) (.int k u)) Q E s := by
  obtain ⟨o, t, ho, e⟩ := owns_get (t1 := t1) (t2 := t2) (t3 := t3) (t4 := t4) h0 hhi
  exact item_any hl h0 (Int.lt_trans hhi (by decide)) e (h o t ho) hs
end
inductive LJ0 (s : Shared) (g : Heap) (L' : Addr)  : Shared → Prop
  | mk (h' : Heap) (tk' : Nat) (p l : Addr) (vs : List Value) (ns : List Int) (n1 n2 : Nat) (c : Int) (t1 t2 : Tok) (m' : Str → Option Value) (_ : Fr g L' h' (fun y => if y = "pen" then some (.ref p) else m' y)) (_ : News g L' h' [(p, penObj l 0 t1 c t2 n1), (l, listOf vs.toArray n2)]) (_ : (@Ne Nat p l)) (_ : (@Ne Nat l p)) (_ : IntsAre vs ns) (_ : ns.length ≤ 63) (_ : 0 ≤ c) (_ : c < 997) : LJ0 s g L' { s with heap := h', toks := tk' }
theorem ne_both {a b : Addr} (h : a < b) : (@Ne Nat b a) ∧ (@Ne Nat a b) := ⟨Nat.ne_of_gt h, Nat.ne_of_lt h⟩
theorem off2 {p l D : Addr} {a b : Obj} (h : ∀ q ∈ [(p, a), (l, b)], q.1 ≠ D) : ((@Ne Nat p D) ∧ (@Ne Nat D p)) ∧ ((@Ne Nat l D) ∧ (@Ne Nat D l)) :=
  ⟨⟨h (p, a) (.head _), Ne.symm (h (p, a) (.head _))⟩, ⟨h (l, b) (.tail _ (.head _)), Ne.symm (h (l, b) (.tail _ (.head _)))⟩⟩
section
variable {prog : Program} {A : Around}
theorem ne_optV {t t' : Tok} {o : Option Str} (h : Q (.bool false) s) : wpAny (model prog w) A (compareOp .NotEq (optV t o) (optV t' o)) Q E s := by
  cases o with
  | none =>
    simp only [optV]
    exact PySem.EqNone.ne_none_none h
  | some x =>
    simp only [optV]
    refine ne_str ?_
    simpa using h
end
theorem strs_of2 {r : List Str} {bs : List Value} (h : All2 (fun (q : Str) (y : Value) => ∃ t, y = Value.str q t) r bs) : StrsAre bs r := by
  induction h with
  | nil => exact .nil
  | cons g _ ih =>
    obtain ⟨t, rfl⟩ := g
    exact .cons _ t ih
theorem words8_len : ∀ x ∈ words8, x.length ≤ 100 := by decide +kernel
theorem owns_len : ∀ o ∈ owns, ∀ x ∈ o, x.length ≤ 100 := by
  intro o ho x hx
  simp only [owns, List.mem_cons, List.not_mem_nil, or_false] at ho
  rcases ho with rfl | rfl | rfl | rfl | rfl
  · cases hx
  all_goals (cases hx; decide +kernel)
theorem pf_use {q : Addr} {vs : List Value} {xs : List Str} {n : Nat} {o : Option Str} {to : Tok}
    (B : Below A₀ base outer h₀) (F : Fr h₀ L s.heap m) (X : (hd.heap_39 w.params).In h₀) (N : News h₀ L s.heap news)
    (T : Top hd.view_39 loose mean mg mb h₀) (hk : cs.kind = .function) (hdp : dp + 6 < recursionLimit) (hun : un + 200 < cLine) (hq : (q, listOf vs.toArray n) ∈ news)
    (hi : StrsAre vs xs) (hlen : xs.length ≤ 63) (hlx : ∀ x ∈ xs, x.length ≤ 100) (hlo : ∀ x ∈ o, x.length ≤ 100)
    (hret : ∀ (t : Tok) (h' : Heap) (tk' : Nat), Fr h₀ L h' m → News h₀ L h' news → Q (optV t (paramsFault (o.toList ++ xs) xs)) { s with heap := h', toks := tk' }) :
    wpAny (model PySem.Challenge.rw_pc0067_01.row.prog w) (ktrTop dp un gd cn cs L a ccd cl outer) (call (.ref 45) [optV to o, .ref q, .bool true]) Q E s := by
  refine pf_ok (news := news) (n := n) B F X (fun p hp => ?_) T hk hdp hun hi hlen hlx hlo fun t h' tk' F' N' => hret t h' tk' F' fun p hp => N' p (.tail _ hp)
  rcases List.mem_cons.mp hp with rfl | hp
  · exact N _ hq
  · exact N p hp
/-- behind the telling of names: the names, the pen and the strictness alone -/
inductive LJ8 (s : Shared) (g : Heap) (L' : Addr)  : Shared → Prop
  | mk (h' : Heap) (tk' : Nat) (D p l : Addr) (ys vs : List Value) (xs : List Str) (ns : List Int) (nD n1 n2 : Nat) (k c : Int) (t1 t2 : Tok) (strict : Bool) (m' : Str → Option Value) (_ : Fr g L' h' (fun y => if y = "names" then some (.ref D) else if y = "is_strict" then some (.bool strict) else if y = "pen" then some (.ref p) else m' y)) (_ : News g L' h' [(D, listOf ys.toArray nD), (p, penObj l k t1 c t2 n1), (l, listOf vs.toArray n2)]) (_ : (@Ne Nat p l)) (_ : (@Ne Nat l p)) (_ : (@Ne Nat p D)) (_ : (@Ne Nat D p)) (_ : (@Ne Nat l D)) (_ : (@Ne Nat D l)) (_ : IntsAre vs ns) (_ : ns.length ≤ 63) (_ : 0 ≤ c) (_ : c < 997) (_ : 0 ≤ k) (_ : k ≤ 40) (_ : StrsAre ys xs) (_ : xs.length ≤ 5) (_ : (∀ x ∈ xs, x ∈ words8)) : LJ8 s g L' { s with heap := h', toks := tk' }
noncomputable def dom10 : List Str := ["a", "b", "let", "eval", "c", "static", "arguments", "of", "yield", "f"]
theorem words8_dom : ∀ x ∈ words8, x ∈ dom10 := by decide +kernel
theorem dom_whole {o : Option Str} {xs : List Str} (ho : o ∈ owns) (hW : ∀ x ∈ xs, x ∈ words8) : ∀ x ∈ o.toList ++ xs, x ∈ dom10 := by
  intro x hx
  rcases List.mem_append.mp hx with hx | hx
  · simp only [owns, List.mem_cons, List.not_mem_nil, or_false] at ho
    rcases ho with rfl | rfl | rfl | rfl | rfl
    · cases hx
    all_goals (rw [List.mem_singleton.mp hx]; decide +kernel)
  · exact words8_dom x (hW x hx)
theorem dom_bad : ∀ x ∈ dom10, (bad5.any (· == x)) = (bindingFault x).isSome := by decide +kernel
theorem find_eq {f : Str → Option Str} {p : Str → Bool} : ∀ {l : List Str}, (∀ x ∈ l, p x = (f x).isSome) → l.findSome? f = (l.filter p).head?.bind f
  | [], _ => rfl
  | x :: r, h => by
    have hx := h x (.head _)
    rw [List.findSome?_cons, List.filter_cons]
    cases e : f x with
    | none => rw [e] at hx; simp only [hx, Option.isSome_none, Bool.false_eq_true, if_false]; exact find_eq fun y hy => h y (.tail _ hy)
    | some z => rw [e] at hx; simp [hx, e]
theorem pf_good {whole xs : List Str} (hd : ∀ x ∈ whole, x ∈ dom10) (hB : (whole.filter fun x => bad5.any (· == x)) = []) : paramsFault whole xs = (firstTwice [] xs).map fun x => ("parameter " : Str) ++ x ++ (" twice" : Str) := by
  unfold paramsFault
  rw [find_eq (p := fun x => bad5.any (· == x)) fun x hx => dom_bad x (hd x hx), hB]
  rfl
theorem pf_bad {whole xs : List Str} {b : Str} {r : List Str} (hd : ∀ x ∈ whole, x ∈ dom10) (hB : (whole.filter fun x => bad5.any (· == x)) = b :: r) : paramsFault whole xs = bindingFault b := by
  have hb : b ∈ whole.filter fun x => bad5.any (· == x) := by rw [hB]; exact .head _
  obtain ⟨h1, h2⟩ := List.mem_filter.mp hb
  rw [dom_bad b (hd b h1)] at h2
  obtain ⟨f, hf⟩ := Option.isSome_iff_exists.mp h2
  unfold paramsFault
  rw [find_eq (p := fun x => bad5.any (· == x)) fun x hx => dom_bad x (hd x hx), hB]
  simp [hf]
section
variable {prog : Program} {A : Around}
theorem eq_nil {a b : Addr} {us : List Value} {Bs : List Str} (ha : s.heap.IsList a us.toArray) (hb : s.heap.IsList b ([] : List Value).toArray) (hi : StrsAre us Bs) (ho : StrsOk Bs) (hu : A.units + 64 < cLine) (h : Q (.bool Bs.isEmpty) s) :
    wpAny (model prog w) A (compareOp .Eq (.ref a) (.ref b)) Q E s := eq_strs ha hb hi .nil ho (fun _ h => nomatch h) hu (by
  have e : decide (Bs = []) = Bs.isEmpty := by cases Bs <;> simp
  rw [e]; exact h)
theorem ne_nil2 {a b : Addr} {us : List Value} {Bs : List Str} (ha : s.heap.IsList a us.toArray) (hb : s.heap.IsList b ([] : List Value).toArray) (hi : StrsAre us Bs) (ho : StrsOk Bs) (hu : A.units + 64 < cLine) (h : Q (.bool !Bs.isEmpty) s) :
    wpAny (model prog w) A (compareOp .NotEq (.ref a) (.ref b)) Q E s := ne_strs ha hb hi .nil ho (fun _ h => nomatch h) hu (by
  have e : decide (Bs = []) = Bs.isEmpty := by cases Bs <;> simp
  rw [e]; exact h)
end
theorem dom_ok : ∀ x ∈ dom10, PyData.strOk x = true := by decide +kernel
theorem dom_len : ∀ x ∈ dom10, x.length ≤ 100 := by decide +kernel
theorem twice_in : ∀ z ∈ words8, (Builtin.Str.occurrences (("parameter " : Str) ++ z ++ (" twice" : Str)) z 0 (("parameter " : Str) ++ z ++ (" twice" : Str)).length 1).isEmpty = false := by decide +kernel
section
variable {prog : Program} {A : Around}
theorem add_frag {a b : Addr} {vs us : List Value} {n2 : Nat} (F : Fr h₀ L s.heap m) (N : News h₀ L s.heap news) (ha : s.heap.IsList a vs.toArray) (hb : (b, listOf us.toArray n2) ∈ news)
    (h : ∀ D h', Fr h₀ L h' m → News h₀ L h' ((D, listOf (vs ++ us).toArray 0) :: news) → (∀ p ∈ news, p.1 < D) → Q (.ref D) { s with heap := h' })
    (hz : vs.length + us.length ≤ sizeLine) : wpAny (model prog w) A (binaryOp .Add (.ref a) (.ref b)) Q E s :=
  kmk_add_lit F N ha (News.isList N hb) (zs := vs ++ us) (by simp) h (by simpa using hz)
end
noncomputable def words9 : List Str := ["a", "b", "let", "eval", "c", "static", "arguments", "of", "yield"]
noncomputable def any3 (z : Str) : Bool := (["let", "static", "yield"] : List Str).any fun x => x == z
noncomputable def any2 (z : Str) : Bool := (["eval", "arguments"] : List Str).any fun x => x == z
noncomputable def any9 (z : Str) : Bool := (["implements", "interface", "let", "package", "private", "protected", "public", "static", "yield"] : List Str).any fun x => x == z
noncomputable def anyR (z : Str) : Bool := (["arguments", "eval"] : List Str).any fun x => x == z
theorem word_cases : ∀ z ∈ words9, (any3 z = false ∧ any2 z = false ∧ any9 z = false ∧ anyR z = false ∧ (bindingFault z).isSome = false) ∨ (any3 z = true ∧ any2 z = false ∧ any9 z = true ∧ anyR z = false ∧ (bindingFault z).isSome = true) ∨ (any3 z = false ∧ any2 z = true ∧ any9 z = false ∧ anyR z = true ∧ (bindingFault z).isSome = true) := by decide +kernel
theorem words9_len : ∀ z ∈ words9, z.length ≤ 100 := by decide +kernel
inductive InAt (ws : List Str) (v : Value) : Prop
  | mk (z : Str) (t : Tok) (hv : v = .str z t) (hz : z ∈ ws) : InAt ws v
theorem words9_get {t1 t2 t3 t4 t5 t6 t7 t8 t9 : Tok} {i : Nat} {v : Value} (h : ([.str "a" t1, .str "b" t2, .str "let" t3, .str "eval" t4, .str "c" t5, .str "static" t6, .str "arguments" t7, .str "of" t8, .str "yield" t9] : List Value)[i]? = some v) : InAt words9 v := by
  have hS : StrsAre [.str "a" t1, .str "b" t2, .str "let" t3, .str "eval" t4, .str "c" t5, .str "static" t6, .str "arguments" t7, .str "of" t8, .str "yield" t9] words9 := .cons _ _ (.cons _ _ (.cons _ _ (.cons _ _ (.cons _ _ (.cons _ _ (.cons _ _ (.cons _ _ (.cons _ _ .nil))))))))
  obtain ⟨z, t, e, hz⟩ := strs_get hS h
  exact ⟨z, t, e, List.mem_of_getElem? hz⟩
section
variable {prog : Program} {A : Around}
theorem notin_tup_b {t : Addr} {items : Array Value} {ys : List Str} {x : Str} {u : Tok} {b : Bool} (ht : IsTup s.heap t items) (hi : StrsAre items.toList ys) (hb : (!(ys.any (· == x))) = b) (h : Q (.bool b) s) :
    wpAny (model prog w) A (compareOp .NotIn (.str x u) (.ref t)) Q E s := notin_tuple_strs ht hi (by rw [hb]; exact h)
theorem in_tup_b {t : Addr} {items : Array Value} {ys : List Str} {x : Str} {u : Tok} {b : Bool} (ht : IsTup s.heap t items) (hi : StrsAre items.toList ys) (hb : ys.any (· == x) = b) (h : Q (.bool b) s) :
    wpAny (model prog w) A (compareOp .In (.str x u) (.ref t)) Q E s := in_tuple_strs ht hi (by rw [hb]; exact h)
end
noncomputable def kinds7 : List Str := ["Name", "Member", "Index", "Call", "Num", "This", "Binary"]
theorem kinds7_get {t1 t2 t3 t4 t5 t6 t7 : Tok} {i : Nat} {v : Value} (h : ([.str "Name" t1, .str "Member" t2, .str "Index" t3, .str "Call" t4, .str "Num" t5, .str "This" t6, .str "Binary" t7] : List Value)[i]? = some v) : InAt kinds7 v := by
  have hS : StrsAre [.str "Name" t1, .str "Member" t2, .str "Index" t3, .str "Call" t4, .str "Num" t5, .str "This" t6, .str "Binary" t7] kinds7 := .cons _ _ (.cons _ _ (.cons _ _ (.cons _ _ (.cons _ _ (.cons _ _ (.cons _ _ .nil))))))
  obtain ⟨z, t, e, hz⟩ := strs_get hS h
  exact ⟨z, t, e, List.mem_of_getElem? hz⟩
noncomputable def anyT (z : Str) : Bool := (["Name", "Member", "Index"] : List Str).any fun x => x == z
theorem kind_cases : ∀ z ∈ kinds7, z = "Name" ∨ (anyT z = true ∧ (!anyT z) = false ∧ (z == ("Name" : Str)) = false ∧ (z != ("Name" : Str)) = true) ∨ (anyT z = false ∧ (!anyT z) = true ∧ (z == ("Name" : Str)) = false ∧ (z != ("Name" : Str)) = true) := by decide +kernel
theorem kinds7_len : ∀ z ∈ kinds7, z.length ≤ 100 := by decide +kernel
theorem two_get {i : Nat} {v : Value} (h : ([.bool true, .bool false] : List Value)[i]? = some v) : v = .bool true ∨ v = .bool false := by
  match i, h with
  | 0, h => exact .inl (Option.some.inj h).symm
  | 1, h => exact .inr (Option.some.inj h).symm
  | _ + 2, h => simp at h
theorem sorts_get {t1 t2 : Tok} {i : Nat} {v : Value} (h : ([.str "get" t1, .str "set" t2] : List Value)[i]? = some v) : ∃ ts, v = .str "get" ts ∨ v = .str "set" ts := by
  match i, h with
  | 0, h => exact ⟨t1, .inl (Option.some.inj h).symm⟩
  | 1, h => exact ⟨t2, .inr (Option.some.inj h).symm⟩
  | _ + 2, h => simp at h
section
variable {prog : Program} {A : Around}
theorem index_b {l : Addr} {vs : List Value} {ys : List Str} {k : Str} {t : Tok} {n : Nat} (hl : s.heap.IsList l vs.toArray) (hi : StrsAre vs ys)
    (hb : ys.length < 2 ^ 62) (hk : k ∈ ys) (hn : ys.idxOf k = n) (h : Q (.int (n : Nat) s.toks) { s with toks := s.toks + 1 }) :
    wpAny (model prog w) A (call (.builtin "list.index") [.ref l, .str k t]) Q E s := index_list_strs hl hi hb hk (by rw [hn]; exact h)
end
theorem n1_no {a b : Int} (h : a = b) (h2 : (true != (a == b)) = true) : False := by simp [h] at h2
theorem n2_no {a b : Int} (h : a ≠ b) (h2 : (false != (a == b)) = true) : False := by simp [h] at h2
inductive NewsVar (h₀ : Heap) (L : Addr) (h : Heap) (led : List (Addr × Obj)) : Prop
  | mk (LED : List (Addr × Obj)) (N : News h₀ L h LED) (hs : ∀ p, p ∈ led → p ∈ LED) : NewsVar h₀ L h led
theorem news_var {h : Heap} {led : List (Addr × Obj)} (N : News h₀ L h led) : NewsVar h₀ L h led := ⟨led, N, fun _ h => h⟩
inductive FrVar (h₀ : Heap) (L : Addr) (h : Heap) (m : Str → Option Value) (a b : Str) (va vb : Value) : Prop
  | mk (m' : Str → Option Value) (F : Fr h₀ L h (fun y => if y = a then some va else if y = b then some vb else m' y)) (e : m' = m) : FrVar h₀ L h m a b va vb
theorem fr_var2 {h : Heap} {a b : Str} {va vb : Value} (F : Fr h₀ L h m) (ha : m a = some va) (hb : m b = some vb) : FrVar h₀ L h m a b va vb := ⟨m, fr_chain2 F ha hb, rfl⟩
theorem word_eq : ∀ z ∈ words9, strictWords.any (· == z) = any3 z ∧ restricted.any (· == z) = any2 z := by decide +kernel
section
set_option maxRecDepth 100000 in
set_option maxHeartbeats 16000000 in
theorem law_try : PySem.Challenge.rw_pc0067_01.Holds := hd (by
  k_with_none
  k_with "room" => (first | exact un1 (by assumption) (by decide) | exact un2 (by assumption) (by decide) | exact un3 (by assumption) (by decide) | exact un0 (by assumption) | exact Nat.le_of_ble_eq_true rfl | fail "room")
  k_with "ne" => (first | assumption | exact Ne.symm (by assumption) | exact Nat.ne_of_lt (by assumption) | exact Nat.ne_of_gt (by assumption) | exact (cj1 (by assumption)) | exact (cj2 (by assumption)) | exact (cj3 (by assumption)) | exact (cj4 (by assumption)) | exact (cj5 (by assumption)) | exact (cj6 (by assumption)) | exact (cj7 (by assumption)) | exact (cj8 (by assumption)) | exact (cj9 (by assumption)) | exact (cj10 (by assumption)) | exact (cj11 (by assumption)) | exact (cj12 (by assumption)) | exact (ce2 (by assumption)) | exact (ce3 (by assumption)) | exact (ce4 (by assumption)) | exact (ce5 (by assumption)) | exact (ce6 (by assumption)) | exact (ce7 (by assumption)) | exact (ce8 (by assumption)) | exact (ce9 (by assumption)) | exact (ce10 (by assumption)) | exact (ce11 (by assumption)) | exact (ce12 (by assumption)) | exact Ne.symm (cj1 (by assumption)) | exact Ne.symm (cj2 (by assumption)) | exact Ne.symm (cj3 (by assumption)) | exact Ne.symm (cj4 (by assumption)) | exact Ne.symm (cj5 (by assumption)) | exact Ne.symm (cj6 (by assumption)) | exact Ne.symm (cj7 (by assumption)) | exact Ne.symm (cj8 (by assumption)) | exact Ne.symm (cj9 (by assumption)) | exact Ne.symm (cj10 (by assumption)) | exact Ne.symm (cj11 (by assumption)) | exact Ne.symm (cj12 (by assumption)) | exact Ne.symm (ce2 (by assumption)) | exact Ne.symm (ce3 (by assumption)) | exact Ne.symm (ce4 (by assumption)) | exact Ne.symm (ce5 (by assumption)) | exact Ne.symm (ce6 (by assumption)) | exact Ne.symm (ce7 (by assumption)) | exact Ne.symm (ce8 (by assumption)) | exact Ne.symm (ce9 (by assumption)) | exact Ne.symm (ce10 (by assumption)) | exact Ne.symm (ce11 (by assumption)) | exact Ne.symm (ce12 (by assumption)) | exact Nat.ne_of_lt (cj1 (by assumption)) | exact Nat.ne_of_lt (cj2 (by assumption)) | exact Nat.ne_of_lt (cj3 (by assumption)) | exact Nat.ne_of_lt (cj4 (by assumption)) | exact Nat.ne_of_lt (cj5 (by assumption)) | exact Nat.ne_of_lt (cj6 (by assumption)) | exact Nat.ne_of_lt (cj7 (by assumption)) | exact Nat.ne_of_lt (cj8 (by assumption)) | exact Nat.ne_of_lt (cj9 (by assumption)) | exact Nat.ne_of_lt (cj10 (by assumption)) | exact Nat.ne_of_lt (cj11 (by assumption)) | exact Nat.ne_of_lt (cj12 (by assumption)) | exact Nat.ne_of_lt (ce2 (by assumption)) | exact Nat.ne_of_lt (ce3 (by assumption)) | exact Nat.ne_of_lt (ce4 (by assumption)) | exact Nat.ne_of_lt (ce5 (by assumption)) | exact Nat.ne_of_lt (ce6 (by assumption)) | exact Nat.ne_of_lt (ce7 (by assumption)) | exact Nat.ne_of_lt (ce8 (by assumption)) | exact Nat.ne_of_lt (ce9 (by assumption)) | exact Nat.ne_of_lt (ce10 (by assumption)) | exact Nat.ne_of_lt (ce11 (by assumption)) | exact Nat.ne_of_lt (ce12 (by assumption)) | exact Nat.ne_of_gt (cj1 (by assumption)) | exact Nat.ne_of_gt (cj2 (by assumption)) | exact Nat.ne_of_gt (cj3 (by assumption)) | exact Nat.ne_of_gt (cj4 (by assumption)) | exact Nat.ne_of_gt (cj5 (by assumption)) | exact Nat.ne_of_gt (cj6 (by assumption)) | exact Nat.ne_of_gt (cj7 (by assumption)) | exact Nat.ne_of_gt (cj8 (by assumption)) | exact Nat.ne_of_gt (cj9 (by assumption)) | exact Nat.ne_of_gt (cj10 (by assumption)) | exact Nat.ne_of_gt (cj11 (by assumption)) | exact Nat.ne_of_gt (cj12 (by assumption)) | exact Nat.ne_of_gt (ce2 (by assumption)) | exact Nat.ne_of_gt (ce3 (by assumption)) | exact Nat.ne_of_gt (ce4 (by assumption)) | exact Nat.ne_of_gt (ce5 (by assumption)) | exact Nat.ne_of_gt (ce6 (by assumption)) | exact Nat.ne_of_gt (ce7 (by assumption)) | exact Nat.ne_of_gt (ce8 (by assumption)) | exact Nat.ne_of_gt (ce9 (by assumption)) | exact Nat.ne_of_gt (ce10 (by assumption)) | exact Nat.ne_of_gt (ce11 (by assumption)) | exact Nat.ne_of_gt (ce12 (by assumption)) | exact cj1 (cj1 (by assumption)) | exact cj2 (cj1 (by assumption)) | exact ce3 (cj1 (by assumption)) | exact cj1 (cj2 (by assumption)) | exact cj2 (cj2 (by assumption)) | exact ce3 (cj2 (by assumption)) | exact cj1 (cj3 (by assumption)) | exact cj2 (cj3 (by assumption)) | exact ce3 (cj3 (by assumption)) | exact cj1 (cj4 (by assumption)) | exact cj2 (cj4 (by assumption)) | exact ce3 (cj4 (by assumption)) | exact cj1 (cj5 (by assumption)) | exact cj2 (cj5 (by assumption)) | exact ce3 (cj5 (by assumption)) | exact cj1 (cj6 (by assumption)) | exact cj2 (cj6 (by assumption)) | exact ce3 (cj6 (by assumption)) | exact cj1 (cj7 (by assumption)) | exact cj2 (cj7 (by assumption)) | exact ce3 (cj7 (by assumption)) | exact Ne.symm (cj1 (cj1 (by assumption))) | exact Ne.symm (cj2 (cj1 (by assumption))) | exact Ne.symm (ce3 (cj1 (by assumption))) | exact Ne.symm (cj1 (cj2 (by assumption))) | exact Ne.symm (cj2 (cj2 (by assumption))) | exact Ne.symm (ce3 (cj2 (by assumption))) | exact Ne.symm (cj1 (cj3 (by assumption))) | exact Ne.symm (cj2 (cj3 (by assumption))) | exact Ne.symm (ce3 (cj3 (by assumption))) | exact Ne.symm (cj1 (cj4 (by assumption))) | exact Ne.symm (cj2 (cj4 (by assumption))) | exact Ne.symm (ce3 (cj4 (by assumption))) | exact Ne.symm (cj1 (cj5 (by assumption))) | exact Ne.symm (cj2 (cj5 (by assumption))) | exact Ne.symm (ce3 (cj5 (by assumption))) | exact Ne.symm (cj1 (cj6 (by assumption))) | exact Ne.symm (cj2 (cj6 (by assumption))) | exact Ne.symm (ce3 (cj6 (by assumption))) | exact Ne.symm (cj1 (cj7 (by assumption))) | exact Ne.symm (cj2 (cj7 (by assumption))) | exact Ne.symm (ce3 (cj7 (by assumption))) | exact ls1 (cj1 (by assumption)) | exact Ne.symm (ls1 (cj1 (by assumption))) | exact ls1 (ce2 (by assumption)) | exact Ne.symm (ls1 (ce2 (by assumption))) | exact ls2 (cj1 (by assumption)) | exact Ne.symm (ls2 (cj1 (by assumption))) | exact ls2 (ce2 (by assumption)) | exact Ne.symm (ls2 (ce2 (by assumption))) | exact ls3 | exact Ne.symm ls3 | exact Nat.ne_of_gt (Nat.lt_trans (cj1 (by assumption)) (by assumption)) | exact Nat.ne_of_lt (Nat.lt_trans (cj1 (by assumption)) (by assumption)) | exact Nat.ne_of_gt (Nat.lt_trans (cj2 (by assumption)) (by assumption)) | exact Nat.ne_of_lt (Nat.lt_trans (cj2 (by assumption)) (by assumption)) | exact Nat.ne_of_gt (Nat.lt_trans (ce2 (by assumption)) (by assumption)) | exact Nat.ne_of_lt (Nat.lt_trans (ce2 (by assumption)) (by assumption)) | exact Nat.ne_of_gt (Nat.lt_trans (ce3 (by assumption)) (by assumption)) | exact Nat.ne_of_lt (Nat.lt_trans (ce3 (by assumption)) (by assumption)) | fail "ne")
  k_with "call ref" => (k_here; (with_reducible show wpAny _ _ (call (Value.ref 124) _) _ _ _); k_dflt (refine' pick_use ?B_w ?F_w ?X_w ?N_w ?T_w ?K_w ?D_w ?R_w ?U_w ?l_w ?i_w ?len_w ?k0_w ?k1_w ?c0_w ?c1_w ?m0_w ?m1_w ?_; (case B_w => k_asm); (case F_w => k_asm); (case X_w => k_asm); (case N_w => k_asm); (case T_w => k_asm); (case K_w => first | rfl | assumption); (case D_w => ktr_room); (case R_w => ktr_units); (case U_w => k_updF); (case l_w => k_mem); (case i_w => assumption); (case len_w => assumption); (case k0_w => first | assumption | exact Int.le_trans (by assumption) (by assumption) | exact Int.add_nonneg (by assumption) (by decide) | exact ar_nn (by assumption) (by assumption) (by decide) | decide | omega); (case k1_w => first | assumption | exact leK (K := 40) (by assumption) (by decide) | exact leK1 (K := 40) (by assumption) (by decide) | exact leK (K := 21) (by assumption) (by decide) | exact leK (K := 1) (by assumption) (by decide) | exact ar_up0 (K := 21) (J := 6) (by assumption) (by assumption) (by decide) | exact ar_up (K := 21) (J := 6) (by assumption) (by assumption) (by decide) | decide | omega); (case c0_w => assumption); (case c1_w => assumption); (case m0_w => decide); (case m1_w => decide); k_whole); intro vq_w tq_w t2q_w hq_w tkq_w v0q_w v1q_w Fq_w Nq_w; (try dsimp only at Nq_w); (try dsimp only); walk_say "PICK")
  k_with "call ref" => (k_here; (with_reducible show wpAny _ _ (call (Value.ref 139) _) _ _ _); k_dflt (refine' en_use ?B_w ?F_w ?X_w ?N_w ?T_w ?K_w ?D_w ?R_w ?U_w ?l_w ?i_w ?len_w ?k0_w ?k1_w ?c0_w ?c1_w ?_; (case B_w => k_asm); (case F_w => k_asm); (case X_w => k_asm); (case N_w => k_asm); (case T_w => k_asm); (case K_w => first | rfl | assumption); (case D_w => ktr_room); (case R_w => ktr_units); (case U_w => k_updF); (case l_w => k_mem); (case i_w => assumption); (case len_w => assumption); (case k0_w => first | assumption | exact Int.le_trans (by assumption) (by assumption) | exact Int.add_nonneg (by assumption) (by decide) | exact ar_nn (by assumption) (by assumption) (by decide) | decide | omega); (case k1_w => first | assumption | exact leK (K := 40) (by assumption) (by decide) | exact leK1 (K := 40) (by assumption) (by decide) | exact leK (K := 21) (by assumption) (by decide) | exact leK (K := 1) (by assumption) (by decide) | exact ar_up0 (K := 21) (J := 6) (by assumption) (by assumption) (by decide) | exact ar_up (K := 21) (J := 6) (by assumption) (by assumption) (by decide) | decide | omega); (case c0_w => assumption); (case c1_w => assumption); k_whole); intro k9q_w t9q_w h9q_w tk9q_w kl9q_w kh9q_w F9q_w N9q_w; (try dsimp only); walk_say "ENTRIES")
  k_with "call ref" => (k_here; (with_reducible show wpAny _ _ (call (Value.ref 129) _) _ _ _); k_dflt (refine' row_use ?B_w ?F_w ?X_w ?N_w ?T_w ?K_w ?D_w ?R_w ?U_w ?l_w ?i_w ?len_w ?k0_w ?k1_w ?c0_w ?c1_w ?_; (case B_w => k_asm); (case F_w => k_asm); (case X_w => k_asm); (case N_w => k_asm); (case T_w => k_asm); (case K_w => first | rfl | assumption); (case D_w => ktr_room); (case R_w => ktr_units); (case U_w => k_updF); (case l_w => k_mem); (case i_w => assumption); (case len_w => assumption); (case k0_w => first | assumption | exact Int.le_trans (by assumption) (by assumption) | exact Int.add_nonneg (by assumption) (by decide) | exact ar_nn (by assumption) (by assumption) (by decide) | decide | omega); (case k1_w => first | assumption | exact leK (K := 40) (by assumption) (by decide) | exact leK1 (K := 40) (by assumption) (by decide) | exact leK (K := 21) (by assumption) (by decide) | exact leK (K := 1) (by assumption) (by decide) | exact ar_up0 (K := 21) (J := 6) (by assumption) (by assumption) (by decide) | exact ar_up (K := 21) (J := 6) (by assumption) (by assumption) (by decide) | decide | omega); (case c0_w => assumption); (case c1_w => assumption); k_whole); intro D9q_w ys9q_w xs9q_w k9q_w t9q_w h9q_w tk9q_w hS9q_w hL9q_w hW9q_w kl9q_w kh9q_w F9q_w N9q_w off9q_w; (try dsimp only at N9q_w); (try dsimp only); (obtain ⟨⟨od1q_w, od2q_w⟩, od3q_w, od4q_w⟩ := off2 off9q_w); walk_say "ROW")
  k_with "subscriptTail" => (k_here; (with_reducible show wpAny _ _ (subscriptTail _ _ (Value.ref _) (Value.int _ _)) _ _ _); k_dflt (refine' owns_item ?l_w ?a_w ?b_w ?_ ?s_w; (case l_w => exact News.isList (by k_asm) (by k_mem)); (case a_w => assumption); (case b_w => assumption); (case s_w => with_unfolding_all rfl)); intro o9q_w t9q_w ho9q_w; walk_say "OWN")
  k_with "call ref" => (k_here; (with_reducible show wpAny _ _ (call (Value.ref 38) _) _ _ _); k_dflt (refine' ft_use ?B_w ?F_w ?X_w ?N_w ?T_w ?K_w ?D_w ?R_w ?q_w ?i_w ?l_w ?_; (case B_w => k_asm); (case F_w => k_asm); (case X_w => k_asm); (case N_w => k_asm); (case T_w => k_asm); (case K_w => first | rfl | assumption); (case D_w => ktr_room); (case R_w => ktr_units); (case q_w => k_mem); (case i_w => assumption); (case l_w => first | exact Nat.le_trans (by assumption : _ ≤ (5 : Nat)) (by decide) | omega)); intro t9_w h9_w tk9_w F9_w N9_w; walk_say "FT")
  k_with "call ref" => (k_here; (with_reducible show wpAny _ _ (call (Value.ref 134) _) _ _ _); k_dflt (refine' tw_use ?B_w ?F_w ?X_w ?N_w ?T_w ?K_w ?D_w ?R_w ?q_w ?i_w ?l_w ?_; (case B_w => k_asm); (case F_w => k_asm); (case X_w => k_asm); (case N_w => k_asm); (case T_w => k_asm); (case K_w => first | rfl | assumption); (case D_w => ktr_room); (case R_w => ktr_units); (case q_w => k_mem); (case i_w => assumption); (case l_w => first | exact Nat.le_trans (by assumption : _ ≤ (5 : Nat)) (by decide) | omega)); intro t8_w h9_w tk9_w F9_w N9_w; walk_say "TW")
  k_with "compareOp NotEq" => (k_here; (with_reducible show wpAny _ _ (compareOp _ (optV _ _) (optV _ _)) _ _ _); refine ne_optV ?_; walk_say "OPT")
  k_with "binaryOp Add ref ref" => (k_here; k_dflt (refine' add_led ?F_w ?N_w ?l_w ?b_w ?_ ?z_w; (case F_w => k_asm); (case N_w => k_asm); (case l_w => k_mem); (case b_w => k_mem); (case z_w => (rw [sizeLine_eq]; simp only [List.length_cons, List.length_nil]; omega))); intro Dq_w hq_w Fq_w Nq_w l1_w; (try k_lt l1_w); walk_say "ADD")
  k_with "compareOp In str ref" => (k_here; k_dflt (refine' in_tuple_strs ?t_w ?i_w ?_; (case t_w => exact ⟨_, (show (hd.heap_39 _).In _ from by k_in) _ _ (by k_is), rfl, _, rfl⟩); (case i_w => kct_strs)); walk_say "INT")
  k_with "exec Assign cons ListComp" => refine stop ?_
  k_with "call ref" => (k_here; (with_reducible show wpAny _ _ (call (Value.ref 45) [_, _, Value.bool true]) _ _ _); k_dflt (refine' pf_use ?B_w ?F_w ?X_w ?N_w ?T_w ?K_w ?D_w ?R_w ?q_w ?i_w ?l_w ?lx_w ?lo_w ?_; (case B_w => k_asm); (case F_w => k_asm); (case X_w => k_asm); (case N_w => k_asm); (case T_w => k_asm); (case K_w => first | rfl | assumption); (case D_w => ktr_room); (case R_w => ktr_units); (case q_w => k_mem); (case i_w => assumption); (case l_w => first | exact Nat.le_trans (by assumption : _ ≤ (5 : Nat)) (by decide) | omega); (case lx_w => assumption); (case lo_w => assumption)); intro t7_w h9_w tk9_w F9_w N9_w; walk_say "PF")
  k_with "compareOp Eq ref ref" => (k_here; k_dflt (refine' eq_nil ?a_w ?b_w ?i_w ?o_w ?u_w ?_; (case i_w => assumption); (case a_w => exact News.isList (by k_asm) (by k_mem)); (case b_w => exact News.isList (by k_asm) (by k_mem)); (case o_w => assumption); (case u_w => ktr_units)); (try simp only [List.isEmpty]); walk_say "EQNIL")
  k_with "compareOp NotEq ref ref" => (k_here; k_dflt (refine' ne_nil2 ?a_w ?b_w ?i_w ?o_w ?u_w ?_; (case i_w => assumption); (case a_w => exact News.isList (by k_asm) (by k_mem)); (case b_w => exact News.isList (by k_asm) (by k_mem)); (case o_w => assumption); (case u_w => ktr_units)); (try simp only [List.isEmpty, Bool.not_true, Bool.not_false]); walk_say "NENIL")
  k_with "call ref" => (k_here; (with_reducible show wpAny _ _ (call (Value.ref 31) [_, Value.bool true]) _ _ _); k_dflt (refine' bf_ok ?B_w ?F_w ?X_w ?N_w ?T_w ?K_w ?D_w ?R_w ?l_w ?_; (case B_w => k_asm); (case F_w => k_asm); (case X_w => k_asm); (case N_w => k_asm); (case T_w => k_asm); (case K_w => first | rfl | assumption); (case D_w => ktr_room); (case R_w => ktr_units); (case l_w => assumption)); intro t6_w h9_w tk9_w F9_w N9_w; (first | (rename bindingFault _ = none => hbf9_w; rw [hbf9_w]; simp only [optV]) | (rename bindingFault _ = some _ => hbf9_w; rw [hbf9_w]; simp only [optV]) | skip); walk_say "BF")
  k_with "pyIter ref" => refine stop ?_
  k_with "exec For Name BinOp cons nil" => refine stop ?_
  k_with "exec For Name Tuple cons nil" => refine stop ?_
  k_with "newTuple" => (k_here; k_dflt (refine' tup_keep ?F_w ?N_w ?_ ?z_w; (case F_w => k_asm); (case N_w => k_asm); (case z_w => kmk_size)); intro Dq_w hq_w Fq_w Nq_w l1_w hk9q_w; (try k_lt l1_w); (try k_sweep); walk_say "TUP")
  k_with "binaryOp Add ref ref" => (k_here; (with_reducible show wpAny _ _ (binaryOp _ (Value.ref 117) _) _ _ _); k_dflt (refine' add_frag ?F_w ?N_w ?l_w ?b_w ?_ ?z_w; (case F_w => k_asm); (case N_w => k_asm); (case l_w => exact ⟨_, (show (hd.heap_39 _).In _ from by k_in) _ _ (by k_is), rfl, _, rfl⟩); (case b_w => k_mem); (case z_w => (rw [sizeLine_eq]; simp only [List.length_cons, List.length_nil]; omega))); intro Dq_w hq_w Fq_w Nq_w l1_w; (try k_lt l1_w); walk_say "ADDW")
  k_with "compareOp NotIn str ref" => (k_here; first
    | k_dflt (refine' notin_tup_b (b := true) ?t_w ?i_w ?hb_w ?_; (case t_w => exact ⟨_, (show (hd.heap_39 _).In _ from by k_in) _ _ (by k_is), rfl, _, rfl⟩); (case i_w => kct_strs); (case hb_w => first | assumption | decide +kernel))
    | k_dflt (refine' notin_tup_b (b := false) ?t_w ?i_w ?hb_w ?_; (case t_w => exact ⟨_, (show (hd.heap_39 _).In _ from by k_in) _ _ (by k_is), rfl, _, rfl⟩); (case i_w => kct_strs); (case hb_w => first | assumption | decide +kernel)))
  k_with "call builtin:list.index" => (k_here; first
    | k_dflt (refine' index_b (n := 0) ?l_w ?i_w ?b_w ?k_w ?n_w ?_; (case l_w => exact News.isList (by k_asm) (by k_mem)); (case i_w => kct_strs); (case b_w => decide); (case k_w => decide +kernel); (case n_w => decide +kernel))
    | k_dflt (refine' index_b (n := 1) ?l_w ?i_w ?b_w ?k_w ?n_w ?_; (case l_w => exact News.isList (by k_asm) (by k_mem)); (case i_w => kct_strs); (case b_w => decide); (case k_w => decide +kernel); (case n_w => decide +kernel)))
  k_with "call builtin:len" => (k_here; k_dflt (refine' len_led ?l_w ?i_w ?b_w ?_; (case i_w => assumption); (case l_w => exact News.isList (by k_asm) (by k_mem)); (case b_w => first | exact Nat.le_trans (by assumption : _ ≤ (5 : Nat)) (by decide) | omega)); walk_say "LEN")
  k_with "call ref" => (k_here; (with_reducible show wpAny _ _ (call (Value.ref 144) _) _ _ _); k_dflt (refine' jr_use ?B_w ?F_w ?X_w ?N_w ?T_w ?K_w ?D_w ?R_w ?U_w ?l_w ?i_w ?len_w ?k0_w ?k1_w ?c0_w ?c1_w ?_; (case B_w => k_asm); (case F_w => k_asm); (case X_w => k_asm); (case N_w => k_asm); (case T_w => k_asm); (case K_w => first | rfl | assumption); (case D_w => ktr_room); (case R_w => ktr_units); (case U_w => k_updF); (case l_w => k_mem); (case i_w => assumption); (case len_w => assumption); (case k0_w => first | assumption | exact Int.le_trans (by assumption) (by assumption) | exact Int.add_nonneg (by assumption) (by decide) | exact ar_nn (by assumption) (by assumption) (by decide) | decide | omega); (case k1_w => first | assumption | exact leK (K := 40) (by assumption) (by decide) | exact leK1 (K := 40) (by assumption) (by decide) | exact leK (K := 21) (by assumption) (by decide) | exact leK (K := 1) (by assumption) (by decide) | exact ar_up0 (K := 21) (J := 6) (by assumption) (by assumption) (by decide) | exact ar_up (K := 21) (J := 6) (by assumption) (by assumption) (by decide) | decide | omega); (case c0_w => assumption); (case c1_w => assumption); k_whole); intro h9q_w tk9q_w F9q_w; (try dsimp only); walk_say "JUMPS")
  k_with "call ref" => (k_here; (with_reducible show wpAny _ _ (call (Value.ref 24) _) _ _ _); k_dflt (refine' nf_ok ?B_w ?F_w ?X_w ?N_w ?T_w ?K_w ?D_w ?R_w ?l_w ?_; (case B_w => k_asm); (case F_w => k_asm); (case X_w => k_asm); (case N_w => k_asm); (case T_w => k_asm); (case K_w => first | rfl | assumption); (case D_w => ktr_room); (case R_w => ktr_units); (case l_w => assumption)); intro r9_w t9_w h9_w tk9_w hr9_w F9_w N9_w; walk_say "NF")
  k_with "call ref" => (k_here; (with_reducible show wpAny _ _ (call (Value.ref 31) _) _ _ _); (fail_if_success (with_reducible show wpAny _ _ (call (Value.ref 31) [_, Value.bool true]) _ _ _)); k_dflt (refine' bs_ok ?B_w ?F_w ?X_w ?N_w ?T_w ?K_w ?D_w ?R_w ?l_w ?_; (case B_w => k_asm); (case F_w => k_asm); (case X_w => k_asm); (case N_w => k_asm); (case T_w => k_asm); (case K_w => first | rfl | assumption); (case D_w => ktr_room); (case R_w => ktr_units); (case l_w => assumption)); intro r9_w t9_w h9_w tk9_w hr9_w F9_w N9_w; walk_say "BS")
  k_with "compareOp Is none" => ((with_reducible show wpAny _ _ (compareOp CmpOp.Is (optV _ _) Value.none) _ _ _); refine is_none_c (by assumption) ?_; walk_say "ISN")
  k_go0
  (all_goals try k_fold)
  rename Shared => s1
  rename Fr _ _ _ _ => F0
  refine execs_atF 2 (LJ1 1 s1 (frG F0) (frL F0)) ?_ ?_
  · with_reducible (dsimp only [List.take, List.drop, frG, frL, frM]) -- done
    refine execs_atF 1 (LJ0 s1 (frG F0) (frL F0)) ?_ ?_
    · with_reducible (dsimp only [List.take, List.drop, frG, frL, frM])
      refine mono_stop ?_
      k_steps
      refine Stop.go ?_
      (rename News _ _ _ _ => kN)
      (rename Fr _ _ _ _ => kF)
      rename IntsAre _ (List.take 40 _) => hI2
      have hc0 := take_fm0 hI2
      have hc1 := take_fm1 hI2
      clear hI2
      rename IntsAre _ (List.take 40 _) => hI3
      refine ⟨rfl, _, _, _, _, _, _, _, _, _, _, _, _, kF, (fun q hq => kN q ((show ∀ q ∈ _, q ∈ _ by kcf_all) q hq)), Nat.ne_of_gt ?hlt, Nat.ne_of_lt ?hlt, hI3, take_len hI3, hc0, hc1⟩
      case hlt => (rename (_ < _ ∧ _ < _ ∧ _ < _) => l9; exact l9.2.1)
    · with_reducible (dsimp only [List.take, List.drop, frG, frL, frM])
      intro s' h9
      induction h9
      rename_i h0 tk0 p l vs ns n1 n2 c t1 t2 m0 F1 N1 hpl hpl2 hi hlen hc0 hc1
      clear F0
      k_steps
      (rename News _ _ _ _ => kN)
      (rename Fr _ _ _ _ => kF)
      exact ⟨_, _, _, _, _, _, _, _, _, _, _, _, _, _, kF, kN, hpl, hpl2, hi, hlen, hc0, hc1, by first | assumption | exact Int.le_trans (by assumption) (by assumption) | exact Int.add_nonneg (by assumption) (by decide) | decide | omega, by first | assumption | exact ar_up0 (K := 1) (J := 20) (by assumption) (by assumption) (by decide) | decide | omega⟩
  · with_reducible (dsimp only [List.take, List.drop, frG, frL, frM])
    intro s' h9
    induction h9
    rename_i h0 tk0 p l vs ns n1 n2 k c t1 t2 strict m0 F1 N1 hpl hpl2 hi hlen hc0 hc1 hk0 hk1
    refine execs_atF 1 (LJ1 21 s1 (frG F1) (frL F1)) ?_ ?_
    · with_reducible (dsimp only [List.take, List.drop, frG, frL, frM]) -- done
      k_steps
      (rename News _ _ _ _ => kN)
      (rename Fr _ _ _ _ => kF)
      exact ⟨_, _, _, _, _, _, _, _, _, _, _, _, _, _, kF, kN, hpl, hpl2, hi, hlen, hc0, hc1, by first | assumption | exact Int.le_trans (by assumption) (by assumption) | exact Int.add_nonneg (by assumption) (by decide) | decide | omega, by first | assumption | exact ar_up0 (K := 1) (J := 20) (by assumption) (by assumption) (by decide) | decide | omega⟩
    · with_reducible (dsimp only [List.take, List.drop, frG, frL, frM])
      clear F1 N1 hi hlen hc0 hc1 hk0 hk1
      intro s' h9
      induction h9
      rename_i h0 tk0 p l vs ns n1 n2 k c t1 t2 strict m0 F1 N1 hpl hpl2 hi hlen hc0 hc1 hk0 hk1
      refine execs_atF 1 (LJ3 s1 (frG F1) (frL F1)) ?_ ?_
      · with_reducible (dsimp only [List.take, List.drop, frG, frL, frM]) -- done
        k_steps
        (rename News _ _ _ _ => kN)
        (rename Fr _ _ _ _ => kF)
        rename StrsAre _ _ => hS
        rename (_ ∈ owns) => ho
        rename (∀ x ∈ _, x ∈ words8) => hW
        rename (List.length _ ≤ 5) => hL
        refine ⟨_, _, _, _, _, _, _, _, _, _, _, _, _, _, _, _, _, _, _, _, kF, (fun q hq => kN q ((show ∀ q ∈ _, q ∈ _ by kcf_all) q hq)), hpl, hpl2, by assumption, by assumption, by assumption, by assumption, hi, hlen, hc0, hc1, by first | exact ar_nn (by assumption) (by assumption) (by decide) | omega, by first | exact ar_up (K := 21) (J := 6) (by assumption) (by assumption) (by decide) | omega, hS, hL, hW, ho⟩
      · with_reducible (dsimp only [List.take, List.drop, frG, frL, frM])
        clear F1 N1 hi hlen hc0 hc1 hk0 hk1 hpl hpl2
        intro s' h9
        induction h9
        rename_i h0 tk0 D p l ys vs xs ns nD n1 n2 k c t1 t2 to strict o m0 F1 N1 hpl hpl2 hpd hpd2 hld hld2 hi hlen hc0 hc1 hk0 hk1 hS hL hW ho
        refine execs_atF 1 (LJ3 s1 (frG F1) (frL F1)) ?_ ?_
        · with_reducible (dsimp only [List.take, List.drop, frG, frL, frM]) -- done
          k_steps
          (rename News _ _ _ _ => kN)
          (rename Fr _ _ _ _ => kF)
          exact ⟨_, _, _, _, _, _, _, _, _, _, _, _, _, _, _, _, _, _, _, _, kF, kN, hpl, hpl2, hpd, hpd2, hld, hld2, hi, hlen, hc0, hc1, hk0, hk1, hS, hL, hW, ho⟩
        · with_reducible (dsimp only [List.take, List.drop, frG, frL, frM])
          clear F1 N1 hi hlen hc0 hc1 hk0 hk1 hpl hpl2 hpd hpd2 hld hld2 hS hL hW ho
          intro s' h9
          induction h9
          rename_i h0 tk0 D p l ys vs xs ns nD n1 n2 k c t1 t2 to strict o m0 F1 N1 hpl hpl2 hpd hpd2 hld hld2 hi hlen hc0 hc1 hk0 hk1 hS hL hW ho
          refine execs_atF 1 (LJ5 s1 (frG F1) (frL F1)) ?_ ?_
          · with_reducible (dsimp only [List.take, List.drop, frG, frL, frM]) -- done
            have hyl : ys.length ≤ 5 := by rw [strs_len hS]; exact hL
            cases o with
            | none =>
              simp only [optV] at F1
              k_steps
              (rename News _ _ _ _ => kN)
              (rename Fr _ _ _ _ => kF)
              exact ⟨_, _, _, _, _, _, [] ++ ys, _, _, xs, _, _, _, _, _, _, _, _, _, to, _, none, _, kF, (fun q hq => kN q ((show ∀ q ∈ _, q ∈ _ by kcf_all) q hq)), hpl, hpl2, hpd, hpd2, hld, hld2, hi, hlen, hc0, hc1, hk0, hk1, hS, hL, hW, ho, hS⟩
            | some x9 =>
              simp only [optV] at F1
              k_steps
              (rename News _ _ _ _ => kN)
              (rename Fr _ _ _ _ => kF)
              exact ⟨_, _, _, _, _, _, [.str x9 to] ++ ys, _, _, xs, _, _, _, _, _, _, _, _, _, to, _, some x9, _, kF, (fun q hq => kN q ((show ∀ q ∈ _, q ∈ _ by kcf_all) q hq)), hpl, hpl2, hpd, hpd2, hld, hld2, hi, hlen, hc0, hc1, hk0, hk1, hS, hL, hW, ho, .cons x9 to hS⟩
          · with_reducible (dsimp only [List.take, List.drop, frG, frL, frM])
            clear F1 N1 hi hlen hc0 hc1 hk0 hk1 hpl hpl2 hpd hpd2 hld hld2 hS hL hW ho
            intro s' h9
            induction h9
            rename_i h0 tk0 W D p l wvs ys vs xs ns nW nD n1 n2 k c t1 t2 to strict o m0 F1 N1 hpl hpl2 hpd hpd2 hld hld2 hi hlen hc0 hc1 hk0 hk1 hS hL hW ho hSW
            refine execs_atF 1 (LJ6 s1 (frG F1) (frL F1)) ?_ ?_
            · with_reducible (dsimp only [List.take, List.drop, frG, frL, frM]) -- done
              k_steps
              refine Stop.go ?_
              rename News _ _ _ _ => N1
              rename Fr _ _ _ _ => F1
              have hWL : (o.toList ++ xs).length ≤ 6 := by cases o <;> simp <;> omega
              k_dflt (refine Assign_ListComp_st (items := o.toList ++ xs) (fun q a => ∃ t, a = .str q t) (fun q => bad5.any (· == q)) (fun q y => ∃ t, y = .str q t) rfl ?hsz (by with_unfolding_all rfl) (by with_unfolding_all rfl) (by decide) (by rfl) (by decide) (by rfl) (by rfl) (by rfl) ?h)
              case hsz => rw [sizeLine_eq]; exact Nat.le_trans hWL (by decide)
              case h =>
                refine mono_stop ?_
                k_steps
                refine Stop.go ?_
                refine ⟨_, _, rfl, News.isList N1 (n := nW) (by k_mem), by rw [List.size_toArray, strs_len hSW], fun i v hv => ?_, ?_, ?_, ?_⟩
                · obtain ⟨x, t, rfl, hx⟩ := strs_get hSW (by simpa using hv)
                  exact ⟨x, hx, t, rfl⟩
                · rintro C q v s₃ m₃ E' hq ⟨t9, rfl⟩ hk3 hC hn hx1
                  dsimp only at hx1 hk3 hC
                  obtain ⟨oC, hoC, F3, N3⟩ := pt_turn F1 N1 hk3 hC hn
                  refine wpAny_tests_one ?_
                  refine mono_stop ?_
                  k_steps
                  exact Stop.go ⟨rfl, _, _, rfl, by assumption⟩
                · rintro C q v s₃ m₃ E' hq ⟨t9, rfl⟩ hk3 hC hn hx1
                  dsimp only at hx1 hk3 hC
                  obtain ⟨oC, hoC, F3, N3⟩ := pt_turn F1 N1 hk3 hC hn
                  refine mono_stop ?_
                  k_steps
                  exact Stop.go ⟨⟨_, rfl⟩, _, _, rfl, fun _ _ e => e⟩
                · refine ⟨_, F1.ns, ?_⟩
                  intro D4 h4 tk4 ys4 hn4 hk4 hD4 hDs4 hys4
                  obtain ⟨F5, N5, l5⟩ := pt_stored F1 N1 hn4 hk4 hD4 hDs4
                  have hst : StrsAre ys4 ((o.toList ++ xs).filter fun x => bad5.any (· == x)) := strs_of2 hys4
                  k_steps
                  (rename News _ _ _ _ => kN)
                  (rename Fr _ _ _ _ => kF)
                  exact ⟨_, _, _, _, _, _, _, _, _, xs, _, _, _, _, _, _, _, _, _, to, _, o, _, fr_chain5 kF rfl rfl rfl rfl rfl, (fun q hq => kN q ((show ∀ q ∈ _, q ∈ _ by kcf_all) q hq)), hpl, hpl2, hpd, hpd2, hld, hld2, hi, hlen, hc0, hc1, hk0, hk1, hS, hL, hW, ho, hst⟩
            · with_reducible (dsimp only [List.take, List.drop, frG, frL, frM])
              clear F1 N1 hi hlen hc0 hc1 hk0 hk1 hpl hpl2 hpd hpd2 hld hld2 hS hL hW ho hSW
              intro s' h9
              induction h9
              rename_i h0 tk0 W D p l wvs ys vs xs ns nW nD n1 n2 k c t1 t2 to strict o m0 F1 N1 hpl hpl2 hpd hpd2 hld hld2 hi hlen hc0 hc1 hk0 hk1 hS hL hW ho hSB
              refine execs_atF 1 (LJ7 s1 (frG F1) (frL F1)) ?_ ?_
              · with_reducible (dsimp only [List.take, List.drop, frG, frL, frM]) -- done
                have hlx : ∀ x ∈ xs, x.length ≤ 100 := fun x hx => words8_len _ (hW x hx)
                have hlo : ∀ x ∈ o, x.length ≤ 100 := owns_len _ ho
                cases strict with
                | false =>
                  k_steps
                  (rename News _ _ _ _ => kN)
                  (rename Fr _ _ _ _ => kF)
                  exact ⟨_, _, _, _, _, _, _, _, _, xs, _, _, _, _, _, _, _, _, _, to, 0, _, false, o, _, kF, (fun q hq => kN q ((show ∀ q ∈ _, q ∈ _ by kcf_all) q hq)), hpl, hpl2, hpd, hpd2, hld, hld2, hi, hlen, hc0, hc1, hk0, hk1, hS, hL, hW, ho, hSB⟩
                | true =>
                  k_steps
                  (rename News _ _ _ _ => kN)
                  (rename Fr _ _ _ _ => kF)
                  exact ⟨_, _, _, _, _, _, _, _, _, xs, _, _, _, _, _, _, _, _, _, to, _, _, true, o, _, kF, (fun q hq => kN q ((show ∀ q ∈ _, q ∈ _ by kcf_all) q hq)), hpl, hpl2, hpd, hpd2, hld, hld2, hi, hlen, hc0, hc1, hk0, hk1, hS, hL, hW, ho, hSB⟩
              · with_reducible (dsimp only [List.take, List.drop, frG, frL, frM])
                clear F1 N1 hi hlen hc0 hc1 hk0 hk1 hpl hpl2 hpd hpd2 hld hld2 hS hL hW ho hSB
                intro s' h9
                induction h9
                rename_i h0 tk0 W D p l wvs ys vs xs ns nW nD n1 n2 k c t1 t2 to tt tw strict o m0 F1 N1 hpl hpl2 hpd hpd2 hld hld2 hi hlen hc0 hc1 hk0 hk1 hS hL hW ho hSB
                refine execs_atF 1 (LJ8 s1 (frG F1) (frL F1)) ?_ ?_
                · with_reducible (dsimp only [List.take, List.drop, frG, frL, frM]) -- done
                  have hdom : ∀ x ∈ o.toList ++ xs, x ∈ dom10 := dom_whole ho hW
                  cases strict with
                  | false =>
                    simp only [cond_false, optV] at F1
                    k_steps
                    (rename News _ _ _ _ => kN)
                    (rename Fr _ _ _ _ => kF)
                    exact ⟨_, _, _, _, _, _, _, xs, _, _, _, _, _, _, _, _, false, _, fr_chain3 kF rfl rfl rfl, (fun q hq => kN q ((show ∀ q ∈ _, q ∈ _ by kcf_all) q hq)), hpl, hpl2, hpd, hpd2, hld, hld2, hi, hlen, hc0, hc1, hk0, hk1, hS, hL, hW⟩
                  | true =>
                    simp only [cond_true] at F1
                    generalize hB : ((o.toList ++ xs).filter fun x => bad5.any (· == x)) = Bs at hSB
                    have hBd : ∀ x ∈ Bs, x ∈ dom10 := fun x hx => hdom x (List.mem_filter.mp (hB ▸ hx)).1
                    have hBo : StrsOk Bs := fun x hx => dom_ok x (hBd x hx)
                    cases Bs with
                    | nil =>
                      rw [pf_good hdom hB] at F1
                      generalize hft : firstTwice [] xs = ft at F1
                      cases ft with
                      | none =>
                        simp only [optV, Option.map] at F1
                        k_steps
                        (rename News _ _ _ _ => kN)
                        (rename Fr _ _ _ _ => kF)
                        exact ⟨_, _, _, _, _, _, _, xs, _, _, _, _, _, _, _, _, true, _, fr_chain3 kF rfl rfl rfl, (fun q hq => kN q ((show ∀ q ∈ _, q ∈ _ by kcf_all) q hq)), hpl, hpl2, hpd, hpd2, hld, hld2, hi, hlen, hc0, hc1, hk0, hk1, hS, hL, hW⟩
                      | some z =>
                        simp only [optV, Option.map] at F1
                        have hz : z ∈ words8 := hW z (firstTwice_mem hft)
                        have hin := twice_in z hz
                        k_steps
                        (rename News _ _ _ _ => kN)
                        (rename Fr _ _ _ _ => kF)
                        exact ⟨_, _, _, _, _, _, _, xs, _, _, _, _, _, _, _, _, true, _, fr_chain3 kF rfl rfl rfl, (fun q hq => kN q ((show ∀ q ∈ _, q ∈ _ by kcf_all) q hq)), hpl, hpl2, hpd, hpd2, hld, hld2, hi, hlen, hc0, hc1, hk0, hk1, hS, hL, hW⟩
                    | cons b r =>
                      rw [pf_bad hdom hB] at F1
                      have hbl : b.length ≤ 100 := dom_len b (hBd b (.head _))
                      k_steps
                      (rename News _ _ _ _ => kN)
                      (rename Fr _ _ _ _ => kF)
                      exact ⟨_, _, _, _, _, _, _, xs, _, _, _, _, _, _, _, _, true, _, fr_chain3 kF rfl rfl rfl, (fun q hq => kN q ((show ∀ q ∈ _, q ∈ _ by kcf_all) q hq)), hpl, hpl2, hpd, hpd2, hld, hld2, hi, hlen, hc0, hc1, hk0, hk1, hS, hL, hW⟩
                · with_reducible (dsimp only [List.take, List.drop, frG, frL, frM])
                  clear F1 N1 hi hlen hc0 hc1 hk0 hk1 hpl hpl2 hpd hpd2 hld hld2 hS hL hW ho hSB
                  intro s' h9
                  induction h9
                  rename_i h0 tk0 D p l ys vs xs ns nD n1 n2 k c t1 t2 strict m0 F1 N1 hpl hpl2 hpd hpd2 hld hld2 hi hlen hc0 hc1 hk0 hk1 hS hL hW
                  refine execs_atF 1 (LJ8 s1 (frG F1) (frL F1)) ?_ ?_
                  · with_reducible (dsimp only [List.take, List.drop, frG, frL, frM]) -- done
                    k_steps
                    refine Stop.go ?_
                    (rename Fr _ _ _ _ => lF')
                    (with_unfolding_all refine' For_invVF lF' ?k1 ?k2 ?_)
                    case k1 => exact rfl
                    case k2 => exact rfl
                    k_steps
                    refine Stop.go ?_
                    rename News _ _ _ (_ :: _) => N2
                    rename Fr _ _ _ _ => F2
                    (try dsimp only [List.cons_append, List.nil_append] at N2)
                    refine loop_led (σ := Unit) (fun _ => _) (fun i _ => True) ["kept", "held", "found"] () rfl (fun _ => .head _) F2 N2 trivial ?turn ?done
                    case turn =>
                      intro i c9 v u h tk own hv hoff hP F3 N3
                      refine turn_gen (fun QQ E9 hend => ?_)
                      refine gen_goal fun G9 hG9 => ?_
                      obtain ⟨LED, N4, hLED⟩ := news_var N3
                      clear N3
                      (try dsimp only at hLED)
                      obtain ⟨z, tz, rfl, hz9⟩ := words9_get hv
                      have hbl := words9_len z hz9
                      obtain ⟨hA, hB⟩ := word_eq z hz9
                      unfold any3 at hA
                      unfold any2 at hB
                      dsimp only [envOf] at F3 N4
                      obtain ⟨m9, F4, hm9⟩ := fr_var2 (a := "word") (b := "is_strict") F3 rfl rfl
                      refine hG9 ?_
                      clear hG9 G9
                      clear F2 N2 F3
                      have fin9 : ∀ y : Str, (["kept", "held", "found"] : List Str).contains y = false → ¬ y = "kept" ∧ ¬ y = "held" ∧ ¬ y = "found" := fun y h2 => ⟨by rintro rfl; exact absurd h2 (by decide), by rintro rfl; exact absurd h2 (by decide), by rintro rfl; exact absurd h2 (by decide)⟩
                      k_steps
                      all_goals first
                        | (exfalso; (rename ((_ && _) = false) => ha); rw [hA, hB] at ha; (rename (List.any _ _ = _) => hK); (rename (strict = true) => hs); simp [hK, hs] at ha; done)
                        | (exfalso; (rename ((_ && _) = false) => ha); rw [hA, hB] at ha; (rename (strict = false) => hs); simp [hs] at ha; done)
                        | ((rename News _ _ _ _ => kN)
                           (rename Fr _ _ _ _ => kF)
                           refine hend _ (InvEndG.intro kF kN ⟨(), rfl, trivial, fun y h1 h2 => ?_⟩ hoff ?_ ?_)
                           · obtain ⟨a1, a2, a3⟩ := fin9 y h2
                             by_cases e9 : y = "is_strict"
                             · subst e9; rfl
                             · rw [hm9]; simp only [a1, a2, a3, e9, h1, h2, if_false, Bool.false_eq_true]
                           · intro q hq; have hq9 := hLED q (List.mem_append.mpr (.inl hq)); kcf_m
                           · intro q hq; have hq9 := hLED q (List.mem_append.mpr (.inr hq)); kcf_m)
                    case done =>
                      intro c9 u h tk hP F3 N3
                      (try dsimp only at N3)
                      dsimp only [envOf] at F3 N3
                      clear F2 N2
                      k_steps
                      exact ⟨_, _, _, _, _, _, _, xs, _, _, _, _, _, _, _, _, _, _, fr_chain3 F3 rfl rfl rfl, (fun q hq => N3 q ((show ∀ q ∈ _, q ∈ _ by kcf_all) q hq)), hpl, hpl2, hpd, hpd2, hld, hld2, hi, hlen, hc0, hc1, hk0, hk1, hS, hL, hW⟩
                  · with_reducible (dsimp only [List.take, List.drop, frG, frL, frM])
                    clear F1 N1 hi hlen hc0 hc1 hk0 hk1 hpl hpl2 hpd hpd2 hld hld2 hS hL hW
                    intro s' h9
                    induction h9
                    rename_i h0 tk0 D p l ys vs xs ns nD n1 n2 k c t1 t2 strict m0 F1 N1 hpl hpl2 hpd hpd2 hld hld2 hi hlen hc0 hc1 hk0 hk1 hS hL hW
                    refine execs_atF 1 (LJ8 s1 (frG F1) (frL F1)) ?_ ?_
                    · with_reducible (dsimp only [List.take, List.drop, frG, frL, frM]) -- done
                      k_steps
                      refine Stop.go ?_
                      (rename Fr _ _ _ _ => lF')
                      (with_unfolding_all refine' For_invVF lF' ?k1 ?k2 ?_)
                      case k1 => exact rfl
                      case k2 => exact rfl
                      k_steps
                      refine Stop.go ?_
                      rename News _ _ _ (_ :: _) => N2
                      rename Fr _ _ _ _ => F2
                      (try dsimp only [List.cons_append, List.nil_append] at N2)
                      refine loop_tup (σ := Unit) (nn := 0) (fun _ => _) (fun i _ => True) [] () rfl (fun _ => .head _) F2 N2 trivial ?turn ?done
                      case turn =>
                        intro i c9 v u h tk own hv hoff hP F3 N3
                        refine turn_gen (fun QQ E9 hend => ?_)
                        refine gen_goal fun G9 hG9 => ?_
                        obtain ⟨LED, N4, hLED⟩ := news_var N3
                        clear N3
                        (try dsimp only at hLED)
                        obtain ⟨z, tz, rfl, hz9⟩ := kinds7_get hv
                        have hbl := kinds7_len z hz9
                        dsimp only [envOf] at F3 N4
                        obtain ⟨m9, F4, hm9⟩ := fr_var2 (a := "kind") (b := "is_strict") F3 rfl rfl
                        refine hG9 ?_
                        clear hG9 G9
                        clear F2 N2 F3
                        rcases kind_cases z hz9 with rfl | ⟨e1, e2, e3, e4⟩ | ⟨e1, e2, e3, e4⟩
                        · have hbb : ("b" : Str).length ≤ 100 := by decide
                          have hb1 : (restricted.any (· == ("b" : Str))) = false := by decide +kernel
                          have hb2 : (strictWords.any (· == ("b" : Str))) = false := by decide +kernel
                          k_steps
                          all_goals first
                            | (exfalso; (rename ((_ != _) = true) => ha); simp [hb1, hb2] at ha; done)
                            | (exfalso; (rename ((_ != _) = true) => ha); (rename (strict = _) => hs); simp [hb1, hb2, hs] at ha; done)
                            | ((rename News _ _ _ _ => kN)
                               (rename Fr _ _ _ _ => kF)
                               refine hend _ (InvEndG.intro kF kN ⟨(), rfl, trivial, fun y h1 h2 => ?_⟩ hoff ?_ ?_)
                               · by_cases e9 : y = "is_strict"
                                 · subst e9; rfl
                                 · rw [hm9]; simp only [e9, h1, h2, if_false, Bool.false_eq_true]
                               · intro q hq; have hq9 := hLED q (List.mem_append.mpr (.inl hq)); kcf_m
                               · intro q hq; have hq9 := hLED q (List.mem_append.mpr (.inr hq)); kcf_m)
                        · unfold anyT at e1 e2
                          have a1 : (true != ((["Name", "Member", "Index"] : List Str).any fun x => x == z)) = false := by rw [e1]; rfl
                          have a2 : (true != (z != ("Name" : Str))) = false := by rw [e4]; rfl
                          k_steps
                          all_goals (
                             (rename News _ _ _ _ => kN)
                             (rename Fr _ _ _ _ => kF)
                             refine hend _ (InvEndG.intro kF kN ⟨(), rfl, trivial, fun y h1 h2 => ?_⟩ hoff ?_ ?_)
                             · by_cases e9 : y = "is_strict"
                               · subst e9; rfl
                               · rw [hm9]; simp only [e9, h1, h2, if_false, Bool.false_eq_true]
                             · intro q hq; have hq9 := hLED q (List.mem_append.mpr (.inl hq)); kcf_m
                             · intro q hq; have hq9 := hLED q (List.mem_append.mpr (.inr hq)); kcf_m)
                        · unfold anyT at e1 e2
                          have a1 : (false != ((["Name", "Member", "Index"] : List Str).any fun x => x == z)) = false := by rw [e1]; rfl
                          have a2 : (true != (z != ("Name" : Str))) = false := by rw [e4]; rfl
                          k_steps
                          all_goals (
                             (rename News _ _ _ _ => kN)
                             (rename Fr _ _ _ _ => kF)
                             refine hend _ (InvEndG.intro kF kN ⟨(), rfl, trivial, fun y h1 h2 => ?_⟩ hoff ?_ ?_)
                             · by_cases e9 : y = "is_strict"
                               · subst e9; rfl
                               · rw [hm9]; simp only [e9, h1, h2, if_false, Bool.false_eq_true]
                             · intro q hq; have hq9 := hLED q (List.mem_append.mpr (.inl hq)); kcf_m
                             · intro q hq; have hq9 := hLED q (List.mem_append.mpr (.inr hq)); kcf_m)
                      case done =>
                        intro c9 u h tk hP F3 N3
                        (try dsimp only at N3)
                        dsimp only [envOf] at F3 N3
                        clear F2 N2
                        k_steps
                        exact ⟨_, _, _, _, _, _, _, xs, _, _, _, _, _, _, _, _, _, _, fr_chain3 F3 rfl rfl rfl, (fun q hq => N3 q ((show ∀ q ∈ _, q ∈ _ by kcf_all) q hq)), hpl, hpl2, hpd, hpd2, hld, hld2, hi, hlen, hc0, hc1, hk0, hk1, hS, hL, hW⟩
                    · with_reducible (dsimp only [List.take, List.drop, frG, frL, frM])
                      clear F1 N1 hi hlen hc0 hc1 hk0 hk1 hpl hpl2 hpd hpd2 hld hld2 hS hL hW
                      intro s' h9
                      induction h9
                      rename_i h0 tk0 D p l ys vs xs ns nD n1 n2 k c t1 t2 strict m0 F1 N1 hpl hpl2 hpd hpd2 hld hld2 hi hlen hc0 hc1 hk0 hk1 hS hL hW
                      refine execs_atF 1 (LJ8 s1 (frG F1) (frL F1)) ?_ ?_
                      · with_reducible (dsimp only [List.take, List.drop, frG, frL, frM]) -- done
                        k_steps
                        refine Stop.go ?_
                        (rename Fr _ _ _ _ => lF')
                        (with_unfolding_all refine' For_invVF lF' ?k1 ?k2 ?_)
                        case k1 => exact rfl
                        case k2 => exact rfl
                        k_steps
                        refine Stop.go ?_
                        rename News _ _ _ (_ :: _) => N2
                        rename Fr _ _ _ _ => F2
                        (try dsimp only [List.cons_append, List.nil_append] at N2)
                        refine loop_tup (σ := Unit) (nn := 0) (fun _ => _) (fun i _ => True) [] () rfl (fun _ => .head _) F2 N2 trivial ?turn ?done
                        case turn =>
                          intro i c9 v u h tk own hv hoff hP F3 N3
                          refine turn_gen (fun QQ E9 hend => ?_)
                          refine gen_goal fun G9 hG9 => ?_
                          obtain ⟨LED, N4, hLED⟩ := news_var N3
                          clear N3
                          (try dsimp only at hLED)
                          have hv2 : v = .bool true ∨ v = .bool false := two_get hv
                          dsimp only [envOf] at F3 N4
                          obtain ⟨m9, F4, hm9⟩ := fr_var2 (a := "is_octal") (b := "is_strict") F3 rfl rfl
                          refine hG9 ?_
                          clear hG9 G9
                          clear F2 N2 F3
                          rcases hv2 with rfl | rfl
                          all_goals (cases strict <;> k_steps)
                          all_goals (
                            (rename News _ _ _ _ => kN)
                            (rename Fr _ _ _ _ => kF)
                            refine hend _ (InvEndG.intro kF kN ⟨(), rfl, trivial, fun y h1 h2 => ?_⟩ hoff ?_ ?_)
                            · by_cases e9 : y = "is_strict"
                              · subst e9; rfl
                              · rw [hm9]; simp only [h1, h2, e9, if_false, Bool.false_eq_true, ite_self]
                            · intro q hq; have hq9 := hLED q (List.mem_append.mpr (.inl hq)); kcf_m
                            · intro q hq; have hq9 := hLED q (List.mem_append.mpr (.inr hq)); kcf_m)
                        case done =>
                          intro c9 u h tk hP F3 N3
                          (try dsimp only at N3)
                          dsimp only [envOf] at F3 N3
                          clear F2 N2
                          k_steps
                          exact ⟨_, _, _, _, _, _, _, xs, _, _, _, _, _, _, _, _, _, _, fr_chain3 F3 rfl rfl rfl, (fun q hq => N3 q ((show ∀ q ∈ _, q ∈ _ by kcf_all) q hq)), hpl, hpl2, hpd, hpd2, hld, hld2, hi, hlen, hc0, hc1, hk0, hk1, hS, hL, hW⟩
                      · with_reducible (dsimp only [List.take, List.drop, frG, frL, frM])
                        clear F1 N1 hi hlen hc0 hc1 hk0 hk1 hpl hpl2 hpd hpd2 hld hld2 hS hL hW
                        intro s' h9
                        induction h9
                        rename_i h0 tk0 D p l ys vs xs ns nD n1 n2 k c t1 t2 strict m0 F1 N1 hpl hpl2 hpd hpd2 hld hld2 hi hlen hc0 hc1 hk0 hk1 hS hL hW
                        refine execs_atF 1 (LJ8 s1 (frG F1) (frL F1)) ?_ ?_
                        · with_reducible (dsimp only [List.take, List.drop, frG, frL, frM]) -- done
                          k_steps
                          refine Stop.go ?_
                          (rename Fr _ _ _ _ => lF')
                          (with_unfolding_all refine' For_invVF lF' ?k1 ?k2 ?_)
                          case k1 => exact rfl
                          case k2 => exact rfl
                          k_steps
                          refine Stop.go ?_
                          rename News _ _ _ (_ :: _) => N2
                          rename Fr _ _ _ _ => F2
                          (try dsimp only [List.cons_append, List.nil_append] at N2)
                          refine loop_tup (σ := Unit) (nn := 0) (fun _ => _) (fun i _ => True) [] () rfl (fun _ => .head _) F2 N2 trivial ?turn ?done
                          case turn =>
                            intro i c9 v u h tk own hv hoff hP F3 N3
                            refine turn_gen (fun QQ E9 hend => ?_)
                            refine gen_goal fun G9 hG9 => ?_
                            obtain ⟨LED, N4, hLED⟩ := news_var N3
                            clear N3
                            (try dsimp only at hLED)
                            obtain ⟨ts, hv2⟩ : ∃ ts, v = .str "get" ts ∨ v = .str "set" ts := sorts_get hv
                            have hyl : ys.length ≤ 5 := by rw [strs_len hS]; exact hL
                            dsimp only [envOf] at F3 N4
                            obtain ⟨m9, F4, hm9⟩ := fr_var2 (a := "sort") (b := "names") F3 rfl rfl
                            refine hG9 ?_
                            clear hG9 G9
                            clear F2 N2 F3
                            have N5 := News.cons_old N4 (hLED (D, PySem.W.listOf ys.toArray nD) (List.mem_append.mpr (.inl (by kcf_m))))
                            clear N4
                            rcases hv2 with rfl | rfl
                            all_goals k_steps
                            all_goals first
                              | (exfalso; (rename ((_ != _) = true) => ha); exact n1_no (by assumption) ha)
                              | (exfalso; (rename ((_ != _) = true) => ha); exact n2_no (by assumption) ha)
                              | ((rename News _ _ _ _ => kN)
                                 (rename Fr _ _ _ _ => kF)
                                 refine hend _ (InvEndG.intro kF kN ⟨(), rfl, trivial, fun y h1 h2 => ?_⟩ hoff ?_ ?_)
                                 · by_cases e9 : y = "names"
                                   · subst e9; rfl
                                   · rw [hm9]; simp only [h1, h2, e9, if_false, Bool.false_eq_true, ite_self]
                                 · intro q hq; have hq9 := hLED q (List.mem_append.mpr (.inl hq)); kcf_m
                                 · intro q hq; have hq9 := hLED q (List.mem_append.mpr (.inr hq)); kcf_m)
                          case done =>
                            intro c9 u h tk hP F3 N3
                            (try dsimp only at N3)
                            dsimp only [envOf] at F3 N3
                            clear F2 N2
                            k_steps
                            exact ⟨_, _, _, _, _, _, _, xs, _, _, _, _, _, _, _, _, _, _, fr_chain3 F3 rfl rfl rfl, (fun q hq => N3 q ((show ∀ q ∈ _, q ∈ _ by kcf_all) q hq)), hpl, hpl2, hpd, hpd2, hld, hld2, hi, hlen, hc0, hc1, hk0, hk1, hS, hL, hW⟩
                        · with_reducible (dsimp only [List.take, List.drop, frG, frL, frM])
                          clear F1 N1 hi hlen hc0 hc1 hk0 hk1 hpl hpl2 hpd hpd2 hld hld2 hS hL hW
                          intro s' h9
                          induction h9
                          rename_i h0 tk0 D p l ys vs xs ns nD n1 n2 k c t1 t2 strict m0 F1 N1 hpl hpl2 hpd hpd2 hld hld2 hi hlen hc0 hc1 hk0 hk1 hS hL hW
                          k_steps)
end
end
end PartLW

end Mine
end Rest

theorem PySem.Challenge.cw_pc0067_01_holds : PySem.Challenge.rw_pc0067_01.Holds := by
  exact Mine.law_try
