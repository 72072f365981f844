import PyProof.Rows.All
import Wide.All
import OpenK.AllK
import Wide.FinOn
import KE.KLcTest
import Lean
import PySem.Challenge.RW_no0365_01
set_option Elab.async false
set_option linter.all false
set_option compiler.extract_closed false
section
open PySem PySem.W PyProof.Rows
namespace Mine
section
local macro_rules | `(tactic| o_law) => `(tactic| (refine' holds_law (by rw [PySem.W.Fast.te9446332074065402090]; as_aux_lemma => kernel_rfl) fun said => ?_))
local macro_rules | `(tactic| refine $e) => `(tactic| (refine' $e; try (case hl => (intro w; unfold openEnds fencedOpening topFrom; rw [PySem.W.Fast.te14082659384304107361, PySem.W.Fast.te10274390034422433532, PySem.W.Fast.te4187177175401517315, PySem.W.Fast.te14289696077712309145, PySem.W.Fast.te1435165496053646825]; kernel_rfl))))
set_option maxRecDepth 100000 in
set_option maxHeartbeats 8000000 in
open_top hd for PySem.Challenge.rw_no0365_01
end
end Mine
end
section
namespace Mine
noncomputable def cAt (d : List UInt8) (n : Nat) : Int := ((d.getD n 0).toNat : Int)
theorem cAt_lo (d : List UInt8) (n : Nat) : 0 ≤ cAt d n := Int.natCast_nonneg _
theorem cAt_hi (d : List UInt8) (n : Nat) : cAt d n < 256 := by have := (d.getD n 0).toNat_lt; unfold cAt; omega
noncomputable def nev (c : Int) : Bool := ([0, 10, 13] : List Int).any (· == c)
noncomputable def sub (d : List UInt8) (n k : Nat) : List UInt8 := (d.drop n).take k
noncomputable def leI (d : List UInt8) (n : Nat) : Int := if sub d n 1 = [10] then (n : Int) + 1 else if sub d n 2 = [13, 10] then (n : Int) + 2 else -1
noncomputable def insideAt (d : List UInt8) (n b : Nat) : Except Nat (List UInt8 × Nat) :=
  if (d.length : Int) ≤ n ∨ cAt d n = 92 ∧ (n : Int) + 1 = d.length then .error b
  else if cAt d n = 92 then (if nev (cAt d (n + 1)) = true then .error n else .ok (sub d (n + 1) 1, n + 2))
  else if 0 ≤ leI d n then .ok ([], (leI d n).toNat)
  else if nev (cAt d n) = true then .error n else .ok (sub d n 1, n + 1)
noncomputable def atomSigns : List UInt8 := [33, 35, 36, 37, 38, 39, 42, 43, 45, 47, 61, 63, 94, 95, 96, 123, 124, 125, 126]
noncomputable def atomCode (c : Int) : Bool := decide (48 ≤ c ∧ c ≤ 57) || decide (65 ≤ c ∧ c ≤ 90) || decide (97 ≤ c ∧ c ≤ 122) || decide (127 < c) || atomSigns.contains c.toNat.toUInt8
noncomputable def closedGo (d c bar : List UInt8) (b : Nat) : Nat → Nat → List UInt8 → Except Nat (List UInt8 × Nat)
  | 0, at_, acc => .ok (acc, at_)
  | f + 1, at_, acc =>
    if sub d at_ 1 = c then .ok (acc, at_ + 1)
    else if (at_ : Int) < d.length ∧ bar.contains (cAt d at_).toNat.toUInt8 = true then .error at_
    else match insideAt d at_ b with
      | .error k => .error k
      | .ok (x, k) => closedGo d c bar b f k (acc ++ x)
noncomputable def closedAt (d : List UInt8) (b : Nat) (c bar : List UInt8) : Except Nat (List UInt8 × Nat) := closedGo d c bar b (d.length + 1) (b + 1) []
noncomputable def Faults {α : Type} (r : Except Nat α) (i : Int) : Prop := ∃ k : Nat, i = k ∧ r = .error k
theorem Faults.mk {α : Type} {r : Except Nat α} {k : Nat} (h : r = .error k) : Faults r k := ⟨k, rfl, h⟩
theorem sub_len (d : List UInt8) (n k : Nat) : (sub d n k).length = min k (d.length - n) := by simp [sub]
theorem sub_len2 {d : List UInt8} {n k : Nat} {l : List UInt8} (h : sub d n k = l) : l.length = min k (d.length - n) := by rw [← h, sub_len]
theorem leI_ge {d : List UInt8} {n : Nat} (h : 0 ≤ leI d n) : n < (leI d n).toNat ∧ (leI d n).toNat ≤ d.length := by
  unfold leI at h ⊢
  split
  · rename_i q; have := sub_len2 q; simp at this; omega
  · rename_i q1; rw [if_neg q1] at h
    split
    · rename_i q; have := sub_len2 q; simp at this; omega
    · rename_i q; rw [if_neg q] at h; omega
theorem insideAt_ok {d : List UInt8} {n b k : Nat} {x : List UInt8} (h : insideAt d n b = .ok (x, k)) : n < k ∧ k ≤ d.length ∧ x.length ≤ k - n := by
  unfold insideAt at h
  split at h
  · cases h
  · rename_i q
    have hn : n < d.length := by rw [not_or] at q; omega
    split at h
    · rename_i q2
      split at h
      · cases h
      · simp only [Except.ok.injEq, Prod.mk.injEq] at h
        obtain ⟨rfl, rfl⟩ := h
        rw [not_or, Classical.not_and_iff_not_or_not] at q
        have := q.2.resolve_left (fun z => z q2)
        refine ⟨by omega, by omega, ?_⟩
        rw [sub_len]; omega
    · split at h
      · rename_i q3
        simp only [Except.ok.injEq, Prod.mk.injEq] at h
        obtain ⟨rfl, rfl⟩ := h
        have := leI_ge q3
        exact ⟨this.1, this.2, Nat.zero_le _⟩
      · split at h
        · cases h
        · simp only [Except.ok.injEq, Prod.mk.injEq] at h
          obtain ⟨rfl, rfl⟩ := h
          refine ⟨by omega, by omega, ?_⟩
          rw [sub_len]; omega
theorem closedGo_end {d c bar : List UInt8} {b n i : Nat} {acc : List UInt8} (hn : 0 < n) (h : sub d i 1 = c) : closedGo d c bar b n i acc = .ok (acc, i + 1) := by
  obtain ⟨n, rfl⟩ := Nat.exists_eq_succ_of_ne_zero (Nat.ne_of_gt hn)
  simp only [Nat.succ_eq_add_one, closedGo, if_pos h]
theorem closedGo_bar {d c bar : List UInt8} {b n i : Nat} {acc : List UInt8} (hn : 0 < n) (h : ¬ sub d i 1 = c) (h2 : (i : Int) < d.length) (h3 : bar.contains (cAt d i).toNat.toUInt8 = true) : closedGo d c bar b n i acc = .error i := by
  obtain ⟨n, rfl⟩ := Nat.exists_eq_succ_of_ne_zero (Nat.ne_of_gt hn)
  simp only [Nat.succ_eq_add_one, closedGo, if_neg h, if_pos (And.intro h2 h3)]
theorem closedGo_step {d c bar : List UInt8} {b n i : Nat} {acc x : List UInt8} {k : Nat} (h : ¬ sub d i 1 = c) (h2 : ¬ ((i : Int) < d.length ∧ bar.contains (cAt d i).toNat.toUInt8 = true)) (h3 : insideAt d i b = .ok (x, k)) : closedGo d c bar b (n + 1) i acc = closedGo d c bar b n k (acc ++ x) := by
  simp only [closedGo, if_neg h, if_neg h2, h3]
theorem closedGo_bad {d c bar : List UInt8} {b n i : Nat} {acc : List UInt8} (hn : 0 < n) (h : ¬ sub d i 1 = c) (h2 : ¬ ((i : Int) < d.length ∧ bar.contains (cAt d i).toNat.toUInt8 = true)) (x : Int) (h3 : Faults (insideAt d i b) x) : Faults (closedGo d c bar b n i acc) x := by
  obtain ⟨n, rfl⟩ := Nat.exists_eq_succ_of_ne_zero (Nat.ne_of_gt hn)
  obtain ⟨k, e, h3⟩ := h3
  refine ⟨k, e, ?_⟩
  simp only [Nat.succ_eq_add_one, closedGo, if_neg h, if_neg h2, h3]
end Mine
end
section
namespace Mine
noncomputable def depth' (s : List UInt8) (depth : Nat) : Nat := if s = [40] then depth + 1 else if s = [41] then depth - 1 else depth
noncomputable def commentGo (d : List UInt8) (b : Nat) : Nat → Nat → Nat → List (List UInt8) → Except Nat (List UInt8 × Nat)
  | 0, at_, _, ws => .ok (ws.dropLast.flatten, at_)
  | f + 1, at_, depth, ws =>
    if depth = 0 then .ok (ws.dropLast.flatten, at_)
    else if sub d at_ 1 = [40] ∧ 20 < depth + 1 then .error at_
    else match insideAt d at_ b with
      | .error k => .error k
      | .ok (x, k) => commentGo d b f k (depth' (sub d at_ 1) depth) (ws ++ [x])
noncomputable def commentAt (d : List UInt8) (b : Nat) : Except Nat (List UInt8 × Nat) := commentGo d b (d.length + 1) (b + 1) 1 []
theorem commentGo_end {d : List UInt8} {b n i : Nat} {ws : List (List UInt8)} : commentGo d b n i 0 ws = .ok (ws.dropLast.flatten, i) := by
  cases n <;> simp [commentGo]
theorem commentGo_deep {d : List UInt8} {b n i depth : Nat} {ws : List (List UInt8)} (hn : 0 < n) (h0 : depth ≠ 0) (h : sub d i 1 = [40]) (h2 : 20 < depth + 1) : commentGo d b n i depth ws = .error i := by
  obtain ⟨n, rfl⟩ := Nat.exists_eq_succ_of_ne_zero (Nat.ne_of_gt hn)
  simp only [Nat.succ_eq_add_one, commentGo, if_neg h0, if_pos (And.intro h h2)]
theorem commentGo_step {d : List UInt8} {b n i depth k : Nat} {ws : List (List UInt8)} {x : List UInt8} (h0 : depth ≠ 0) (h : ¬ (sub d i 1 = [40] ∧ 20 < depth + 1)) (h3 : insideAt d i b = .ok (x, k)) : commentGo d b (n + 1) i depth ws = commentGo d b n k (depth' (sub d i 1) depth) (ws ++ [x]) := by
  simp only [commentGo, if_neg h0, if_neg h, h3]
theorem commentGo_bad {d : List UInt8} {b n i depth : Nat} {ws : List (List UInt8)} (hn : 0 < n) (h0 : depth ≠ 0) (h : ¬ (sub d i 1 = [40] ∧ 20 < depth + 1)) (x : Int) (h3 : Faults (insideAt d i b) x) : Faults (commentGo d b n i depth ws) x := by
  obtain ⟨n, rfl⟩ := Nat.exists_eq_succ_of_ne_zero (Nat.ne_of_gt hn)
  obtain ⟨k, e, h3⟩ := h3
  refine ⟨k, e, ?_⟩
  simp only [Nat.succ_eq_add_one, commentGo, if_neg h0, if_neg h, h3]
noncomputable def atomGo (d : List UInt8) : Nat → Nat → Nat
  | 0, e => e
  | f + 1, e => if e < d.length ∧ atomCode (cAt d e) = true then atomGo d f (e + 1) else e
noncomputable def atomAt (d : List UInt8) (n : Nat) : List UInt8 × Nat := (sub d n (atomGo d (d.length - n) n - n), atomGo d (d.length - n) n)
theorem atomGo_end {d : List UInt8} {f e : Nat} (h : ¬ (e < d.length ∧ atomCode (cAt d e) = true)) : atomGo d f e = e := by
  cases f <;> simp [atomGo, h]
theorem atomGo_step {d : List UInt8} {f e : Nat} (h : e < d.length ∧ atomCode (cAt d e) = true) : atomGo d (f + 1) e = atomGo d f (e + 1) := by
  simp only [atomGo, if_pos h]
theorem atomGo_le {d : List UInt8} : ∀ (f e : Nat), e ≤ d.length → e ≤ atomGo d f e ∧ atomGo d f e ≤ d.length
  | 0, e, h => ⟨Nat.le_refl _, h⟩
  | f + 1, e, h => by
    unfold atomGo
    split
    · have := atomGo_le (d := d) f (e + 1) (by omega); omega
    · omega
noncomputable def whiteI (d : List UInt8) (n : Nat) : Int := if cAt d n = 9 ∨ cAt d n = 32 then (n : Int) + 1 else leI d n
noncomputable def whiteGo (d : List UInt8) : Nat → Nat → Nat
  | 0, e => e
  | f + 1, e => if e < d.length ∧ 0 ≤ whiteI d e then whiteGo d f (whiteI d e).toNat else e
noncomputable def pastWhite (d : List UInt8) (n : Nat) : Nat := whiteGo d (d.length - n) n
theorem whiteI_ge {d : List UInt8} {n : Nat} (hn : n < d.length) (h : 0 ≤ whiteI d n) : n < (whiteI d n).toNat ∧ (whiteI d n).toNat ≤ d.length := by
  unfold whiteI at h ⊢
  split
  · omega
  · rename_i q; rw [if_neg q] at h; exact leI_ge h
theorem whiteGo_end {d : List UInt8} {f e : Nat} (h : ¬ (e < d.length ∧ 0 ≤ whiteI d e)) : whiteGo d f e = e := by
  cases f <;> simp [whiteGo, h]
theorem whiteGo_step {d : List UInt8} {f e : Nat} (h : e < d.length ∧ 0 ≤ whiteI d e) : whiteGo d (f + 1) e = whiteGo d f (whiteI d e).toNat := by
  simp only [whiteGo, if_pos h]
theorem whiteGo_le {d : List UInt8} : ∀ (f e : Nat), e ≤ d.length → e ≤ whiteGo d f e ∧ whiteGo d f e ≤ d.length
  | 0, e, h => ⟨Nat.le_refl _, h⟩
  | f + 1, e, h => by
    unfold whiteGo
    split
    · rename_i q
      have h1 := whiteI_ge q.1 q.2
      have := whiteGo_le (d := d) f (whiteI d e).toNat h1.2; omega
    · omega
inductive Kind | quoted | literal | comment | sign | atom
  deriving DecidableEq
structure T where
  kind : Kind
  worth : List UInt8
  at_ : Nat
  deriving DecidableEq
noncomputable def signs : List UInt8 := [60, 62, 64, 44, 59, 58, 46, 92]
noncomputable def asTok (k : Kind) (at_ : Nat) : Except Nat (List UInt8 × Nat) → Except Nat (T × Nat)
  | .error e => .error e
  | .ok (x, b) => .ok (⟨k, x, at_⟩, b)
noncomputable def tokenAt (d : List UInt8) (n : Nat) : Except Nat (T × Nat) :=
  if sub d n 1 = [34] then asTok .quoted n (closedAt d n [34] [])
  else if sub d n 1 = [91] then asTok .literal n (closedAt d n [93] [91])
  else if sub d n 1 = [40] then asTok .comment n (commentAt d n)
  else if signs.contains (d.getD n 0) = true then .ok (⟨.sign, sub d n 1, n⟩, n + 1)
  else if atomCode (cAt d n) = false then .error n
  else .ok (⟨.atom, (atomAt d n).1, n⟩, (atomAt d n).2)
noncomputable def tokensGo (d : List UInt8) : Nat → Nat → List T → Except Nat (List T)
  | 0, _, acc => .ok acc
  | f + 1, at_, acc =>
    if at_ < d.length then
      match tokenAt d at_ with
      | .error e => .error e
      | .ok (x, k) => tokensGo d f (pastWhite d k) (acc ++ [x])
    else .ok acc
noncomputable def tokensOf (d : List UInt8) : Except Nat (List T) := tokensGo d (d.length + 1) (pastWhite d 0) []
theorem Faults.tok {k : Kind} {n : Nat} {r : Except Nat (List UInt8 × Nat)} {x : Int} (h : Faults r x) : Faults (asTok k n r) x := by
  obtain ⟨j, e, rfl⟩ := h; exact ⟨j, e, rfl⟩
theorem closedGo_ok {d c bar : List UInt8} {b : Nat} (hc : c.length = 1) : ∀ (f i : Nat) (acc x : List UInt8) (k : Nat), i ≤ d.length → d.length < f + i → closedGo d c bar b f i acc = .ok (x, k) → i < k ∧ k ≤ d.length ∧ x.length ≤ acc.length + (k - i)
  | 0, i, acc, x, k, hi, hf, h => by omega
  | f + 1, i, acc, x, k, hi, hf, h => by
    unfold closedGo at h
    split at h
    · rename_i q
      have := sub_len2 q
      simp only [Except.ok.injEq, Prod.mk.injEq] at h
      obtain ⟨rfl, rfl⟩ := h
      omega
    · split at h
      · cases h
      · split at h
        · cases h
        · rename_i y j hj
          have h1 := insideAt_ok hj
          have := closedGo_ok hc f j _ _ _ h1.2.1 (by omega) h
          simp only [List.length_append] at this
          omega
theorem commentGo_ok {d : List UInt8} {b : Nat} : ∀ (f i depth : Nat) (ws : List (List UInt8)) (x : List UInt8) (k : Nat), i ≤ d.length → commentGo d b f i depth ws = .ok (x, k) → i ≤ k ∧ k ≤ d.length
  | 0, i, depth, acc, x, k, hi, h => by
    simp only [commentGo, Except.ok.injEq, Prod.mk.injEq] at h; omega
  | f + 1, i, depth, acc, x, k, hi, h => by
    unfold commentGo at h
    split at h
    · simp only [Except.ok.injEq, Prod.mk.injEq] at h; omega
    · split at h
      · cases h
      · split at h
        · cases h
        · rename_i y j hj
          have h1 := insideAt_ok hj
          have := commentGo_ok f j _ _ _ _ h1.2.1 h
          omega
theorem tokenAt_ok {d : List UInt8} {n k : Nat} {x : T} (hn : n < d.length) (h : tokenAt d n = .ok (x, k)) : n < k ∧ k ≤ d.length := by
  unfold tokenAt at h
  split at h
  · unfold asTok at h
    split at h
    · cases h
    · rename_i y j hj
      have := closedGo_ok rfl _ _ _ _ _ (by omega) (by omega) hj
      simp only [Except.ok.injEq, Prod.mk.injEq] at h; omega
  · split at h
    · unfold asTok at h
      split at h
      · cases h
      · rename_i y j hj
        have := closedGo_ok rfl _ _ _ _ _ (by omega) (by omega) hj
        simp only [Except.ok.injEq, Prod.mk.injEq] at h; omega
    · split at h
      · unfold asTok at h
        split at h
        · cases h
        · rename_i y j hj
          have := commentGo_ok _ _ _ _ _ _ (by omega) hj
          simp only [Except.ok.injEq, Prod.mk.injEq] at h; omega
      · split at h
        · simp only [Except.ok.injEq, Prod.mk.injEq] at h; omega
        · split at h
          · cases h
          · rename_i q
            simp only [Except.ok.injEq, Prod.mk.injEq] at h
            obtain ⟨rfl, rfl⟩ := h
            have h3 := atomGo_step (d := d) (f := d.length - n - 1) (e := n) ⟨hn, by simpa using q⟩
            have h4 := atomGo_le (d := d) (d.length - n - 1) (n + 1) (by omega)
            have e : d.length - n - 1 + 1 = d.length - n := by omega
            rw [e] at h3
            simp only [atomAt, h3]
            omega
end Mine
end
section
namespace Mine
noncomputable def escd (sg d : List UInt8) : List UInt8 := d.flatMap fun c => if sg.contains c = true then [92, c] else [c]
noncomputable def shown (x : T) : List UInt8 :=
  match x.kind with
  | .quoted => [34] ++ escd [34, 92] x.worth ++ [34]
  | .literal => [91] ++ escd [91, 93, 92] x.worth ++ [93]
  | .comment => [40] ++ escd [40, 41, 92] x.worth ++ [41]
  | _ => x.worth
noncomputable def isAtomT (x : T) : Bool := decide (x.kind = .atom)
noncomputable def showAll : Bool → List T → List UInt8
  | _, [] => []
  | p, x :: r => (if (p && isAtomT x) = true then [32] else []) ++ shown x ++ showAll (isAtomT x) r
noncomputable def lastAtom : Bool → List T → Bool
  | p, [] => p
  | _, x :: r => lastAtom (isAtomT x) r
theorem showAll_snoc (x : T) : ∀ (p : Bool) (l : List T), showAll p (l ++ [x]) = showAll p l ++ (if (lastAtom p l && isAtomT x) = true then [32] else []) ++ shown x
  | p, [] => by simp [showAll, lastAtom]
  | p, y :: r => by
    rw [List.cons_append, showAll, showAll, lastAtom, showAll_snoc x (isAtomT y) r]
    simp [List.append_assoc]
theorem lastAtom_snoc (x : T) : ∀ (p : Bool) (l : List T), lastAtom p (l ++ [x]) = isAtomT x
  | p, [] => rfl
  | p, y :: r => by rw [List.cons_append, lastAtom, lastAtom_snoc x (isAtomT y) r]
noncomputable def tsAt (ts : List T) (i : Nat) : T := ts.getD i ⟨.atom, [], 0⟩
theorem tsAt_get {ts : List T} {i : Nat} (h : i < ts.length) : ts[i]? = some (tsAt ts i) := by simp [tsAt, h]
theorem tsAt_mem {ts : List T} {i : Nat} (h : i < ts.length) : tsAt ts i ∈ ts := by simp [tsAt, h]
theorem lastAtom_take {ts : List T} : ∀ (i : Nat), i < ts.length → lastAtom false (ts.take (i + 1)) = isAtomT (tsAt ts i) := fun i h => by
  rw [List.take_succ_eq_append_getElem h, lastAtom_snoc]; simp [tsAt, h]
theorem show_step {ts : List T} {i : Nat} (h : i < ts.length) : showAll false (ts.take (i + 1)) = showAll false (ts.take i) ++ (if (lastAtom false (ts.take i) && isAtomT (tsAt ts i)) = true then [32] else []) ++ shown (tsAt ts i) := by
  rw [List.take_succ_eq_append_getElem h, showAll_snoc]; simp [tsAt, h]
noncomputable def Worthy (d : List UInt8) : Prop := d.length ≤ 65536 ∧ ∀ n, n < d.length → nev (cAt d n) = false
end Mine
end
section
namespace Mine
noncomputable def isComma (c : List UInt8) (x : T) : Bool := decide (x.kind = .sign) && decide (x.worth = c)
noncomputable def splitStep (c : List UInt8) (acc : List (List T)) (x : T) : List (List T) := if isComma c x = true then acc ++ [[]] else acc.dropLast ++ [acc.getLastD [] ++ [x]]
noncomputable def splitTs (c : List UInt8) (ts : List T) : List (List T) := ts.foldl (splitStep c) [[]]
theorem splitTs_take {c : List UInt8} {ts : List T} {i : Nat} (h : i < ts.length) : splitTs c (ts.take (i + 1)) = splitStep c (splitTs c (ts.take i)) (tsAt ts i) := by
  have e : ts[i] = tsAt ts i := by simp [tsAt, h]
  unfold splitTs
  rw [List.take_succ_eq_append_getElem h, List.foldl_append, e]; rfl
theorem splitStep_yes {c : List UInt8} {acc : List (List T)} {x : T} (h : isComma c x = true) : splitStep c acc x = acc ++ [[]] := if_pos h
theorem splitStep_no {c : List UInt8} {acc : List (List T)} {l : List T} {x : T} (h : isComma c x = false) : splitStep c (acc ++ [l]) x = acc ++ [l ++ [x]] := by
  unfold splitStep; rw [if_neg (by rw [h]; decide)]; simp
end Mine
end
section
namespace Mine
noncomputable def lawIn (d : List UInt8) (n : Nat) : Int × List UInt8 :=
  if cAt d n = 92 then
    (if (n : Int) + 1 = d.length then (-2, []) else if nev (cAt d (n + 1)) = true then (-1, []) else ((n : Int) + 2, sub d (n + 1) 1))
  else if cAt d n = 10 then ((n : Int) + 1, [])
  else if sub d n 2 = [13, 10] then ((n : Int) + 2, [])
  else if ([0, 13] : List Int).any (· == cAt d n) = true then (-1, []) else ((n : Int) + 1, sub d n 1)
theorem sub_one' {d : List UInt8} {n : Nat} (h : n < d.length) : sub d n 1 = [d.getD n 0] := by
  unfold sub
  rw [List.drop_eq_getElem_cons h]
  show [d[n]] = _
  simp [List.getD, h]
theorem cAt_eq {d : List UInt8} {n : Nat} (c : UInt8) : cAt d n = (c.toNat : Int) ↔ d.getD n 0 = c := by
  unfold cAt
  constructor
  · intro h
    have h2 : (d.getD n 0).toNat = c.toNat := by omega
    exact UInt8.toNat_inj.mp h2
  · intro h; rw [h]
theorem sub_is {d : List UInt8} {n : Nat} (h : n < d.length) (c : UInt8) : sub d n 1 = [c] ↔ cAt d n = (c.toNat : Int) := by
  rw [sub_one' h, cAt_eq]; simp
theorem lawIn_ok {d : List UInt8} {n b : Nat} (h : n < d.length) (h0 : 0 ≤ (lawIn d n).1) : insideAt d n b = .ok ((lawIn d n).2, (lawIn d n).1.toNat) := by
  have hs := sub_is h 10
  have hs' : sub d n 1 = [10] ↔ cAt d n = 10 := hs
  unfold lawIn at h0 ⊢
  unfold insideAt
  by_cases h1 : cAt d n = 92
  · simp only [if_pos h1] at h0 ⊢
    by_cases h2 : (n : Int) + 1 = d.length
    · rw [if_pos h2] at h0; simp at h0
    · rw [if_neg h2] at h0 ⊢
      rw [if_neg (by omega)]
      by_cases h3 : nev (cAt d (n + 1)) = true
      · rw [if_pos h3] at h0; simp at h0
      · rw [if_neg h3, if_neg h3]; simp; omega
  · simp only [if_neg h1] at h0 ⊢
    rw [if_neg (by omega)]
    unfold leI
    by_cases h2 : cAt d n = 10
    · rw [if_pos h2, if_pos (hs'.mpr h2)]
      rw [if_pos (by omega)]
    · rw [if_neg h2] at h0 ⊢
      rw [if_neg (fun z => h2 (hs'.mp z))]
      by_cases h3 : sub d n 2 = [13, 10]
      · rw [if_pos h3, if_pos h3, if_pos (by omega)]
      · rw [if_neg h3] at h0 ⊢
        rw [if_neg h3, if_neg (by omega)]
        by_cases h4 : ([0, 13] : List Int).any (· == cAt d n) = true
        · rw [if_pos h4] at h0; simp at h0
        · rw [if_neg h4]
          have h5 : ¬ nev (cAt d n) = true := by
            unfold nev
            simp at h4 ⊢
            omega
          rw [if_neg h5]; simp
theorem lawIn_bad {d : List UInt8} {n b : Nat} (h : n < d.length) (h0 : (lawIn d n).1 < 0) : insideAt d n b = .error (if (lawIn d n).1 = -1 then n else b) := by
  have hs := sub_is h 10
  have hs' : sub d n 1 = [10] ↔ cAt d n = 10 := hs
  unfold lawIn at h0 ⊢
  unfold insideAt
  by_cases h1 : cAt d n = 92
  · simp only [if_pos h1] at h0 ⊢
    by_cases h2 : (n : Int) + 1 = d.length
    · rw [if_pos h2]
      rw [if_pos (by exact .inr ⟨h1, h2⟩)]
      rfl
    · rw [if_neg h2] at h0 ⊢
      rw [if_neg (by omega)]
      by_cases h3 : nev (cAt d (n + 1)) = true
      · rw [if_pos h3, if_pos h3]; rfl
      · rw [if_neg h3] at h0; simp at h0; omega
  · simp only [if_neg h1] at h0 ⊢
    rw [if_neg (by omega)]
    unfold leI
    by_cases h2 : cAt d n = 10
    · rw [if_pos h2] at h0; simp at h0; omega
    · rw [if_neg h2] at h0 ⊢
      rw [if_neg (fun z => h2 (hs'.mp z))]
      by_cases h3 : sub d n 2 = [13, 10]
      · rw [if_pos h3] at h0; simp at h0; omega
      · rw [if_neg h3] at h0 ⊢
        rw [if_neg h3, if_neg (by omega)]
        by_cases h4 : ([0, 13] : List Int).any (· == cAt d n) = true
        · rw [if_pos h4]
          have h5 : nev (cAt d n) = true := by
            unfold nev
            simp at h4 ⊢
            omega
          rw [if_pos h5]; rfl
        · rw [if_neg h4] at h0; simp at h0; omega
noncomputable def Goes (d : List UInt8) (i : Nat) (ts : List T) : Prop := ∃ f, d.length < f + i ∧ tokensGo d f i ts = tokensOf d
noncomputable def Closing (d c bar : List UInt8) (b i : Nat) (bs : List UInt8) : Prop := ∃ f, d.length < f + i ∧ closedGo d c bar b f i bs = closedAt d b c bar
noncomputable def Commenting (d : List UInt8) (b i dp : Nat) (bs : List UInt8) : Prop := ∃ f ws, d.length < f + i ∧ commentGo d b f i dp ws = commentAt d b ∧ ws.flatten = bs
inductive St | out | atom | quoted | comment | literal
  deriving DecidableEq
noncomputable def Inv (d : List UInt8) (st : St) (bs : List UInt8) (b i dp : Nat) (ts : List T) : Prop :=
  match st with
  | .out => ∃ f, d.length ≤ f + i ∧ Goes d (whiteGo d f i) ts
  | .atom => Goes d b ts ∧ b < d.length ∧ tokenAt d b = .ok (⟨.atom, (atomAt d b).1, b⟩, (atomAt d b).2) ∧ b ≤ i ∧ (∃ f, d.length ≤ f + i ∧ atomGo d f i = (atomAt d b).2) ∧ bs = sub d b (i - b)
  | .quoted => Goes d b ts ∧ b < i ∧ b < d.length ∧ sub d b 1 = [34] ∧ Closing d [34] [] b i bs
  | .literal => Goes d b ts ∧ b < i ∧ b < d.length ∧ sub d b 1 = [91] ∧ Closing d [93] [91] b i bs
  | .comment => Goes d b ts ∧ b < i ∧ b < d.length ∧ sub d b 1 = [40] ∧ Commenting d b i dp bs ∧ 0 < dp
theorem Goes.ok {d : List UInt8} {i k : Nat} {ts : List T} {x : T} (h : Goes d i ts) (hi : i < d.length) (hx : tokenAt d i = .ok (x, k)) : ∃ f, d.length ≤ f + k ∧ Goes d (whiteGo d f k) (ts ++ [x]) := by
  obtain ⟨f, hf, e⟩ := h
  obtain ⟨f, rfl⟩ := Nat.exists_eq_succ_of_ne_zero (show f ≠ 0 by omega)
  have hk := tokenAt_ok hi hx
  refine ⟨d.length - k, by omega, f, ?_, ?_⟩
  · have := whiteGo_le (d := d) (d.length - k) k hk.2; omega
  · rw [← e]; simp only [Nat.succ_eq_add_one, tokensGo, if_pos hi, hx, pastWhite]
theorem Goes.bad {d : List UInt8} {i e' : Nat} {ts : List T} (h : Goes d i ts) (hi : i < d.length) (hx : tokenAt d i = .error e') : tokensOf d = .error e' := by
  obtain ⟨f, hf, e⟩ := h
  obtain ⟨f, rfl⟩ := Nat.exists_eq_succ_of_ne_zero (show f ≠ 0 by omega)
  rw [← e]; simp only [Nat.succ_eq_add_one, tokensGo, if_pos hi, hx]
theorem Goes.done {d : List UInt8} {i : Nat} {ts : List T} (h : Goes d i ts) (hi : ¬ i < d.length) : tokensOf d = .ok ts := by
  obtain ⟨f, hf, e⟩ := h
  rw [← e]; cases f <;> simp [tokensGo, hi]
theorem Inv.start (d : List UInt8) : Inv d .out [] 0 0 0 [] := ⟨d.length, by omega, d.length + 1, by omega, rfl⟩
theorem Inv.done {d bs : List UInt8} {b i dp : Nat} {ts : List T} (h : Inv d .out bs b i dp ts) (hi : ¬ i < d.length) : tokensOf d = .ok ts := by
  obtain ⟨f, hf, g⟩ := h
  rw [whiteGo_end (by omega)] at g
  exact g.done hi
theorem Inv.white {d bs bs' : List UInt8} {b b' i dp dp' : Nat} {ts : List T} (h : Inv d .out bs b i dp ts) (hi : i < d.length) (hw : 0 ≤ whiteI d i) : Inv d .out bs' b' (whiteI d i).toNat dp' ts := by
  obtain ⟨f, hf, g⟩ := h
  obtain ⟨f, rfl⟩ := Nat.exists_eq_succ_of_ne_zero (show f ≠ 0 by omega)
  rw [whiteGo_step ⟨hi, hw⟩] at g
  have := whiteI_ge hi hw
  exact ⟨f, by omega, g⟩
theorem Inv.goes {d bs : List UInt8} {b i dp : Nat} {ts : List T} (h : Inv d .out bs b i dp ts) (hi : i < d.length) (hw : ¬ 0 ≤ whiteI d i) : Goes d i ts := by
  obtain ⟨f, hf, g⟩ := h
  rwa [whiteGo_end (by omega)] at g
theorem all_u8 {P : UInt8 → Prop} (h : ∀ n : Fin 256, P (UInt8.ofNat n.val)) (c : UInt8) : P c := by
  have := h ⟨c.toNat, c.toNat_lt⟩
  simpa using this
theorem atom_kinds {c : UInt8} (h : atomCode (c.toNat : Int) = true) : c ≠ 34 ∧ c ≠ 91 ∧ c ≠ 40 ∧ signs.contains c = false := by
  revert h; exact all_u8 (P := fun c => atomCode (c.toNat : Int) = true → c ≠ 34 ∧ c ≠ 91 ∧ c ≠ 40 ∧ signs.contains c = false) (by decide +kernel) c
theorem tokenAt_atom {d : List UInt8} {i : Nat} (hi : i < d.length) (ha : atomCode (cAt d i) = true) : tokenAt d i = .ok (⟨.atom, (atomAt d i).1, i⟩, (atomAt d i).2) := by
  have hk := atom_kinds (c := d.getD i 0) ha
  unfold tokenAt
  rw [sub_one' hi]
  rw [if_neg (by simpa using hk.1), if_neg (by simpa using hk.2.1), if_neg (by simpa using hk.2.2.1), if_neg (by rw [hk.2.2.2]; decide), if_neg (by rw [ha]; decide)]
theorem Inv.atom0 {d : List UInt8} {i dp : Nat} {ts : List T} (h : Goes d i ts) (hi : i < d.length) (ha : atomCode (cAt d i) = true) : Inv d .atom [] i i dp ts :=
  ⟨h, hi, tokenAt_atom hi ha, Nat.le_refl _, ⟨d.length - i, by omega, rfl⟩, by simp [sub]⟩
theorem sub_snoc {d : List UInt8} {b i : Nat} (hb : b ≤ i) (hi : i < d.length) : sub d b (i + 1 - b) = sub d b (i - b) ++ sub d i 1 := by
  unfold sub
  have e : i + 1 - b = (i - b) + 1 := by omega
  rw [e, List.take_add, List.drop_drop]
  congr 3
  omega
theorem Inv.atom1 {d bs : List UInt8} {b i dp dp' : Nat} {ts : List T} (h : Inv d .atom bs b i dp ts) (hi : i < d.length) (ha : atomCode (cAt d i) = true) : Inv d .atom (bs ++ sub d i 1) b (i + 1) dp' ts := by
  obtain ⟨g, hb, ht, hbi, ⟨f, hf, e⟩, rfl⟩ := h
  obtain ⟨f, rfl⟩ := Nat.exists_eq_succ_of_ne_zero (show f ≠ 0 by omega)
  rw [atomGo_step ⟨hi, ha⟩] at e
  exact ⟨g, hb, ht, by omega, ⟨f, by omega, e⟩, (sub_snoc hbi hi).symm⟩
theorem Inv.atom2 {d bs bs' : List UInt8} {b b' i dp dp' : Nat} {ts : List T} (h : Inv d .atom bs b i dp ts) (hn : ¬ (i < d.length ∧ atomCode (cAt d i) = true)) : Inv d .out bs' b' i dp' (ts ++ [⟨.atom, bs, b⟩]) := by
  obtain ⟨g, hb, ht, hbi, ⟨f, hf, e⟩, rfl⟩ := h
  rw [atomGo_end hn] at e
  have e2 : (atomAt d b).1 = sub d b (i - b) := by
    have : (atomAt d b).1 = sub d b ((atomAt d b).2 - b) := rfl
    rw [this, ← e]
  rw [e2, ← e] at ht
  exact g.ok hb ht
theorem Inv.sign {d bs' : List UInt8} {b' i dp' : Nat} {ts : List T} (h : Goes d i ts) (hi : i < d.length) (hs : signs.contains (d.getD i 0) = true) : Inv d .out bs' b' (i + 1) dp' (ts ++ [⟨.sign, sub d i 1, i⟩]) := by
  have hk : ∀ c : UInt8, signs.contains c = true → c ≠ 34 ∧ c ≠ 91 ∧ c ≠ 40 := all_u8 (P := fun c => signs.contains c = true → c ≠ 34 ∧ c ≠ 91 ∧ c ≠ 40) (by decide +kernel)
  have hk := hk _ hs
  refine h.ok hi ?_
  unfold tokenAt
  rw [sub_one' hi, if_neg (by simpa using hk.1), if_neg (by simpa using hk.2.1), if_neg (by simpa using hk.2.2), if_pos hs]
theorem Inv.quoted0 {d : List UInt8} {i dp : Nat} {ts : List T} (h : Goes d i ts) (hi : i < d.length) (hc : cAt d i = 34) : Inv d .quoted [] i (i + 1) dp ts :=
  ⟨h, by omega, hi, (sub_is hi 34).mpr hc, d.length + 1, by omega, rfl⟩
theorem Inv.literal0 {d : List UInt8} {i dp : Nat} {ts : List T} (h : Goes d i ts) (hi : i < d.length) (hc : cAt d i = 91) : Inv d .literal [] i (i + 1) dp ts :=
  ⟨h, by omega, hi, (sub_is hi 91).mpr hc, d.length + 1, by omega, rfl⟩
theorem Inv.comment0 {d : List UInt8} {i : Nat} {ts : List T} (h : Goes d i ts) (hi : i < d.length) (hc : cAt d i = 40) : Inv d .comment [] i (i + 1) 1 ts :=
  ⟨h, by omega, hi, (sub_is hi 40).mpr hc, ⟨d.length + 1, [], by omega, rfl, rfl⟩, by omega⟩
theorem Goes.none {d : List UInt8} {i : Nat} {ts : List T} (h : Goes d i ts) (hi : i < d.length) (h1 : cAt d i ≠ 34) (h2 : cAt d i ≠ 91) (h3 : cAt d i ≠ 40) (hs : signs.contains (d.getD i 0) = false) (ha : atomCode (cAt d i) = false) : tokensOf d = .error i := by
  refine h.bad hi ?_
  unfold tokenAt
  rw [if_neg (fun z => h1 ((sub_is hi 34).mp z)), if_neg (fun z => h2 ((sub_is hi 91).mp z)), if_neg (fun z => h3 ((sub_is hi 40).mp z)), if_neg (by rw [hs]; decide), if_pos ha]
theorem tokenAt_quoted {d : List UInt8} {b : Nat} (h : sub d b 1 = [34]) : tokenAt d b = asTok .quoted b (closedAt d b [34] []) := by unfold tokenAt; rw [if_pos h]
theorem tokenAt_literal {d : List UInt8} {b : Nat} (h : sub d b 1 = [91]) : tokenAt d b = asTok .literal b (closedAt d b [93] [91]) := by unfold tokenAt; rw [h, if_neg (by decide), if_pos rfl]
theorem tokenAt_comment {d : List UInt8} {b : Nat} (h : sub d b 1 = [40]) : tokenAt d b = asTok .comment b (commentAt d b) := by unfold tokenAt; rw [h, if_neg (by decide), if_neg (by decide), if_pos rfl]
theorem insideAt_end {d : List UInt8} {i b : Nat} (hi : ¬ i < d.length) : insideAt d i b = .error b := by unfold insideAt; rw [if_pos (by omega)]
theorem sub_end {d : List UInt8} {i k : Nat} (hi : ¬ i < d.length) : sub d i k = [] := by unfold sub; rw [List.drop_of_length_le (by omega)]; simp
theorem Closing.end {d c bar bs : List UInt8} {b i : Nat} (h : Closing d c bar b i bs) (hc : c ≠ []) (hi : ¬ i < d.length) (hle : i ≤ d.length) : closedAt d b c bar = .error b := by
  obtain ⟨f, hf, e⟩ := h
  obtain ⟨f, rfl⟩ := Nat.exists_eq_succ_of_ne_zero (show f ≠ 0 by omega)
  rw [← e]
  simp only [Nat.succ_eq_add_one, closedGo, sub_end hi, if_neg (Ne.symm hc), if_neg (show ¬ ((i : Int) < d.length ∧ bar.contains (cAt d i).toNat.toUInt8 = true) by omega), insideAt_end hi]
theorem Closing.shut {d c bar bs : List UInt8} {b i : Nat} (h : Closing d c bar b i bs) (hi : i < d.length) (hc : sub d i 1 = c) : closedAt d b c bar = .ok (bs, i + 1) := by
  obtain ⟨f, hf, e⟩ := h
  rw [← e, closedGo_end (by omega) hc]
theorem Closing.barred {d c bar bs : List UInt8} {b i : Nat} (h : Closing d c bar b i bs) (hi : i < d.length) (hc : ¬ sub d i 1 = c) (hb : bar.contains (cAt d i).toNat.toUInt8 = true) : closedAt d b c bar = .error i := by
  obtain ⟨f, hf, e⟩ := h
  rw [← e, closedGo_bar (by omega) hc (by omega) hb]
theorem Closing.step {d c bar bs : List UInt8} {b i : Nat} (h : Closing d c bar b i bs) (hi : i < d.length) (hc : ¬ sub d i 1 = c) (hb : bar.contains (cAt d i).toNat.toUInt8 = false) (h0 : 0 ≤ (lawIn d i).1) : Closing d c bar b (lawIn d i).1.toNat (bs ++ (lawIn d i).2) := by
  obtain ⟨f, hf, e⟩ := h
  obtain ⟨f, rfl⟩ := Nat.exists_eq_succ_of_ne_zero (show f ≠ 0 by omega)
  have hq := lawIn_ok (b := b) hi h0
  have := insideAt_ok hq
  refine ⟨f, by omega, ?_⟩
  rw [← e, closedGo_step hc (fun z => by rw [hb] at z; simp at z) hq]
theorem Closing.bad {d c bar bs : List UInt8} {b i : Nat} (h : Closing d c bar b i bs) (hi : i < d.length) (hc : ¬ sub d i 1 = c) (hb : bar.contains (cAt d i).toNat.toUInt8 = false) (h0 : (lawIn d i).1 < 0) : closedAt d b c bar = .error (if (lawIn d i).1 = -1 then i else b) := by
  obtain ⟨f, hf, e⟩ := h
  have hq := lawIn_bad (b := b) hi h0
  have hF := closedGo_bad (d := d) (c := c) (bar := bar) (b := b) (n := f) (i := i) (acc := bs) (by omega) hc (fun z => by rw [hb] at z; simp at z) _ (Faults.mk hq)
  obtain ⟨k, e1, e2⟩ := hF
  rw [e] at e2
  rw [e2]; congr 1; omega
theorem Inv.quoted_end {d bs : List UInt8} {b i dp : Nat} {ts : List T} (h : Inv d .quoted bs b i dp ts) (hi : ¬ i < d.length) (hle : i ≤ d.length) : tokensOf d = .error b := by
  obtain ⟨g, hbi, hb, hq, hC⟩ := h
  exact g.bad hb (by rw [tokenAt_quoted hq, hC.end (by simp) hi hle]; rfl)
theorem Inv.literal_end {d bs : List UInt8} {b i dp : Nat} {ts : List T} (h : Inv d .literal bs b i dp ts) (hi : ¬ i < d.length) (hle : i ≤ d.length) : tokensOf d = .error b := by
  obtain ⟨g, hbi, hb, hq, hC⟩ := h
  exact g.bad hb (by rw [tokenAt_literal hq, hC.end (by simp) hi hle]; rfl)
theorem Inv.quoted_shut {d bs bs' : List UInt8} {b b' i dp dp' : Nat} {ts : List T} (h : Inv d .quoted bs b i dp ts) (hi : i < d.length) (hc : cAt d i = 34) : Inv d .out bs' b' (i + 1) dp' (ts ++ [⟨.quoted, bs, b⟩]) := by
  obtain ⟨g, hbi, hb, hq, hC⟩ := h
  exact g.ok hb (by rw [tokenAt_quoted hq, hC.shut hi ((sub_is hi 34).mpr hc)]; rfl)
theorem Inv.literal_shut {d bs bs' : List UInt8} {b b' i dp dp' : Nat} {ts : List T} (h : Inv d .literal bs b i dp ts) (hi : i < d.length) (hc : cAt d i = 93) : Inv d .out bs' b' (i + 1) dp' (ts ++ [⟨.literal, bs, b⟩]) := by
  obtain ⟨g, hbi, hb, hq, hC⟩ := h
  exact g.ok hb (by rw [tokenAt_literal hq, hC.shut hi ((sub_is hi 93).mpr hc)]; rfl)
theorem Inv.literal_bar {d bs : List UInt8} {b i dp : Nat} {ts : List T} (h : Inv d .literal bs b i dp ts) (hi : i < d.length) (hc : cAt d i = 91) : tokensOf d = .error i := by
  obtain ⟨g, hbi, hb, hq, hC⟩ := h
  have e : ¬ sub d i 1 = [93] := fun z => by have z' := (sub_is hi 93).mp z; rw [hc] at z'; revert z'; decide
  exact g.bad hb (by rw [tokenAt_literal hq, hC.barred hi e (by rw [hc]; decide)]; rfl)
theorem Inv.quoted_step {d bs : List UInt8} {b i dp dp' : Nat} {ts : List T} (h : Inv d .quoted bs b i dp ts) (hi : i < d.length) (hc : cAt d i ≠ 34) (h0 : 0 ≤ (lawIn d i).1) : Inv d .quoted (bs ++ (lawIn d i).2) b (lawIn d i).1.toNat dp' ts := by
  obtain ⟨g, hbi, hb, hq, hC⟩ := h
  have := insideAt_ok (lawIn_ok (b := b) hi h0)
  exact ⟨g, by omega, hb, hq, hC.step hi (fun z => hc ((sub_is hi 34).mp z)) rfl h0⟩
theorem Inv.quoted_bad {d bs : List UInt8} {b i dp : Nat} {ts : List T} (h : Inv d .quoted bs b i dp ts) (hi : i < d.length) (hc : cAt d i ≠ 34) (h0 : (lawIn d i).1 < 0) : tokensOf d = .error (if (lawIn d i).1 = -1 then i else b) := by
  obtain ⟨g, hbi, hb, hq, hC⟩ := h
  exact g.bad hb (by rw [tokenAt_quoted hq, hC.bad hi (fun z => hc ((sub_is hi 34).mp z)) rfl h0]; rfl)
theorem notbar {d : List UInt8} {i : Nat} (hc2 : cAt d i ≠ 91) : ([91] : List UInt8).contains (cAt d i).toNat.toUInt8 = false := by
  have e : (cAt d i).toNat.toUInt8 = d.getD i 0 := by unfold cAt; simp
  rw [e]
  have h2 : d.getD i 0 ≠ 91 := fun z => hc2 ((cAt_eq 91).mpr z)
  simpa using h2
theorem Inv.literal_step {d bs : List UInt8} {b i dp dp' : Nat} {ts : List T} (h : Inv d .literal bs b i dp ts) (hi : i < d.length) (hc : cAt d i ≠ 93) (hc2 : cAt d i ≠ 91) (h0 : 0 ≤ (lawIn d i).1) : Inv d .literal (bs ++ (lawIn d i).2) b (lawIn d i).1.toNat dp' ts := by
  obtain ⟨g, hbi, hb, hq, hC⟩ := h
  have := insideAt_ok (lawIn_ok (b := b) hi h0)
  exact ⟨g, by omega, hb, hq, hC.step hi (fun z => hc ((sub_is hi 93).mp z)) (notbar hc2) h0⟩
theorem Inv.literal_bad {d bs : List UInt8} {b i dp : Nat} {ts : List T} (h : Inv d .literal bs b i dp ts) (hi : i < d.length) (hc : cAt d i ≠ 93) (hc2 : cAt d i ≠ 91) (h0 : (lawIn d i).1 < 0) : tokensOf d = .error (if (lawIn d i).1 = -1 then i else b) := by
  obtain ⟨g, hbi, hb, hq, hC⟩ := h
  exact g.bad hb (by rw [tokenAt_literal hq, hC.bad hi (fun z => hc ((sub_is hi 93).mp z)) (notbar hc2) h0]; rfl)
noncomputable def lawDepth (d : List UInt8) (i dp : Nat) : Nat := if cAt d i = 40 then dp + 1 else if cAt d i = 41 then dp - 1 else dp
theorem depth_law {d : List UInt8} {i dp : Nat} (hi : i < d.length) : depth' (sub d i 1) dp = lawDepth d i dp := by
  have h1 : sub d i 1 = [40] ↔ cAt d i = 40 := sub_is hi 40
  have h2 : sub d i 1 = [41] ↔ cAt d i = 41 := sub_is hi 41
  unfold depth' lawDepth
  simp only [h1, h2]
theorem Inv.comment_end {d bs : List UInt8} {b i dp : Nat} {ts : List T} (h : Inv d .comment bs b i dp ts) (hi : ¬ i < d.length) (hle : i ≤ d.length) : tokensOf d = .error b := by
  obtain ⟨g, hbi, hb, hq, ⟨f, ws, hf, e, rfl⟩, h0⟩ := h
  have hF := commentGo_bad (d := d) (b := b) (n := f) (i := i) (depth := dp) (ws := ws) (by omega) (by omega) (fun z => by rw [sub_end hi] at z; simp at z) _ (Faults.mk (insideAt_end (b := b) hi))
  obtain ⟨k, e1, e2⟩ := hF
  rw [e] at e2
  exact g.bad hb (by rw [tokenAt_comment hq, e2]; show Except.error k = _; congr 1; omega)
theorem Inv.comment_shut {d bs bs' : List UInt8} {b b' i dp' : Nat} {ts : List T} (h : Inv d .comment bs b i 1 ts) (hi : i < d.length) (hc : cAt d i = 41) : Inv d .out bs' b' (i + 1) dp' (ts ++ [⟨.comment, bs, b⟩]) := by
  obtain ⟨g, hbi, hb, hq, ⟨f, ws, hf, e, rfl⟩, h0⟩ := h
  obtain ⟨f, rfl⟩ := Nat.exists_eq_succ_of_ne_zero (show f ≠ 0 by omega)
  have hs : sub d i 1 = [41] := (sub_is hi 41).mpr hc
  have hL : lawIn d i = ((i : Int) + 1, sub d i 1) := by
    unfold lawIn
    have h2 : ¬ sub d i 2 = [13, 10] := fun z => by
      have z2 : (sub d i 2).take 1 = sub d i 1 := by unfold sub; rw [List.take_take]; rfl
      rw [z, hs] at z2; revert z2; decide
    rw [if_neg (by rw [hc]; decide), if_neg (by rw [hc]; decide), if_neg h2, if_neg (by rw [hc]; decide)]
  have hq2 := lawIn_ok (b := b) hi (by rw [hL]; show (0 : Int) ≤ (i : Int) + 1; omega)
  rw [hL] at hq2
  rw [commentGo_step (by omega) (fun z => by rw [hs] at z; revert z; decide) hq2, depth_law hi] at e
  have e0 : lawDepth d i 1 = 0 := by unfold lawDepth; rw [hc]; rfl
  rw [e0, commentGo_end] at e
  refine g.ok hb ?_
  rw [tokenAt_comment hq, ← e]
  show Except.ok _ = _
  have e3 : ((i : Int) + 1).toNat = i + 1 := by omega
  simp [e3]
theorem Inv.comment_deep {d bs : List UInt8} {b i dp : Nat} {ts : List T} (h : Inv d .comment bs b i dp ts) (hi : i < d.length) (hd : 20 < lawDepth d i dp) (hdp : dp ≤ 20) : tokensOf d = .error i := by
  obtain ⟨g, hbi, hb, hq, ⟨f, ws, hf, e, rfl⟩, h0⟩ := h
  have hc : cAt d i = 40 := by
    unfold lawDepth at hd; split at hd
    · assumption
    · split at hd <;> omega
  rw [commentGo_deep (by omega) (by omega) ((sub_is hi 40).mpr hc) (by unfold lawDepth at hd; rw [if_pos hc] at hd; omega)] at e
  exact g.bad hb (by rw [tokenAt_comment hq, ← e]; rfl)
theorem Inv.comment_step {d bs : List UInt8} {b i dp : Nat} {ts : List T} (h : Inv d .comment bs b i dp ts) (hi : i < d.length) (hd : ¬ 20 < lawDepth d i dp) (hp : 0 < lawDepth d i dp) (h0 : 0 ≤ (lawIn d i).1) : Inv d .comment (bs ++ (lawIn d i).2) b (lawIn d i).1.toNat (lawDepth d i dp) ts := by
  obtain ⟨g, hbi, hb, hq, ⟨f, ws, hf, e, rfl⟩, h1⟩ := h
  obtain ⟨f, rfl⟩ := Nat.exists_eq_succ_of_ne_zero (show f ≠ 0 by omega)
  have hq2 := lawIn_ok (b := b) hi h0
  have := insideAt_ok hq2
  rw [commentGo_step (by omega) (fun z => hd (by unfold lawDepth; rw [if_pos (show cAt d i = 40 from (sub_is hi 40).mp z.1)]; omega)) hq2, depth_law hi] at e
  exact ⟨g, by omega, hb, hq, ⟨f, _, by omega, e, by simp⟩, hp⟩
theorem Inv.comment_bad {d bs : List UInt8} {b i dp : Nat} {ts : List T} (h : Inv d .comment bs b i dp ts) (hi : i < d.length) (hd : ¬ 20 < lawDepth d i dp) (h0 : (lawIn d i).1 < 0) : tokensOf d = .error (if (lawIn d i).1 = -1 then i else b) := by
  obtain ⟨g, hbi, hb, hq, ⟨f, ws, hf, e, rfl⟩, h1⟩ := h
  have hq2 := lawIn_bad (b := b) hi h0
  have hF := commentGo_bad (d := d) (b := b) (n := f) (i := i) (depth := dp) (ws := ws) (by omega) (by omega) (fun z => hd (by unfold lawDepth; rw [if_pos (show cAt d i = 40 from (sub_is hi 40).mp z.1)]; omega)) _ (Faults.mk hq2)
  obtain ⟨k, e1, e2⟩ := hF
  rw [e] at e2
  exact g.bad hb (by rw [tokenAt_comment hq, e2]; show Except.error k = _; congr 1; omega)
theorem law_atom (c : UInt8) : (decide (127 < (c.toNat : Int)) || (decide (33 ≤ (c.toNat : Int)) && decide ((c.toNat : Int) ≤ 126) && !([40, 41, 60, 62, 91, 93, 58, 59, 64, 92, 44, 46, 34] : List UInt8).contains (c.toNat : Int).toNat.toUInt8)) = atomCode (c.toNat : Int) :=
  all_u8 (P := fun c => (decide (127 < (c.toNat : Int)) || (decide (33 ≤ (c.toNat : Int)) && decide ((c.toNat : Int) ≤ 126) && !([40, 41, 60, 62, 91, 93, 58, 59, 64, 92, 44, 46, 34] : List UInt8).contains (c.toNat : Int).toNat.toUInt8)) = atomCode (c.toNat : Int)) (by decide +kernel) c
end Mine
end
section
namespace Mine
noncomputable def Fine (x : List UInt8) : Prop := ∀ c ∈ x, nev (c.toNat : Int) = false
theorem Fine.nil : Fine [] := fun _ h => nomatch h
theorem Fine.app {x y : List UInt8} (h : Fine x) (k : Fine y) : Fine (x ++ y) := fun c hc => (List.mem_append.mp hc).elim (h c) (k c)
theorem Fine.one {d : List UInt8} {n : Nat} (hn : n < d.length) (h : nev (cAt d n) = false) : Fine (sub d n 1) := fun c hc => by
  rw [sub_one' hn, List.mem_singleton] at hc
  subst hc; exact h
theorem insideAt_fine {d : List UInt8} {n b k : Nat} {x : List UInt8} (h : insideAt d n b = .ok (x, k)) : Fine x := by
  unfold insideAt at h
  split at h
  · cases h
  · rename_i q
    have hn : n < d.length := by rw [not_or] at q; omega
    split at h
    · rename_i q2
      split at h
      · cases h
      · rename_i q3
        simp only [Except.ok.injEq, Prod.mk.injEq] at h
        obtain ⟨rfl, rfl⟩ := h
        rw [not_or, Classical.not_and_iff_not_or_not] at q
        have := q.2.resolve_left (fun z => z q2)
        exact .one (by omega) (by simpa using q3)
    · split at h
      · simp only [Except.ok.injEq, Prod.mk.injEq] at h
        obtain ⟨rfl, rfl⟩ := h
        exact .nil
      · split at h
        · cases h
        · rename_i q3
          simp only [Except.ok.injEq, Prod.mk.injEq] at h
          obtain ⟨rfl, rfl⟩ := h
          exact .one hn (by simpa using q3)
theorem closedGo_fine {d c bar : List UInt8} {b : Nat} : ∀ (f i : Nat) (acc x : List UInt8) (k : Nat), Fine acc → closedGo d c bar b f i acc = .ok (x, k) → Fine x
  | 0, i, acc, x, k, ha, h => by
    simp only [closedGo, Except.ok.injEq, Prod.mk.injEq] at h; rw [← h.1]; exact ha
  | f + 1, i, acc, x, k, ha, h => by
    unfold closedGo at h
    split at h
    · simp only [Except.ok.injEq, Prod.mk.injEq] at h; rw [← h.1]; exact ha
    · split at h
      · cases h
      · split at h
        · cases h
        · rename_i y j hj
          exact closedGo_fine f j _ _ _ (ha.app (insideAt_fine hj)) h
theorem fine_dropLast {ws : List (List UInt8)} (h : ∀ x ∈ ws, Fine x) : Fine ws.dropLast.flatten := fun c hc => by
  obtain ⟨x, hx, hc⟩ := List.mem_flatten.mp hc
  exact h x ((List.dropLast_sublist ws).subset hx) c hc
theorem len_dropLast (ws : List (List UInt8)) : ws.dropLast.flatten.length ≤ ws.flatten.length := by
  rcases List.eq_nil_or_concat ws with h | ⟨l, x, h⟩ <;> subst h <;> simp
theorem commentGo_fine {d : List UInt8} {b : Nat} : ∀ (f i depth : Nat) (ws : List (List UInt8)) (x : List UInt8) (k : Nat), i ≤ d.length → ws.flatten.length ≤ i → (∀ x ∈ ws, Fine x) → commentGo d b f i depth ws = .ok (x, k) → Fine x ∧ x.length ≤ d.length
  | 0, i, depth, ws, x, k, hi, hl, ha, h => by
    simp only [commentGo, Except.ok.injEq, Prod.mk.injEq] at h; rw [← h.1]
    have := len_dropLast ws
    exact ⟨fine_dropLast ha, by omega⟩
  | f + 1, i, depth, ws, x, k, hi, hl, ha, h => by
    unfold commentGo at h
    split at h
    · simp only [Except.ok.injEq, Prod.mk.injEq] at h; rw [← h.1]
      have := len_dropLast ws
      exact ⟨fine_dropLast ha, by omega⟩
    · split at h
      · cases h
      · split at h
        · cases h
        · rename_i y j hj
          have h1 := insideAt_ok hj
          refine commentGo_fine f j _ _ _ _ h1.2.1 ?_ (fun x hx => ?_) h
          · simp only [List.flatten_append, List.length_append, List.flatten_singleton]; omega
          · rcases List.mem_append.mp hx with hx | hx
            · exact ha x hx
            · rw [List.mem_singleton.mp hx]; exact insideAt_fine hj
theorem atomGo_all {d : List UInt8} : ∀ (f e n : Nat), e ≤ n → n < atomGo d f e → n < d.length ∧ atomCode (cAt d n) = true
  | 0, e, n, h, h2 => by simp only [atomGo] at h2; omega
  | f + 1, e, n, h, h2 => by
    unfold atomGo at h2
    split at h2
    · rename_i q
      by_cases z : n = e
      · subst z; exact q
      · exact atomGo_all f (e + 1) n (by omega) h2
    · omega
noncomputable def GoodT (L : Nat) (x : T) : Prop := x.worth.length ≤ L ∧ match x.kind with
  | .sign => ∃ c, x.worth = [c] ∧ signs.contains c = true
  | .atom => x.worth ≠ [] ∧ ∀ c ∈ x.worth, atomCode (c.toNat : Int) = true
  | _ => Fine x.worth
theorem tokenAt_good {d : List UInt8} {n k : Nat} {x : T} (hn : n < d.length) (h : tokenAt d n = .ok (x, k)) : GoodT d.length x := by
  unfold tokenAt at h
  split at h
  · unfold asTok at h
    split at h
    · cases h
    · rename_i y j hj
      have h1 := closedGo_ok rfl _ _ _ _ _ (by omega) (by omega) hj
      have h2 := closedGo_fine _ _ _ _ _ .nil hj
      simp only [Except.ok.injEq, Prod.mk.injEq] at h; obtain ⟨rfl, rfl⟩ := h
      simp only [List.length_nil] at h1
      exact ⟨by show y.length ≤ _; omega, h2⟩
  · split at h
    · unfold asTok at h
      split at h
      · cases h
      · rename_i y j hj
        have h1 := closedGo_ok rfl _ _ _ _ _ (by omega) (by omega) hj
        have h2 := closedGo_fine _ _ _ _ _ .nil hj
        simp only [Except.ok.injEq, Prod.mk.injEq] at h; obtain ⟨rfl, rfl⟩ := h
        simp only [List.length_nil] at h1
        exact ⟨by show y.length ≤ _; omega, h2⟩
    · split at h
      · unfold asTok at h
        split at h
        · cases h
        · rename_i y j hj
          have h2 := commentGo_fine _ _ _ _ _ _ (by omega) (by simp) (fun x hx => absurd hx List.not_mem_nil) hj
          simp only [Except.ok.injEq, Prod.mk.injEq] at h; obtain ⟨rfl, rfl⟩ := h
          exact ⟨h2.2, h2.1⟩
      · split at h
        · rename_i q
          simp only [Except.ok.injEq, Prod.mk.injEq] at h; obtain ⟨rfl, rfl⟩ := h
          exact ⟨by rw [sub_len]; omega, _, sub_one' hn, q⟩
        · split at h
          · cases h
          · rename_i q
            simp only [Except.ok.injEq, Prod.mk.injEq] at h
            obtain ⟨rfl, rfl⟩ := h
            have h3 := atomGo_step (d := d) (f := d.length - n - 1) (e := n) ⟨hn, by simpa using q⟩
            have h4 := atomGo_le (d := d) (d.length - n - 1) (n + 1) (by omega)
            have e : d.length - n - 1 + 1 = d.length - n := by omega
            rw [e] at h3
            refine ⟨by simp only [atomAt, sub_len]; omega, ?_, ?_⟩
            · intro z
              have := congrArg List.length z
              simp only [atomAt, sub_len, List.length_nil, h3] at this
              omega
            · intro c hc
              simp only [atomAt] at hc
              obtain ⟨j, hj, e2⟩ := List.getElem_of_mem hc
              have hj' := hj
              rw [sub_len] at hj'
              have h5 := atomGo_all (d := d) (d.length - n) n (n + j) (by omega) (by omega)
              have e3 : (sub d n (atomGo d (d.length - n) n - n))[j] = d[n + j]'h5.1 := by simp [sub]
              rw [e3] at e2
              have e4 : cAt d (n + j) = (c.toNat : Int) := by rw [cAt_eq, ← e2]; simp [List.getD, h5.1]
              rw [← e4]; exact h5.2
theorem tokensGo_good {d : List UInt8} : ∀ (f i : Nat) (acc ts : List T), i ≤ d.length → acc.length ≤ i → (∀ x ∈ acc, GoodT d.length x) → tokensGo d f i acc = .ok ts → ts.length ≤ d.length ∧ ∀ x ∈ ts, GoodT d.length x
  | 0, i, acc, ts, hi, hl, ha, h => by
    simp only [tokensGo, Except.ok.injEq] at h; subst h; exact ⟨by omega, ha⟩
  | f + 1, i, acc, ts, hi, hl, ha, h => by
    unfold tokensGo at h
    split at h
    · rename_i hlt
      split at h
      · cases h
      · rename_i x k hx
        have h1 := tokenAt_ok hlt hx
        have h2 := whiteGo_le (d := d) (d.length - k) k h1.2
        refine tokensGo_good f (pastWhite d k) _ ts h2.2 ?_ (fun y hy => ?_) h
        · simp only [List.length_append, List.length_singleton, pastWhite]; omega
        · rcases List.mem_append.mp hy with hy | hy
          · exact ha y hy
          · rw [List.mem_singleton.mp hy]; exact tokenAt_good hlt hx
    · simp only [Except.ok.injEq] at h; subst h; exact ⟨by omega, ha⟩
theorem tokensOf_good {d : List UInt8} {ts : List T} (h : tokensOf d = .ok ts) : ts.length ≤ d.length ∧ ∀ x ∈ ts, GoodT d.length x := by
  have h2 := whiteGo_le (d := d) d.length 0 (Nat.zero_le _)
  exact tokensGo_good _ _ [] ts h2.2 (Nat.zero_le _) (fun _ h => nomatch h) h
/-! reading at a place -/
theorem at_drop {D r : List UInt8} {i : Nat} {c : UInt8} (h : D.drop i = c :: r) : i < D.length ∧ D.getD i 0 = c ∧ D.drop (i + 1) = r := by
  have hl : i < D.length := by
    rcases Nat.lt_or_ge i D.length with z | z
    · exact z
    · rw [List.drop_of_length_le z] at h; cases h
  rw [List.drop_eq_getElem_cons hl] at h
  injection h with h1 h2
  exact ⟨hl, by simp [List.getD, hl, h1], h2⟩
theorem cAt_drop {D r : List UInt8} {i : Nat} {c : UInt8} (h : D.drop i = c :: r) : cAt D i = (c.toNat : Int) := (cAt_eq c).mpr (at_drop h).2.1
theorem sub_drop {D r : List UInt8} {i : Nat} {c : UInt8} (h : D.drop i = c :: r) : sub D i 1 = [c] := by
  have := at_drop h
  rw [sub_one' this.1, this.2.1]
theorem sub2_drop {D r : List UInt8} {i : Nat} {c : UInt8} (h : D.drop i = c :: r) (hc : c ≠ 13) : ¬ sub D i 2 = [13, 10] := by
  unfold sub; rw [h]; intro z; simp at z; exact hc z.1
theorem nev_ne {c : UInt8} (h : nev (c.toNat : Int) = false) : c ≠ 0 ∧ c ≠ 10 ∧ c ≠ 13 := by
  revert h; exact all_u8 (P := fun c => nev (c.toNat : Int) = false → c ≠ 0 ∧ c ≠ 10 ∧ c ≠ 13) (by decide +kernel) c
theorem leI_drop {D r : List UInt8} {i : Nat} {c : UInt8} (h : D.drop i = c :: r) (h1 : c ≠ 10) (h2 : c ≠ 13) : leI D i = -1 := by
  unfold leI
  rw [sub_drop h, if_neg (by simpa using h1), if_neg (sub2_drop h h2)]
theorem inside_esc {D r : List UInt8} {i b : Nat} {c : UInt8} (h : D.drop i = 92 :: c :: r) (hc : nev (c.toNat : Int) = false) : insideAt D i b = .ok ([c], i + 2) := by
  have h1 := at_drop h
  have h2 := at_drop h1.2.2
  have e1 := cAt_drop h
  have e2 := cAt_drop h1.2.2
  have e1' : cAt D i = 92 := e1
  unfold insideAt
  rw [if_neg (by omega), if_pos e1', if_neg (by rw [e2, hc]; decide), sub_drop h1.2.2]
theorem inside_one {D r : List UInt8} {i b : Nat} {c : UInt8} (h : D.drop i = c :: r) (h92 : c ≠ 92) (hc : nev (c.toNat : Int) = false) : insideAt D i b = .ok ([c], i + 1) := by
  have h1 := at_drop h
  have e1 := cAt_drop h
  have hn := nev_ne hc
  have e2 : ¬ cAt D i = 92 := fun z => h92 (by have := (cAt_eq (d := D) (n := i) 92).mp z; rw [h1.2.1] at this; exact this)
  unfold insideAt
  rw [if_neg (by omega), if_neg e2, leI_drop h hn.2.1 hn.2.2, if_neg (by decide), e1, if_neg (by rw [hc]; decide), sub_drop h]
theorem closed_read {D bar sg : List UInt8} {b : Nat} {c : UInt8} (hc : c ≠ 92) (hsc : sg.contains c = true) (hs92 : sg.contains 92 = true) (hbar : ∀ x, bar.contains x = true → sg.contains x = true) (hb92 : bar.contains 92 = false) :
    ∀ (w : List UInt8) (f i : Nat) (acc r : List UInt8), Fine w → D.drop i = escd sg w ++ c :: r → D.length < f + i → closedGo D [c] bar b f i acc = .ok (acc ++ w, i + (escd sg w).length + 1)
  | [], f, i, acc, r, hw, hd, hf => by
    have hd' : D.drop i = c :: r := hd
    have h1 := at_drop hd'
    rw [closedGo_end (by omega) (sub_drop hd')]
    simp [escd]
  | x :: w, f, i, acc, r, hw, hd, hf => by
    have hx := hw x (.head _)
    have hw' : Fine w := fun y hy => hw y (.tail _ hy)
    have e0 : escd sg (x :: w) = (if sg.contains x = true then [92, x] else [x]) ++ escd sg w := by simp only [escd, List.flatMap_cons]
    rw [e0] at hd ⊢
    by_cases q : sg.contains x = true
    · rw [if_pos q] at hd ⊢
      have hd' : D.drop i = 92 :: x :: (escd sg w ++ c :: r) := by simpa using hd
      have h1 := at_drop hd'
      have h2 := at_drop h1.2.2
      obtain ⟨f, rfl⟩ := Nat.exists_eq_succ_of_ne_zero (show f ≠ 0 by omega)
      have hb : ¬ ((i : Int) < D.length ∧ bar.contains (cAt D i).toNat.toUInt8 = true) := by
        have e : (cAt D i).toNat.toUInt8 = 92 := by rw [cAt_drop hd']; simp
        rw [e, hb92]; simp
      rw [closedGo_step (by rw [sub_drop hd']; simpa using Ne.symm hc) hb (inside_esc hd' hx)]
      rw [closed_read hc hsc hs92 hbar hb92 w f (i + 2) _ r hw' h2.2.2 (by omega)]
      simp; omega
    · have q' : sg.contains x = false := by simpa using q
      rw [if_neg q] at hd ⊢
      have hd' : D.drop i = x :: (escd sg w ++ c :: r) := by simpa using hd
      have h1 := at_drop hd'
      obtain ⟨f, rfl⟩ := Nat.exists_eq_succ_of_ne_zero (show f ≠ 0 by omega)
      have hxc : x ≠ c := fun z => q (by rw [z]; exact hsc)
      have hx92 : x ≠ 92 := fun z => q (by rw [z]; exact hs92)
      have hb : ¬ ((i : Int) < D.length ∧ bar.contains (cAt D i).toNat.toUInt8 = true) := by
        have e : (cAt D i).toNat.toUInt8 = x := by rw [cAt_drop hd']; simp
        rw [e]; intro z; exact q (hbar x z.2)
      rw [closedGo_step (by rw [sub_drop hd']; simpa using hxc) hb (inside_one hd' hx92 hx)]
      rw [closed_read hc hsc hs92 hbar hb92 w f (i + 1) _ r hw' h1.2.2 (by omega)]
      simp; omega
theorem comment_read {D : List UInt8} {b : Nat} : ∀ (w : List UInt8) (f i : Nat) (ws : List (List UInt8)) (r : List UInt8), Fine w → D.drop i = escd [40, 41, 92] w ++ 41 :: r → D.length < f + i → commentGo D b f i 1 ws = .ok (ws.flatten ++ w, i + (escd [40, 41, 92] w).length + 1)
  | [], f, i, ws, r, hw, hd, hf => by
    have hd' : D.drop i = 41 :: r := hd
    have h1 := at_drop hd'
    obtain ⟨f, rfl⟩ := Nat.exists_eq_succ_of_ne_zero (show f ≠ 0 by omega)
    have e : depth' (sub D i 1) 1 = 0 := by rw [sub_drop hd']; rfl
    rw [commentGo_step (by omega) (fun z => by rw [sub_drop hd'] at z; revert z; decide) (inside_one hd' (by decide) (by decide)), e, commentGo_end]
    simp [escd]
  | x :: w, f, i, ws, r, hw, hd, hf => by
    have hx := hw x (.head _)
    have hw' : Fine w := fun y hy => hw y (.tail _ hy)
    have e0 : escd [40, 41, 92] (x :: w) = (if ([40, 41, 92] : List UInt8).contains x = true then [92, x] else [x]) ++ escd [40, 41, 92] w := by simp only [escd, List.flatMap_cons]
    rw [e0] at hd ⊢
    by_cases q : ([40, 41, 92] : List UInt8).contains x = true
    · rw [if_pos q] at hd ⊢
      have hd' : D.drop i = 92 :: x :: (escd [40, 41, 92] w ++ 41 :: r) := by simpa using hd
      have h1 := at_drop hd'
      have h2 := at_drop h1.2.2
      obtain ⟨f, rfl⟩ := Nat.exists_eq_succ_of_ne_zero (show f ≠ 0 by omega)
      have e : depth' (sub D i 1) 1 = 1 := by rw [sub_drop hd']; rfl
      rw [commentGo_step (by omega) (fun z => by rw [sub_drop hd'] at z; revert z; decide) (inside_esc hd' hx), e]
      rw [comment_read w f (i + 2) _ r hw' h2.2.2 (by omega)]
      simp; omega
    · rw [if_neg q] at hd ⊢
      have hd' : D.drop i = x :: (escd [40, 41, 92] w ++ 41 :: r) := by simpa using hd
      have h1 := at_drop hd'
      obtain ⟨f, rfl⟩ := Nat.exists_eq_succ_of_ne_zero (show f ≠ 0 by omega)
      have hq : x ≠ 40 ∧ x ≠ 41 ∧ x ≠ 92 := by simpa using q
      have e : depth' (sub D i 1) 1 = 1 := by
        rw [sub_drop hd']; unfold depth'
        rw [if_neg (by simpa using hq.1), if_neg (by simpa using hq.2.1)]
      rw [commentGo_step (by omega) (fun z => by rw [sub_drop hd'] at z; have := z.1; simp at this; exact hq.1 this) (inside_one hd' hq.2.2 hx), e]
      rw [comment_read w f (i + 1) _ r hw' h1.2.2 (by omega)]
      simp; omega
theorem atom_read {D : List UInt8} : ∀ (w : List UInt8) (f i : Nat) (r : List UInt8), (∀ c ∈ w, atomCode (c.toNat : Int) = true) → (∀ c ∈ r.head?, atomCode (c.toNat : Int) = false) → D.drop i = w ++ r → D.length ≤ f + i → i ≤ D.length → atomGo D f i = i + w.length
  | [], f, i, r, hw, hr, hd, hf, hi => by
    rw [atomGo_end]; · rfl
    rintro ⟨h1, h2⟩
    cases r with
    | nil =>
      have := congrArg List.length hd
      simp at this; omega
    | cons c r =>
      have hd' : D.drop i = c :: r := hd
      rw [cAt_drop hd', hr c rfl] at h2; cases h2
  | x :: w, f, i, r, hw, hr, hd, hf, hi => by
    have hd' : D.drop i = x :: (w ++ r) := hd
    have h1 := at_drop hd'
    obtain ⟨f, rfl⟩ := Nat.exists_eq_succ_of_ne_zero (show f ≠ 0 by omega)
    rw [Nat.succ_eq_add_one, atomGo_step ⟨h1.1, by rw [cAt_drop hd']; exact hw x (.head _)⟩]
    rw [atom_read w f (i + 1) r (fun c hc => hw c (.tail _ hc)) hr h1.2.2 (by omega) (by omega)]
    simp; omega
theorem sign_kinds {c : UInt8} (h : signs.contains c = true) : c ≠ 34 ∧ c ≠ 91 ∧ c ≠ 40 := by
  revert h; exact all_u8 (P := fun c => signs.contains c = true → c ≠ 34 ∧ c ≠ 91 ∧ c ≠ 40) (by decide +kernel) c
theorem token_read {D r : List UInt8} {i L : Nat} {x : T} (hx : GoodT L x) (hd : D.drop i = shown x ++ r) (hr : x.kind = .atom → ∀ c ∈ r.head?, atomCode (c.toNat : Int) = false) :
    tokenAt D i = .ok (⟨x.kind, x.worth, i⟩, i + (shown x).length) := by
  obtain ⟨kd, w, p⟩ := x
  obtain ⟨_, hg⟩ := hx
  cases kd
  · have hg' : Fine w := hg
    have hd' : D.drop i = 34 :: (escd [34, 92] w ++ 34 :: r) := by simpa [shown] using hd
    have h1 := at_drop hd'
    rw [tokenAt_quoted (sub_drop hd')]
    unfold closedAt
    rw [closed_read (sg := [34, 92]) (by decide) (by decide) (by decide) (fun x h => by simp at h) (by decide) w _ _ [] r hg' h1.2.2 (by omega)]
    simp [asTok, shown]; omega
  · have hg' : Fine w := hg
    have hd' : D.drop i = 91 :: (escd [91, 93, 92] w ++ 93 :: r) := by simpa [shown] using hd
    have h1 := at_drop hd'
    rw [tokenAt_literal (sub_drop hd')]
    unfold closedAt
    rw [closed_read (sg := [91, 93, 92]) (by decide) (by decide) (by decide) (fun x h => by simp at h; subst h; decide) (by decide) w _ _ [] r hg' h1.2.2 (by omega)]
    simp [asTok, shown]; omega
  · have hg' : Fine w := hg
    have hd' : D.drop i = 40 :: (escd [40, 41, 92] w ++ 41 :: r) := by simpa [shown] using hd
    have h1 := at_drop hd'
    rw [tokenAt_comment (sub_drop hd')]
    unfold commentAt
    rw [comment_read w _ _ [] r hg' h1.2.2 (by omega)]
    simp [asTok, shown]; omega
  · obtain ⟨c, hw, hs⟩ : ∃ c, w = [c] ∧ signs.contains c = true := hg
    subst hw
    have hd' : D.drop i = c :: r := hd
    have h1 := at_drop hd'
    have hk := sign_kinds hs
    unfold tokenAt
    rw [sub_drop hd', if_neg (by simpa using hk.1), if_neg (by simpa using hk.2.1), if_neg (by simpa using hk.2.2), if_pos (by rw [h1.2.1]; exact hs)]
    rfl
  · obtain ⟨hne, ha⟩ : w ≠ [] ∧ ∀ c ∈ w, atomCode (c.toNat : Int) = true := hg
    have hd' : D.drop i = w ++ r := hd
    obtain ⟨c, w', rfl⟩ := List.exists_cons_of_ne_nil hne
    have hd2 : D.drop i = c :: (w' ++ r) := hd'
    have h1 := at_drop hd2
    have hca : atomCode (cAt D i) = true := by rw [cAt_drop hd2]; exact ha c (.head _)
    rw [tokenAt_atom h1.1 hca]
    have e := atom_read (D := D) (c :: w') (D.length - i) i r ha (hr rfl) hd' (by omega) (by omega)
    have e2 : (atomAt D i).2 = i + (c :: w').length := e
    have e3 : (atomAt D i).1 = c :: w' := by
      show sub D i ((atomAt D i).2 - i) = _
      rw [e2]; unfold sub; rw [hd']; simp
    rw [e2, e3]; rfl
theorem white_code {c : UInt8} (h : atomCode (c.toNat : Int) = true ∨ signs.contains c = true ∨ c = 34 ∨ c = 91 ∨ c = 40) : c ≠ 9 ∧ c ≠ 32 ∧ c ≠ 10 ∧ c ≠ 13 := by
  revert h; exact all_u8 (P := fun c => (atomCode (c.toNat : Int) = true ∨ signs.contains c = true ∨ c = 34 ∨ c = 91 ∨ c = 40) → c ≠ 9 ∧ c ≠ 32 ∧ c ≠ 10 ∧ c ≠ 13) (by decide +kernel) c
theorem shown_head {L : Nat} {x : T} (hx : GoodT L x) : ∃ c s, shown x = c :: s ∧ (c ≠ 9 ∧ c ≠ 32 ∧ c ≠ 10 ∧ c ≠ 13) ∧ (x.kind ≠ .atom → atomCode (c.toNat : Int) = false) := by
  obtain ⟨kd, w, p⟩ := x
  obtain ⟨_, hg⟩ := hx
  cases kd
  · exact ⟨34, _, rfl, white_code (by simp), fun _ => by decide⟩
  · exact ⟨91, _, rfl, white_code (by simp), fun _ => by decide⟩
  · exact ⟨40, _, rfl, white_code (by simp), fun _ => by decide⟩
  · obtain ⟨c, hw, hs⟩ : ∃ c, w = [c] ∧ signs.contains c = true := hg
    subst hw
    refine ⟨c, [], rfl, white_code (.inr (.inl hs)), fun _ => ?_⟩
    cases e : atomCode (c.toNat : Int) with
    | false => rfl
    | true => have := (atom_kinds e).2.2.2; rw [hs] at this; cases this
  · obtain ⟨hne, ha⟩ : w ≠ [] ∧ ∀ c ∈ w, atomCode (c.toNat : Int) = true := hg
    obtain ⟨c, w', rfl⟩ := List.exists_cons_of_ne_nil hne
    exact ⟨c, w', rfl, white_code (.inl (ha c (.head _))), fun z => absurd rfl z⟩
theorem white_stop {D : List UInt8} {i : Nat} {c : UInt8} {s : List UInt8} (h : D.drop i = c :: s) (hc : c ≠ 9 ∧ c ≠ 32 ∧ c ≠ 10 ∧ c ≠ 13) (f : Nat) : whiteGo D f i = i := by
  refine whiteGo_end ?_
  rintro ⟨h1, h2⟩
  have h3 := at_drop h
  have e : whiteI D i = -1 := by
    unfold whiteI
    rw [if_neg ?_, leI_drop h hc.2.2.1 hc.2.2.2]
    rintro (z | z)
    · exact hc.1 (by have := (cAt_eq (d := D) (n := i) 9).mp z; rw [h3.2.1] at this; exact this)
    · exact hc.2.1 (by have := (cAt_eq (d := D) (n := i) 32).mp z; rw [h3.2.1] at this; exact this)
  rw [e] at h2; revert h2; decide
theorem white_end {D : List UInt8} {i : Nat} (h : D.drop i = []) (f : Nat) : whiteGo D f i = i := by
  refine whiteGo_end ?_
  rintro ⟨h1, h2⟩
  have := congrArg List.length h
  simp at this; omega
noncomputable def same (ts : List T) : List (Kind × List UInt8) := ts.map fun x => (x.kind, x.worth)
theorem read_back {D : List UInt8} {L : Nat} : ∀ (ts : List T) (p : Bool) (f i : Nat) (acc : List T), (∀ x ∈ ts, GoodT L x) → D.drop i = showAll p ts → i ≤ D.length → D.length < f + i → ∃ ts', tokensGo D f (pastWhite D i) acc = .ok (acc ++ ts') ∧ same ts' = same ts
  | [], p, f, i, acc, hg, hd, hi, hf => by
    refine ⟨[], ?_, rfl⟩
    have hd' : D.drop i = [] := hd
    unfold pastWhite; rw [white_end hd']
    have hl : ¬ i < D.length := by have := congrArg List.length hd'; simp at this; omega
    cases f <;> simp [tokensGo, hl]
  | x :: ts, p, f, i, acc, hg, hd, hi, hf => by
    have hx := hg x (.head _)
    obtain ⟨c, s, hs, hw, hna⟩ := shown_head hx
    obtain ⟨j, hj, hdj, hji⟩ : ∃ j, pastWhite D i = j ∧ D.drop j = shown x ++ showAll (isAtomT x) ts ∧ i ≤ j := by
      unfold showAll at hd
      by_cases q : (p && isAtomT x) = true
      · rw [if_pos q] at hd
        have hd' : D.drop i = 32 :: (shown x ++ showAll (isAtomT x) ts) := by simpa using hd
        have h1 := at_drop hd'
        refine ⟨i + 1, ?_, h1.2.2, by omega⟩
        have e : whiteI D i = (i : Int) + 1 := by
          unfold whiteI; rw [if_pos (.inr (cAt_drop hd'))]
        unfold pastWhite
        obtain ⟨k, hk⟩ : ∃ k, D.length - i = k + 1 := ⟨D.length - i - 1, by omega⟩
        rw [hk, whiteGo_step ⟨h1.1, by rw [e]; omega⟩, e]
        have e2 : ((i : Int) + 1).toNat = i + 1 := by omega
        rw [e2]
        refine white_stop (c := c) (s := s ++ showAll (isAtomT x) ts) ?_ hw k
        rw [h1.2.2, hs]; rfl
      · rw [if_neg q] at hd
        refine ⟨i, white_stop (c := c) (s := s ++ showAll (isAtomT x) ts) ?_ hw _, by simpa using hd, Nat.le_refl _⟩
        rw [hd, hs]; simp
    have hdj' : D.drop j = c :: (s ++ showAll (isAtomT x) ts) := by rw [hdj, hs]; rfl
    have h1 := at_drop hdj'
    have hr : x.kind = .atom → ∀ c ∈ (showAll (isAtomT x) ts).head?, atomCode (c.toNat : Int) = false := by
      intro hk c' hc'
      have hat : isAtomT x = true := by simp [isAtomT, hk]
      rw [hat] at hc'
      cases ts with
      | nil => simp [showAll] at hc'
      | cons y ts =>
        unfold showAll at hc'
        by_cases q : (true && isAtomT y) = true
        · rw [if_pos q] at hc'
          simp at hc'; subst hc'; decide
        · rw [if_neg q] at hc'
          obtain ⟨c2, s2, hs2, _, hna2⟩ := shown_head (hg y (.tail _ (.head _)))
          rw [hs2] at hc'
          simp at hc'; subst hc'
          exact hna2 (by simpa [isAtomT] using q)
    have hT := token_read (i := j) hx hdj hr
    obtain ⟨f, rfl⟩ := Nat.exists_eq_succ_of_ne_zero (show f ≠ 0 by omega)
    have hd2 : D.drop (j + (shown x).length) = showAll (isAtomT x) ts := by
      rw [← List.drop_drop, hdj]; simp
    have hk2 : j + (shown x).length ≤ D.length := (tokenAt_ok h1.1 hT).2
    have hk3 : j < j + (shown x).length := (tokenAt_ok h1.1 hT).1
    obtain ⟨ts', h2, h3⟩ := read_back ts (isAtomT x) f (j + (shown x).length) (acc ++ [⟨x.kind, x.worth, j⟩]) (fun y hy => hg y (.tail _ hy)) hd2 hk2 (by omega)
    refine ⟨⟨x.kind, x.worth, j⟩ :: ts', ?_, ?_⟩
    · rw [hj]
      simp only [Nat.succ_eq_add_one, tokensGo, if_pos h1.1, hT]
      rw [h2]; simp
    · simp only [same, List.map_cons] at h3 ⊢; rw [h3]
theorem show_read {d : List UInt8} {ts : List T} (h : tokensOf d = .ok ts) : ∃ ts', tokensOf (showAll false ts) = .ok ts' ∧ same ts' = same ts := by
  have hg := (tokensOf_good h).2
  obtain ⟨ts', h1, h2⟩ := read_back (D := showAll false ts) ts false ((showAll false ts).length + 1) 0 [] hg (by simp) (Nat.zero_le _) (by omega)
  exact ⟨ts', by simpa [tokensOf] using h1, h2⟩
theorem GoodT.worthy {L : Nat} {x : T} (h : GoodT L x) (hL : L ≤ 65536) : Worthy x.worth := by
  obtain ⟨kd, w, p⟩ := x
  obtain ⟨hl, hg⟩ := h
  have key : Fine w → Worthy w := fun hf => ⟨by have : w.length ≤ L := hl; omega, fun n hn => by
    unfold cAt
    exact hf _ (by simp [List.getD, hn])⟩
  refine key ?_
  cases kd
  · exact hg
  · exact hg
  · exact hg
  · obtain ⟨c, hw, hs⟩ : ∃ c, w = [c] ∧ signs.contains c = true := hg
    subst hw
    intro c' hc'
    rw [List.mem_singleton.mp hc']
    revert hs; exact all_u8 (P := fun c => signs.contains c = true → nev (c.toNat : Int) = false) (by decide +kernel) c
  · obtain ⟨hne, ha⟩ : w ≠ [] ∧ ∀ c ∈ w, atomCode (c.toNat : Int) = true := hg
    intro c hc
    have := ha c hc
    revert this; exact all_u8 (P := fun c => atomCode (c.toNat : Int) = true → nev (c.toNat : Int) = false) (by decide +kernel) c
theorem escd_len' (sg d : List UInt8) : (escd sg d).length ≤ 2 * d.length := by
  unfold escd
  induction d with
  | nil => simp
  | cons c r ih =>
    rw [List.flatMap_cons, List.length_append, List.length_cons]
    split <;> simp only [List.length_cons, List.length_nil] <;> omega
theorem showAll_len {L : Nat} : ∀ (ts : List T) (p : Bool), (∀ x ∈ ts, GoodT L x) → (showAll p ts).length ≤ ts.length * (2 * L + 3)
  | [], p, h => by simp [showAll]
  | x :: ts, p, h => by
    have ih := showAll_len ts (isAtomT x) fun y hy => h y (.tail _ hy)
    have hx := (h x (.head _)).1
    have e : (shown x).length ≤ 2 * L + 2 := by
      obtain ⟨kd, w, q⟩ := x
      have h1 := escd_len' [34, 92] w
      have h2 := escd_len' [91, 93, 92] w
      have h3 := escd_len' [40, 41, 92] w
      have hx' : w.length ≤ L := hx
      cases kd <;> simp only [shown, List.length_append, List.length_cons, List.length_nil] <;> omega
    have e2 : (if (p && isAtomT x) = true then [32] else ([] : List UInt8)).length ≤ 1 := by split <;> simp
    unfold showAll
    rw [List.length_append, List.length_append, List.length_cons, Nat.succ_mul]
    omega
end Mine
end
section
open PySem PySem.W PyProof.Rows PySem.Calls
namespace Mine
theorem fresh_NBase : True := by w_top off; trivial
noncomputable abbrev LO : List Str := looseW hd.view_1 [Str.ofString "PostError"]
end Mine
end
section
open PySem PySem.W PyProof.Rows PySem.Calls
open PySem.Sem (wp)
namespace Mine
theorem fresh_NExc : True := by w_top off; trivial
noncomputable def DK (h h' : Heap) : Prop := ∀ e oe dx, h.get? e = some oe → oe.dict = some dx → ∃ oe', h'.get? e = some oe' ∧ oe'.dict = some dx
theorem DK.refl (h : Heap) : DK h h := fun _ oe _ a b => ⟨oe, a, b⟩
theorem DK.trans {a b c : Heap} (x : DK a b) (y : DK b c) : DK a c := fun e oe dx h1 h2 => let ⟨_, p, q⟩ := x e oe dx h1 h2; y e _ dx p q
theorem DK.push (h : Heap) (o : Obj) : DK h (h.push o) := fun _ oe _ a b => ⟨oe, Heap.get?_push_of_some _ a, b⟩
theorem DK.update (h : Heap) (a : Addr) (f : Obj → Obj) (hf : ∀ o, (f o).dict = o.dict) (hd : ∀ o, o.isFreed = false → (f o).isFreed = false) : DK h (h.update a f) := by
  intro e oe dx h1 h2
  by_cases q : e = a
  · subst q
    have hn : oe.isFreed = false := by
      have ha := ((Heap.get?_eq_some _ _ _).1 h1).2
      obtain ⟨c, d, dt, sl⟩ := oe
      cases dt <;> first | rfl | cases ha
    exact ⟨f oe, Heap.get?_update_self f h1 (hd _ hn), (hf oe).trans h2⟩
  · exact ⟨oe, (Heap.get?_update_ne _ _ _ _ q).trans h1, h2⟩
structure DKept {α : Type} (t : Sem α) : Prop where
  out : ∀ (M : Model) (Γ : Ctx) (Q : α → Pos → Shared → Prop) (E : Value → Pos → Shared → Prop) (p : Pos) (s : Shared), wp M Γ t Q E p s → wp M Γ t (fun a p' s' => Q a p' s' ∧ DK s.heap s'.heap) E p s
namespace DKept
variable {α β : Type}
theorem pure (a : α) : DKept (Pure.pure a : Sem α) := ⟨fun _ _ _ _ _ s h => ⟨h, DK.refl _⟩⟩
theorem unsupported (w : String) : DKept (PySem.unsupported w : Sem α) := ⟨fun _ _ _ _ _ _ h => h⟩
theorem bind {m : Sem α} {f : α → Sem β} (hm : DKept m) (hf : ∀ a, DKept (f a)) : DKept (m >>= f) := ⟨fun M Γ Q E p s h => by
  rw [Sem.wp_bind'] at h ⊢
  refine Sem.wp_mono M Γ m (fun a p' s' h' => ?_) (fun _ _ _ x => x) p s (hm.out M Γ _ E p s h)
  exact Sem.wp_mono M Γ (f a) (fun _ _ _ q => ⟨q.1, h'.2.trans q.2⟩) (fun _ _ _ x => x) p' s' ((hf a).out M Γ Q E p' s' h'.1)⟩
theorem ite {c : Prop} [Decidable c] {t u : Sem α} (ht : DKept t) (hu : DKept u) : DKept (if c then t else u) := by split <;> assumption
theorem load (a : Addr) : DKept (PySem.load a) := ⟨fun M Γ Q E p s ⟨o, ho, h⟩ => ⟨o, ho, h, DK.refl _⟩⟩
theorem stack : DKept PySem.stack := ⟨fun M Γ Q E p s h => ⟨h, DK.refl _⟩⟩
theorem alloc (o : Obj) : DKept (PySem.alloc o) := ⟨fun M Γ Q E p s h => ⟨h, DK.push _ _⟩⟩
theorem update (a : Addr) (f : Obj → Obj) (hf : ∀ o, (f o).dict = o.dict) (hd : ∀ o, o.isFreed = false → (f o).isFreed = false) : DKept (PySem.update a f) :=
  ⟨fun M Γ Q E p s ⟨x, h⟩ => ⟨x, h, DK.update _ _ _ hf hd⟩⟩
theorem field (v : Value) (i : Nat) : DKept (PySem.field v i) := ⟨fun M Γ Q E p s h => by
  rw [wp_field_iff] at h ⊢
  obtain ⟨a, o, vs, x, e, ho, hd, hx, h⟩ := h
  exact ⟨a, o, vs, x, e, ho, hd, hx, h, DK.refl _⟩⟩
theorem map_dict (f : Array Value → Array Value) (o : Obj) : (Obj.mapFields f o).dict = o.dict := by
  obtain ⟨c, d, dt, sl⟩ := o
  cases dt <;> rfl
theorem map_freed (f : Array Value → Array Value) (o : Obj) (h : o.isFreed = false) : (Obj.mapFields f o).isFreed = false := by
  obtain ⟨c, d, dt, sl⟩ := o
  cases dt <;> first | rfl | exact h
theorem setField (v : Value) (i : Nat) (x : Value) : DKept (PySem.setField v i x) := ⟨fun M Γ Q E p s h => by
  rw [wp_setField_iff] at h ⊢
  obtain ⟨a, o, vs, e, ho, hd, hi, h⟩ := h
  exact ⟨a, o, vs, e, ho, hd, hi, h, DK.update _ _ _ (map_dict _) (map_freed _)⟩⟩
end DKept
theorem dk_envs : DKept frameEnvs := .bind .stack fun _ => .pure _
theorem dk_under : DKept underTheClaimsCaller := .bind .stack fun _ => .pure _
theorem dk_kept (env : Env) (i : Bool) (l : List Env) : DKept (keptBack env i l) := by
  cases l with
  | nil =>
    unfold keptBack
    exact .ite (.pure _) (.bind dk_under fun _ => by first | exact .pure _ | exact .ite (.pure _) (.pure _))
  | cons c r => exact .pure _
theorem dk_behind (env : Env) (outer : List Env) : DKept (behindIsImport env outer) := by
  unfold behindIsImport
  refine .ite (.pure _) ?_
  first
  | exact .ite (.pure _) (.bind (.field _ _) fun _ => .pure _)
  | (refine .bind (.pure _) fun _ => ?_; exact .ite (.pure _) (.bind (.field _ _) fun _ => .pure _))
theorem dk_ready : ∀ l : List Env, DKept (readyFrames l)
  | [] => .pure _
  | env :: outer => by
    have ih := dk_ready outer
    unfold readyFrames
    split
    · refine .bind (.load _) fun o => ?_
      refine .ite (.pure _) ?_
      refine .bind (dk_behind _ _) fun _ => .bind (dk_kept _ _ _) fun _ => .bind (.update _ _ (fun _ => rfl) fun o h => by
        obtain ⟨c, d, dt, sl⟩ := o
        cases dt <;> first | rfl | exact h) fun _ => ih
    · exact .unsupported _
theorem dk_object (l : List Env) : DKept (frameObject l) := by
  cases l with
  | nil => exact .pure _
  | cons env outer => exact .bind (dk_ready _) fun _ => .pure _
theorem dk_frameOf (env : Env) : DKept (PySem.frameOf env) := by
  unfold PySem.frameOf
  refine .bind dk_envs fun l => .bind (dk_object _) fun r => ?_
  cases r with
  | none => exact .unsupported _
  | some f => exact .pure _
theorem dk_place (f : Addr) (b : Bool) : DKept (entryPlaceOf f b) := by
  unfold entryPlaceOf
  refine .bind .stack fun l => ?_
  split <;> exact .pure _
theorem dk_entry (a b c d e : Value) (l : List Value) : DKept (EntryCells.newEntry a b c d e l) := by
  unfold EntryCells.newEntry newFields newObj newObjAsIs
  dsimp only
  refine .ite (.unsupported _) ?_
  exact .bind (.alloc _) fun _ => .pure _
theorem dk_note (e : Value) (env : Env) : DKept (noteFrame e env) := by
  unfold noteFrame
  cases env.frame with
  | none => exact .unsupported _
  | some f =>
    dsimp only
    have tail : ∀ h : Value, DKept (do let a ← PySem.frameOf env; let pl ← entryPlaceOf f (h != .none); let b ← EntryCells.newEntry h a .none (rawInt f) .none pl; setField e 1 b) := fun h =>
      .bind (dk_frameOf _) fun _ => .bind (dk_place _ _) fun _ => .bind (dk_entry ..) fun _ => .setField _ _ _
    refine .bind (.field _ _) fun h => ?_
    refine .ite ?_ (tail h)
    refine .bind (.field _ _) fun m => ?_
    refine .ite (.pure _) ?_
    exact .bind (.setField _ _ _) fun _ => tail h
theorem dk_flight (e : Value) (f : Option Addr) : DKept (setFlight e f) := by
  unfold setFlight
  exact .bind (.field _ _) fun _ => .ite (.setField _ _ _) (.pure _)
theorem dk_leaving (env : Env) (e : Value) : DKept (leaving env e) := .bind (dk_note _ _) fun _ => dk_flight _ _
theorem DKept.any {α : Type} {t : Sem α} (k : DKept t) {M : Model} {A : Around} {Q : α → Shared → Prop} {E : Value → Shared → Prop} {s : Shared} (h : wpAny M A t Q E s) :
    wpAny M A t (fun a s' => Q a s' ∧ DK s.heap s'.heap) E s := fun Γ p hΓ => k.out M Γ _ _ p s (h Γ p hΓ)

noncomputable def AtDict (w : World) (k : Int) (o : Obj) : Prop := ∃ x t1 t2 t3 t4, o = dictOf [⟨PyData.keyHash w.params (Str.ofString "what"), .str (Str.ofString "what") t1, .str x t2⟩, ⟨PyData.keyHash w.params (Str.ofString "at"), .str (Str.ofString "at") t3, .int k t4⟩] 2
noncomputable def Flown (w : World) (base : Heap) (l : List Env) (e : Addr) (k : Int) (news : List (Addr × Obj)) (h : Heap) : Prop :=
  ∃ dx o, AtDict w k o ∧ RaisedN base l e (.ref 59) ((dx, o) :: news) h ∧ ∃ oe, h.get? e = some oe ∧ oe.dict = some dx
theorem Flown.less {w : World} {base : Heap} {l : List Env} {e : Addr} {k : Int} {news news' : List (Addr × Obj)} {h : Heap} (x : Flown w base l e k news h) (hs : ∀ p ∈ news', p ∈ news) : Flown w base l e k news' h := by
  obtain ⟨dx, o, ha, ⟨B, a0, h1, h2, h3⟩, hd⟩ := x
  refine ⟨dx, o, ha, ⟨B, a0, h1, fun q hq => h2 q ?_, h3⟩, hd⟩
  rcases List.mem_cons.mp hq with rfl | hq
  · exact .head _
  · exact .tail _ (hs q hq)
section
variable {M : Model} {A : Around} {E : Value → Shared → Prop} {s' : Shared} {base g g₂ h : Heap} {outer : List Env} {L a e dx : Addr} {m : Str → Option Value} {name : Str} {scope : Scope} {cd : Value} {Q : Unit → Shared → Prop} {news : List (Addr × Obj)} {w : World} {k : Int}
theorem leave_on (K : Below A base outer g) (F : Fr g L g₂ m) (R : Flown w base (envOf name scope L a cd :: outer) e k news s'.heap) (hsm : g₂.UpToSlots s'.heap)
    (hQ : ∀ h', Flown w base outer e k news h' → g.UpToSlots h' → Q () { s' with heap := h' }) :
    wpAny M (A.deeper (envOf name scope L a cd)) (leaving (envOf name scope L a cd) (.ref e)) Q E s' := by
  obtain ⟨dx, o, ha, R, oe, h1, h2⟩ := R
  refine wpAny_mono ((dk_leaving _ _).any (leave_onN (Q := fun _ s'' => ∃ h', s'' = { s' with heap := h' } ∧ RaisedN base outer e (.ref 59) ((dx, o) :: news) h' ∧ g.UpToSlots h') K F R hsm fun h' x y => ⟨h', rfl, x, y⟩)) (fun _ s'' z => ?_) fun _ _ z => z
  obtain ⟨⟨h', rfl, x, y⟩, d⟩ := z
  exact hQ h' ⟨dx, o, ha, x, d e oe dx h1 h2⟩ y
theorem leave_new {oe o : Obj} {a0 : Value} (K : Below A base outer g) (F : Fr g L s'.heap m) (N : News g L s'.heap ((e, oe) :: (dx, o) :: news)) (hcls : oe.cls = .ref 59)
    (hd : oe.data = .fields #[a0, .none, .none, .none, .bool false, .none]) (hdict : oe.dict = some dx) (ho : AtDict w k o) (hne : ∀ p ∈ (dx, o) :: news, p.1 ≠ e)
    (hQ : ∀ h', Flown w base outer e k news h' → g.UpToSlots h' → Q () { s' with heap := h' }) (hk : scope.kind = .function := by rfl) :
    wpAny M (A.deeper (envOf name scope L a cd)) (leaving (envOf name scope L a cd) (.ref e)) Q E s' := by
  have K' := K.push (name := name) (a := a) (cd := cd) F hk
  have hE := N (e, oe) (.head _)
  have hbe : base.get? e = none := fresh_of_stays K.stays hE.2.2
  have hin : ∀ env ∈ (envOf name scope L a cd :: outer), ∀ b, env.frame = some b → b ∈ e :: (envOf name scope L a cd :: outer).filterMap (·.frame) := fun env he b hb => .tail _ (List.mem_filterMap.mpr ⟨env, he, hb⟩)
  have st : base.StaysIn (hideAll s'.heap (e :: (envOf name scope L a cd :: outer).filterMap (·.frame))) := fun b ob q => hideAll_get _ (K'.stays b ob q) fun hm => by
    rcases List.mem_cons.mp hm with rfl | hm
    · rw [hbe] at q; cases q
    · rw [(K'.frames.mem hm).1] at q; cases q
  have hl : ∀ q ∈ (dx, o) :: news, (hideAll s'.heap (e :: (envOf name scope L a cd :: outer).filterMap (·.frame))).get? q.1 = some q.2 ∧ base.get? q.1 = none := fun q hq => by
    have hq' := N q (.tail _ hq)
    refine ⟨hideAll_get _ hq'.1 fun hm => ?_, fresh_of_stays K.stays hq'.2.2⟩
    rcases List.mem_cons.mp hm with hm | hm
    · exact hne q hq hm
    · obtain ⟨env, he, hf⟩ := List.mem_filterMap.mp hm
      rcases List.mem_cons.mp he with rfl | he
      · exact hq'.2.1 (Option.some.inj hf).symm
      · obtain ⟨ob, hob, _⟩ := (K.frames.mem (List.mem_filterMap.mpr ⟨env, he, hf⟩)).2
        rw [hq'.2.2] at hob; cases hob
  have hen : (hideAll s'.heap (e :: (envOf name scope L a cd :: outer).filterMap (·.frame))).get? e = none := hideAll_none _ (.head _)
  refine wpAny_mono ((dk_leaving _ _).any (wpAny_leaving_firstW (a0 := a0) (Q := fun _ s'' => ∃ h', s'' = { s' with heap := h' } ∧ RaisedN base outer e (.ref 59) ((dx, o) :: news) h' ∧ g.UpToSlots h') K'.stack (funFrames_hide K'.frames hin) rfl hE.1
    (fun b ob hb => of_hideAll _ hb) hen hd rfl rfl fun h' hL => ?_)) (fun _ s'' z => ?_) fun _ _ z => z
  · obtain ⟨k1, ⟨_, _, k2⟩, k3, k4⟩ := hL
    exact ⟨h', rfl, ⟨_, a0, st, hl, k1, hen, k2, by rw [← hcls]; exact k3⟩, (Heap.UpToSlots.of_keeps F.keep).trans k4⟩
  · obtain ⟨⟨h', rfl, x, y⟩, d⟩ := z
    exact hQ h' ⟨dx, o, ho, x, d e oe dx hE.1 hdict⟩ y
end
noncomputable def Sub (X' X : Int → Prop) : Prop := ∀ i, X' i → X i
noncomputable def RaiseTo (w : World) (base : Heap) (l : List Env) (news : List (Addr × Obj)) (h₀ : Heap) (L : Addr) (m : Str → Option Value) (s : Shared) (X : Int → Prop) (E : Value → Shared → Prop) : Prop :=
  ∀ (e : Addr) (i : Int) (g₂ h' : Heap) (tk' : Nat), Flown w base l e i news h' → Fr h₀ L g₂ m → g₂.UpToSlots h' → X i → E (.ref e) { s with heap := h', toks := tk' }
section
variable {M : Model} {A : Around} {s : Shared} {base g h₀ hh : Heap} {l : List Env} {L L' a e dx : Addr} {m m' : Str → Option Value} {name : Str} {scope : Scope} {cd : Value} {news news' : List (Addr × Obj)} {w : World} {X X' : Int → Prop} {E : Value → Shared → Prop}
  {Q1 : Value → Unit → Shared → Prop} {E1 : Value → Value → Shared → Prop} {tk : Nat} {k : Int}
theorem RaiseTo.pass (H : RaiseTo w base l news h₀ L m s X E) (K : Below A base l g) (FG : Fr h₀ L g m) (hs : ∀ p ∈ news, p ∈ news') (hX : Sub X' X) :
    RaiseTo w base (envOf name scope L' a cd :: l) news' g L' m' { s with heap := hh, toks := tk } X' (fun e s'' => wpAny M (A.deeper (envOf name scope L' a cd)) (leaving (envOf name scope L' a cd) e) (fun _ s3 => E e s3) (E1 e) s'') :=
  fun e i g₂ h' tk' fl F₂ up hx => leave_on K F₂ fl up fun h2 fl2 up2 => H e i g h2 tk' (fl2.less hs) FG up2 (hX i hx)
theorem RaiseTo.passA (hX : Sub X' X) (H : RaiseTo w base l news h₀ L m s X E := by assumption) (K : Below A base l g := by assumption) (FG : Fr h₀ L g m := by assumption) (hs : ∀ p ∈ news, p ∈ news' := by walk_at "m_sub") :
    RaiseTo w base (envOf name scope L' a cd :: l) news' g L' m' { s with heap := hh, toks := tk } X' (fun e s'' => wpAny M (A.deeper (envOf name scope L' a cd)) (leaving (envOf name scope L' a cd) e) (fun _ s3 => E e s3) (E1 e) s'') := RaiseTo.pass H K FG hs hX
theorem RaiseTo.new {o : Obj} {a0 : Value} {E2 : Value → Shared → Prop} (H : RaiseTo w base l news h₀ L m s X E) (K : Below A base l g) (FG : Fr h₀ L g m) (F : Fr g L' hh m') (N : News g L' hh ((e, ({ cls := .ref 59, dict := some dx, data := .fields #[a0, .none, .none, .none, .bool false, .none] } : Obj)) :: (dx, o) :: news'))
    (hs : ∀ p ∈ news, p ∈ news') (ha : AtDict w k o) (hne : ∀ p ∈ (dx, o) :: news', p.1 ≠ e) (hX : X k) (hk : scope.kind = .function := by rfl) :
    wpAny M (A.deeper (envOf name scope L' a cd)) (leaving (envOf name scope L' a cd) (.ref e)) (fun _ s3 => E (.ref e) s3) E2 { s with heap := hh, toks := tk } :=
  leave_new (s' := { s with heap := hh, toks := tk }) K F N rfl rfl rfl ha hne (fun h2 fl2 up2 => H e k g h2 tk (fl2.less hs) FG up2 hX) hk
end
noncomputable def Ctr (w : World) (mean : ExcName → Option Value) (mg mb : Str → Option Value) (k : Nat) (f : Addr) (vs : List Value) (news : List (Addr × Obj)) (R : Value → List (Addr × Obj) → Prop) (X : Int → Prop) : Prop :=
  ∀ (dp un : Nat) (gd : Option (List Code)) (cn : Str) (cs : Scope) (a : Addr) (ccd : Value) (cl : List (Str × Addr)) (outer : List Env) (A₀ : Around) (base h₀ : Heap) (L : Addr) (m : Str → Option Value) (s : Shared) (Q E : Value → Shared → Prop),
    Below A₀ base outer h₀ → Fr h₀ L s.heap m → (hd.heap_1 w.params).In h₀ → News h₀ L s.heap news → Top hd.view_1 LO mean mg mb h₀ → cs.kind = .function →
    dp + k < recursionLimit → un + 8 * k < cLine →
    (∀ (r : Value) (tl : List (Addr × Obj)) (h' : Heap) (tk' : Nat), Fr h₀ L h' m → News h₀ L h' (tl ++ news) → R r tl → Q r { s with heap := h', toks := tk' }) →
    RaiseTo w base (envX cn cs L a ccd cl :: outer) news h₀ L m s X E →
    wpAny (model PySem.Challenge.rw_no0365_01.row.prog w) (ktrTop dp un gd cn cs L a ccd cl outer) (call (.ref f) vs) Q E s
theorem Ctr.use {w : World} {mean : ExcName → Option Value} {mg mb : Str → Option Value} {k : Nat} {f : Addr} {vs : List Value} {news : List (Addr × Obj)} {R : Value → List (Addr × Obj) → Prop} {X : Int → Prop} (C : Ctr w mean mg mb k f vs news R X)
    {dp un : Nat} {gd : Option (List Code)} {cn : Str} {cs : Scope} {a : Addr} {ccd : Value} {cl : List (Str × Addr)} {outer : List Env} {A₀ : Around} {base h₀ : Heap} {L : Addr} {m : Str → Option Value} {s : Shared} {Q E : Value → Shared → Prop}
    (B : Below A₀ base outer h₀) (F : Fr h₀ L s.heap m) (K : (hd.heap_1 w.params).In h₀) (N : News h₀ L s.heap news) (T : Top hd.view_1 LO mean mg mb h₀) (hk : cs.kind = .function) (h1 : dp + k < recursionLimit) (h2 : un + 8 * k < cLine)
    (hret : ∀ (r : Value) (tl : List (Addr × Obj)) (h' : Heap) (tk' : Nat), Fr h₀ L h' m → News h₀ L h' (tl ++ news) → R r tl → Q r { s with heap := h', toks := tk' })
    (hrai : RaiseTo w base (envX cn cs L a ccd cl :: outer) news h₀ L m s X E) :
    wpAny (model PySem.Challenge.rw_no0365_01.row.prog w) (ktrTop dp un gd cn cs L a ccd cl outer) (call (.ref f) vs) Q E s :=
  C _ _ _ _ _ _ _ _ _ _ _ _ _ _ _ _ _ B F K N T hk h1 h2 hret hrai
theorem Ctr.useA {w : World} {mean : ExcName → Option Value} {mg mb : Str → Option Value} {k : Nat} {f : Addr} {vs : List Value} {news : List (Addr × Obj)} {R : Value → List (Addr × Obj) → Prop} {X : Int → Prop} (C : Ctr w mean mg mb k f vs news R X)
    {dp un : Nat} {gd : Option (List Code)} {cn : Str} {cs : Scope} {a : Addr} {ccd : Value} {cl : List (Str × Addr)} {outer : List Env} {A₀ : Around} {base h₀ : Heap} {L : Addr} {m : Str → Option Value} {s : Shared} {Q E : Value → Shared → Prop}
    (B : Below A₀ base outer h₀ := by k_asm) (F : Fr h₀ L s.heap m := by k_asm) (K : (hd.heap_1 w.params).In h₀ := by k_asm) (N : News h₀ L s.heap news := by k_asm) (T : Top hd.view_1 LO mean mg mb h₀ := by k_asm) (hk : cs.kind = .function := by first | exact rfl | assumption) (h1 : dp + k < recursionLimit := by walk_at "m_room") (h2 : un + 8 * k < cLine := by walk_at "m_room")
    (hret : ∀ (r : Value) (tl : List (Addr × Obj)) (h' : Heap) (tk' : Nat), Fr h₀ L h' m → News h₀ L h' (tl ++ news) → R r tl → Q r { s with heap := h', toks := tk' })
    (hrai : RaiseTo w base (envX cn cs L a ccd cl :: outer) news h₀ L m s X E) :
    wpAny (model PySem.Challenge.rw_no0365_01.row.prog w) (ktrTop dp un gd cn cs L a ccd cl outer) (call (.ref f) vs) Q E s := Ctr.use C B F K N T hk h1 h2 hret hrai
theorem RaiseTo.never {w : World} {base : Heap} {l : List Env} {news : List (Addr × Obj)} {h₀ : Heap} {L : Addr} {m : Str → Option Value} {s : Shared} {E : Value → Shared → Prop} : RaiseTo w base l news h₀ L m s (fun _ => False) E :=
  fun _ _ _ _ _ _ _ _ h => h.elim
end Mine
end
section
open PySem PySem.W PyProof.Rows PySem.Calls
open PySem.Sem (wp)
namespace Mine
theorem fresh_NMake : True := by w_top off; trivial
set_option maxRecDepth 100000
noncomputable abbrev excBorn (C tp : Addr) : Obj := { cls := .ref C, data := .fields #[.ref tp, .none, .none, .none, .bool false, .none] }
noncomputable abbrev tupOf (vs : List Value) : Obj := { cls := .type "tuple", data := .seq vs.toArray }
section
variable {M : Model} {prog : Program} {w : World} {A : Around} {R : Result → Shared → Prop} {E : Value → Shared → Prop} {h : Heap} {g : Array GenState} {d : Drawn} {t : Nat} {os : OsState}
variable {nm q : Str} {C N : Addr} {bs bm : List Value} {hdct : Bool} {sn : List Str} {sub : List Value} {ab : Bool} {col : Option Bool} {dd : Option Addr} {k0 k1 k2 k3 k5 : Option Value}
theorem fault_check_new (hbE : bm.contains (.type "Exception") = true) {rest : List Value} {Q : Unit → Shared → Prop} (hC : h.get? C = some (excClassObj nm q C N bs bm hdct sn sub ab col dd k0 k1 k2 k3 k5 "Exception.__new__"))
    (hq : Q () ⟨h, g, d, t, os⟩) : wpAny M A (checkBuiltinCall "Exception.__new__" ⟨.ref C :: rest, []⟩) Q E ⟨h, g, d, t, os⟩ := by
  have F := PySem.F.excBase_Exception
  have hcont : (Value.ref C :: bm).contains (.type "Exception") = true := by rw [List.contains_cons, hbE, Bool.or_true]
  have hstar := F.noStar
  simp only [checkBuiltinCall, F.newKind, F.newSplit, F.newRow]
  repeat (first | refine wpAny_loadPart_at hC ?_ | (refine wpAny_isSubtype_exc hC ?_; rw [hcont]) | refine wpAny_staticBase_exc hC ?_ | refine wpAny_madeBy_exc hC ?_ | simp only [bne_self_eq_false, Bool.false_eq_true, if_false] | wp_step)
  exact hq
theorem fault_new (hbE : bm.contains (.type "Exception") = true) (hbA : bm.contains (.type "AttributeError") = false) (hbN : bm.contains (.type "NameError") = false) {rest : List Value} (hC : h.get? C = some (excClassObj nm q C N bs bm hdct sn sub ab col dd k0 k1 k2 k3 k5 "Exception.__new__"))
    (hq : R (.ok (.ret (.ref (h.objs.size + 1)))) ⟨(h.push (tupOf rest)).push (excBorn C h.objs.size), g, d, t, os⟩) (hrest : rest.length ≤ sizeLine := by size_fits) :
    codeAny (model prog w) A (.builtin "Exception.__new__" ⟨.ref C :: rest, []⟩) R ⟨h, g, d, t, os⟩ := by
  have F := PySem.F.excBase_Exception
  have hends := F.ends
  have hcB : (Value.ref C :: bm).contains (.type "Exception") = true := by rw [List.contains_cons, hbE, Bool.or_true]
  have hcA : (Value.ref C :: bm).contains (.type "AttributeError") = false := by rw [List.contains_cons, hbA]; rfl
  have hcN : (Value.ref C :: bm).contains (.type "NameError") = false := by rw [List.contains_cons, hbN]; rfl
  refine codeAny_builtinAt F.entry ?_
  unfold Builtin.«BaseException.__new__»
  refine PySem.wpAt_bind ?_
  show PySem.wpAt _ _ _ (stack >>= _) _ _ _
  refine PySem.wpAt_bind (PySem.wpAt_stack fun p below => PySem.wpAt_of_wpAny ?_)
  wp_walk
  refine PySem.wpAt_of_wpAny ?_
  rw [F.owner]
  repeat (first | with_reducible refine wpAny_madeHere_exc F.canon hC ?_ | with_reducible refine wpAny_loadPart_at hC ?_ | (with_reducible refine wpAny_isSubtype_exc hC ?_; first | rw [hcB] | rw [hcA] | rw [hcN]) | wp_step)
  show R _ _
  rw [Heap.size_push]
  exact hq
theorem fault_type_call {fI : Addr} {rest : List Value} {Q : Fin → Shared → Prop} (hbE : bm.contains (.type "Exception") = true) (hbA : bm.contains (.type "AttributeError") = false) (hbN : bm.contains (.type "NameError") = false)
    (hC : h.get? C = some (excClassObj nm q C N bs bm hdct sn sub ab col dd k0 k1 k2 k3 k5 "Exception.__new__"))
    (hi : Looks (model prog w) h (typeLookup (.ref C) "__init__") (some (.ref fI))) (hb : ∀ self, Looks (model prog w) h (bindSpecial (.ref fI) self) (.ref fI, [self]))
    (hq : wpAny (model prog w) A (call (.ref fI) (.ref (h.objs.size + 1) :: rest)) (fun v s' => v = .none ∧ Q (.done (.ret (.ref (h.objs.size + 1)))) s') E ⟨(h.push (tupOf rest)).push (excBorn C h.objs.size), g, d, t, os⟩) (hrest : rest.length ≤ sizeLine := by size_fits) :
    wpAny (model prog w) A (Builtin.«type.__call__» ⟨.ref C :: rest, []⟩) Q E ⟨h, g, d, t, os⟩ := by
  have F := PySem.F.excBase_Exception
  repeat (first | with_reducible refine wpAny_loadPart_at hC ?_ | with_reducible refine wpAny_madeBy_exc hC ?_ | wp_step)
  refine codeAny_call_builtin_code (Code.quiet_builtin _ F.quiet) (fault_check_new hbE hC ?_)
  refine fault_new hbE hbA hbN hC ?_ hrest
  show wpAny _ _ _ _ _ _
  have kk : ∀ b o, h.get? b = some o → ((h.push (tupOf rest)).push (excBorn C h.objs.size)).get? b = some o := fun b o e => Heap.get?_push_of_some _ (Heap.get?_push_of_some _ e)
  have hC₁ := kk _ _ hC
  have hget : ((h.push (tupOf rest)).push (excBorn C h.objs.size)).get? (h.objs.size + 1) = some (excBorn C h.objs.size) := by heap_get
  have hcC : (Value.ref C :: bm).contains (.ref C) = true := by simp
  unfold isInstance
  repeat (first | with_reducible refine wpAny_loadPart_at hget ?_ | (with_reducible refine wpAny_isSubtype_exc hC₁ ?_; rw [hcC]) | wp_step)
  show wpAny _ _ (typeLookup (.ref C) _) _ _ _
  refine (hi.keeps kk).at ?_
  refine wpAny_holding (wpAny_bind ((((hb _).keeps kk)).at ?_))
  refine wpAny_bind (wpAny_mono hq (fun v s' z => ?_) fun _ _ z => z)
  obtain ⟨rfl, z⟩ := z
  exact wpAny_pure (wpAny_pure z)
end
end Mine
end
section
open PySem PySem.W PyProof.Rows PySem.Calls Builtin Builtin.ObjectAttr
open PySem.Sem (wp)
namespace Mine
theorem fresh_NStore : True := by w_top off; trivial
set_option maxRecDepth 100000
theorem exc_refuse (self : Value) (a b : Addr) : refuseLoop self "__setattr__" [.ref a, .ref b, .type "Exception", .type "BaseException", .type "object"] = pure () := by
  rw [refuseLoop_ref, refuseLoop_ref]; kernel_rfl
noncomputable abbrev excDict (C tp : Addr) (dx : Addr) : Obj := { cls := .ref C, dict := some dx, data := .fields #[.ref tp, .none, .none, .none, .bool false, .none] }
section
variable {prog : Program} {w : World} {A : Around} {K : Frag} {C x L : Addr} {s : Shared} {h₀ : Heap} {m : Str → Option Value} {news : List (Addr × Obj)} {E : Value → Shared → Prop} {cd : ClassData} {ox : Obj} {od : Option Obj} {name : Str} {v : Value}
theorem exc_set_open {Q : Unit → Shared → Prop} (X : K.In s.heap) (I : InstAt s.heap x ox C od) (hc : clsIn K C = some cd) (hr : ∀ self, refuseLoop self "__setattr__" cd.mro = pure ())
    (hne : cd.mro.isEmpty = false) (ho : cd.mro.contains (.type "object") = true) (hs : findIn K (.ref C) "__setattr__" = some (some (.builtin "object.__setattr__"))) (ht : takerIn K C name = some none)
    (h : ∀ b, wpAny (model prog w) A.in1 (storeInOwnDict (.ref x) (.ref C) (.str name s.toks) name v b) (fun fin s' => fin = .done (.ret .none) ∧ Q () s') (fun e s' => E e s') { s with toks := s.toks + 1 }) :
    wpAny (model prog w) A (setAttr (.ref x) name v) Q E s := by
  have SF := PySem.F.store_object
  refine set_plain X I hs ?_
  have sub : Looks (model prog w) s.heap (isInstance (.ref x) (.type "object")) true := I.type.andThen (looks_mroIn X (by unfold mroIn; rw [hc, Option.bind_some, if_neg (by rw [hne]; decide), ho]))
  refine codeAny_call_builtin SF.slot.plain SF.entry (@check_slot (model prog w) _ _ { s with toks := s.toks + 1 } "object.__setattr__" "object" "__setattr__" (.ref x) [.str name s.toks, v] [] _ SF.kind SF.split sub (SF.args (.ref x) (.str name s.toks) v) ?_)
  obtain ⟨attr, ha, hq⟩ := Option.bind_eq_some_iff.mp ht
  have hm : Looks (model prog w) s.heap (mroOf (.ref C)) cd.mro := (looks_clsIn X hc).andThen .now
  have L3 : Looks (model prog w) s.heap (storeTaker? attr) none := by
    cases attr with
    | none => exact .now
    | some a =>
      obtain ⟨b, hb, hb'⟩ := Option.map_eq_some_iff.mp hq
      cases b with
      | true => cases hb'
      | false => exact (looks_takesIn X hb).andThen .now
  rw [osa_eq, refuse_eq]
  refine wpAny_bind (wpAny_bind ((I.type (M := model prog w)) _ _ _ _ (fun _ _ e => e) (wpAny_bind (hm _ _ _ _ (fun _ _ e => e) ?_))))
  rw [hr]
  refine wpAny_pure (wpAny_bind ((I.type (M := model prog w)) _ _ _ _ (fun _ _ e => e) (wpAny_bind ((looks_findIn X ha) _ _ _ _ (fun _ _ e => e) (wpAny_bind (L3 _ _ _ _ (fun _ _ e => e) ?_))))))
  refine wpAny_mono (h _) (fun fin s' z => ?_) fun _ _ z => z
  obtain ⟨rfl, z⟩ := z
  exact z
theorem exc_put {dx : Addr} {pre post : List (Addr × Obj)} {es es' : List DictEntry} {n n' : Nat} {tk : Tok} {Q : Fin → Shared → Prop} (F : Fr h₀ L s.heap m) (N : News h₀ L s.heap (pre ++ (dx, dictOf es n) :: post))
    (h1 : ∀ p ∈ pre, p.1 ≠ dx) (h2 : ∀ p ∈ post, p.1 ≠ dx) (hno : es.any (·.refKey) = false)
    (e : (putL name (PyData.keyHash w.params name) (.str name s.toks) v es, putN name es n) = (es', n')) (hz : es'.length ≤ 1000)
    (h : ∀ h', Fr h₀ L h' m → News h₀ L h' (pre ++ (dx, dictOf es' n') :: post) → Q (.done (.ret .none)) { s with heap := h', toks := s.toks + 1 }) :
    wpAny (model prog w) A (storeInDict dx (.str name tk) name v) Q E s := by
  obtain ⟨e1, e2⟩ := Prod.mk.inj e
  have eo : Obj.putName name (PyData.keyHash w.params name) (.str name s.toks) v (dictOf es n) = dictOf es' n' := by rw [putName_dict, e1, e2]
  obtain ⟨U1, U2⟩ := news_upd (f := Obj.putName name (PyData.keyHash w.params name) (.str name s.toks) v) F N h1 h2 eo rfl
  have D := (N (dx, dictOf es n) (by simp)).1
  have D' := (U2 (dx, dictOf es' n') (by simp)).1
  unfold storeInDict
  refine wpAny_bind (wpAny_pure (wpAny_bind ?_))
  unfold nsSet
  refine wpAny_bind (wpAny_bind (wpAny_askSetting (wpAny_pure (wpAny_bind (wpAny_mkText (wpAny_bind (wpAny_loadPart D ?_)))))))
  dsimp only
  rw [aRefKeyMayBeTheName_at]
  have c : (!es.toArray.any (·.key.isStr name) && es.toArray.any (·.refKey)) = false := by
    rw [← Array.any_toList, ← Array.any_toList]
    simp only [hno, Bool.and_false]
  rw [c]
  refine wpAny_updatePart D ?_
  refine wpAny_bind (wpAny_lookBehind D' (pastItsLine_dict (by rw [List.size_toArray, sizeLine_eq]; omega)) ?_)
  exact wpAny_pure (h _ U1 U2)
theorem exc_set_first {vs : Array Value} {Q : Unit → Shared → Prop} (F : Fr h₀ L s.heap m) (X : K.In s.heap) (N : News h₀ L s.heap ((x, ({ cls := .ref C, data := .fields vs } : Obj)) :: news)) (hx : ∀ p ∈ news, p.1 ≠ x)
    (hc : clsIn K C = some cd) (hr : ∀ self, refuseLoop self "__setattr__" cd.mro = pure ()) (hne : cd.mro.isEmpty = false) (ho : cd.mro.contains (.type "object") = true) (hd : cd.hasDict = true)
    (hs : findIn K (.ref C) "__setattr__" = some (some (.builtin "object.__setattr__"))) (ht : takerIn K C name = some none)
    (h : ∀ dx h' tk tk', Fr h₀ L h' m → News h₀ L h' ((dx, dictOf [⟨PyData.keyHash w.params name, .str name tk, v⟩] 1) :: (x, ({ cls := .ref C, dict := some dx, data := .fields vs } : Obj)) :: news) → (∀ p ∈ news, p.1 < dx) → x < dx → Q () { s with heap := h', toks := tk' }) :
    wpAny (model prog w) A (setAttr (.ref x) name v) Q E s := by
  have I : InstAt s.heap x { cls := .ref C, data := .fields vs } C none := ⟨(N _ (.head _)).1, rfl, rfl, trivial⟩
  refine exc_set_open X I hc hr hne ho hs ht fun b => ?_
  have hxo := (N _ (.head _)).1
  have hlt : x < s.heap.objs.size := Heap.lt_size hxo
  have N1 := N.push F (dictOf [] 0)
  have F1 := F.push (dictOf [] 0)
  obtain ⟨F2, N2⟩ := news_upd (pre := [(s.heap.objs.size, dictOf [] 0)]) (f := fun o : Obj => { o with dict := some s.heap.objs.size }) (o' := { cls := .ref C, dict := some s.heap.objs.size, data := .fields vs }) F1 N1 (fun p hp => by rw [List.mem_singleton.mp hp]; exact Nat.ne_of_gt hlt) hx rfl rfl
  unfold storeInOwnDict
  refine wpAny_bind (wpAny_pure (wpAny_bind ?_))
  show wpAny _ _ (instanceDict x true) _ _ _
  unfold instanceDict
  refine wpAny_bind (wpAny_loadPart hxo ?_)
  refine wpAny_bind ((looks_clsIn (M := model prog w) X hc) _ _ _ _ (fun _ _ e => e) ?_)
  rw [hd]
  refine wpAny_bind (wpAny_alloc ?_)
  refine wpAny_bind (wpAny_update (N1 _ (.tail _ (.head _))).1 ?_)
  refine wpAny_pure ?_
  refine exc_put (pre := []) (es := []) (n := 0) F2 N2 (fun _ hp => nomatch hp) (fun p hp => ?_) rfl rfl (by show 1 ≤ 1000; decide) fun h' F3 N3 => ⟨rfl, h _ _ _ _ F3 N3 (fun p hp => Heap.lt_size (N _ (.tail _ hp)).1) hlt⟩
  rcases List.mem_cons.mp hp with rfl | hp
  · exact Nat.ne_of_lt hlt
  · exact Nat.ne_of_lt (Heap.lt_size (N _ (.tail _ hp)).1)
theorem exc_set_next {dx : Addr} {vs : Array Value} {es es' : List DictEntry} {n n' : Nat} {Q : Unit → Shared → Prop} (F : Fr h₀ L s.heap m) (X : K.In s.heap) (N : News h₀ L s.heap ((dx, dictOf es n) :: (x, ({ cls := .ref C, dict := some dx, data := .fields vs } : Obj)) :: news))
    (hx : ∀ p ∈ news, p.1 ≠ dx) (hxd : x ≠ dx)
    (hc : clsIn K C = some cd) (hr : ∀ self, refuseLoop self "__setattr__" cd.mro = pure ()) (hne : cd.mro.isEmpty = false) (ho : cd.mro.contains (.type "object") = true) (hd : cd.hasDict = true)
    (hs : findIn K (.ref C) "__setattr__" = some (some (.builtin "object.__setattr__"))) (ht : takerIn K C name = some none) (hno : es.any (·.refKey) = false)
    (e : (putL name (PyData.keyHash w.params name) (.str name (s.toks + 1)) v es, putN name es n) = (es', n')) (hz : es'.length ≤ 1000)
    (h : ∀ h' tk', Fr h₀ L h' m → News h₀ L h' ((dx, dictOf es' n') :: (x, ({ cls := .ref C, dict := some dx, data := .fields vs } : Obj)) :: news) → Q () { s with heap := h', toks := tk' }) :
    wpAny (model prog w) A (setAttr (.ref x) name v) Q E s := by
  have I : InstAt s.heap x { cls := .ref C, dict := some dx, data := .fields vs } C (some (dictOf es n)) := ⟨(N _ (.tail _ (.head _))).1, rfl, rfl, (N _ (.head _)).1⟩
  refine exc_set_open X I hc hr hne ho hs ht fun b => ?_
  have hxo := (N _ (.tail _ (.head _))).1
  unfold storeInOwnDict
  refine wpAny_bind (wpAny_pure (wpAny_bind ?_))
  show wpAny _ _ (instanceDict x true) _ _ _
  unfold instanceDict
  refine wpAny_bind (wpAny_loadPart hxo ?_)
  refine wpAny_bind ((looks_clsIn (M := model prog w) X hc) _ _ _ _ (fun _ _ e => e) ?_)
  rw [hd]
  refine wpAny_pure ?_
  refine exc_put (pre := []) (s := { s with toks := s.toks + 1 }) F N (fun _ hp => nomatch hp) (fun p hp => ?_) hno e hz fun h' F3 N3 => ⟨rfl, h _ _ F3 N3⟩
  rcases List.mem_cons.mp hp with rfl | hp
  · exact hxd
  · exact hx p hp
theorem exc_check_init {M : Model} {h : Heap} {g : Array GenState} {d : Drawn} {t : Nat} {os : OsState} {nm q : Str} {Nn : Addr} {bs bm : List Value} {hdct : Bool} {sn : List Str} {sub : List Value} {ab : Bool} {col : Option Bool} {dd : Option Addr} {k0 k1 k2 k3 k5 : Option Value} {nid : String}
    (hbE : bm.contains (.type "Exception") = true) {oe : Obj} {rest : List Value} {Q : Unit → Shared → Prop}
    (hC : h.get? C = some (excClassObj nm q C Nn bs bm hdct sn sub ab col dd k0 k1 k2 k3 k5 nid)) (he : h.get? x = some oe) (hcls : oe.cls = .ref C) (hq : Q () ⟨h, g, d, t, os⟩) :
    wpAny M A (checkBuiltinCall "Exception.__init__" ⟨.ref x :: rest, []⟩) Q E ⟨h, g, d, t, os⟩ := by
  have G := PySem.F.excBase_Exception
  have hcB : (Value.ref C :: bm).contains (.type "Exception") = true := by rw [List.contains_cons, hbE, Bool.or_true]
  have hshort := G.noStar
  simp only [checkBuiltinCall, G.initKind, G.initSplit, G.initRow]
  repeat (first | (with_reducible refine wpAny_loadPart_at he ?_; rw [hcls]) | with_reducible refine wpAny_loadPart_at hC ?_ | (with_reducible refine wpAny_isSubtype_exc hC ?_; rw [hcB]) | wp_step)
  refine wpAny_onRaise ?_
  rw [show ∀ (a b : String) (n : Nat), Bind.check ⟨.positional, "*", "Exception", .self, [⟨"args", .varPos, false⟩]⟩ a b n (List.map (fun x => x.fst) ({ pos := Value.ref x :: rest } : Args).kw) = pure () from
    fun a b n => check_star_args _ _ _ _ _ _]
  exact wpAny_pure hq
theorem exc_init {nm q : Str} {Nn : Addr} {bs bm : List Value} {hdct : Bool} {sn : List Str} {sub : List Value} {ab : Bool} {col : Option Bool} {dd : Option Addr} {k0 k1 k2 k3 k5 : Option Value} {nid : String}
    {tp : Addr} {rest : List Value} {Q : Value → Shared → Prop} (F : Fr h₀ L s.heap m) (N : News h₀ L s.heap ((x, excBorn C tp) :: news)) (hx : ∀ p ∈ news, p.1 ≠ x)
    (hbE : bm.contains (.type "Exception") = true) (hC : s.heap.get? C = some (excClassObj nm q C Nn bs bm hdct sn sub ab col dd k0 k1 k2 k3 k5 nid)) (hz : rest.length ≤ sizeLine)
    (h : ∀ tp' h', Fr h₀ L h' m → News h₀ L h' ((x, excBorn C tp') :: news) → Q .none { s with heap := h' }) :
    wpAny (model prog w) A (call (.builtin "Exception.__init__") (.ref x :: rest)) Q E s := by
  obtain ⟨hh, g, d, t, os⟩ := s
  have G := PySem.F.excBase_Exception
  have hxo := (N _ (.head _)).1
  have hlt : x < hh.objs.size := Heap.lt_size hxo
  have N1 := N.push F (tupOf rest)
  have F1 := F.push (tupOf rest)
  obtain ⟨F2, N2⟩ := news_upd (pre := [(hh.objs.size, tupOf rest)]) (f := Obj.mapFields (·.setIfInBounds 0 (.ref hh.objs.size))) (o' := excBorn C hh.objs.size) F1 N1 (fun p hp => by rw [List.mem_singleton.mp hp]; exact Nat.ne_of_gt hlt) hx rfl rfl
  refine wpAny_call (codeAny_call_builtin G.init.plain G.initEntry (exc_check_init hbE hC hxo rfl ?_))
  show wpAny _ _ (newTuple rest >>= fun r => BaseException.bexcPut (.ref x) 0 r >>= fun _ => ret .none) _ _ _
  refine wpAny_bind (wpAny_newObj_type ?_ (by show rest.toArray.size ≤ sizeLine; rw [List.size_toArray]; exact hz))
  refine wpAny_bind ?_
  unfold BaseException.bexcPut
  refine wpAny_bind (wpAny_field (N1 _ (.tail _ (.head _))).1 rfl rfl ?_)
  refine wpAny_bind (wpAny_setField (N1 _ (.tail _ (.head _))).1 rfl (by show 0 < 6; decide) ?_)
  refine wpAny_letGo ?_
  exact wpAny_pure (h _ _ F2 fun p hp => N2 p (.tail _ hp))
end
end Mine
end
section
open PySem PySem.W PyProof.Rows PySem.Calls
namespace Mine
theorem fresh_NInit : True := by w_top off; trivial
theorem excType_meta : typeOf (.type "Exception") = pure (.type "type") := by kernel_rfl
local macro_rules | `(tactic| walk_at "getMethod type:Exception") => `(tactic| (k_here; refine' method_type ?F ?X excType_meta (by decide +kernel) ?e ?h ?_; (case F => k_asm); (case X => k_asm); (case e => k_dflt k_is); (case h => k_handed)))
noncomputable abbrev fDict (w : World) (x : Str) (k : Int) (t1 t2 t3 t4 : Tok) : Obj := dictOf [⟨PyData.keyHash w.params (Str.ofString "what"), .str (Str.ofString "what") t1, .str x t2⟩, ⟨PyData.keyHash w.params (Str.ofString "at"), .str (Str.ofString "at") t3, .int k t4⟩] 2
noncomputable abbrev fObj (dx : Addr) (a0 : Value) : Obj := { cls := .ref 59, dict := some dx, data := .fields #[a0, .none, .none, .none, .bool false, .none] }
set_option maxRecDepth 100000 in
set_option maxHeartbeats 8000000 in
theorem init_call (w : World) (mean : ExcName → Option Value) (mg mb : Str → Option Value) (e tp : Addr) (x : Str) (k : Int) (t1 t2 : Tok) (news : List (Addr × Obj)) (hne : ∀ p ∈ news, p.1 < e)
  (dp un : Nat) (gd : Option (List Code)) (cn : Str) (cs : Scope) (a : Addr) (ccd : Value) (cl : List (Str × Addr)) (outer : List Env) (A₀ : Around) (base h₀ : Heap) (L : Addr) (m : Str → Option Value) (s : Shared) (Q E : Value → Shared → Prop)
  (B : Below A₀ base outer h₀) (F : Fr h₀ L s.heap m) (X : (hd.heap_1 w.params).In h₀) (N : News h₀ L s.heap ((e, excBorn 59 tp) :: news)) (T : Top hd.view_1 LO mean mg mb h₀) (hk : cs.kind = .function)
  (hd : dp + 1 < recursionLimit) (hu : un + 8 < cLine)
  (hret : ∀ (dx : Addr) (a0 : Value) (o : Obj) (h' : Heap) (tk' : Nat), Fr h₀ L h' m → News h₀ L h' ((e, ({ cls := .ref 59, dict := some dx, data := .fields #[a0, .none, .none, .none, .bool false, .none] } : Obj)) :: (dx, o) :: news) → AtDict w k o → dx ≠ e → Q .none { s with heap := h', toks := tk' }) :
    wpAny (model PySem.Challenge.rw_no0365_01.row.prog w) (ktrTop dp un gd cn cs L a ccd cl outer) (call (.ref 36) [.ref e, .str x t1, .int k t2]) Q E s := by
  revert hret
  revert X
  k_fill
  intro X hret
  (refine wpAny_call ?_; k_dflt (refine' code_def ?k1 ?k2 ?k3 ?k4 ?k5 ?kA ?kF ?kK ?k6 ?k7 ?k8 ?k9 ?kB ?_ ?c2 ?c3 ?c4 ?c5; (case kA => exact rfl); (case kF => exact rfl); (case kK => assumption); (case k1 => k_asm); (case k2 => k_asm); (case k3 => k_asm); (case k4 => k_asm); (case k5 => k_asm); (case k6 => k_is); (case k7 => k_is); (case k8 => ktr_room); (case k9 => first | exact BindsTo.of_eq rfl | exact binds_K (by k_in) rfl (by k_is) rfl rfl rfl); (case c5 => decide); (case kB => exact locs rfl); (case c2 => exact rfl); (case c3 => exact rfl); (case c4 => exact rfl); k_whole))
  intro g L' h₁ FG F1 N1 B1 X1 T1
  replace F1 : Fr g L' h₁ (fun y => List.lookup y [(Str.ofString "at", Value.int k t2), (Str.ofString "what", Value.str x t1), (Str.ofString "self", Value.ref e)]) := F1
  dsimp only
  try k_fold
  k_steps
  have XC := (X1.keeps F1.keep) 59
  refine' exc_init (C := 59) F1 N1 (fun p hp => Nat.ne_of_lt (hne p hp)) ?hbE (XC _ ?hC) ?hz ?_
  case hC => k_dflt k_is
  case hbE => decide +kernel
  case hz => exact Nat.le_of_ble_eq_true rfl
  intro tp' h2 F2 N2
  try k_fold
  k_steps
  refine' exc_set_first (C := 59) F2 (X1.keeps F2.keep) N2 (fun p hp => Nat.ne_of_lt (hne p hp)) ?hc ?hr ?h1 ?h2 ?h3 ?h4 ?h5 ?_
  case hc => k_dflt k_is
  case hr => exact fun self => exc_refuse self 59 46
  case h1 => rfl
  case h2 => decide +kernel
  case h3 => rfl
  case h4 => k_dflt k_is
  case h5 => k_dflt k_is
  intro dx h3 tk tk' F3 N3 hl1 hl2
  try k_fold
  k_steps
  refine' exc_set_next (C := 59) F3 (X1.keeps F3.keep) N3 (fun p hp => Nat.ne_of_lt (hl1 p hp)) (Nat.ne_of_lt hl2) ?hc ?hr ?h1 ?h2 ?h3 ?h4 ?h5 rfl ?he ?hz ?_
  case hc => k_dflt k_is
  case hr => exact fun self => exc_refuse self 59 46
  case h1 => rfl
  case h2 => decide +kernel
  case h3 => rfl
  case h4 => k_dflt k_is
  case h5 => k_dflt k_is
  case he => k_dflt k_put
  case hz => exact Nat.le_of_ble_eq_true rfl
  intro h4 tk4 F4 N4
  try k_fold
  k_steps
  have kF : Fr h₀ L h4 m := by assumption
  have kN : News h₀ L h4 ((dx, fDict w x k tk t1 (tk' + 1) t2) :: (e, fObj dx (.ref tp')) :: news) := by assumption
  refine hret dx (.ref tp') (fDict w x k tk t1 (tk' + 1) t2) h4 tk4 kF (fun p hp => kN p ?_) ⟨x, tk, t1, tk' + 1, t2, rfl⟩ (Nat.ne_of_gt hl2)
  rcases List.mem_cons.mp hp with rfl | hp
  · exact .tail _ (.head _)
  · rcases List.mem_cons.mp hp with rfl | hp
    · exact .head _
    · exact .tail _ (.tail _ hp)
set_option maxRecDepth 100000 in
set_option maxHeartbeats 8000000 in
theorem fault_call (w : World) (mean : ExcName → Option Value) (mg mb : Str → Option Value) (x : Str) (k : Int) (t1 t2 : Tok) (news : List (Addr × Obj))
  (dp un : Nat) (gd : Option (List Code)) (cn : Str) (cs : Scope) (a : Addr) (ccd : Value) (cl : List (Str × Addr)) (outer : List Env) (A₀ : Around) (base h₀ : Heap) (L : Addr) (m : Str → Option Value) (s : Shared) (Q E : Value → Shared → Prop)
  (B : Below A₀ base outer h₀) (F : Fr h₀ L s.heap m) (X : (hd.heap_1 w.params).In h₀) (N : News h₀ L s.heap news) (T : Top hd.view_1 LO mean mg mb h₀) (hk : cs.kind = .function)
  (hd : dp + 2 < recursionLimit) (hu : un + 16 < cLine)
  (hret : ∀ (e dx : Addr) (a0 : Value) (o : Obj) (h' : Heap) (tk' : Nat), Fr h₀ L h' m → News h₀ L h' ((e, ({ cls := .ref 59, dict := some dx, data := .fields #[a0, .none, .none, .none, .bool false, .none] } : Obj)) :: (dx, o) :: news) → AtDict w k o → (∀ p ∈ (dx, o) :: news, p.1 ≠ e) → Q (.ref e) { s with heap := h', toks := tk' }) :
    wpAny (model PySem.Challenge.rw_no0365_01.row.prog w) (ktrTop dp un gd cn cs L a ccd cl outer) (call (.ref 59) [.str x t1, .int k t2]) Q E s := by
  revert hret
  revert X
  k_fill
  intro X hret
  have XX := X.keeps F.keep
  have XC := XX 59
  obtain ⟨hh, g, d, t, os⟩ := s
  have f1 := tc_lookup
  have f2 := tc_bind (.ref 59)
  refine wpAny_call (codeAny_of_tree ?_)
  show wpAny _ _ (callAny (.ref 59) _) _ _ _
  have hC : hh.get? 59 = some (excClassObj (Str.ofString "WordFault") (Str.ofString "WordFault") 59 58 [.ref 46] [.ref 46, .type "Exception", .type "BaseException", .type "object"] true [] [] false none none (some (.ref 50)) none (some (.str (Str.ofString "WordFault") 236)) (some (.str (Str.ofString "WordFault") 244)) (some (.bool true)) "Exception.__new__") := XC _ (by k_dflt k_is)
  have hT : (⟨hh, g, d, t, os⟩ : Shared).TypeIs (.ref 59) "type" := ⟨_, hC, rfl⟩
  repeat (any_goals (first | assumption | with_reducible refine wpAny_loadPart_at hC ?_ | wp_step))
  refine ⟨rfl, ?_⟩
  have hi : Looks (model PySem.Challenge.rw_no0365_01.row.prog w) hh (typeLookup (.ref 59) "__init__") (some (.ref 36)) := looks_findIn XX (by k_dflt k_is)
  have hbnd : ∀ self, Looks (model PySem.Challenge.rw_no0365_01.row.prog w) hh (bindSpecial (.ref 36) self) (.ref 36, [self]) := fun self => bind_fn XX self (by k_dflt k_is)
  refine codeAny_call_builtin_at (Code.quiet_builtin _ (by decide +kernel)) entry_typeCall (wpAny_check_type_call_sub hC (fault_type_call (hrest := Nat.le_of_ble_eq_true rfl) (by decide +kernel) (by decide +kernel) (by decide +kernel) hC hi hbnd ?_))
  have N1 := (N.push F (tupOf [.str x t1, .int k t2])).push (F.push _) (excBorn 59 hh.objs.size)
  have F1 := (F.push (tupOf [.str x t1, .int k t2])).push (excBorn 59 hh.objs.size)
  rw [Heap.size_push] at N1
  have hlt : ∀ p ∈ news, p.1 < hh.objs.size := fun p hp => Heap.lt_size (N p hp).1
  have N2 : News h₀ L ((hh.push (tupOf [.str x t1, .int k t2])).push (excBorn 59 hh.objs.size)) ((hh.objs.size + 1, excBorn 59 hh.objs.size) :: news) := fun p hp => N1 p (by
    rcases List.mem_cons.mp hp with rfl | hp
    · exact .head _
    · exact .tail _ (.tail _ hp))
  refine init_call w mean mg mb (hh.objs.size + 1) hh.objs.size x k t1 t2 news (fun p hp => Nat.lt_succ_of_lt (hlt p hp)) _ _ _ cn cs a ccd cl outer A₀ base h₀ L m _ _ _ B F1 X N2 T hk ?_ ?_ ?_
  · show dp + 1 + 1 < recursionLimit; omega
  · show un + 1 + 8 < cLine; omega
  · intro dx a0 o h' tk' F' N' ha hne
    refine ⟨rfl, hret _ dx a0 o h' tk' F' N' ha fun p hp => ?_⟩
    rcases List.mem_cons.mp hp with rfl | hp
    · exact hne
    · exact Nat.ne_of_lt (Nat.lt_succ_of_lt (hlt p hp))
end Mine
end
section
open PySem PySem.W PyProof.Rows PySem.Calls
namespace Mine
theorem fresh_NRaise : True := by w_top off; trivial
noncomputable abbrev fClass : Obj := excClassObj (Str.ofString "WordFault") (Str.ofString "WordFault") 59 58 [.ref 46] [.ref 46, .type "Exception", .type "BaseException", .type "object"] true [] [] false none none (some (.ref 50)) none (some (.str (Str.ofString "WordFault") 236)) (some (.str (Str.ofString "WordFault") 244)) (some (.bool true)) "Exception.__new__"
noncomputable def RaisableO (E : Value → Shared → Prop) (v : Value) (s₁ : Shared) : Prop :=
  ∃ a dx a0, v = .ref a ∧ s₁.heap.get? a = some (fObj dx a0) ∧ s₁.heap.get? 59 = some fClass ∧ E (.ref a) s₁
set_option maxRecDepth 100000 in
theorem Raise_own {M : Model} {A : Around} {E : Value → Shared → Prop} {s : Shared} {env : Env} {e : PySem.Expr} {pos : Pos} {Q : Flow → Shared → Prop} (hh : A.handled = none)
    (h : wpAny M A (eval e env) (RaisableO E) E s) : wpAny M A (exec (.Raise (some e) none pos) env) Q E s := by
  show wpAny M A (do standAt pos; raiseStmt env (some (do let v ← eval e env; standAt pos; pure v)) none) Q E s
  refine wpAny_bind (wpAny_standAt ?_)
  unfold raiseStmt
  refine wpAny_bind (wpAny_bind (wpAny_mono h (fun v s₁ h₁ => wpAny_bind (wpAny_standAt (wpAny_pure ?_))) fun _ _ x => x))
  obtain ⟨a, dx, a0, rfl, he, hC, hE⟩ := h₁
  obtain ⟨hp, g, d, tk, os⟩ := s₁
  have hcB : (Value.ref 59 :: [Value.ref 46, .type "Exception", .type "BaseException", .type "object"]).contains (.type "BaseException") = true := by decide +kernel
  repeat (first | with_reducible refine wpAny_loadPart_at he ?_ | with_reducible refine wpAny_loadPart_at hC ?_ | (with_reducible refine wpAny_isSubtype_exc hC ?_; rw [hcB]) | wp_step)
  exact wpAny_raiseNew_none hh hE
end Mine
end
section
open PySem PySem.W PyProof.Rows PySem.Calls Builtin
namespace Mine
theorem fresh_NRules : True := by w_top off; trivial
set_option maxRecDepth 100000
theorem gives_in_int (l : List UInt8) (c : Int) (h0 : 0 ≤ c) (h1 : c < 256) (t u : Tok) : Gives («bytes.__contains__» ⟨[.bytes l.toArray t, .int c u], []⟩) (.val (.bool (l.contains c.toNat.toUInt8))) := by
  refine .of_wp fun M A E s Q hq => ?_
  show wpAny M A (Bytes.containsIn "bytes.__contains__" (.bytes l.toArray t) (.int c u) >>= fun r => _) _ E s
  refine wpAny_bind ?_
  unfold Bytes.containsIn
  refine wpAny_bind (wpAny_attempt (wpAny_of_eq (a := c) rfl ?_))
  rw [KBy.buffer_eq]
  refine wpAny_bind (wpAny_pure ?_)
  dsimp only
  have hc : (decide (c < 0) || decide (c ≥ 256)) = false := by simp; omega
  rw [hc]
  simp only [Bool.false_eq_true, if_false]
  refine wpAny_pure ?_
  have hq2 : Q (.bool (l.contains c.toNat.toUInt8)) s := hq
  exact wpAny_pure ⟨_, rfl, by simpa using hq2⟩
section
variable {prog : Program} {w : World} {A : Around} {E : Value → Shared → Prop} {s : Shared} {d l : List UInt8} {t u : Tok} {h₀ : Heap} {L : Addr} {m : PySem.Str → Option Value} {news : List (Addr × Obj)} {value slice : PySem.Expr} {Q : Value → Shared → Prop} {n : Nat} {c : Int}
theorem in_int_B (h0 : 0 ≤ c) (h1 : c < 256) (h : Q (.bool (l.contains c.toNat.toUInt8)) s) : wpAny (model prog w) A (compareOp .In (.int c t) (.bytes l.toArray u)) Q E s :=
  in_gives (typeIs_bytes s _ _) FB.slot_bytes_contains FB.entry_bytes_contains (FB.args_bytes_contains_2 _ _) (gives_in_int l c h0 h1 u t) h
theorem eq_B (h : Q (.bool (decide (d = l))) s) : wpAny (model prog w) A (compareOp .Eq (.bytes d.toArray t) (.bytes l.toArray u)) Q E s :=
  eq_bytes (by
    have e : (d.toArray.toList == l.toArray.toList) = decide (d = l) := by rw [Bool.eq_iff_iff]; simp
    rw [e]; exact h)
theorem ne_B (h : Q (.bool (!decide (d = l))) s) : wpAny (model prog w) A (compareOp .NotEq (.bytes d.toArray t) (.bytes l.toArray u)) Q E s :=
  ne_bytes (by
    have e : (d.toArray.toList != l.toArray.toList) = !decide (d = l) := by rw [bne, Bool.eq_iff_iff]; simp
    rw [e]; exact h)
theorem item_B (hz : d.length ≤ 16777216) (hn : n < d.length) (h : ∀ t' k, Q (.int (cAt d n) t') { s with toks := k })
    (hs : subscripted slice false (.bytes d.toArray t) (.int (n : Int) u) = operate [.bytes d.toArray t, .int (n : Int) u] (getItem (.bytes d.toArray t) (.int (n : Int) u)) := by with_unfolding_all rfl)
    (ht : ∀ r, letTemporaryGo value (.bytes d.toArray t) r = pure () := by intro _; with_unfolding_all rfl) : wpAny (model prog w) A (subscriptTail value slice (.bytes d.toArray t) (.int (n : Int) u)) Q E s :=
  tail_of_ItemOn ⟨"bytes", _, FB.slot_bytes_getitem.lookup, typeIs_bytes _ _ _, getItem_bytes (by omega) (by omega) (by omega) (h _ _)⟩ hs ht
theorem item_B1 (hz : d.length ≤ 16777216) (hn : n + 1 < d.length) (h : ∀ t' k, Q (.int (cAt d (n + 1)) t') { s with toks := k })
    (hs : subscripted slice false (.bytes d.toArray t) (.int ((n : Int) + 1) u) = operate [.bytes d.toArray t, .int ((n : Int) + 1) u] (getItem (.bytes d.toArray t) (.int ((n : Int) + 1) u)) := by with_unfolding_all rfl)
    (ht : ∀ r, letTemporaryGo value (.bytes d.toArray t) r = pure () := by intro _; with_unfolding_all rfl) : wpAny (model prog w) A (subscriptTail value slice (.bytes d.toArray t) (.int ((n : Int) + 1) u)) Q E s :=
  tail_of_ItemOn ⟨"bytes", _, FB.slot_bytes_getitem.lookup, typeIs_bytes _ _ _, getItem_bytes (by omega) (by omega) (by omega) (h _ _)⟩ hs ht
theorem slice_gen {i j : Int} {ti tj : Tok} (hF : Fr h₀ L s.heap m) (hN : News h₀ L s.heap news) (h0 : 0 ≤ i) (h1 : 0 ≤ j) (hz : d.length ≤ 16777216)
    (h : ∀ h' t' k, Fr h₀ L h' m → News h₀ L h' news → Q (.bytes (sub d i.toNat (j.toNat - i.toNat)).toArray t') { s with heap := h', toks := k })
    (hs : subscripted slice false (.bytes d.toArray t) (.ref s.heap.objs.size) = operate [.ref s.heap.objs.size, .bytes d.toArray t] (getItem (.bytes d.toArray t) (.ref s.heap.objs.size)) := by with_unfolding_all rfl)
    (ht : ∀ r, letTemporaryGo value (.bytes d.toArray t) r = pure () := by intro _; with_unfolding_all rfl) :
    wpAny (model prog w) A (subscriptTail value slice (.bytes d.toArray t) (.ref s.heap.objs.size)) Q E { s with heap := s.heap.push { cls := .type "slice", data := .fields #[.int i ti, .int j tj, .none] } } := by
  have e : KBy.picked d.toArray (some i) (some j) = (sub d i.toNat (j.toNat - i.toNat)).toArray := by
    rw [KBc.picked_eq]
    have hc : ∀ x : Int, 0 ≤ x → clipAt d.toArray.size x = min x.toNat d.length := fun x hx => by
      obtain ⟨k, rfl⟩ := Int.eq_ofNat_of_zero_le hx
      rw [clipAt_nat]; simp
    simp only [Option.elim, hc i h0, hc j h1, sub]
    congr 1
    by_cases q : i.toNat ≤ d.length
    · rw [Nat.min_eq_left q]
      by_cases r : j.toNat ≤ d.length
      · rw [Nat.min_eq_left r]
      · have r' : d.length ≤ j.toNat := by omega
        rw [Nat.min_eq_right r', List.take_of_length_le (by simp), List.take_of_length_le (by simp; omega)]
    · have q' : d.length ≤ i.toNat := by omega
      rw [Nat.min_eq_right q']
      simp [q']
  refine tail_of_ItemOn ⟨"bytes", _, FB.slot_bytes_getitem.lookup, typeIs_bytes _ _ _, getItem_meets (typeIs_bytes _ _ _) (by decide) FB.slot_bytes_getitem FB.entry_bytes_getitem (FB.args_bytes_getitem_2 _ _) (KBc.meets_slice2 d.toArray t _ (IsPart.int i ti) (IsPart.int j tj))
    ⟨Heap.IsSliceOf.new _ _ _ _, ?_, fun t' k => ?_⟩⟩ hs ht
  · rw [e]; simp [sub]; rw [sizeLine_eq]; omega
  · rw [e]
    exact h _ _ _ (hF.push _) (News.pushKeep hN _)
theorem len_B {d : List UInt8} (hz : d.length ≤ 16777216) (h : ∀ t' k, Q (.int (d.length : Int) t') { s with toks := k }) : wpAny (model prog w) A (call (.builtin "len") [.bytes d.toArray t]) Q E s :=
  len_bytes (by show d.length ≤ 1099511627776; omega) (h _ _)
theorem in_nev {K : Frag} {a : Addr} {m : PySem.Str → Option Value} {dd : Option Addr} {sl : Array (Option Value)} {n : Nat} {t0 t1 t2 : Tok} (hF : Fr h₀ L s.heap m) (X : K.In h₀) (hl : K.lookup a = some ⟨.type "tuple", dd, .seq [.int 0 t0, .int 10 t1, .int 13 t2].toArray n, sl⟩)
    (h : Q (.bool (nev c)) s) : wpAny (model prog w) A (compareOp .In (.int c t) (.ref a)) Q E s :=
  in_tuple_ints (tupK (X.keeps hF.keep) hl) (.cons _ _ (.cons _ _ (.cons _ _ .nil))) h
theorem slice_n {i j : Int} {ti tj : Tok} (k : Nat) (hi : i = (n : Int)) (hj : j = ((n + k : Nat) : Int)) (hF : Fr h₀ L s.heap m) (hN : News h₀ L s.heap news) (hz : d.length ≤ 16777216)
    (h : ∀ h' t' tk, Fr h₀ L h' m → News h₀ L h' news → Q (.bytes (sub d n k).toArray t') { s with heap := h', toks := tk })
    (hs : subscripted slice false (.bytes d.toArray t) (.ref s.heap.objs.size) = operate [.ref s.heap.objs.size, .bytes d.toArray t] (getItem (.bytes d.toArray t) (.ref s.heap.objs.size)) := by with_unfolding_all rfl)
    (ht : ∀ r, letTemporaryGo value (.bytes d.toArray t) r = pure () := by intro _; with_unfolding_all rfl) :
    wpAny (model prog w) A (subscriptTail value slice (.bytes d.toArray t) (.ref s.heap.objs.size)) Q E { s with heap := s.heap.push { cls := .type "slice", data := .fields #[.int i ti, .int j tj, .none] } } :=
  slice_gen hF hN (by omega) (by omega) hz (fun h' t' tk F N => by
    have e1 : i.toNat = n := by omega
    have e2 : j.toNat - n = k := by omega
    rw [e1, e2]; exact h h' t' tk F N) hs ht
end
section
variable {prog : Program} {w : World} {A : Around} {E : Value → Shared → Prop} {s : Shared} {h₀ : Heap} {L P : Addr} {m : PySem.Str → Option Value} {led rest : List (Addr × Obj)} {vs : List Value} {x : Value} {n : Nat} {Q : Value → Shared → Prop}
theorem append_M (F : Fr h₀ L s.heap m) (N : News h₀ L s.heap led) (hne : ∀ p ∈ rest, p.1 ≠ P) (hs : ∀ p ∈ (P, listOf vs.toArray n) :: rest, p ∈ led) (hz : vs.length ≤ 16777216)
    (h : ∀ h', Fr h₀ L h' m → News h₀ L h' ((P, listOf (vs ++ [x]).toArray (n + 1)) :: rest) → Q .none { s with heap := h' }) : wpAny (model prog w) A (call (.builtin "list.append") [.ref P, x]) Q E s :=
  append_K (hsz := by rw [List.size_toArray, sizeLine_eq]; exact hz) F (fun p hp => N p (hs p hp)) (.head hne) fun h' F' N' => h h' F' (by
    have e : vs.toArray.push x = (vs ++ [x]).toArray := by simp
    rw [e] at N'; exact N')
theorem append_M2 (F : Fr h₀ L s.heap m) (N : News h₀ L s.heap led) (hm : (P, listOf vs.toArray n) ∈ led) (hne : ∀ p ∈ rest, p.1 ≠ P) (hs : ∀ p ∈ rest, p ∈ led) (hz : vs.length ≤ 16777216)
    (h : ∀ h', Fr h₀ L h' m → News h₀ L h' ((P, listOf (vs ++ [x]).toArray (n + 1)) :: rest) → Q .none { s with heap := h' }) : wpAny (model prog w) A (call (.builtin "list.append") [.ref P, x]) Q E s :=
  append_M F N hne (fun p hp => by
    rcases List.mem_cons.mp hp with rfl | hp
    · exact hm
    · exact hs p hp) hz h
end
noncomputable def Halt (P : Prop) : Prop := P
theorem Halt.out {P : Prop} (h : Halt P) : P := h
section
variable {h₀ h' : Heap} {L : Addr} {m : PySem.Str → Option Value} {s : Shared} {Q : Value → Shared → Prop} {news : List (Addr × Obj)} {tk : Nat} {t : Tok}
theorem end_int {x y : Int} (hret : ∀ (r : Value) (tl : List (Addr × Obj)) (h' : Heap) (tk' : Nat), Fr h₀ L h' m → News h₀ L h' (tl ++ news) → (∃ t', r = .int x t') ∧ tl = [] → Q r { s with heap := h', toks := tk' }) (e : y = x)
    (F : Fr h₀ L h' m) (N : News h₀ L h' news) : Q (.int y t) { s with heap := h', toks := tk } := by
  subst e; exact hret _ [] _ _ F N ⟨⟨t, rfl⟩, rfl⟩
theorem end_bool {x y : Bool} (hret : ∀ (r : Value) (tl : List (Addr × Obj)) (h' : Heap) (tk' : Nat), Fr h₀ L h' m → News h₀ L h' (tl ++ news) → r = .bool x ∧ tl = [] → Q r { s with heap := h', toks := tk' }) (e : y = x)
    (F : Fr h₀ L h' m) (N : News h₀ L h' news) : Q (.bool y) { s with heap := h', toks := tk } := by
  subst e; exact hret _ [] _ _ F N ⟨rfl, rfl⟩
end
end Mine
end
section
open PySem PySem.W PyProof.Rows PySem.Calls Builtin
namespace Mine
theorem fresh_NJoin : True := by w_top off; trivial
set_option maxRecDepth 100000
theorem slot_join : Slot "bytes" "join" "bytes.join" :=
  .of (owner := "bytes") (n := "join") (by rw [typeLookup_type, builtinLookup_eq_fast]; kernel_rfl) (by decide +kernel) (by decide +kernel) (by decide +kernel)
    (by first | exact .inl (by decide +kernel) | exact .inr (by decide +kernel)) (by rw [isSubtype_type]; kernel_rfl)
theorem type_join : typeOf (.builtin "bytes.join") = pure (.type "method_descriptor") := by show builtinType _ = _; rw [builtinType_eq_fast]; kernel_rfl
theorem entry_join : entryFor table "bytes.join" = some Builtin.«bytes.join» := entryFor_of_tree (by kernel_rfl)
theorem args_join (a b : Value) : argsOk "bytes.join" ⟨[a, b], []⟩ := by unfold argsOk; kernel_rfl
inductive BytesAre : List Value → List (List UInt8) → Prop
  | nil : BytesAre [] []
  | cons (w : List UInt8) (t : Tok) {vs : List Value} {ws : List (List UInt8)} : BytesAre vs ws → BytesAre (.bytes w.toArray t :: vs) (w :: ws)
theorem BytesAre.length {vs : List Value} {ws : List (List UInt8)} (h : BytesAre vs ws) : vs.length = ws.length := by
  induction h with
  | nil => rfl
  | cons w t _ ih => simp [ih]
theorem BytesAre.snoc {vs : List Value} {ws : List (List UInt8)} (h : BytesAre vs ws) (w : List UInt8) (t : Tok) : BytesAre (vs ++ [.bytes w.toArray t]) (ws ++ [w]) := by
  induction h with
  | nil => exact .cons w t .nil
  | cons w' t' _ ih => exact .cons w' t' ih
theorem BytesAre.at {vs : List Value} {ws : List (List UInt8)} (h : BytesAre vs ws) : ∀ i : Nat, i < ws.length → ∃ t w, vs[i]? = some (.bytes w.toArray t) ∧ ws[i]? = some w := by
  induction h with
  | nil => intro i hi; exact absurd hi (Nat.not_lt_zero _)
  | cons w t _ ih =>
    intro i hi
    cases i with
    | zero => exact ⟨t, w, rfl, rfl⟩
    | succ i => simpa using ih i (by simpa using hi)
theorem forIn_list_inv {σ : Type} {M : Model} {A : Around} {E : Value → Shared → Prop} (f : Nat → σ → Sem (ForInStep σ)) (I : Nat → σ → Shared → Prop) (n : Nat) {Q : σ → Shared → Prop}
    (turn : ∀ i st s, i < n → I i st s → wpAny M A (f i st) (fun r s' => ∃ st', r = .yield st' ∧ I (i + 1) st' s') E s) (done : ∀ st s, I n st s → Q st s) :
    ∀ (k i : Nat) (st : σ) (s : Shared), i + k = n → I i st s → wpAny M A (forIn (List.range' i k) st f) Q E s
  | 0, i, st, s, e, h => by
    show wpAny M A (pure st) Q E s
    exact wpAny_pure (done st s (by rw [← e]; exact h))
  | k + 1, i, st, s, e, h => by
    show wpAny M A (forIn (i :: List.range' (i + 1) k) st f) Q E s
    rw [List.forIn_cons]
    refine wpAny_bind (wpAny_mono (turn i st s (by omega) h) (fun r s' z => ?_) fun _ _ z => z)
    obtain ⟨st', rfl, h'⟩ := z
    exact forIn_list_inv f I n turn done k (i + 1) st' s' (by omega) h'
theorem forIn_range_inv {σ : Type} {M : Model} {A : Around} {E : Value → Shared → Prop} (f : Nat → σ → Sem (ForInStep σ)) (I : Nat → σ → Shared → Prop) (n : Nat) {Q : σ → Shared → Prop} {st : σ} {s : Shared} (h : I 0 st s)
    (turn : ∀ i st s, i < n → I i st s → wpAny M A (f i st) (fun r s' => ∃ st', r = .yield st' ∧ I (i + 1) st' s') E s) (done : ∀ st s, I n st s → Q st s) :
    wpAny M A (forIn [:n] st f) Q E s := by
  rw [Std.Legacy.Range.forIn_eq_forIn_range']
  have e : List.range' (0 : Nat) ([:n].size) 1 = List.range' 0 n := by simp [Std.Legacy.Range.size]
  show wpAny M A (forIn (List.range' 0 [:n].size 1) st f) Q E s
  rw [e]
  exact forIn_list_inv f I n turn done n 0 st s (by omega) h
theorem takeQuiet_eq {id : String} {b : Array UInt8} {t : Tok} : Bytes.takeBufferQuiet? id (.bytes b t) 0 = pure (some (b, none)) := by
  unfold Bytes.takeBufferQuiet? Bytes.takeBuffer?
  have q : ((0 : Int) == Bytes.fullReadOnly) = false := by decide +kernel
  rw [KBy.special_eq KBy.look_buffer, KBy.own_buffer, q]
  rw [KBy.buffer_eq]
  kernel_rfl
theorem letGo_join {M : Model} {A : Around} {E : Value → Shared → Prop} {Q : Unit → Shared → Prop} {s : Shared} : ∀ (taken : List (Value × Option Value)) (keep : List Value), (∀ p ∈ taken, p.2 = none) → Q () s → wpAny M A (Bytes.joinLetGo taken keep) Q E s
  | [], _, _, h => wpAny_pure h
  | (x, w) :: r, keep, hn, h => by
    obtain rfl : w = none := hn _ (.head _)
    show wpAny M A (letGo [x] _ >>= fun _ => Bytes.joinLetGo r keep) Q E s
    refine wpAny_bind (wpAny_letGo ?_)
    exact letGo_join r keep (fun p hp => hn p (.tail _ hp)) h
theorem joined_nil : ∀ (ps : List (Array UInt8)), Bytes.joined #[] ps = (ps.map Array.toList).flatten.toArray := by
  have key : ∀ (ps : List (Array UInt8)) (out : Array UInt8) (k : Nat), (ps.zipIdx k).foldl (fun out (p : Array UInt8 × Nat) => (if p.2 > 0 then out ++ #[] else out) ++ p.1) out = out ++ (ps.map Array.toList).flatten.toArray := by
    intro ps
    induction ps with
    | nil => intro out k; simp
    | cons p ps ih =>
      intro out k
      rw [List.zipIdx_cons, List.foldl_cons, ih]
      apply Array.toList_inj.mp
      simp
  intro ps
  have := key ps #[] 0
  simpa [Bytes.joined] using this
theorem foldl_sizes : ∀ (ws : List (List UInt8)) (k : Nat), (ws.map List.toArray).foldl (fun n (x : Array UInt8) => n + x.size) k = k + (List.flatten ws).length
  | [], k => by simp
  | w :: ws, k => by
    rw [List.map_cons, List.foldl_cons, foldl_sizes ws]
    simp [Nat.add_assoc]
theorem join_meets {P : Addr} {vs : List Value} {ws : List (List UInt8)} {t : Tok} (hv : BytesAre vs ws) :
    Meets («bytes.join» ⟨[.bytes #[] t, .ref P], []⟩) (fun _ R s => s.heap.IsList P vs.toArray ∧ ws.flatten.length ≤ sizeLine ∧ ∀ t' k, R (.ok (.ret (.bytes ws.flatten.toArray t'))) { s with toks := k }) := by
  refine .of_wp fun prog w A R s hS => ?_
  obtain ⟨hl, hsz, h⟩ := hS
  obtain ⟨o, ho, hc, nn, hd⟩ := hl
  unfold «bytes.join» Bytes.joinM
  refine wpAny_bind (wpAny_of_eq (a := (.bytes #[] t, .ref P)) rfl ?_)
  dsimp only
  have hk1 : (Bytes.Kind.bytes == Bytes.Kind.bytes) = true := rfl
  have hk2 : (Bytes.Kind.bytes == Bytes.Kind.bytearray) = false := rfl
  rw [if_pos hk1]
  refine wpAny_bind ?_
  unfold Bytes.joinItems
  refine wpAny_bind (wpAny_typeOf (T := "list") ⟨o, ho, hc⟩ ?_)
  refine wpAny_pure ?_
  have items : ∀ {Q : Option (Array Value) → Shared → Prop} {E : Value → Shared → Prop} {A : Around}, Q (some vs.toArray) s → wpAny (model prog w) A (seqItems? (.ref P)) Q E s := fun hq => by
    unfold seqItems?
    refine wpAny_bind (wpAny_load ho ?_)
    rw [hd]
    exact wpAny_pure hq
  refine wpAny_bind (items ?_)
  dsimp only
  rw [if_pos hk1]
  have loop : ∀ {E : Value → Shared → Prop} {α : Type} {k : Array (Array UInt8) × List (Value × Option Value) → Sem α} {Q : α → Shared → Prop} {f : Nat → Array (Array UInt8) × List (Value × Option Value) → Sem (ForInStep (Array (Array UInt8) × List (Value × Option Value)))},
      (∀ i parts taken, i < vs.length → (taken.any fun x : Value × Option Value => x.1.onHeap) = false → ∀ {E : Value → Shared → Prop} {Q : _ → Shared → Prop} {b : Array UInt8} {u : Tok}, vs[i]? = some (.bytes b u) → Q (.yield (parts.push b, taken ++ [(.bytes b u, none)])) s → wpAny (model prog w) A.in1 (f i (parts, taken)) Q E s) →
      (∀ parts taken, parts.toList = ws.map List.toArray → (∀ p ∈ taken, p.2 = none) → wpAny (model prog w) A.in1 (k (parts, taken)) Q E s) →
      wpAny (model prog w) A.in1 (forIn [:vs.toArray.size] (#[], []) f >>= k) Q E s := by
    intro E α k Q f hf hk
    refine wpAny_bind ?_
    have hn : vs.toArray.size = vs.length := by simp
    rw [hn]
    refine forIn_range_inv f (fun i st s' => s' = s ∧ st.1.toList = (ws.take i).map List.toArray ∧ (st.2.any fun x => x.1.onHeap) = false ∧ ∀ p ∈ st.2, p.2 = none) vs.length ⟨rfl, by simp, rfl, fun _ hp => nomatch hp⟩ ?_ ?_
    · rintro i ⟨parts, taken⟩ s' hi ⟨rfl, h1, h2, h3⟩
      obtain ⟨u, w', e1, e2⟩ := hv.at i (by rw [← hv.length]; exact hi)
      refine hf i parts taken hi h2 e1 ⟨_, rfl, rfl, ?_, ?_, ?_⟩
      · have h1' : parts.toList = List.map List.toArray (ws.take i) := h1
        show (parts.push w'.toArray).toList = _
        rw [Array.toList_push, h1', List.take_add_one, e2]
        simp
      · have h2' : (taken.any fun x => x.1.onHeap) = false := h2
        show ((taken ++ [_]).any fun x : Value × Option Value => x.1.onHeap) = false
        rw [List.any_append, h2']
        rfl
      · intro p hp
        rcases List.mem_append.mp hp with hp | hp
        · exact h3 p hp
        · rw [List.mem_singleton.mp hp]
    · rintro ⟨parts, taken⟩ s' ⟨rfl, h1, h2, h3⟩
      exact hk parts taken (by rw [h1, List.take_of_length_le (by rw [hv.length]; exact Nat.le_refl _)]) h3
  have one : ∀ (x : Value), vs = [x] → ∀ {E : Value → Shared → Prop} {rest : Sem PySem.Fin}, wpAny (model prog w) A.in1 (do
      let r ← typeOf x
      if (r == Value.type "bytes") = true then do rule "bytes.join.one-item"; ret x else rest) (fun fin s' => ∃ v, fin = .done (.ret v) ∧ R (.ok (.ret v)) s') E s := by
    intro x hvx E rest
    subst hvx
    cases hv with
    | cons w u h9 =>
      cases h9
      refine wpAny_bind (wpAny_typeOf (T := "bytes") (typeIs_bytes _ _ _) ?_)
      rw [if_pos (by simp)]
      refine wpAny_bind (wpAny_rule ?_)
      refine wpAny_pure ⟨_, rfl, ?_⟩
      have := h u s.toks
      simpa using this
  have hgd : ∀ {l : List Value} {i : Nat} {v : Value}, l[i]? = some v → l.toArray.getD i Value.none = v := by
    intro l i v hv
    obtain ⟨hlt, e⟩ := List.getElem?_eq_some_iff.mp hv
    simp [Array.getD, hlt, e]
  rcases vs with _ | ⟨x, _ | ⟨y, r⟩⟩
  rotate_left
  · exact one _ rfl
  all_goals
    refine loop ?_ ?_
    · intro i parts taken hi hany E Q b u hx hq
      dsimp only
      refine wpAny_bind (items ?_)
      dsimp only
      rw [hk2, hany]
      simp only [Bool.or_self, Bool.false_eq_true, if_false]
      rw [hgd hx]
      rw [takeQuiet_eq]
      refine wpAny_bind (wpAny_holding (wpAny_pure ?_))
      dsimp only
      refine wpAny_bind (items ?_)
      dsimp only
      rw [if_neg (by simp)]
      exact wpAny_pure hq
    · intro parts taken hp ht
      have ej : Bytes.joined #[] parts.toList = (List.flatten ws).toArray := by
        rw [joined_nil, hp, List.map_map]
        congr 1
        have : (Array.toList ∘ List.toArray : List UInt8 → List UInt8) = _root_.id := by funext x; simp
        rw [this, List.map_id]
      have el : parts.foldl (fun n (x : Array UInt8) => n + x.size) 0 = (List.flatten ws).length := by
        rw [← Array.foldl_toList, hp]
        exact foldl_sizes ws 0 |>.trans (by simp)
      dsimp only
      refine wpAny_bind (wpAny_of_eq (a := #[]) rfl ?_)
      rw [if_neg ?hl]
      case hl =>
        show ¬ Bytes.tooLong (parts.foldl (fun n (x : Array UInt8) => n + x.size) (0 * (parts.size - 1))) = true
        rw [Nat.zero_mul, el]
        simp [Bytes.tooLong]
        simpa using hsz
      refine wpAny_bind ?_
      show wpAny _ _ (mkBytes _) _ _ _
      rw [ej]
      refine wpAny_mkBytes ?_ ?_
      · refine wpAny_bind (wpAny_holding (wpAny_point ?_))
        refine wpAny_bind (letGo_join _ _ ht ?_)
        exact wpAny_pure ⟨_, rfl, h _ _⟩
      · simpa using hsz
section
variable {prog : Program} {w : World} {A : Around} {E : Value → Shared → Prop} {s : Shared} {t : Tok} {h₀ : Heap} {L : Addr} {m : PySem.Str → Option Value} {news : List (Addr × Obj)}
theorem join_B {P : Addr} {vs : List Value} {ws : List (List UInt8)} {n : Nat} {Q : Value → Shared → Prop} (N : News h₀ L s.heap news) (hP : (P, listOf vs.toArray n) ∈ news) (hv : BytesAre vs ws) (hz : ws.flatten.length ≤ 16777216)
    (h : ∀ t' k, Q (.bytes ws.flatten.toArray t') { s with toks := k }) : wpAny (model prog w) A (call (.builtin "bytes.join") [.bytes #[] t, .ref P]) Q E s :=
  call_meets slot_join (typeIs_bytes _ _ _) entry_join (args_join _ _) (join_meets hv) ⟨⟨_, (N _ hP).1, rfl, _, rfl⟩, by rw [sizeLine_eq]; exact hz, h⟩
theorem join_method {M : Model} {b : Array UInt8} {pl : Sem Bool} {Q : Value × List Value → Shared → Prop} (h : Q (.builtin "bytes.join", [.bytes b t]) s) : wpAny M A (getMethod (.bytes b t) "join" pl) Q E s := by
  with_reducible exact KBd.method_of (.bytes b t) (typeIs_bytes _ _ _) slot_join type_join KBd.noRef h
end
theorem News.drop2 {h₀ h' : Heap} {L : Addr} {p q : Addr × Obj} {l : List (Addr × Obj)} (N : News h₀ L h' (p :: q :: l)) : News h₀ L h' ([p] ++ l) := fun x hx => N x (by
  simp only [List.cons_append, List.nil_append, List.mem_cons] at hx ⊢; rcases hx with h | h
  · exact .inl h
  · exact .inr (.inr h))
theorem News.drop3 {h₀ h' : Heap} {L : Addr} {p q r : Addr × Obj} {l : List (Addr × Obj)} (N : News h₀ L h' (p :: q :: r :: l)) : News h₀ L h' ([p] ++ l) := News.drop2 (News.drop2 N)
theorem dup2 {A B : PySem.Str} {a b c d : Option Value} {r : PySem.Str → Option Value} : (fun y => if y = A then a else if y = B then b else if y = A then c else if y = B then d else r y) = fun y => if y = A then a else if y = B then b else r y := by
  funext y; repeat' split
  all_goals first | rfl | contradiction
theorem dup1 {A : PySem.Str} {a b : Option Value} {r : PySem.Str → Option Value} : (fun y => if y = A then a else if y = A then b else r y) = fun y => if y = A then a else r y := by
  funext y; repeat' split
  all_goals first | rfl | contradiction
theorem News.drop1 {h₀ h' : Heap} {L : Addr} {p : Addr × Obj} {l : List (Addr × Obj)} (N : News h₀ L h' (p :: l)) : News h₀ L h' l := fun x hx => N x (List.mem_cons_of_mem _ hx)
end Mine
end
section
open PySem PySem.W PyProof.Rows PySem.Calls Builtin
namespace Mine
theorem fresh_NIn : True := by w_top off; trivial
set_option maxRecDepth 100000
theorem noIndex_bytes : typeLookup (.type "bytes") "__index__" = pure none := by rw [typeLookup_type, builtinLookup_eq_fast]; kernel_rfl
section
variable {prog : Program} {w : World} {A : Around} {E : Value → Shared → Prop} {s : Shared} {h₀ : Heap} {L : Addr} {m : PySem.Str → Option Value} {news : List (Addr × Obj)}
theorem asIndex_bytes {x : Array UInt8} {t : Tok} {Q : Int → Shared → Prop} (hh : A.handled = none) (h : ∀ h' tk e, Heap.NewExc s.heap h' e "TypeError" → E (.ref e) { s with heap := h', toks := tk }) :
    wpAny (model prog w) A (asIndex (.bytes x t)) Q E s := by
  unfold asIndex
  refine wpAny_bind (m := asInt? (.bytes x t)) (wpAny_of_eq (a := none) rfl ?_)
  dsimp only
  skip
  refine wpAny_bind (wpAny_callSpecial?_none (name := PySem.Str.ofString "__index__") (typeIs_bytes _ _ _) noIndex_bytes ?_)
  dsimp only
  refine wpAny_bind (m := typeNameOfCut 200 (.bytes x t)) (wpAny_of_eq (a := "bytes") rfl ?_)
  exact_raiseError plainExc_TypeError hh h
theorem in_bytes_B {x b : List UInt8} {t u : Tok} {Q : Value → Shared → Prop} (hh : A.handled = none) (F : Fr h₀ L s.heap m) (N : News h₀ L s.heap news)
    (h : ∀ h' tk, Fr h₀ L h' m → News h₀ L h' news → Q (.bool (Bytes.find? b.toArray x.toArray 0 b.toArray.size).isSome) { s with heap := h', toks := tk }) :
    wpAny (model prog w) A (compareOp .In (.bytes x.toArray t) (.bytes b.toArray u)) Q E s := by
  show wpAny _ _ (do return .bool (← contains (.bytes b.toArray u) (.bytes x.toArray t))) Q E s
  refine wpAny_bind (wpAny_contains_slot (typeIs_bytes _ _ _) FB.slot_bytes_contains ?_)
  refine wpAny_call (codeAny_call_builtin FB.slot_bytes_contains.plain FB.entry_bytes_contains (FB.slot_bytes_contains.check _ _ _ _ _ _ _ _ (typeIs_bytes _ _ _) (FB.args_bytes_contains_2 _ _) ?_))
  show wpAny _ _ (Bytes.containsIn "bytes.__contains__" (.bytes b.toArray u) (.bytes x.toArray t) >>= fun r => _) _ _ s
  refine wpAny_bind ?_
  unfold Bytes.containsIn
  refine wpAny_bind (wpAny_attempt (asIndex_bytes (by exact hh) ?_))
  intro h' tk e hx
  rw [KBy.buffer_eq]
  refine wpAny_bind (wpAny_pure ?_)
  dsimp only
  rw [KBy.buffer_eq]
  refine wpAny_bind (wpAny_pure ?_)
  dsimp only
  refine wpAny_bind (wpAny_rule ?_)
  refine wpAny_pure ?_
  refine wpAny_pure ?_
  dsimp only
  refine wpAny_pure ?_
  refine wpAny_pure ?_
  exact h _ _ ⟨let ⟨o, es, ep, h1, h2⟩ := F.ns; ⟨o, es, ep, hx.keeps _ _ h1, h2⟩, fun b o q => hx.keeps _ _ (F.keep b o q), F.above⟩ (News.keeps N hx.keeps)
end
theorem find_signs (c : UInt8) : (Bytes.find? [60, 62, 64, 44, 59, 58, 46, 92].toArray [c].toArray 0 [60, 62, 64, 44, 59, 58, 46, (92 : UInt8)].toArray.size).isSome = [60, 62, 64, 44, 59, 58, 46, 92].contains c := by
  show (List.find? _ [0, 1, 2, 3, 4, 5, 6, 7]).isSome = _
  rw [Bool.eq_iff_iff]
  simp only [List.find?_isSome]
  simp
  constructor
  · rintro (h | h | h | h | h | h | h | h) <;> simp_all
  · rintro (h | h | h | h | h | h | h | h) <;> simp_all
end Mine
end
section
open PySem PySem.W PyProof.Rows PySem.Calls
namespace Mine
theorem fresh_NMac : True := by w_top off; trivial
noncomputable def TestEnd (h₀ : Heap) (L : Addr) (m : Str → Option Value) (news : List (Addr × Obj)) (s : Shared) (P : Prop) [Decidable P] (b : Bool) (s' : Shared) : Prop :=
  ∃ h' tk, s' = { s with heap := h', toks := tk } ∧ Fr h₀ L h' m ∧ News h₀ L h' news ∧ b = decide P
theorem If_join {M : Model} {A : Around} {E : Value → Shared → Prop} {s : Shared} {env : Env} {test : PySem.Expr} {body orelse : List Stmt} {pos : Pos} {Q : Flow → Shared → Prop} {h₀ : Heap} {L : Addr} {m : Str → Option Value} {news : List (Addr × Obj)} (P : Prop) [Decidable P]
    (h1 : wpAny M A (isTrue test env (eval test env)) (TestEnd h₀ L m news s P) E s)
    (h2 : ∀ h' tk, Fr h₀ L h' m → News h₀ L h' news → P → wpAny M A (execs body env) Q E { s with heap := h', toks := tk })
    (h3 : ∀ h' tk, Fr h₀ L h' m → News h₀ L h' news → ¬ P → wpAny M A (execs orelse env) Q E { s with heap := h', toks := tk }) :
    wpAny M A (exec (.If test body orelse pos) env) Q E s := by
  refine wpAny_If (wpAny_mono h1 (fun b s' z => ?_) fun _ _ x => x)
  obtain ⟨h', tk, rfl, F, N, rfl⟩ := z
  by_cases q : P
  · simp only [q, decide_true, if_true]; exact h2 h' tk F N q
  · simp only [q, decide_false, Bool.false_eq_true, if_false]; exact h3 h' tk F N q
noncomputable def AtQ (Q : Flow → Shared → Prop) (f : Flow) (s : Shared) : Prop := Q f s
structure QTo (Q Qv : Flow → Shared → Prop) : Prop where
  go : ∀ f s, Q f s → Qv f s
theorem wp_abs {M : Model} {A : Around} {E : Value → Shared → Prop} {s : Shared} {c : Sem Flow} {Q : Flow → Shared → Prop} (k : ∀ Qv, QTo Q Qv → wpAny M A c (AtQ Qv) E s) : wpAny M A c Q E s := k Q ⟨fun _ _ h => h⟩
theorem While_abs {M M' : Model} {A A' : Around} {E E' : Value → Shared → Prop} {s : Shared} {c : Sem Bool} {c' : Sem Flow} {Q : Flow → Shared → Prop} {R : Shared → Prop}
    (k : ∀ Qv, QTo Q Qv → wpAny M A c (fun b s₂ => if b = true then wpAny M' A' c' (AtQ Qv) E' s₂ else R s₂) E s) :
    wpAny M A c (fun b s₂ => if b = true then wpAny M' A' c' Q E' s₂ else R s₂) E s := k Q ⟨fun _ _ h => h⟩
theorem AtQ.back {Q Qv : Flow → Shared → Prop} {f : Flow} {s : Shared} (h : QTo Q Qv) (k : Q f s) : AtQ Qv f s := h.go f s k
theorem Const_int_N {M : Model} {A : Around} {E : Value → Shared → Prop} {env : Env} {i : Int} {kk : Nat} {pos : Pos} {h : Heap} {gs : Array GenState} {dr : Drawn} {tk : Nat} {os : OsState} {Q : Value → Shared → Prop} (k : Q (.int i tk) ⟨h, gs, dr, tk + 1, os⟩) : wpAny M A (eval (.Constant (.int i) kk pos) env) Q E ⟨h, gs, dr, tk, os⟩ := wpAny_Constant_int k
theorem Const_str_N {M : Model} {A : Around} {E : Value → Shared → Prop} {env : Env} {i : Str} {kk : Nat} {pos : Pos} {h : Heap} {gs : Array GenState} {dr : Drawn} {tk : Nat} {os : OsState} {Q : Value → Shared → Prop} (k : Q (.str i tk) ⟨h, gs, dr, tk + 1, os⟩) : wpAny M A (eval (.Constant (.str i) kk pos) env) Q E ⟨h, gs, dr, tk, os⟩ := Calls.Constant_str k
theorem add_int_N {prog : Program} {w : World} {A : Around} {E : Value → Shared → Prop} {a b : Int} {t u : Tok} {h : Heap} {gs : Array GenState} {dr : Drawn} {tk : Nat} {os : OsState} {Q : Value → Shared → Prop} (k : Q (.int (a + b) tk) ⟨h, gs, dr, tk + 1, os⟩) : wpAny (model prog w) A (binaryOp .Add (.int a t) (.int b u)) Q E ⟨h, gs, dr, tk, os⟩ := PyProof.Rows.add_int k
theorem Halt.at {M : Model} {A : Around} {E : Value → Shared → Prop} {s : Shared} {vs : List Value} {Q : Value → Shared → Prop} (f : Addr) (h : Halt (wpAny M A (call (Value.ref f) vs) Q E s)) : wpAny M A (call (Value.ref f) vs) Q E s := h
local macro_rules | `(tactic| walk_at "m_nsw") => `(tactic| ((with_reducible rename News _ _ _ _ => nN'); (try simp only [List.cons_append, List.nil_append] at nN'); (try k_sweep)))
local macro_rules | `(tactic| walk_at "eval Constant int") => `(tactic| with_reducible refine Const_int_N ?_)
local macro_rules | `(tactic| walk_at "eval Constant str") => `(tactic| with_reducible refine Const_str_N ?_)
local macro_rules | `(tactic| walk_at "binaryOp Add int int") => `(tactic| with_reducible refine add_int_N ?_)
local macro_rules | `(tactic| walk_at "AtQ") => `(tactic| (refine AtQ.back (by assumption) ?_; try dsimp only))
local macro_rules | `(tactic| walk_at "m_enter") => `(tactic| (refine wpAny_call ?_; k_dflt (refine' code_def ?k1 ?k2 ?k3 ?k4 ?k5 ?kA ?kF ?kK ?k6 ?k7 ?k8 ?k9 ?kB ?_ ?c2 ?c3 ?c4 ?c5; (case kA | kF => exact rfl); (case kK => assumption); (case k1 | k2 | k3 | k4 | k5 => k_asm); (case k6 | k7 => k_is); (case k8 => first | (show _ + _ < _; omega) | ktr_room); (case k9 => first | exact BindsTo.of_eq rfl | exact binds_K (by k_in) rfl (by k_is) rfl rfl rfl); (case c5 => decide); (case kB => exact locs rfl); (case c2 | c3 | c4 => exact rfl); k_whole)))
local macro_rules | `(tactic| walk_at "m_room") => `(tactic| (dsimp only [ktrTop, Around.deeper]; omega))
local macro_rules | `(tactic| walk_at "m_sub") => `(tactic| (intro p hp; first | exact hp | exact List.Mem.tail _ hp | exact List.Mem.tail _ (List.Mem.tail _ hp) | exact List.Mem.tail _ (List.Mem.tail _ (List.Mem.tail _ hp)) | (simp only [List.mem_append, List.mem_cons, List.nil_append] at hp ⊢; simp only [hp, or_true, true_or]) | (simp only [List.mem_append, List.mem_cons, List.nil_append] at hp ⊢; (repeat' (first | (simp only [hp, or_true, true_or]; done) | refine hp.elim (fun hp => ?_) (fun hp => ?_))); done)))
local macro_rules | `(tactic| walk_at "exec Raise some none") => `(tactic| (k_here; refine Raise_own rfl ?_))
local macro_rules | `(tactic| walk_at "call ref") => `(tactic| (k_here; (with_reducible show wpAny _ _ (call (Value.ref 59) [Value.str _ _, Value.int _ _]) _ _ _); k_dflt (refine fault_call _ _ _ _ _ _ _ _ _ _ _ _ _ _ _ _ _ _ _ _ _ _ _ _ _ _ (by k_asm) (by k_asm) (by k_asm) (by k_asm) (by k_asm) (by first | exact rfl | assumption) (by walk_at "m_room") (by walk_at "m_room") ?_); intro e' dx' a0' o' h' tk' F' N' ha' hne'; (have hK59 := Frag.In.keeps (by k_asm) (Fr.keep F') 59 _ (by k_dflt k_is)); refine ⟨_, _, _, rfl, (N' _ (List.Mem.head _)).1, hK59, ?_⟩; clear hK59; k_unfold; (try dsimp only); k_dflt (refine RaiseTo.new (by assumption) (by assumption) (by assumption) F' N' (by walk_at "m_sub") ha' hne' ?_)))
local macro_rules | `(tactic| walk_at "subscriptTail Name Slice bytes ref") => `(tactic| (k_here; (with_reducible rename Fr _ _ _ _ => sF); (with_reducible rename News _ _ _ _ => sN); (first | refine slice_n (s := ⟨_, _, _, _, _⟩) 1 rfl rfl sF sN (by assumption) ?_ | refine slice_n (s := ⟨_, _, _, _, _⟩) 2 rfl rfl sF sN (by assumption) ?_); intro h' t' tk' F' N'; (try k_sweep)))
local macro_rules | `(tactic| walk_at "compareOp Eq bytes bytes") => `(tactic| (with_reducible refine eq_B ?_))
local macro_rules | `(tactic| walk_at "compareOp NotEq bytes bytes") => `(tactic| (with_reducible refine ne_B ?_))
local macro_rules | `(tactic| walk_at "subscriptTail Name Name bytes int") => `(tactic| (k_here; (refine item_B (by assumption) (by omega) ?_); intro t' tk'))
local macro_rules | `(tactic| walk_at "subscriptTail Name BinOp bytes int") => `(tactic| (k_here; (refine item_B1 (by assumption) (by omega) ?_); intro t' tk'))
local macro_rules | `(tactic| walk_at "call builtin:len") => `(tactic| (k_here; (with_reducible show wpAny _ _ (call (Value.builtin "len") [Value.bytes _ _]) _ _ _); (refine len_B (by assumption) ?_); intro t' tk'))
local macro_rules | `(tactic| walk_at "compareOp In int ref") => `(tactic| (k_here; k_dflt (refine in_nev (by k_asm) (by k_asm) (by k_is) ?_)))
local macro_rules | `(tactic| walk_at "compareOp In int bytes") => `(tactic| (k_here; refine in_int_B (by first | assumption | exact cAt_lo _ _) (by first | assumption | exact cAt_hi _ _) ?_))
local macro_rules | `(tactic| walk_at "exec While Compare cons nil") => `(tactic| (refine Halt.out ?_))
local macro_rules | `(tactic| walk_at "exec While BoolOp") => `(tactic| (refine Halt.out ?_))
local macro_rules | `(tactic| walk_at "exec While") => `(tactic| (refine Halt.out ?_))
local macro_rules | `(tactic| walk_at "getMethod bytes") => `(tactic| (k_here; (with_reducible refine join_method ?_)))
local macro_rules | `(tactic| walk_at "call builtin:list.append") => `(tactic| (k_here; (with_reducible show wpAny _ _ (call (Value.builtin _) [Value.ref _, _]) _ _ _); (refine append_M2 (by k_asm) (by k_asm) (by k_mem) (by assumption) (by walk_at "m_sub") (by assumption) ?_); intro h' F' N'; (try k_sweep)))
local macro_rules | `(tactic| walk_at "call builtin:list.append") => `(tactic| (k_here; (with_reducible show wpAny _ _ (call (Value.builtin _) [Value.ref _, _]) _ _ _); (refine append_M (by k_asm) (by k_asm) (by assumption) (by walk_at "m_sub") (by assumption) ?_); intro h' F' N'; (try k_sweep)))
local macro_rules | `(tactic| walk_at "call builtin:bytes.join") => `(tactic| (k_here; (refine join_B (by k_asm) (by k_mem) (by assumption) (by assumption) ?_); intro t' tk'))
local macro_rules | `(tactic| walk_at "m_fin") => `(tactic| first | assumption | exact News.drop1 (by assumption) | exact News.drop1 (News.drop1 (by assumption)) | exact News.drop2 (by assumption) | exact News.drop3 (by assumption) | exact News.drop2 (News.drop3 (by assumption)))
theorem fresh_NF1 : True := by w_top off; trivial
set_option maxRecDepth 100000 in
set_option maxHeartbeats 8000000 in
theorem line_end_gives (w : World) (mean : ExcName → Option Value) (mg mb : Str → Option Value) (d : List UInt8) (n : Nat) (t t1 : Tok) (hz : d.length ≤ 16777216) (news : List (Addr × Obj)) :
    Ctr w mean mg mb 1 76 [.bytes d.toArray t, .int (n : Int) t1] news (fun r tl => (∃ t', r = .int (leI d n) t') ∧ tl = []) (fun _ => False) := by
  unfold Ctr
  k_fill
  intro dp un gd cn cs a ccd cl outer A₀ base h₀ L m s Q E B F X N T hk hd hu hret hrai
  walk_at "m_enter"
  intro g L' h₁ FG F1 N1 B1 X1 T1
  dsimp only
  k_fold
  generalize s.toks + List.length _ = tk0
  replace F1 : Fr g L' h₁ (fun y => List.lookup y [(Str.ofString "at", Value.int n t1), (Str.ofString "data", Value.bytes d.toArray t)]) := F1
  refine wp_abs fun Q1 hQ1 => ?_
  k_steps
  all_goals refine end_int hret ?_ (by assumption) (by assumption)
  all_goals simp only [leI, *, if_true, if_false]
local macro_rules | `(tactic| walk_at "call ref") => `(tactic| (k_here; k_dflt (refine Ctr.useA (line_end_gives _ _ _ _ _ _ _ _ (by assumption) _) (hret := ?_) (hrai := RaiseTo.never)); intro r tl h' tk' F' N' hR; obtain ⟨⟨t', e1⟩, e2⟩ := hR; subst e1 e2; walk_at "m_nsw"))
set_option maxRecDepth 100000 in
set_option maxHeartbeats 8000000 in
theorem is_atom_code_gives (w : World) (mean : ExcName → Option Value) (mg mb : Str → Option Value) (c : Int) (t : Tok) (h0 : 0 ≤ c) (h1 : c < 256) (news : List (Addr × Obj)) :
    Ctr w mean mg mb 1 69 [.int c t] news (fun r tl => r = .bool (atomCode c) ∧ tl = []) (fun _ => False) := by
  unfold Ctr
  k_fill
  intro dp un gd cn cs a ccd cl outer A₀ base h₀ L m s Q E B F X N T hk hd hu hret hrai
  walk_at "m_enter"
  intro g L' h₁ FG F1 N1 B1 X1 T1
  dsimp only
  k_fold
  generalize s.toks + List.length _ = tk0
  replace F1 : Fr g L' h₁ (fun y => List.lookup y [(Str.ofString "code", Value.int c t)]) := F1
  refine wp_abs fun Q1 hQ1 => ?_
  k_steps
  all_goals refine end_bool hret ?_ (by assumption) (by assumption)
  all_goals unfold atomCode
  all_goals first | rw [decide_eq_true (show 48 ≤ c ∧ c ≤ 57 by omega)] | rw [decide_eq_false (show ¬(48 ≤ c ∧ c ≤ 57) by omega)] | skip
  all_goals first | rw [decide_eq_true (show 65 ≤ c ∧ c ≤ 90 by omega)] | rw [decide_eq_false (show ¬(65 ≤ c ∧ c ≤ 90) by omega)] | skip
  all_goals first | rw [decide_eq_true (show 97 ≤ c ∧ c ≤ 122 by omega)] | rw [decide_eq_false (show ¬(97 ≤ c ∧ c ≤ 122) by omega)] | skip
  all_goals first | rw [decide_eq_true (show 127 < c by omega)] | rw [decide_eq_false (show ¬(127 < c) by omega)] | skip
  all_goals simp [atomSigns, *]
set_option maxRecDepth 100000 in
set_option maxHeartbeats 8000000 in
theorem inside_at_gives (w : World) (mean : ExcName → Option Value) (mg mb : Str → Option Value) (d : List UInt8) (n b : Nat) (t t1 t2 : Tok) (hz : d.length ≤ 16777216) (hn : n ≤ d.length) (news : List (Addr × Obj)) :
    Ctr w mean mg mb 4 83 [.bytes d.toArray t, .int (n : Int) t1, .int (b : Int) t2] news (fun r tl => ∃ D t1 t2 x k, r = .ref D ∧ tl = [(D, tupOf [.bytes x.toArray t1, .int (k : Nat) t2])] ∧ insideAt d n b = .ok (x, k)) (Faults (insideAt d n b)) := by
  unfold Ctr
  k_fill
  intro dp un gd cn cs a ccd cl outer A₀ base h₀ L m s Q E B F X N T hk hd hu hret hrai
  walk_at "m_enter"
  intro g L' h₁ FG F1 N1 B1 X1 T1
  dsimp only
  k_fold
  generalize s.toks + List.length _ = tk0
  replace F1 : Fr g L' h₁ (fun y => List.lookup y [(Str.ofString "begun", Value.int b t2), (Str.ofString "at", Value.int n t1), (Str.ofString "data", Value.bytes d.toArray t)]) := F1
  refine wp_abs fun Q1 hQ1 => ?_
  refine wpAny_execs_cons ?_
  refine If_join ((d.length : Int) ≤ n ∨ cAt d n = 92 ∧ (n : Int) + 1 = d.length) (h₀ := g) (m := fun y => List.lookup y [(Str.ofString "begun", Value.int b t2), (Str.ofString "at", Value.int n t1), (Str.ofString "data", Value.bytes d.toArray t)]) (L := L') (news := news) ?_ ?_ ?_
  · k_steps
    all_goals refine ⟨_, _, rfl, by assumption, by assumption, ?_⟩
    all_goals simp [*]
  · intro h2 tk2 F2 N2 hP
    clear F1 N1
    k_steps
    exact Faults.mk (by unfold insideAt; rw [if_pos hP])
  · intro h2 tk2 F2 N2 hP
    clear F1 N1
    k_steps
    · exact Faults.mk (by unfold insideAt; rw [if_neg hP]; simp only [*, if_true, if_false])
    · exact hret _ [_] _ _ (by assumption) (by assumption) ⟨_, _, _, _, n + 2, rfl, rfl, by unfold insideAt; rw [if_neg hP]; simp only [*, if_true, if_false, Bool.false_eq_true]⟩
    · rename 0 ≤ leI d n => h0
      refine' hret _ [_] _ _ (by assumption) (by assumption) ⟨_, _, _, [], (leI d n).toNat, rfl, ?e1, ?e2⟩
      case e2 => unfold insideAt; rw [if_neg hP]; simp only [*, if_true, if_false]
      case e1 => rw [Int.toNat_of_nonneg h0]
    · exact Faults.mk (by unfold insideAt; rw [if_neg hP]; simp only [*, if_true, if_false])
    · exact hret _ [_] _ _ (by assumption) (by assumption) ⟨_, _, _, _, n + 1, rfl, rfl, by unfold insideAt; rw [if_neg hP]; simp only [*, if_true, if_false, Bool.false_eq_true]⟩
local macro_rules | `(tactic| walk_at "call ref") => `(tactic| (k_here; k_dflt (refine Ctr.useA (inside_at_gives _ _ _ _ _ _ _ _ _ _ (by assumption) (by assumption) _) (hret := ?_) (hrai := RaiseTo.passA ?_)); intro r tl h' tk' F' N' hR; obtain ⟨D, t1, t2, x, k, e1, e2, e3⟩ := hR; subst e1 e2; walk_at "m_nsw"))
theorem fresh_NF2 : True := by w_top off; trivial
set_option maxRecDepth 100000 in
set_option maxHeartbeats 8000000 in
theorem closed_at_gives (w : World) (mean : ExcName → Option Value) (mg mb : Str → Option Value) (d c bar : List UInt8) (b : Nat) (t t1 t2 t3 : Tok) (hz : d.length ≤ 16777216) (hb : b < d.length) (hc : c ≠ []) (news : List (Addr × Obj)) :
    Ctr w mean mg mb 6 90 [.bytes d.toArray t, .int (b : Int) t1, .bytes c.toArray t2, .bytes bar.toArray t3] news (fun r tl => ∃ D t1 t2 x k, r = .ref D ∧ tl = [(D, tupOf [.bytes x.toArray t1, .int (k : Nat) t2])] ∧ closedAt d b c bar = .ok (x, k)) (Faults (closedAt d b c bar)) := by
  unfold Ctr
  k_fill
  intro dp un gd cn cs a ccd cl outer A₀ base h₀ L m s Q E B F X N T hk hd hu hret hrai
  walk_at "m_enter"
  intro g L' h₁ FG F1 N1 B1 X1 T1
  dsimp only
  k_fold
  generalize s.toks + List.length _ = tk0
  replace F1 : Fr g L' h₁ (fun y => List.lookup y [(Str.ofString "barred", Value.bytes bar.toArray t3), (Str.ofString "closing", Value.bytes c.toArray t2), (Str.ofString "begun", Value.int b t1), (Str.ofString "data", Value.bytes d.toArray t)]) := F1
  refine wp_abs fun Q1 hQ1 => ?_
  k_steps
  unfold Halt
  rename_i P _ h9 _ _ Fa Na
  have hl : ∀ p ∈ news, p.1 ≠ P := fun p hp => Nat.ne_of_lt (h9 p hp)
  refine While_inv2 (fun n m₁ news₁ => ∃ (i : Nat) (ti : Tok) (u : Option Value) (vs : List Value) (ws : List (List UInt8)) (k : Nat),
    m₁ = (fun y => if y = Str.ofString "at" then some (Value.int (i : Int) ti) else if y = Str.ofString "octets" then u else if y = Str.ofString "parts" then some (.ref P) else List.lookup y [(Str.ofString "barred", Value.bytes bar.toArray t3), (Str.ofString "closing", Value.bytes c.toArray t2), (Str.ofString "begun", Value.int b t1), (Str.ofString "data", Value.bytes d.toArray t)]) ∧
    news₁ = (P, listOf vs.toArray k) :: news ∧ BytesAre vs ws ∧ closedGo d c bar b n i ws.flatten = closedAt d b c bar ∧ d.length + 1 ≤ n + i ∧ i ≤ d.length ∧ vs.length ≤ i ∧ ws.flatten.length ≤ i) (n₀ := d.length + 1) (by assumption) (by assumption) ?_ ?_
  · exact ⟨b + 1, _, none, [], [], 0, funext fun y => by
      by_cases h : y = Str.ofString "octets"
      · subst h; rfl
      · simp only [if_neg h]; rfl, rfl, .nil, rfl, by omega, by omega, Nat.zero_le _, Nat.zero_le _⟩
  · intro n m₁ news₁ h2 tk2 F2 N2 hJ0
    refine While_abs fun Q2 hQ2 => ?_
    obtain ⟨i, ti, u, vs, ws, k, rfl, rfl, hv, hgo, hfu, hi, hlen, hfl⟩ := hJ0
    have hz2 : ws.flatten.length ≤ 16777216 := by omega
    have hz3 : vs.length ≤ 16777216 := by omega
    k_steps
    · rename sub d i 1 = c => q
      have hn0 : 0 < n := by omega
      refine hret _ [_] _ _ (by assumption) (by walk_at "m_fin") ⟨_, _, _, ws.flatten, i + 1, rfl, rfl, ?_⟩
      rw [← hgo, closedGo_end hn0 q]
    · refine Faults.mk ?_
      rw [← hgo, closedGo_bar (by omega) (by assumption) (by assumption) (by assumption)]
    · rename insideAt d i b = _ => q
      have hq := insideAt_ok q
      obtain ⟨n, rfl⟩ := Nat.exists_eq_succ_of_ne_zero (show n ≠ 0 by omega)
      refine ⟨_, _, _, (P, _) :: news, n, rfl, by assumption, by assumption, Nat.lt_succ_self _, _, _, _, _, _, _, dup2, rfl, hv.snoc _ _, ?_, ?_, ?_, ?_, ?_⟩
      · rw [← hgo, closedGo_step (by assumption) (fun z => by simp_all) q, List.flatten_append]; simp
      all_goals (try simp only [List.length_append, List.flatten_append, List.flatten_singleton, List.length_singleton])
      all_goals omega
    · intro z hz
      rw [← hgo]; exact closedGo_bad (by omega) (by assumption) (fun z => by simp_all) z hz
    · rename insideAt d i b = _ => q
      have hq := insideAt_ok q
      obtain ⟨n, rfl⟩ := Nat.exists_eq_succ_of_ne_zero (show n ≠ 0 by omega)
      refine ⟨_, _, _, (P, _) :: news, n, rfl, by assumption, by assumption, Nat.lt_succ_self _, _, _, _, _, _, _, dup2, rfl, hv.snoc _ _, ?_, ?_, ?_, ?_, ?_⟩
      · rw [← hgo, closedGo_step (by assumption) (fun z => by simp_all) q, List.flatten_append]; simp
      all_goals (try simp only [List.length_append, List.flatten_append, List.flatten_singleton, List.length_singleton])
      all_goals omega
    · intro z hz
      rw [← hgo]; exact closedGo_bad (by omega) (by assumption) (fun z => by simp_all) z hz
theorem fresh_NF3 : True := by w_top off; trivial
local macro_rules | `(tactic| walk_at "call ref") => `(tactic| (k_here; k_dflt (refine Ctr.useA (closed_at_gives _ _ _ _ _ _ _ _ _ _ _ _ (by assumption) (by omega) (by simp) _) (hret := ?_) (hrai := RaiseTo.passA ?_)); intro r tl h' tk' F' N' hR; obtain ⟨D, t1, t2, x, k, e1, e2, e3⟩ := hR; subst e1 e2; walk_at "m_nsw"))
local macro_rules | `(tactic| walk_at "call ref") => `(tactic| (k_here; k_dflt (refine Ctr.useA (is_atom_code_gives _ _ _ _ _ _ (by first | assumption | exact cAt_lo _ _) (by first | assumption | exact cAt_hi _ _) _) (hret := ?_) (hrai := RaiseTo.never)); intro r tl h' tk' F' N' hR; obtain ⟨e1, e2⟩ := hR; subst e1 e2; walk_at "m_nsw"))
theorem dup4 {A B C D : PySem.Str} {a b c d e f g h : Option Value} {r : PySem.Str → Option Value} : (fun y => if y = A then a else if y = B then b else if y = C then c else if y = D then d else if y = A then e else if y = B then f else if y = C then g else if y = D then h else r y) = fun y => if y = A then a else if y = B then b else if y = C then c else if y = D then d else r y := by
  funext y; repeat' split
  all_goals first | rfl | contradiction
theorem dup3 {A B C D : PySem.Str} {a b d e f g h : Option Value} {r : PySem.Str → Option Value} (hDC : D ≠ C) : (fun y => if y = A then a else if y = B then b else if y = D then d else if y = A then e else if y = B then f else if y = C then g else if y = D then h else r y) = fun y => if y = A then a else if y = B then b else if y = C then g else if y = D then d else r y := by
  funext y; repeat' split
  all_goals first | rfl | contradiction | simp_all
theorem BytesAre.dropLast {vs : List Value} {ws : List (List UInt8)} (h : BytesAre vs ws) : BytesAre vs.dropLast ws.dropLast := by
  induction h with
  | nil => exact .nil
  | cons w t h' ih => cases h' with
    | nil => exact .nil
    | cons w' t' h'' => exact .cons w t ih
theorem flatten_dropLast_le (ws : List (List UInt8)) : ws.dropLast.flatten.length ≤ ws.flatten.length := by
  rcases List.eq_nil_or_concat ws with h | ⟨l, x, h⟩ <;> subst h <;> simp
theorem pick_dropLast (vs : List Value) : (slicePick vs.toArray none (some (-1)) none).toList = vs.dropLast := by
  have e : sliceBounds none (some (-1)) none vs.toArray.size = (((0 : Nat) : Int), ((vs.toArray.size - 1 : Nat) : Int), 1) := by
    simp only [sliceBounds, Option.getD_none, show (1 : Int) > 0 by decide, if_true]
    congr 1
    congr 1
    omega
  rw [kmk_pick_nat _ e]
  show (vs.drop 0).take (vs.toArray.size - 1 - 0) = _
  rw [List.drop_zero, Nat.sub_zero, List.size_toArray, List.dropLast_eq_take]
section
variable {prog : Program} {w : World} {A : Around} {E : Value → Shared → Prop} {s : Shared} {h₀ : Heap} {L P : Addr} {m : PySem.Str → Option Value} {value slice : PySem.Expr} {news : List (Addr × Obj)} {vs : List Value} {n : Nat} {t : Tok} {Q : Value → Shared → Prop}
theorem slice_init (F : Fr h₀ L s.heap m) (N : News h₀ L s.heap news) (hm : (P, listOf vs.toArray n) ∈ news) (hz : vs.length ≤ 16777216)
    (h : ∀ D h', Fr h₀ L h' m → News h₀ L h' ((D, listOf vs.dropLast.toArray 0) :: news) → (∀ p ∈ news, p.1 < D) → Q (.ref D) { s with heap := h' })
    (hs : subscripted slice false (.ref P) (.ref s.heap.objs.size) = operate [.ref s.heap.objs.size, .ref P] (getItem (.ref P) (.ref s.heap.objs.size)) := by with_unfolding_all rfl) (ht : ∀ r, letTemporaryGo value (.ref P) r = pure () := by intro _; with_unfolding_all rfl) :
    wpAny (model prog w) A (subscriptTail value slice (.ref P) (.ref s.heap.objs.size)) Q E { s with heap := s.heap.push { cls := .type "slice", data := .fields #[.none, .int (-1) t, .none] } } :=
  kmk_slice_lit F N (News.isList N hm) .none (.int _ _) (pick_dropLast vs) h hs ht (by rw [List.size_toArray, sizeLine_eq]; exact hz)
end
local macro_rules | `(tactic| walk_at "subscriptTail Name Slice ref ref") => `(tactic| (k_here; (with_reducible rename Fr _ _ _ _ => sF); (with_reducible rename News _ _ _ _ => sN); (refine slice_init (s := ⟨_, _, _, _, _⟩) sF sN (by k_mem) (by assumption) ?_); intro D h' F' N' l1; (try k_sweep)))
set_option maxRecDepth 100000 in
set_option maxHeartbeats 8000000 in
theorem comment_at_gives (w : World) (mean : ExcName → Option Value) (mg mb : Str → Option Value) (d : List UInt8) (b : Nat) (t t1 : Tok) (hz : d.length ≤ 16777216) (hb : b < d.length) (news : List (Addr × Obj)) :
    Ctr w mean mg mb 6 97 [.bytes d.toArray t, .int (b : Int) t1] news (fun r tl => ∃ D t1 t2 x k, r = .ref D ∧ tl = [(D, tupOf [.bytes x.toArray t1, .int (k : Nat) t2])] ∧ commentAt d b = .ok (x, k)) (Faults (commentAt d b)) := by
  unfold Ctr
  k_fill
  intro dp un gd cn cs a ccd cl outer A₀ base h₀ L m s Q E B F X N T hk hd hu hret hrai
  walk_at "m_enter"
  intro g L' h₁ FG F1 N1 B1 X1 T1
  dsimp only
  k_fold
  generalize s.toks + List.length _ = tk0
  replace F1 : Fr g L' h₁ (fun y => List.lookup y [(Str.ofString "begun", Value.int b t1), (Str.ofString "data", Value.bytes d.toArray t)]) := F1
  refine wp_abs fun Q1 hQ1 => ?_
  k_steps
  unfold Halt
  rename_i P _ h9 _ _ _ Fa Na
  have hl : ∀ p ∈ news, p.1 ≠ P := fun p hp => Nat.ne_of_lt (h9 p hp)
  refine While_inv2 (fun n m₁ news₁ => ∃ (i : Nat) (ti td : Tok) (di : Int) (depth : Nat) (u v : Option Value) (vs : List Value) (ws : List (List UInt8)) (k : Nat),
    m₁ = (fun y => if y = Str.ofString "at" then some (Value.int (i : Int) ti) else if y = Str.ofString "octets" then u else if y = Str.ofString "depth" then some (Value.int di td) else if y = Str.ofString "sign" then v else if y = Str.ofString "parts" then some (.ref P) else List.lookup y [(Str.ofString "begun", Value.int b t1), (Str.ofString "data", Value.bytes d.toArray t)]) ∧
    news₁ = (P, listOf vs.toArray k) :: news ∧ di = depth ∧ BytesAre vs ws ∧ commentGo d b n i depth ws = commentAt d b ∧ d.length + 1 ≤ n + i ∧ i ≤ d.length ∧ vs.length ≤ i ∧ ws.flatten.length ≤ i) (n₀ := d.length + 1) (by assumption) (by assumption) ?_ ?_
  · exact ⟨b + 1, _, _, _, 1, none, none, [], [], 0, funext fun y => by
      by_cases h : y = Str.ofString "octets"
      · subst h; rfl
      · by_cases h' : y = Str.ofString "sign"
        · subst h'; rfl
        · simp only [if_neg h, if_neg h']; rfl, rfl, rfl, .nil, rfl, by omega, by omega, Nat.zero_le _, Nat.zero_le _⟩
  · intro n m₁ news₁ h2 tk2 F2 N2 hJ0
    refine While_abs fun Q2 hQ2 => ?_
    obtain ⟨i, ti, td, di, depth, u, v, vs, ws, k, rfl, rfl, hdi, hv, hgo, hfu, hi, hlen, hfl⟩ := hJ0
    have hz2 : ws.dropLast.flatten.length ≤ 16777216 := by have := flatten_dropLast_le ws; omega
    have hz3 : vs.length ≤ 16777216 := by omega
    have hv2 := hv.dropLast
    k_steps
    · refine Faults.mk ?_
      rw [← hgo, commentGo_deep (by omega) (by omega) (by assumption) (by omega)]
    · rename insideAt d i b = _ => q
      have hq := insideAt_ok q
      obtain ⟨n, rfl⟩ := Nat.exists_eq_succ_of_ne_zero (show n ≠ 0 by omega)
      refine ⟨_, _, _, (P, _) :: news, n, rfl, by assumption, by assumption, Nat.lt_succ_self _, _, _, _, _, depth' (sub d i 1) depth, _, _, _, _, _, dup4, rfl, ?_, hv.snoc _ _, ?_, ?_, ?_, ?_, ?_⟩
      · simp only [depth', *, if_true]; omega
      · rw [← hgo, commentGo_step (by omega) (by omega) q]
      all_goals (try simp only [List.length_append, List.flatten_append, List.flatten_singleton, List.length_singleton])
      all_goals omega
    · intro z hz
      rw [← hgo]; exact commentGo_bad (by omega) (by omega) (by omega) z hz
    · rename insideAt d i b = _ => q
      have hq := insideAt_ok q
      obtain ⟨n, rfl⟩ := Nat.exists_eq_succ_of_ne_zero (show n ≠ 0 by omega)
      refine ⟨_, _, _, (P, _) :: news, n, rfl, by assumption, by assumption, Nat.lt_succ_self _, _, _, _, _, depth' (sub d i 1) depth, _, _, _, _, _, dup4, rfl, ?_, hv.snoc _ _, ?_, ?_, ?_, ?_, ?_⟩
      · unfold depth'; rw [if_neg (by assumption), if_pos (by assumption)]; omega
      · rw [← hgo, commentGo_step (by omega) (fun z => by simp_all) q]
      all_goals (try simp only [List.length_append, List.flatten_append, List.flatten_singleton, List.length_singleton])
      all_goals omega
    · intro z hz
      rw [← hgo]; exact commentGo_bad (by omega) (by omega) (fun z => by simp_all) z hz
    · rename insideAt d i b = _ => q
      have hq := insideAt_ok q
      obtain ⟨n, rfl⟩ := Nat.exists_eq_succ_of_ne_zero (show n ≠ 0 by omega)
      refine ⟨_, _, _, (P, _) :: news, n, rfl, by assumption, by assumption, Nat.lt_succ_self _, _, _, _, _, depth' (sub d i 1) depth, _, _, _, _, _, dup3 (by decide), rfl, ?_, hv.snoc _ _, ?_, ?_, ?_, ?_, ?_⟩
      · unfold depth'; rw [if_neg (by assumption), if_neg (by assumption)]; omega
      · rw [← hgo, commentGo_step (by omega) (fun z => by simp_all) q]
      all_goals (try simp only [List.length_append, List.flatten_append, List.flatten_singleton, List.length_singleton])
      all_goals omega
    · intro z hz
      rw [← hgo]; exact commentGo_bad (by omega) (by omega) (fun z => by simp_all) z hz
    · have h0 : depth = 0 := by omega
      subst h0
      exact hret _ [_] _ _ (by assumption) (by walk_at "m_fin") ⟨_, _, _, ws.dropLast.flatten, i, rfl, rfl, by rw [← hgo, commentGo_end]⟩
theorem fresh_NF4 : True := by w_top off; trivial
local macro_rules | `(tactic| walk_at "call ref") => `(tactic| (k_here; k_dflt (refine Ctr.useA (comment_at_gives _ _ _ _ _ _ _ _ (by assumption) (by omega) _) (hret := ?_) (hrai := RaiseTo.passA ?_)); intro r tl h' tk' F' N' hR; obtain ⟨D, t1, t2, x, k, e1, e2, e3⟩ := hR; subst e1 e2; walk_at "m_nsw"))
local macro_rules | `(tactic| walk_at "subscriptTail Name Slice bytes ref") => `(tactic| (k_here; (with_reducible rename Fr _ _ _ _ => sF); (with_reducible rename News _ _ _ _ => sN); (first | refine slice_n (s := ⟨_, _, _, _, _⟩) 1 rfl rfl sF sN (by assumption) ?_ | refine slice_n (s := ⟨_, _, _, _, _⟩) 2 rfl rfl sF sN (by assumption) ?_ | refine slice_gen (s := ⟨_, _, _, _, _⟩) sF sN (by omega) (by omega) (by assumption) ?_ | refine slice_gen (s := ⟨_, _, _, _, _⟩) (by assumption) (by assumption) (by omega) (by omega) (by assumption) ?_); intro h' t' tk' F' N'; (try k_sweep)))
set_option maxRecDepth 100000 in
set_option maxHeartbeats 8000000 in
theorem atom_at_gives (w : World) (mean : ExcName → Option Value) (mg mb : Str → Option Value) (d : List UInt8) (b : Nat) (t t1 : Tok) (hz : d.length ≤ 16777216) (hb : b ≤ d.length) (news : List (Addr × Obj)) :
    Ctr w mean mg mb 4 104 [.bytes d.toArray t, .int (b : Int) t1] news (fun r tl => ∃ D t1 t2, r = .ref D ∧ tl = [(D, tupOf [.bytes (atomAt d b).1.toArray t1, .int ((atomAt d b).2 : Nat) t2])]) (fun _ => False) := by
  unfold Ctr
  k_fill
  intro dp un gd cn cs a ccd cl outer A₀ base h₀ L m s Q E B F X N T hk hd hu hret hrai
  walk_at "m_enter"
  intro g L' h₁ FG F1 N1 B1 X1 T1
  dsimp only
  k_fold
  generalize s.toks + List.length _ = tk0
  replace F1 : Fr g L' h₁ (fun y => List.lookup y [(Str.ofString "at", Value.int b t1), (Str.ofString "data", Value.bytes d.toArray t)]) := F1
  refine wp_abs fun Q1 hQ1 => ?_
  k_steps
  unfold Halt
  refine While_inv2 (fun n m₁ news₁ => ∃ (i : Nat) (ti : Tok),
    m₁ = (fun y => if y = Str.ofString "end" then some (Value.int (i : Int) ti) else List.lookup y [(Str.ofString "at", Value.int b t1), (Str.ofString "data", Value.bytes d.toArray t)]) ∧
    news₁ = news ∧ n + i = d.length ∧ b ≤ i ∧ atomGo d n i = atomGo d (d.length - b) b) (n₀ := d.length - b) (by assumption) (by assumption) ?_ ?_
  · exact ⟨b, _, funext fun y => by rfl, rfl, by omega, by omega, rfl⟩
  · intro n m₁ news₁ h2 tk2 F2 N2 hJ0
    refine While_abs fun Q2 hQ2 => ?_
    obtain ⟨i, ti, rfl, rfl, hfu, hi, hgo⟩ := hJ0
    k_steps
    · obtain ⟨n, rfl⟩ := Nat.exists_eq_succ_of_ne_zero (show n ≠ 0 by omega)
      rename atomCode _ = true => q
      exact ⟨_, _, _, news₁, n, rfl, by assumption, by walk_at "m_fin", Nat.lt_succ_self _, i + 1, _, dup1, rfl, by omega, by omega, by rw [← hgo]; exact (atomGo_step ⟨by omega, q⟩).symm⟩
    · rename atomCode _ = false => q
      have e : atomGo d (d.length - b) b = i := by rw [← hgo]; exact atomGo_end (fun z => by simp_all)
      refine' hret _ [_] _ _ (by assumption) ?_ ⟨_, _, _, rfl, rfl⟩
      simp only [atomAt, e]
      have e2 : sub d b (i - b) = sub d (b : Int).toNat ((i : Int).toNat - (b : Int).toNat) := rfl
      rw [e2]
      walk_at "m_fin"
    · have e : atomGo d (d.length - b) b = i := by rw [← hgo]; exact atomGo_end (fun z => by omega)
      refine' hret _ [_] _ _ (by assumption) ?_ ⟨_, _, _, rfl, rfl⟩
      simp only [atomAt, e]
      have e2 : sub d b (i - b) = sub d (b : Int).toNat ((i : Int).toNat - (b : Int).toNat) := rfl
      rw [e2]
      walk_at "m_fin"
set_option maxRecDepth 100000 in
set_option maxHeartbeats 8000000 in
theorem past_white_gives (w : World) (mean : ExcName → Option Value) (mg mb : Str → Option Value) (d : List UInt8) (b : Nat) (t t1 : Tok) (hz : d.length ≤ 16777216) (hb : b ≤ d.length) (news : List (Addr × Obj)) :
    Ctr w mean mg mb 4 118 [.bytes d.toArray t, .int (b : Int) t1] news (fun r tl => (∃ t', r = .int ((pastWhite d b : Nat) : Int) t') ∧ tl = []) (fun _ => False) := by
  unfold Ctr
  k_fill
  intro dp un gd cn cs a ccd cl outer A₀ base h₀ L m s Q E B F X N T hk hd hu hret hrai
  walk_at "m_enter"
  intro g L' h₁ FG F1 N1 B1 X1 T1
  dsimp only
  k_fold
  generalize s.toks + List.length _ = tk0
  replace F1 : Fr g L' h₁ (fun y => List.lookup y [(Str.ofString "at", Value.int b t1), (Str.ofString "data", Value.bytes d.toArray t)]) := F1
  refine wp_abs fun Q1 hQ1 => ?_
  k_steps
  unfold Halt
  refine While_inv2 (fun n m₁ news₁ => ∃ (i : Nat) (ti : Tok) (u : Option Value),
    m₁ = (fun y => if y = Str.ofString "at" then some (Value.int (i : Int) ti) else if y = Str.ofString "behind" then u else List.lookup y [(Str.ofString "at", Value.int b t1), (Str.ofString "data", Value.bytes d.toArray t)]) ∧
    news₁ = news ∧ d.length ≤ n + i ∧ i ≤ d.length ∧ whiteGo d n i = pastWhite d b) (n₀ := d.length - b) (by assumption) (by assumption) ?_ ?_
  · exact ⟨b, t1, none, funext fun y => by
      by_cases h : y = Str.ofString "at"
      · subst h; rfl
      · by_cases h' : y = Str.ofString "behind"
        · subst h'; rfl
        · simp only [if_neg h, if_neg h'], rfl, by omega, by omega, rfl⟩
  · intro n m₁ news₁ h2 tk2 F2 N2 hJ0
    refine While_abs fun Q2 hQ2 => ?_
    obtain ⟨i, ti, u, rfl, rfl, hfu, hi, hgo⟩ := hJ0
    k_steps
    · obtain ⟨n, rfl⟩ := Nat.exists_eq_succ_of_ne_zero (show n ≠ 0 by omega)
      rename List.any _ _ = true => q
      have e : whiteI d i = (i : Int) + 1 := if_pos (by simp at q; omega)
      exact ⟨_, _, _, news₁, n, rfl, by assumption, by walk_at "m_fin", Nat.lt_succ_self _, i + 1, _, _, dup2, rfl, by omega, by omega, by rw [← hgo, whiteGo_step ⟨by omega, by omega⟩, e]; rfl⟩
    · rename List.any _ _ = false => q
      have e : whiteI d i = leI d i := if_neg (by simp at q; omega)
      unfold WhileStep2
      repeat dsimp only
      k_steps
      refine end_int hret ?_ (by assumption) (by walk_at "m_fin")
      rw [← hgo, whiteGo_end (d := d) (e := i) (by omega)]
    · rename List.any _ _ = false => q
      have e : whiteI d i = leI d i := if_neg (by simp at q; omega)
      have e2 := leI_ge (show 0 ≤ leI d i by omega)
      obtain ⟨n, rfl⟩ := Nat.exists_eq_succ_of_ne_zero (show n ≠ 0 by omega)
      have e3 : leI d i = ((leI d i).toNat : Int) := by omega
      exact ⟨_, _, _, news₁, n, rfl, by assumption, by walk_at "m_fin", Nat.lt_succ_self _, (leI d i).toNat, _, _, by simp only [e3.symm]; exact dup2, rfl, by omega, by omega, by rw [← hgo, whiteGo_step ⟨by omega, by omega⟩, e]⟩
    · refine end_int hret ?_ (by assumption) (by assumption)
      rw [← hgo, whiteGo_end (d := d) (e := i) (by omega)]
theorem fresh_NF5 : True := by w_top off; trivial
local macro_rules | `(tactic| walk_at "call ref") => `(tactic| (k_here; k_dflt (refine Ctr.useA (atom_at_gives _ _ _ _ _ _ _ _ (by assumption) (by omega) _) (hret := ?_) (hrai := RaiseTo.never)); intro r tl h' tk' F' N' hR; obtain ⟨D, t1, t2, e1, e2⟩ := hR; subst e1 e2; walk_at "m_nsw"))
local macro_rules | `(tactic| walk_at "call ref") => `(tactic| (k_here; k_dflt (refine Ctr.useA (past_white_gives _ _ _ _ _ _ _ _ (by assumption) (by omega) _) (hret := ?_) (hrai := RaiseTo.never)); intro r tl h' tk' F' N' hR; obtain ⟨⟨t', e1⟩, e2⟩ := hR; subst e1 e2; walk_at "m_nsw"))
local macro_rules | `(tactic| walk_at "compareOp In bytes bytes") => `(tactic| (k_here; (refine in_bytes_B (by first | rfl | assumption) (by assumption) (by assumption) ?_); intro h' tk' F' N'; (try k_sweep)))
theorem News.keep2 {h₀ h' : Heap} {L : Addr} {p q r : Addr × Obj} {l : List (Addr × Obj)} (N : News h₀ L h' (p :: q :: r :: l)) : News h₀ L h' ([p, q] ++ l) := fun x hx => N x (by
  simp only [List.cons_append, List.nil_append, List.mem_cons] at hx ⊢; rcases hx with h | h | h
  · exact .inl h
  · exact .inr (.inl h)
  · exact .inr (.inr (.inr h)))
theorem sub_one {d : List UInt8} {n : Nat} (h : n < d.length) : sub d n 1 = [d.getD n 0] := by
  unfold sub
  rw [List.drop_eq_getElem_cons h]
  show [d[n]] = _
  simp [List.getD, h]
theorem find_sub {d : List UInt8} {n : Nat} (h : n < d.length) : (Builtin.Bytes.find? #[60, 62, 64, 44, 59, 58, 46, 92] (sub d n 1).toArray 0 #[60, 62, 64, 44, 59, 58, 46, (92 : UInt8)].size).isSome = signs.contains (d.getD n 0) := by
  rw [sub_one h]; exact find_signs _
noncomputable def kstr : Kind → PySem.Str
  | .quoted => Str.ofString "quoted"
  | .literal => Str.ofString "literal"
  | .comment => Str.ofString "comment"
  | .sign => Str.ofString "sign"
  | .atom => Str.ofString "atom"
noncomputable def IsTok (o : Obj) (x : T) : Prop := ∃ t1 t2 t3, o = tupOf [.str (kstr x.kind) t1, .bytes x.worth.toArray t2, .int (x.at_ : Int) t3]
set_option maxRecDepth 100000 in
set_option maxHeartbeats 8000000 in
theorem token_at_gives (w : World) (mean : ExcName → Option Value) (mg mb : Str → Option Value) (d : List UInt8) (b : Nat) (t t1 : Tok) (hz : d.length ≤ 16777216) (hb : b < d.length) (news : List (Addr × Obj)) :
    Ctr w mean mg mb 8 111 [.bytes d.toArray t, .int (b : Int) t1] news (fun r tl => ∃ D G o t2 x k, r = .ref D ∧ tl = [(D, tupOf [.ref G, .int (k : Nat) t2]), (G, o)] ∧ IsTok o x ∧ tokenAt d b = .ok (x, k)) (Faults (tokenAt d b)) := by
  unfold Ctr
  k_fill
  intro dp un gd cn cs a ccd cl outer A₀ base h₀ L m s Q E B F X N T hk hd hu hret hrai
  walk_at "m_enter"
  intro g L' h₁ FG F1 N1 B1 X1 T1
  dsimp only
  k_fold
  generalize s.toks + List.length _ = tk0
  replace F1 : Fr g L' h₁ (fun y => List.lookup y [(Str.ofString "at", Value.int b t1), (Str.ofString "data", Value.bytes d.toArray t)]) := F1
  refine wp_abs fun Q1 hQ1 => ?_
  k_steps
  · exact hret _ [_, _] _ _ (by assumption) (News.keep2 (by assumption)) ⟨_, _, _, _, ⟨.quoted, _, _⟩, _, rfl, rfl, ⟨_, _, _, rfl⟩, by unfold tokenAt; simp only [*, if_true, if_false, asTok]⟩
  · intro z hz; have := hz.tok (k := .quoted) (n := b); unfold tokenAt; simpa only [*, if_true, if_false] using this
  · exact hret _ [_, _] _ _ (by assumption) (News.keep2 (by assumption)) ⟨_, _, _, _, ⟨.literal, _, _⟩, _, rfl, rfl, ⟨_, _, _, rfl⟩, by unfold tokenAt; rw [if_neg (by assumption), if_pos (by assumption)]; simp only [*, asTok]⟩
  · intro z hz; have := hz.tok (k := .literal) (n := b); unfold tokenAt; rw [if_neg (by assumption), if_pos (by assumption)]; exact this
  · exact hret _ [_, _] _ _ (by assumption) (News.keep2 (by assumption)) ⟨_, _, _, _, ⟨.comment, _, _⟩, _, rfl, rfl, ⟨_, _, _, rfl⟩, by unfold tokenAt; rw [if_neg (by assumption), if_neg (by assumption), if_pos (by assumption)]; simp only [*, asTok]⟩
  · intro z hz; have := hz.tok (k := .comment) (n := b); unfold tokenAt; rw [if_neg (by assumption), if_neg (by assumption), if_pos (by assumption)]; exact this
  · rename Option.isSome _ = true => q
    have q2 := (find_sub hb).symm.trans q
    exact hret _ [_, _] _ _ (by assumption) (by first | assumption | exact News.keep2 (by assumption)) ⟨_, _, _, _, ⟨.sign, sub d b 1, b⟩, b + 1, rfl, rfl, ⟨_, _, _, rfl⟩, by unfold tokenAt; rw [if_neg (by assumption), if_neg (by assumption), if_neg (by assumption), if_pos q2]⟩
  · rename Option.isSome _ = false => q
    have q2 := (find_sub hb).symm.trans q
    exact hret _ [_, _] _ _ (by assumption) (by first | assumption | exact News.keep2 (by assumption)) ⟨_, _, _, _, ⟨.atom, _, _⟩, _, rfl, rfl, ⟨_, _, _, rfl⟩, by unfold tokenAt; rw [if_neg (by assumption), if_neg (by assumption), if_neg (by assumption), if_neg (by rw [q2]; decide), if_neg (by simp [*])]⟩
  · rename Option.isSome _ = false => q
    have q2 := (find_sub hb).symm.trans q
    exact Faults.mk (by unfold tokenAt; rw [if_neg (by assumption), if_neg (by assumption), if_neg (by assumption), if_neg (by rw [q2]; decide), if_pos (by assumption)])
theorem fresh_NF6 : True := by w_top off; trivial
local macro_rules | `(tactic| walk_at "call ref") => `(tactic| (k_here; k_dflt (refine Ctr.useA (token_at_gives _ _ _ _ _ _ _ _ (by assumption) (by omega) _) (hret := ?_) (hrai := RaiseTo.passA ?_)); intro r tl h' tk' F' N' hR; obtain ⟨D, G, o, t2, x, k, e1, e2, hT, e3⟩ := hR; have hq' := tokenAt_ok (by omega) e3; subst e1 e2; walk_at "m_nsw"))
local macro_rules | `(tactic| walk_at "call ref") => `(tactic| (k_here; (with_reducible show wpAny _ _ (call (Value.ref 118) [_, Value.int 0 _]) _ _ _); (change wpAny _ _ (call (Value.ref 118) [_, Value.int ((0 : Nat) : Int) _]) _ _ _); k_dflt (refine Ctr.useA (past_white_gives _ _ _ _ _ _ _ _ (by assumption) (by omega) _) (hret := ?_) (hrai := RaiseTo.never)); intro r tl h' tk' F' N' hR; obtain ⟨⟨t', e1⟩, e2⟩ := hR; subst e1 e2; walk_at "m_nsw"))
theorem dup5 {A B : PySem.Str} {a a' b c d : Option Value} {r : PySem.Str → Option Value} : (fun y => if y = A then a else if y = A then a' else if y = B then b else if y = A then c else if y = B then d else r y) = fun y => if y = A then a else if y = B then b else r y := by
  funext y; repeat' split
  all_goals first | rfl | contradiction
theorem pastWhite_le {d : List UInt8} {n : Nat} (h : n ≤ d.length) : n ≤ pastWhite d n ∧ pastWhite d n ≤ d.length := whiteGo_le _ _ h
theorem tokensGo_end {d : List UInt8} {n i : Nat} {acc : List T} (h : ¬ i < d.length) : tokensGo d n i acc = .ok acc := by cases n <;> simp [tokensGo, h]
theorem tokensGo_step {d : List UInt8} {n i k : Nat} {acc : List T} {x : T} (h : i < d.length) (h2 : tokenAt d i = .ok (x, k)) : tokensGo d (n + 1) i acc = tokensGo d n (pastWhite d k) (acc ++ [x]) := by simp only [tokensGo, if_pos h, h2]
theorem tokensGo_bad {d : List UInt8} {n i : Nat} {acc : List T} (hn : 0 < n) (h : i < d.length) (z : Int) (h2 : Faults (tokenAt d i) z) : Faults (tokensGo d n i acc) z := by
  obtain ⟨n, rfl⟩ := Nat.exists_eq_succ_of_ne_zero (Nat.ne_of_gt hn)
  obtain ⟨k, e, h3⟩ := h2
  exact ⟨k, e, by simp only [Nat.succ_eq_add_one, tokensGo, if_pos h, h3]⟩
theorem News.tok_ne {h₀ h' : Heap} {L D P : Addr} {o : Obj} {x : T} {its : Array Value} {n : Nat} {l : List (Addr × Obj)} (N : News h₀ L h' l) (hT : IsTok o x) (h1 : (D, o) ∈ l) (h2 : (P, W.listOf its n) ∈ l) : D ≠ P := by
  rintro rfl
  obtain ⟨t1, t2, t3, rfl⟩ := hT
  have := (N _ h1).1.symm.trans (N _ h2).1
  simp [tupOf, W.listOf] at this
theorem News.tok_apart {h₀ h' : Heap} {L D P : Addr} {o : Obj} {x : T} {its : Array Value} {n : Nat} {l os news : List (Addr × Obj)} (N : News h₀ L h' l) (hT : IsTok o x) (h1 : (D, o) ∈ l) (h2 : (P, W.listOf its n) ∈ l) (hos : ∀ p ∈ os, p.1 ≠ P) (hl : ∀ p ∈ news, p.1 ≠ P) : ∀ p ∈ (D, o) :: (os ++ news), p.1 ≠ P := by
  intro p hp
  rcases List.mem_cons.mp hp with rfl | hp
  · exact News.tok_ne N hT h1 h2
  · rcases List.mem_append.mp hp with hp | hp
    · exact hos p hp
    · exact hl p hp
structure Held (P : Prop) : Prop where
  out : P
inductive ToksAre : List Value → List (Addr × Obj) → List T → Prop
  | nil : ToksAre [] [] []
  | snoc {vs os ts} (D : Addr) {o : Obj} {x : T} : ToksAre vs os ts → IsTok o x → ToksAre (vs ++ [.ref D]) ((D, o) :: os) (ts ++ [x])
theorem ToksAre.length {vs os ts} (h : ToksAre vs os ts) : vs.length = ts.length := by
  induction h with
  | nil => rfl
  | snoc _ _ _ ih => simp [ih]
set_option maxRecDepth 100000 in
set_option maxHeartbeats 8000000 in
theorem tokens_of_gives (w : World) (mean : ExcName → Option Value) (mg mb : Str → Option Value) (d : List UInt8) (t : Tok) (hz : d.length ≤ 16777216) (news : List (Addr × Obj)) :
    Ctr w mean mg mb 10 125 [.bytes d.toArray t] news (fun r tl => ∃ D k vs os ts, r = .ref D ∧ tl = (D, listOf vs.toArray k) :: os ∧ ToksAre vs os ts ∧ tokensOf d = .ok ts) (Faults (tokensOf d)) := by
  unfold Ctr
  k_fill
  intro dp un gd cn cs a ccd cl outer A₀ base h₀ L m s Q E B F X N Tp hk hd hu hret hrai
  walk_at "m_enter"
  intro g L' h₁ FG F1 N1 B1 X1 T1
  dsimp only
  k_fold
  generalize s.toks + List.length _ = tk0
  replace F1 : Fr g L' h₁ (fun y => List.lookup y [(Str.ofString "octets", Value.bytes d.toArray t)]) := F1
  refine wp_abs fun Q1 hQ1 => ?_
  k_steps
  unfold Halt
  have hw0 := pastWhite_le (d := d) (n := 0) (Nat.zero_le _)
  rename_i P _ h9 _ _ _ _ _ _ Fa Na
  refine While_inv2 (fun n m₁ news₁ => ∃ (i : Nat) (ti : Tok) (u : Option Value) (vs : List Value) (os : List (Addr × Obj)) (ts : List T) (k : Nat),
    m₁ = (fun y => if y = Str.ofString "at" then some (Value.int (i : Int) ti) else if y = Str.ofString "token" then u else if y = Str.ofString "found" then some (.ref P) else List.lookup y [(Str.ofString "octets", Value.bytes d.toArray t)]) ∧
    news₁ = (P, listOf vs.toArray k) :: (os ++ news) ∧ ToksAre vs os ts ∧ Held (∀ p ∈ os, p.1 ≠ P) ∧ tokensGo d n i ts = tokensOf d ∧ d.length + 1 ≤ n + i ∧ i ≤ d.length ∧ vs.length ≤ i) (n₀ := d.length + 1) (by assumption) (by assumption) ?_ ?_
  · exact ⟨pastWhite d 0, _, none, [], [], [], 0, funext fun y => by
      by_cases h : y = Str.ofString "token"
      · subst h; rfl
      · simp only [if_neg h], rfl, .nil, ⟨fun p hp => absurd hp List.not_mem_nil⟩, rfl, by omega, by omega, Nat.zero_le _⟩
  · intro n m₁ news₁ h2 tk2 F2 N2 hJ0
    refine While_abs fun Q2 hQ2 => ?_
    obtain ⟨i, ti, u, vs, os, ts, k, rfl, rfl, hv, hos, hgo, hfu, hi, hlen⟩ := hJ0
    have hz3 : vs.length ≤ 16777216 := by omega
    k_steps
    · rename IsTok _ _ => hT
      rename tokenAt d i = _ => hk3
      have hq := tokenAt_ok (by omega) hk3
      with_reducible rename News g L' _ _ => N3
      have hl2 := News.tok_apart N3 hT (by k_mem) (by k_mem) hos.out (fun p hp => Nat.ne_of_lt (h9 p hp))
      have hos2 : Held (∀ p ∈ (_, _) :: os, p.1 ≠ P) := ⟨fun p hp => hl2 p (by rw [← List.cons_append]; exact List.mem_append_left _ hp)⟩
      k_steps
      obtain ⟨n, rfl⟩ := Nat.exists_eq_succ_of_ne_zero (show n ≠ 0 by omega)
      have hw := pastWhite_le (d := d) hq.2
      exact ⟨_, _, _, (P, _) :: (((_, _) :: os) ++ news), n, rfl, by assumption, by assumption, Nat.lt_succ_self _, _, _, _, _, _, _, _, dup5, rfl, .snoc _ hv hT, hos2, by rw [← hgo, tokensGo_step (by omega) hk3], by omega, by omega, by simp; omega⟩
    · intro z hz
      rw [← hgo]; exact tokensGo_bad (by omega) (by omega) z hz
    · exact hret _ ((P, _) :: os) _ _ (by assumption) (by assumption) ⟨_, _, _, _, _, rfl, rfl, hv, by rw [← hgo, tokensGo_end (by omega)]⟩
theorem fresh_NF7 : True := by w_top off; trivial
local macro_rules | `(tactic| walk_at "call builtin:list.append") => `(tactic| (k_here; (with_reducible show wpAny _ _ (call (Value.builtin _) [Value.ref _, _]) _ _ _); k_dflt (refine append_M2 (by k_asm) (by k_asm) (by k_mem) (by assumption) (by walk_at "m_sub") (by walk_at "m_len") ?_); intro h' F' N'; (try k_sweep)))
local macro_rules | `(tactic| walk_at "m_len") => `(tactic| first | assumption | (simp only [List.length_append, List.length_cons, List.length_nil]; omega))
local macro_rules | `(tactic| walk_at "exec For Name Call cons nil") => `(tactic| (refine Halt.out ?_))
local macro_rules | `(tactic| walk_at "exec For Name Name cons nil") => `(tactic| (refine Halt.out ?_))
local macro_rules | `(tactic| walk_at "pyIter ref") => `(tactic| (refine Halt.out ?_))
section
variable {prog : Program} {w : World} {A : Around} {E : Value → Shared → Prop} {s : Shared} {env : Env} {h₀ : Heap} {x : Str} {body : List Stmt} {Q : Flow → Shared → Prop}
theorem range_loop {r : Addr} {n : Nat} {m₀ : Str → Option Value} {news : List (Addr × Obj)} {t₀ u₀ v₀ : Tok} (J : Nat → (Str → Option Value) → List (Addr × Obj) → Prop)
    (hh : A.handled = none) (hr : IsRange s.heap r 0 (n : Int) 1 t₀ u₀ v₀) (hz : n ≤ 16777216) (F : Fr h₀ env.locals s.heap m₀) (N : News h₀ env.locals s.heap news) (hj : J 0 m₀ news)
    (turn : ∀ i t m₁ nx h tk own, i < n → OwnOff own (nx.map (·.1)) → J i m₁ nx → Fr h₀ env.locals h (fun y => if y = x then some (.int (i : Int) t) else m₁ y) → News h₀ env.locals h (nx ++ own) →
      wpAny (model prog w) A (execs body env) (InvPostG h₀ env.locals (J (i + 1)) own { s with heap := h, toks := tk } Q) E { s with heap := h, toks := tk })
    (done : ∀ m₁ nx h tk, J n m₁ nx → Fr h₀ env.locals h m₁ → News h₀ env.locals h nx → Q .next { s with heap := h, toks := tk }) :
    wpAny (model prog w) A (pyIter (.ref r)) (fun it s₂ => LoopAtV prog w A h₀ env x body Q E it s₂) E s := by
  have hsz : Builtin.Range.rangeSize 0 (n : Int) 1 = (n : Int) := by rw [rangeSize_one]; split <;> omega
  have hsmall : Builtin.Range.small 0 (n : Int) 1 = true := by
    exact small_one (by omega) (by omega) (by omega) (by omega)
  refine wpAny_pyIter_range hr hsmall ?_
  have W : Walks prog w A s.heap.objs.size [s.heap.objs.size] [s.heap.objs.size] n (fun i v => i < n ∧ ∃ t, v = .int (0 + i * 1) t)
      (fun i h => IsRangeIter h s.heap.objs.size (0 + (i : Nat) * 1) ((n : Int) - (i : Nat)) 1) := (Walks.range hh _ 0 1 n).bound
  refine kdr_loop J W (fun _ h => h) (fun _ h => h) ?_ ?_ ?_ ?_ (by show IsRangeIter _ _ _ _ _; rw [hsz]; simpa using Heap.get?_push_size _ rfl) (F.push _) (fun p hp => ⟨Heap.get?_push_of_some _ (N p hp).1, (N p hp).2⟩) hj ?_ ?_
  · intro i h hi b hb
    rw [List.mem_singleton.mp hb]
    exact ⟨_, hi⟩
  · intro hm
    exact absurd F.ns.lt ((List.mem_singleton.mp hm) ▸ Nat.lt_irrefl _)
  · intro b hb
    rw [List.mem_singleton.mp hb]
    exact next_is_new F
  · intro p hp hI
    exact absurd (Heap.lt_size (N p hp).1) ((List.mem_singleton.mp hI) ▸ Nat.lt_irrefl _)
  · rintro i v m₁ nx h tk own hi ⟨_, t, rfl⟩ hoff hJ F₁ N₁
    have e1 : (0 : Int) + (i : Int) * 1 = (i : Int) := by omega
    rw [e1] at F₁
    exact turn i t m₁ nx h tk own hi hoff hJ F₁ N₁
  · rintro m₁ nx h tk hJ F₁ N₁
    exact done m₁ nx h tk hJ F₁ N₁
end
theorem sub_own {q : Addr × Obj} {l own : List (Addr × Obj)} : ∀ p ∈ q :: l, p ∈ q :: (l ++ own) := fun p hp => by
  rw [List.mem_cons] at hp ⊢; exact hp.elim .inl fun h => .inr (List.mem_append_left _ h)
theorem own_sub {q : Addr × Obj} {l own : List (Addr × Obj)} : ∀ p ∈ own, p ∈ q :: (l ++ own) := fun p hp => List.mem_cons_of_mem _ (List.mem_append_right _ hp)
theorem code_at {d : List UInt8} {i : Nat} : (cAt d i).toNat.toUInt8 = d.getD i 0 := by unfold cAt; simp
theorem escd_take {sg d : List UInt8} {i : Nat} (h : i < d.length) : escd sg (d.take (i + 1)) = escd sg (d.take i) ++ (if sg.contains (cAt d i).toNat.toUInt8 = true then [92, d.getD i 0] else [d.getD i 0]) := by
  rw [code_at, List.take_succ_eq_append_getElem h]
  unfold escd
  rw [List.flatMap_append]
  simp [List.getD, h]
theorem escd_len (sg d : List UInt8) : (escd sg d).length ≤ 2 * d.length := by
  unfold escd
  induction d with
  | nil => simp
  | cons c r ih =>
    rw [List.flatMap_cons, List.length_append, List.length_cons]
    split <;> simp only [List.length_cons, List.length_nil] <;> omega
set_option maxRecDepth 100000 in
set_option maxHeartbeats 8000000 in
theorem escaped_gives (w : World) (mean : ExcName → Option Value) (mg mb : Str → Option Value) (d sg : List UInt8) (t t1 : Tok) (hz : d.length ≤ 65536) (hn : ∀ n, n < d.length → nev (cAt d n) = false) (news : List (Addr × Obj)) :
    Ctr w mean mg mb 3 144 [.bytes d.toArray t, .bytes sg.toArray t1] news (fun r tl => ∃ t', r = .bytes (escd sg d).toArray t' ∧ tl = []) (fun _ => False) := by
  unfold Ctr
  k_fill
  intro dp un gd cn cs a ccd cl outer A₀ base h₀ L m s Q E B F X N Tp hk hd hu hret hrai
  walk_at "m_enter"
  intro g L' h₁ FG F1 N1 B1 X1 T1
  dsimp only
  k_fold
  generalize s.toks + List.length _ = tk0
  replace F1 : Fr g L' h₁ (fun y => List.lookup y [(Str.ofString "signs", Value.bytes sg.toArray t1), (Str.ofString "octets", Value.bytes d.toArray t)]) := F1
  refine wp_abs fun Q1 hQ1 => ?_
  have hz1 : d.length ≤ 16777216 := by omega
  k_steps
  unfold Halt
  refine For_invV g rfl rfl ?_
  k_steps
  unfold Halt
  rename IsRange _ _ _ _ _ _ _ _ => hR
  rename ∀ p ∈ news, p.1 < _ => h9
  refine range_loop (fun i m₁ nx => ∃ (u : Option Value) (P : Addr) (vs : List Value) (ws : List (List UInt8)) (k : Nat),
    m₁ = (fun y => if y = Str.ofString "at" then u else if y = Str.ofString "parts" then some (.ref P) else List.lookup y [(Str.ofString "signs", Value.bytes sg.toArray t1), (Str.ofString "octets", Value.bytes d.toArray t)]) ∧
    nx = (P, listOf vs.toArray k) :: news ∧ Held (∀ p ∈ news, p.1 ≠ P) ∧ BytesAre vs ws ∧ ws.flatten = escd sg (d.take i) ∧ vs.length ≤ 2 * i) (by rfl) hR (by omega) (by assumption) (by assumption) ?_ ?_ ?_
  · exact ⟨none, _, [], [], 0, funext fun y => by
      by_cases h : y = Str.ofString "at"
      · subst h; rfl
      · simp only [if_neg h], rfl, ⟨fun p hp => Nat.ne_of_lt (h9 p hp)⟩, .nil, rfl, Nat.zero_le _⟩
  · intro i ti m₁ nx h2 tk2 own hi hoff hJ0 F2 N2
    refine wp_abs fun Q2 hQ2 => ?_
    obtain ⟨u, P, vs, ws, k, rfl, rfl, hne, hv, hgo, hlen⟩ := hJ0
    have hl2 : ∀ p ∈ news ++ own, p.1 ≠ P := fun p hp => by
      rcases List.mem_append.mp hp with h | h
      · exact hne.out p h
      · exact hoff p h P (List.Mem.head _)
    have hz3 : vs.length ≤ 16777216 := by omega
    rw [List.cons_append] at N2
    k_steps
    · with_reducible rename Fr _ _ _ _ => sF
      with_reducible rename News _ _ _ _ => sN
      refine InvEndG.intro (nx := (P, _) :: news) sF sN ⟨_, P, _, _, _, dup1, rfl, hne, (hv.snoc [92] _).snoc _ _, ?_, ?_⟩ hoff (sub_own (own := own)) own_sub
      · rw [escd_take hi, if_pos (by assumption), ← hgo, sub_one hi]; simp
      · simp; omega
    · with_reducible rename Fr _ _ _ _ => sF
      with_reducible rename News _ _ _ _ => sN
      refine InvEndG.intro (nx := (P, _) :: news) sF sN ⟨_, P, _, _, _, dup1, rfl, hne, hv.snoc _ _, ?_, ?_⟩ hoff (sub_own (own := own)) own_sub
      · rw [escd_take hi, if_neg (by simp only [*]; decide), ← hgo, sub_one hi]; simp
      · simp; omega
  · rintro m₁ nx h2 tk2 ⟨u, P, vs, ws, k, rfl, rfl, hne, hv, hgo, hlen⟩ F2 N2
    have hgo' : ws.flatten = escd sg d := by rw [hgo, List.take_of_length_le (Nat.le_refl _)]
    have hz2 : ws.flatten.length ≤ 16777216 := by have := escd_len sg d; rw [hgo']; omega
    k_steps
    exact hret _ [] _ _ (by assumption) (by walk_at "m_fin") ⟨_, by rw [hgo'], rfl⟩
theorem fresh_NF8 : True := by w_top off; trivial
local macro_rules | `(tactic| walk_at "call ref") => `(tactic| (k_here; k_dflt (refine Ctr.useA (escaped_gives _ _ _ _ _ _ _ _ (by assumption) (by assumption) _) (hret := ?_) (hrai := RaiseTo.never)); intro r tl h' tk' F' N' hR; obtain ⟨t', e1, e2⟩ := hR; subst e1 e2; walk_at "m_nsw"))
section
variable {prog : Program} {w : World} {A : Around} {E : Value → Shared → Prop} {s : Shared} {Q : Value → Shared → Prop}
theorem add_B {b c : List UInt8} {t u : Tok} (hsz : b.length + c.length ≤ 16777216) (h : ∀ t' k, Q (.bytes (b ++ c).toArray t') { s with toks := k }) : wpAny (model prog w) A (binaryOp .Add (.bytes b.toArray t) (.bytes c.toArray u)) Q E s :=
  KBy.add_bytes (by simpa using hsz) fun t' k => by have := h t' k; simpa using this
end
local macro_rules | `(tactic| walk_at "binaryOp Add bytes bytes") => `(tactic| (k_here; (with_reducible show wpAny _ _ (binaryOp Operator.Add (Value.bytes _ _) (Value.bytes _ _)) _ _ _); k_dflt (refine add_B (by walk_at "m_len") ?_); intro t' tk'))
local macro_rules | `(tactic| walk_at "m_len") => `(tactic| first | assumption | (simp only [List.length_append, List.length_cons, List.length_nil]; omega))
set_option maxRecDepth 100000 in
set_option maxHeartbeats 8000000 in
theorem quoted_gives (w : World) (mean : ExcName → Option Value) (mg mb : Str → Option Value) (d : List UInt8) (t : Tok) (hw : Worthy d) (news : List (Addr × Obj)) :
    Ctr w mean mg mb 5 151 [.bytes d.toArray t] news (fun r tl => ∃ t', r = .bytes ([34] ++ escd [34, 92] d ++ [34]).toArray t' ∧ tl = []) (fun _ => False) := by
  unfold Ctr
  k_fill
  intro dp un gd cn cs a ccd cl outer A₀ base h₀ L m s Q E B F X N Tp hk hd hu hret hrai
  walk_at "m_enter"
  intro g L' h₁ FG F1 N1 B1 X1 T1
  dsimp only
  k_fold
  generalize s.toks + List.length _ = tk0
  replace F1 : Fr g L' h₁ (fun y => List.lookup y [(Str.ofString "octets", Value.bytes d.toArray t)]) := F1
  refine wp_abs fun Q1 hQ1 => ?_
  obtain ⟨hz, hn⟩ := hw
  have he := escd_len [34, 92] d
  k_steps
  exact hret _ [] _ _ (by assumption) (by walk_at "m_fin") ⟨_, rfl, rfl⟩
local macro_rules | `(tactic| walk_at "call ref") => `(tactic| (k_here; k_dflt (refine Ctr.useA (quoted_gives _ _ _ _ _ _ (by assumption) _) (hret := ?_) (hrai := RaiseTo.never)); intro r tl h' tk' F' N' hR; obtain ⟨t', e1, e2⟩ := hR; subst e1 e2; walk_at "m_nsw"))
theorem News.also {h₀ h' : Heap} {L : Addr} {l : List (Addr × Obj)} {p : Addr × Obj} (N : News h₀ L h' l) (hp : p ∈ l) : News h₀ L h' (p :: l) := fun x hx => by
  rcases List.mem_cons.mp hx with rfl | hx
  · exact N _ hp
  · exact N _ hx
set_option maxRecDepth 100000 in
set_option maxHeartbeats 8000000 in
theorem show_token_gives (w : World) (mean : ExcName → Option Value) (mg mb : Str → Option Value) (G : Addr) (o : Obj) (x : T) (news : List (Addr × Obj)) (hG : (G, o) ∈ news) (hT : IsTok o x) (hw : Worthy x.worth) :
    Ctr w mean mg mb 7 158 [.ref G] news (fun r tl => ∃ t', r = .bytes (shown x).toArray t' ∧ tl = []) (fun _ => False) := by
  unfold Ctr
  k_fill
  intro dp un gd cn cs a ccd cl outer A₀ base h₀ L m s Q E B F X N Tp hk hd hu hret hrai
  walk_at "m_enter"
  intro g L' h₁ FG F1 N1 B1 X1 T1
  dsimp only
  k_fold
  generalize s.toks + List.length _ = tk0
  replace F1 : Fr g L' h₁ (fun y => List.lookup y [(Str.ofString "token", Value.ref G)]) := F1
  refine wp_abs fun Q1 hQ1 => ?_
  obtain ⟨hz, hn⟩ := id hw
  have he := escd_len [34, 92] x.worth
  have he2 := escd_len [91, 93, 92] x.worth
  have he3 := escd_len [40, 41, 92] x.worth
  obtain ⟨t1, t2, t3, rfl⟩ := hT
  have N2 := News.also N1 hG
  clear N1
  obtain ⟨kd, wd, pos⟩ := x
  dsimp only at *
  cases kd <;> simp only [kstr] at N2 hG
  all_goals k_steps
  all_goals exact hret _ [] _ _ (by assumption) (by walk_at "m_fin") ⟨_, rfl, rfl⟩
theorem fresh_NF9 : True := by w_top off; trivial
theorem Ctr.useNA {w : World} {mean : ExcName → Option Value} {mg mb : Str → Option Value} {k : Nat} {f : Addr} {vs : List Value} {news : List (Addr × Obj)} {R : Value → List (Addr × Obj) → Prop} {X : Int → Prop}
    {dp un : Nat} {gd : Option (List Code)} {cn : Str} {cs : Scope} {a : Addr} {ccd : Value} {cl : List (Str × Addr)} {outer : List Env} {A₀ : Around} {base h₀ : Heap} {L : Addr} {m : Str → Option Value} {s : Shared} {Q E : Value → Shared → Prop}
    (N : News h₀ L s.heap news) (C : Ctr w mean mg mb k f vs news R X)
    (B : Below A₀ base outer h₀ := by k_asm) (F : Fr h₀ L s.heap m := by k_asm) (K : (hd.heap_1 w.params).In h₀ := by k_asm) (T : Top hd.view_1 LO mean mg mb h₀ := by k_asm) (hk : cs.kind = .function := by first | exact rfl | assumption) (h1 : dp + k < recursionLimit := by walk_at "m_room") (h2 : un + 8 * k < cLine := by walk_at "m_room")
    (hret : ∀ (r : Value) (tl : List (Addr × Obj)) (h' : Heap) (tk' : Nat), Fr h₀ L h' m → News h₀ L h' (tl ++ news) → R r tl → Q r { s with heap := h', toks := tk' })
    (hrai : RaiseTo w base (envX cn cs L a ccd cl :: outer) news h₀ L m s X E) :
    wpAny (model PySem.Challenge.rw_no0365_01.row.prog w) (ktrTop dp un gd cn cs L a ccd cl outer) (call (.ref f) vs) Q E s := Ctr.use C B F K N T hk h1 h2 hret hrai
noncomputable def Toks (led : List (Addr × Obj)) (vs : List Value) (ts : List T) : Prop :=
  vs.length = ts.length ∧ ∀ (i : Nat) (x : T), ts[i]? = some x → ∃ (D : Addr) (o : Obj), vs[i]? = some (Value.ref D) ∧ (D, o) ∈ led ∧ IsTok o x
theorem Toks.mono {led led' : List (Addr × Obj)} {vs : List Value} {ts : List T} (h : Toks led vs ts) (hs : ∀ p ∈ led, p ∈ led') : Toks led' vs ts :=
  ⟨h.1, fun i x hx => let ⟨D, o, h1, h2, h3⟩ := h.2 i x hx; ⟨D, o, h1, hs _ h2, h3⟩⟩
theorem ToksAre.toks {vs os ts} (h : ToksAre vs os ts) : Toks os vs ts := by
  induction h with
  | nil => exact ⟨rfl, fun i x hx => by simp at hx⟩
  | @snoc vs os ts D o x hv hT ih =>
    refine ⟨by simp [ih.1], fun i y hy => ?_⟩
    by_cases q : i < ts.length
    · rw [List.getElem?_append_left q] at hy
      obtain ⟨D', o', h1, h2, h3⟩ := ih.2 i y hy
      exact ⟨D', o', by rw [List.getElem?_append_left (by rw [ih.1]; exact q)]; exact h1, List.mem_cons_of_mem _ h2, h3⟩
    · have q2 : i = ts.length := by
        have : i < (ts ++ [x]).length := by
          rcases Nat.lt_or_ge i (ts ++ [x]).length with z | z
          · exact z
          · rw [List.getElem?_eq_none z] at hy; cases hy
        simp at this; omega
      subst q2
      simp at hy
      subst hy
      exact ⟨D, o, by rw [← ih.1]; simp, List.mem_cons_self, hT⟩
theorem allLt_mem {d : Addr} : ∀ {l : List (Addr × Obj)}, AllLt d l → ∀ p ∈ l, p.1 < d
  | [], _, p, hp => absurd hp List.not_mem_nil
  | q :: r, h, p, hp => by
    rcases List.mem_cons.mp hp with rfl | hp
    · exact h.1
    · exact allLt_mem h.2 p hp
section
variable {prog : Program} {w : World} {A : Around} {E : Value → Shared → Prop} {s : Shared} {h₀ : Heap} {L l : Addr}
theorem tok_item {value slice : PySem.Expr} {news L9 : List (Addr × Obj)} {us : List Value} {ts : List T} {n i : Nat} {j : Int} {u : Tok} {Q : Value → Shared → Prop} (N : News h₀ L s.heap news) (hm : (l, listOf us.toArray n) ∈ news) (hd : Toks L9 us ts) (hs9 : ∀ p ∈ L9, p ∈ news)
    (hj : j = i) (h1 : i < ts.length) (hfit : ts.length ≤ 16777216) (h : ∀ D t1 t2 t3, News h₀ L s.heap ((D, tupOf [.str (kstr (tsAt ts i).kind) t1, .bytes (tsAt ts i).worth.toArray t2, .int ((tsAt ts i).at_ : Int) t3]) :: news) → (D, tupOf [.str (kstr (tsAt ts i).kind) t1, .bytes (tsAt ts i).worth.toArray t2, .int ((tsAt ts i).at_ : Int) t3]) ∈ L9 → Q (.ref D) s)
    (hs : subscripted slice false (.ref l) (.int j u) = operate [.ref l, .int j u] (getItem (.ref l) (.int j u)) := by with_unfolding_all rfl) :
    wpAny (model prog w) A (subscriptTail value slice (.ref l) (.int j u)) Q E s := by
  subst hj
  have hl : s.heap.IsList l us.toArray := ⟨_, (N _ hm).1, rfl, n, rfl⟩
  obtain ⟨D, o, e1, e2, t1, t2, t3, rfl⟩ := hd.2 i (tsAt ts i) (tsAt_get h1)
  refine tail_any hl.typeIs slot_list_getitem.lookup (wpAny_getItem_list hl (Int.natCast_nonneg _) (by omega) (by simpa using e1) ?_) hs
  exact h D _ _ _ (News.also N (hs9 _ e2)) e2
theorem tok_len {news L9 : List (Addr × Obj)} {us : List Value} {ts : List T} {n : Nat} {Q : Value → Shared → Prop} (N : News h₀ L s.heap news) (hm : (l, listOf us.toArray n) ∈ news) (hd : Toks L9 us ts) (hfit : ts.length ≤ 16777216)
    (h : ∀ t' k, Q (.int (ts.length : Int) t') { s with toks := k }) : wpAny (model prog w) A (call (.builtin "len") [.ref l]) Q E s := by
  have hl : s.heap.IsList l us.toArray := ⟨_, (N _ hm).1, rfl, n, rfl⟩
  have e : us.toArray.size = ts.length := by rw [List.size_toArray, hd.1]
  exact len_list hl (by rw [e]; omega) (by rw [e]; exact h _ _)
end
local macro_rules | `(tactic| walk_at "call builtin:len") => `(tactic| (k_here; (with_reducible show wpAny _ _ (call (Value.builtin "len") [Value.ref _]) _ _ _); k_dflt (refine tok_len (by k_asm) (by k_mem) (by assumption) (by assumption) ?_); intro t' tk'))
local macro_rules | `(tactic| walk_at "call ref") => `(tactic| (k_here; (with_reducible rename News _ _ _ _ => sN); k_dflt (refine Ctr.useNA sN (show_token_gives _ _ _ _ _ _ _ _ (List.Mem.head _) ⟨_, _, _, rfl⟩ (by walk_at "m_worthy")) (hret := ?_) (hrai := RaiseTo.never)); intro r tl h' tk' F' N' hR; obtain ⟨t', e1, e2⟩ := hR; subst e1 e2; walk_at "m_nsw"))
local macro_rules | `(tactic| walk_at "m_worthy") => `(tactic| (with_reducible rename ∀ x ∈ _, Worthy _ => hw'; exact hw' _ (tsAt_mem (by omega))))
local macro_rules | `(tactic| walk_at "m_mem") => `(tactic| first | k_mem | exact List.mem_cons_of_mem _ (List.mem_append_left _ (by assumption)))
local macro_rules | `(tactic| walk_at "subscriptTail") => `(tactic| (k_here; (with_reducible show wpAny _ _ (subscriptTail _ _ (Value.ref _) (Value.int _ _)) _ _ _); (with_reducible rename Toks _ _ _ => tkT); (with_reducible rename News _ _ _ _ => sN); (first | k_dflt (refine tok_item sN (by walk_at "m_mem") tkT (by walk_at "m_sub") rfl (by omega) (by assumption) ?_) | k_dflt (refine tok_item (i := Int.toNat _) sN (by walk_at "m_mem") tkT (by walk_at "m_sub") (Int.toNat_of_nonneg (by omega)).symm (by omega) (by assumption) ?_)); clear sN; intro D t1 t2 t3 sN' hm'))
theorem kstr_atom (k : Kind) : (kstr k == Str.ofString "atom") = decide (k = .atom) := by cases k <;> decide
theorem show_yes {ts : List T} {i : Nat} (h0 : 0 < i) (hi : i < ts.length) (h1 : (kstr (tsAt ts i).kind == Str.ofString "atom") = true) (h2 : (kstr (tsAt ts ((i : Int) - 1).toNat).kind == Str.ofString "atom") = true) : (lastAtom false (ts.take i) && isAtomT (tsAt ts i)) = true := by
  obtain ⟨i, rfl⟩ := Nat.exists_eq_succ_of_ne_zero (Nat.ne_of_gt h0)
  have e : (((i.succ : Nat) : Int) - 1).toNat = i := by omega
  rw [e, kstr_atom] at h2
  rw [kstr_atom] at h1
  rw [Nat.succ_eq_add_one, lastAtom_take i (by omega)]
  simp only [isAtomT, h2]; simpa [isAtomT] using h1
theorem show_no1 {ts : List T} {i : Nat} (h0 : 0 < i) (hi : i < ts.length) (h2 : (kstr (tsAt ts ((i : Int) - 1).toNat).kind == Str.ofString "atom") = false) : (lastAtom false (ts.take i) && isAtomT (tsAt ts i)) = false := by
  obtain ⟨i, rfl⟩ := Nat.exists_eq_succ_of_ne_zero (Nat.ne_of_gt h0)
  have e : (((i.succ : Nat) : Int) - 1).toNat = i := by omega
  rw [e, kstr_atom] at h2
  rw [Nat.succ_eq_add_one, lastAtom_take i (by omega)]
  simp only [isAtomT, h2, Bool.false_and]
theorem show_no2 {ts : List T} {i : Nat} (h1 : (kstr (tsAt ts i).kind == Str.ofString "atom") = false) : (lastAtom false (ts.take i) && isAtomT (tsAt ts i)) = false := by
  rw [kstr_atom] at h1
  simp only [isAtomT, h1, Bool.and_false]
theorem show_no3 {ts : List T} {i : Nat} (h0 : ¬ 0 < i) : (lastAtom false (ts.take i) && isAtomT (tsAt ts i)) = false := by
  have : i = 0 := by omega
  subst this; rfl
set_option maxRecDepth 100000 in
set_option maxHeartbeats 8000000 in
theorem show_tokens_gives (w : World) (mean : ExcName → Option Value) (mg mb : Str → Option Value) (Dt : Addr) (us : List Value) (kk : Nat) (ts : List T) (news : List (Addr × Obj)) (hm : (Dt, listOf us.toArray kk) ∈ news) (hT : Toks news us ts) (hz : ts.length ≤ 65536) (hw : ∀ x ∈ ts, Worthy x.worth) (hs : (showAll false ts).length ≤ 16777216) :
    Ctr w mean mg mb 10 165 [.ref Dt] news (fun r tl => ∃ t', r = .bytes (showAll false ts).toArray t' ∧ tl = []) (fun _ => False) := by
  unfold Ctr
  k_fill
  intro dp un gd cn cs a ccd cl outer A₀ base h₀ L m s Q E B F X N Tp hk hd hu hret hrai
  walk_at "m_enter"
  intro g L' h₁ FG F1 N1 B1 X1 T1
  dsimp only
  k_fold
  generalize s.toks + List.length _ = tk0
  replace F1 : Fr g L' h₁ (fun y => List.lookup y [(Str.ofString "tokens", Value.ref Dt)]) := F1
  refine wp_abs fun Q1 hQ1 => ?_
  have hz1 : ts.length ≤ 16777216 := by omega
  have N2 := News.also N1 hm
  clear N1
  have hlen : us.length = ts.length := hT.1
  k_steps
  unfold Halt
  refine For_invV g rfl rfl ?_
  k_steps
  unfold Halt
  rename IsRange _ _ _ _ _ _ _ _ => hR
  rename _ ∧ AllLt _ news => h9
  refine range_loop (fun i m₁ nx => ∃ (u : Option Value) (P : Addr) (vs : List Value) (ws : List (List UInt8)) (k : Nat),
    m₁ = (fun y => if y = Str.ofString "spot" then u else if y = Str.ofString "parts" then some (.ref P) else List.lookup y [(Str.ofString "tokens", Value.ref Dt)]) ∧
    nx = (P, listOf vs.toArray k) :: news ∧ Held (∀ p ∈ news, p.1 ≠ P) ∧ BytesAre vs ws ∧ ws.flatten = showAll false (ts.take i) ∧ vs.length ≤ 2 * i) (by rfl) hR (by omega) (by assumption) (News.drop2 (by assumption)) ?_ ?_ ?_
  · exact ⟨none, _, [], [], 0, funext fun y => by
      by_cases h : y = Str.ofString "spot"
      · subst h; rfl
      · simp only [if_neg h], rfl, ⟨fun p hp => Nat.ne_of_lt (allLt_mem h9.2 p hp)⟩, .nil, rfl, Nat.zero_le _⟩
  · intro i ti m₁ nx h2 tk2 own hi hoff hJ0 F2 N2
    refine wp_abs fun Q2 hQ2 => ?_
    obtain ⟨u, P, vs, ws, k, rfl, rfl, hne, hv, hgo, hlen⟩ := hJ0
    have hl2 : ∀ p ∈ news ++ own, p.1 ≠ P := fun p hp => by
      rcases List.mem_append.mp hp with h | h
      · exact hne.out p h
      · exact hoff p h P (List.Mem.head _)
    have hz3 : vs.length ≤ 16777216 := by omega
    rw [List.cons_append] at N2
    have N3 := News.also N2 (List.mem_cons_of_mem _ (List.mem_append_left _ hm))
    clear N2
    k_steps
    · with_reducible rename Fr _ _ _ _ => sF
      with_reducible rename News _ _ _ _ => sN
      refine InvEndG.intro (nx := (P, _) :: news) sF sN ⟨_, P, _, _, _, dup1, rfl, hne, (hv.snoc [32] _).snoc _ _, ?_, ?_⟩ hoff (sub_own (own := own)) own_sub
      · rw [show_step hi, show_yes (by omega) hi (by assumption) (by assumption), ← hgo]; simp
      · simp; omega
    · with_reducible rename Fr _ _ _ _ => sF
      with_reducible rename News _ _ _ _ => sN
      refine InvEndG.intro (nx := (P, _) :: news) sF sN ⟨_, P, _, _, _, dup1, rfl, hne, hv.snoc _ _, ?_, ?_⟩ hoff (sub_own (own := own)) own_sub
      · rw [show_step hi, show_no1 (by omega) hi (by assumption), ← hgo]; simp
      · simp; omega
    · with_reducible rename Fr _ _ _ _ => sF
      with_reducible rename News _ _ _ _ => sN
      refine InvEndG.intro (nx := (P, _) :: news) sF sN ⟨_, P, _, _, _, dup1, rfl, hne, hv.snoc _ _, ?_, ?_⟩ hoff (sub_own (own := own)) own_sub
      · rw [show_step hi, show_no2 (by assumption), ← hgo]; simp
      · simp; omega
    · with_reducible rename Fr _ _ _ _ => sF
      with_reducible rename News _ _ _ _ => sN
      refine InvEndG.intro (nx := (P, _) :: news) sF sN ⟨_, P, _, _, _, dup1, rfl, hne, hv.snoc _ _, ?_, ?_⟩ hoff (sub_own (own := own)) own_sub
      · rw [show_step hi, show_no3 (by omega), ← hgo]; simp
      · simp; omega
  · rintro m₁ nx h2 tk2 ⟨u, P, vs, ws, k, rfl, rfl, hne, hv, hgo, hlen⟩ F2 N2
    have hgo' : ws.flatten = showAll false ts := by rw [hgo, List.take_of_length_le (Nat.le_refl _)]
    have hz2 : ws.flatten.length ≤ 16777216 := by rw [hgo']; omega
    k_steps
    exact hret _ [] _ _ (by assumption) (by walk_at "m_fin") ⟨_, by rw [hgo'], rfl⟩
open PyProof.Rows.LCg PyProof.Rows.LCt
theorem fresh_NF10 : True := by w_top off; trivial
theorem Toks.push {led : List (Addr × Obj)} {vs : List Value} {ts : List T} {D : Addr} {o : Obj} {x : T} (h : Toks led vs ts) (hm : (D, o) ∈ led) (hT : IsTok o x) : Toks led (vs ++ [.ref D]) (ts ++ [x]) := by
  refine ⟨by simp [h.1], fun i y hy => ?_⟩
  by_cases q : i < ts.length
  · rw [List.getElem?_append_left q] at hy
    obtain ⟨D', o', h1, h2, h3⟩ := h.2 i y hy
    exact ⟨D', o', by rw [List.getElem?_append_left (by rw [h.1]; exact q)]; exact h1, h2, h3⟩
  · have q2 : i = ts.length := by
      have : i < (ts ++ [x]).length := by
        rcases Nat.lt_or_ge i (ts ++ [x]).length with z | z
        · exact z
        · rw [List.getElem?_eq_none z] at hy; cases hy
      simp at this; omega
    subst q2
    simp at hy
    subst hy
    exact ⟨D, o, by rw [← h.1]; simp, hm, hT⟩
theorem Toks.nil (led : List (Addr × Obj)) : Toks led [] [] := ⟨rfl, fun i x hx => by simp at hx⟩
theorem kstr_comment (k : Kind) : (kstr k != Str.ofString "comment") = decide (k ≠ .comment) := by cases k <;> decide
theorem filter_take_yes {ts : List T} {i : Nat} (hi : i < ts.length) (q : (kstr (tsAt ts i).kind != Str.ofString "comment") = true) : (ts.take (i + 1)).filter (fun x => decide (x.kind ≠ .comment)) = (ts.take i).filter (fun x => decide (x.kind ≠ .comment)) ++ [tsAt ts i] := by
  have e : ts[i] = tsAt ts i := by simp [tsAt, hi]
  rw [kstr_comment] at q
  rw [List.take_succ_eq_append_getElem hi, List.filter_append, e]; simp only [List.filter_cons, List.filter_nil, q, if_true]
theorem filter_take_no {ts : List T} {i : Nat} (hi : i < ts.length) (q : (kstr (tsAt ts i).kind != Str.ofString "comment") = false) : (ts.take (i + 1)).filter (fun x => decide (x.kind ≠ .comment)) = (ts.take i).filter (fun x => decide (x.kind ≠ .comment)) := by
  have e : ts[i] = tsAt ts i := by simp [tsAt, hi]
  rw [kstr_comment] at q
  rw [List.take_succ_eq_append_getElem hi, List.filter_append, e]; simp only [List.filter_cons, List.filter_nil, q, Bool.false_eq_true, if_false, List.append_nil]
section
variable {prog : Program} {w : World} {A : Around} {s : Shared} {h₀ : Heap} {L : Addr} {m : Str → Option Value} {env : Env} {elt ct : PySem.Expr} {x : Str} {scope : Scope} {cl : List (Str × Addr)} {S : List (Addr × Obj) → Prop} {P : Nat → Value → Prop} {Fin : List Value → List (Addr × Obj) → Prop}
theorem CompEnd.mono {s₁ : Shared} {I C D : Addr} {oI oC oD : Obj} {rest rest' : Value → List (Addr × Obj) → Prop} {y : Value} {s₂ : Shared} (h : CompEnd h₀ L m s₁ I oI C oC D oD S rest y s₂) (hr : ∀ y n, rest y n → rest' y n) :
    CompEnd h₀ L m s₁ I oI C oC D oD S rest' y s₂ := by
  obtain ⟨h', tk, nw, e, F, N, off, hS, r⟩ := h
  exact ⟨h', tk, nw, e, F, N, off, hS, hr _ _ r⟩
theorem restT_ind (Inv : Nat → List Value → List (Addr × Obj) → Prop) (n' : Nat)
    (step : ∀ i ys news, i < n' → Inv i ys news → ∀ v I oI C oC D m₂ h tk (E' : Value → Shared → Prop), P i v → NsObj oC m₂ → m₂ x = some v → Fr h₀ L h m → News h₀ L h ((I, oI) :: (C, oC) :: (D, lst ys) :: news) → Off3 I C D news → ((@Ne Nat I C) ∧ (@Ne Nat I D) ∧ (@Ne Nat C D)) →
      wpAny (model prog w) A (isTrue ct (compEnvC scope cl C env) (eval ct (compEnvC scope cl C env))) (fun ok s' => if ok = true then
        wpAny (model prog w) A (eval elt (compEnvC scope cl C env)) (CompEnd h₀ L m { s with heap := h, toks := tk } I oI C oC D (lst ys) S (fun y news' => Inv (i + 1) (ys ++ [y]) news')) E' s'
        else CompEnd h₀ L m { s with heap := h, toks := tk } I oI C oC D (lst ys) S (fun _ news' => Inv (i + 1) ys news') Value.none s') E' { s with heap := h, toks := tk })
    (fin : ∀ ys news, Inv n' ys news → Fin ys news) : ∀ k i ys news, i + k = n' → Inv i ys news → CompRestT prog w A h₀ L m env ct elt x scope cl s S P Fin k i ys news
  | 0, i, ys, news, e, h => by
    have e' : i = n' := by omega
    subst e'
    exact CompRestT.zero (fin ys news h)
  | k + 1, i, ys, news, e, h => CompRestT.succ fun v I oI C oC D m₂ hp tk E' a1 a2 a3 a4 a5 a6 a7 => by
    refine wpAny_mono (step i ys news (by omega) h v I oI C oC D m₂ hp tk E' a1 a2 a3 a4 a5 a6 a7) (fun ok s' z => ?_) fun _ _ z => z
    cases ok with
    | true =>
      simp only [if_true] at z ⊢
      exact wpAny_mono z (fun y s2 z2 => CompEnd.mono z2 fun y n hn => restT_ind Inv n' step fin k (i + 1) _ _ (by omega) hn) fun _ _ z => z
    | false =>
      simp only [Bool.false_eq_true, if_false] at z ⊢
      exact CompEnd.mono z fun y n hn => restT_ind Inv n' step fin k (i + 1) _ _ (by omega) hn
theorem rest_ind (Inv : Nat → List Value → List (Addr × Obj) → Prop) (n' : Nat)
    (step : ∀ i ys news, i < n' → Inv i ys news → ∀ v I oI C oC D m₂ h tk (E' : Value → Shared → Prop), P i v → NsObj oC m₂ → m₂ x = some v → Fr h₀ L h m → News h₀ L h ((I, oI) :: (C, oC) :: (D, lst ys) :: news) → Off3 I C D news → ((@Ne Nat I C) ∧ (@Ne Nat I D) ∧ (@Ne Nat C D)) →
      wpAny (model prog w) A (eval elt (compEnvC scope cl C env)) (CompEnd h₀ L m { s with heap := h, toks := tk } I oI C oC D (lst ys) S (fun y news' => Inv (i + 1) (ys ++ [y]) news')) E' { s with heap := h, toks := tk })
    (fin : ∀ ys news, Inv n' ys news → Fin ys news) : ∀ k i ys news, i + k = n' → Inv i ys news → CompRest prog w A h₀ L m env elt x scope cl s S P Fin k i ys news
  | 0, i, ys, news, e, h => by
    have e' : i = n' := by omega
    subst e'
    exact CompRest.zero (fin ys news h)
  | k + 1, i, ys, news, e, h => CompRest.succ fun v I oI C oC D m₂ hp tk E' a1 a2 a3 a4 a5 a6 a7 =>
    wpAny_mono (step i ys news (by omega) h v I oI C oC D m₂ hp tk E' a1 a2 a3 a4 a5 a6 a7) (fun y s2 z2 => CompEnd.mono z2 fun y n hn => rest_ind Inv n' step fin k (i + 1) _ _ (by omega) hn) fun _ _ z => z
end
theorem Halt.outT {P : Prop} {led : List (Addr × Obj)} {vs : List Value} {ts : List T} (_ : Toks led vs ts) (h : Halt P) : P := h
local macro_rules | `(tactic| walk_at "eval ListComp") => `(tactic| (refine Halt.outT (by assumption) ?_))
local macro_rules | `(tactic| walk_at "exec Assign cons ListComp") => `(tactic| (refine Halt.outT (by assumption) ?_))
local macro_rules | `(tactic| walk_at "CompSrcT") => `(tactic| (refine Halt.outT (by assumption) ?_))
local macro_rules | `(tactic| walk_at "CompSrc") => `(tactic| (refine Halt.outT (by assumption) ?_))
set_option maxRecDepth 100000 in
set_option maxHeartbeats 8000000 in
theorem without_gives (w : World) (mean : ExcName → Option Value) (mg mb : Str → Option Value) (Dt : Addr) (us : List Value) (kk : Nat) (ts : List T) (news : List (Addr × Obj)) (hm : (Dt, listOf us.toArray kk) ∈ news) (hT : Toks news us ts) (hz : ts.length ≤ 65536) :
    Ctr w mean mg mb 10 130 [.ref Dt] news (fun r tl => ∃ D ys, r = .ref D ∧ tl = [(D, listOf (List.toArray ys) ys.length)] ∧ Toks news ys (ts.filter (fun x => decide (x.kind ≠ .comment)))) (fun _ => False) := by
  unfold Ctr
  k_fill
  intro dp un gd cn cs a ccd cl outer A₀ base h₀ L m s Q E B F X N Tp hk hd hu hret hrai
  walk_at "m_enter"
  intro g L' h₁ FG F1 N1 B1 X1 T1
  dsimp only
  k_fold
  generalize s.toks + List.length _ = tk0
  replace F1 : Fr g L' h₁ (fun y => List.lookup y [(Str.ofString "tokens", Value.ref Dt)]) := F1
  refine wp_abs fun Q1 hQ1 => ?_
  have hlen : us.length = ts.length := hT.1
  k_steps
  unfold Halt
  refine LCt.ListComp_T F1 (by rfl) (by decide) (by rfl) (by decide) (by rfl) ?_
  k_steps
  unfold Halt
  refine LCt.CompSrcT.ledger (by rfl) (by k_asm) (by k_asm) hm (by rw [List.size_toArray, sizeLine_eq]; omega) ?_
  intro g'
  refine restT_ind (fun i ys nw => nw = news ∧ Toks news ys ((ts.take i).filter (fun x => decide (x.kind ≠ .comment)))) us.toArray.size ?_ ?_ _ 0 [] news (by omega) ⟨rfl, Toks.nil _⟩
  · rintro i ys nw hi ⟨rfl, hTy⟩ v I oI C oC D m₂ hp tk E' hv hC hx F2 N2 off hne
    have hi' : i < ts.length := by rw [List.size_toArray] at hi; omega
    obtain ⟨Di, oi, e1, e2, t1, t2, t3, rfl⟩ := hT.2 i (tsAt ts i) (tsAt_get hi')
    have hv2 : v = .ref Di := by
      have : us.toArray[i]? = some (Value.ref Di) := by simpa using e1
      exact Option.some.inj (hv.symm.trans this)
    subst hv2
    have N3 := News.also N2 (List.mem_cons_of_mem _ (List.mem_cons_of_mem _ (List.mem_cons_of_mem _ e2)))
    clear N2
    k_steps
    · refine CompEnd.intro F2 N3 nw (fun p hp => List.mem_cons_of_mem _ hp) off (Or.inr ⟨_, hm, rfl, _, rfl⟩) ⟨rfl, ?_⟩
      rename (kstr _ != _) = true => q
      rw [filter_take_yes hi' q]
      exact hTy.push e2 ⟨_, _, _, rfl⟩
    · refine CompEnd.intro F2 N3 nw (fun p hp => List.mem_cons_of_mem _ hp) off (Or.inr ⟨_, hm, rfl, _, rfl⟩) ⟨rfl, ?_⟩
      rename (kstr _ != _) = false => q
      rw [filter_take_no hi' q]
      exact hTy
  · rintro ys nw ⟨rfl, hTy⟩
    k_steps
    have e : ts.take us.toArray.size = ts := by rw [List.size_toArray, hlen, List.take_of_length_le (Nat.le_refl _)]
    rw [e] at hTy
    exact hret _ [_] _ _ (by assumption) (by assumption) ⟨_, _, rfl, rfl, hTy⟩
theorem fresh_NF11 : True := by w_top off; trivial
inductive PartsAre (led : List (Addr × Obj)) : List Value → List (Addr × Obj) → List (List T) → Prop
  | nil : PartsAre led [] [] []
  | snoc {ps os tss} (D : Addr) {vs : List Value} {k : Nat} {ts : List T} : PartsAre led ps os tss → Toks led vs ts → PartsAre led (ps ++ [.ref D]) ((D, listOf vs.toArray k) :: os) (tss ++ [ts])
noncomputable def Parts (led : List (Addr × Obj)) (ps : List Value) (tss : List (List T)) : Prop :=
  ps.length = tss.length ∧ ∀ (i : Nat) (ts : List T), tss[i]? = some ts → ∃ (D : Addr) (vs : List Value) (k : Nat), ps[i]? = some (Value.ref D) ∧ (D, listOf vs.toArray k) ∈ led ∧ Toks led vs ts
theorem PartsAre.parts {led : List (Addr × Obj)} {ps os tss} (h : PartsAre led ps os tss) : Parts (os ++ led) ps tss := by
  induction h with
  | nil => exact ⟨rfl, fun i x hx => by simp at hx⟩
  | @snoc ps os tss D vs k ts hv hT ih =>
    refine ⟨by simp [ih.1], fun i y hy => ?_⟩
    by_cases q : i < tss.length
    · rw [List.getElem?_append_left q] at hy
      obtain ⟨D', v', k', h1, h2, h3⟩ := ih.2 i y hy
      exact ⟨D', v', k', by rw [List.getElem?_append_left (by rw [ih.1]; exact q)]; exact h1, List.mem_cons_of_mem _ h2, h3.mono fun p hp => List.mem_cons_of_mem _ hp⟩
    · have q2 : i = tss.length := by
        have : i < (tss ++ [ts]).length := by
          rcases Nat.lt_or_ge i (tss ++ [ts]).length with z | z
          · exact z
          · rw [List.getElem?_eq_none z] at hy; cases hy
        simp at this; omega
      subst q2
      simp at hy
      subst hy
      exact ⟨D, vs, k, by rw [← ih.1]; simp, List.mem_cons_self, hT.mono fun p hp => List.mem_cons_of_mem _ (List.mem_append_right _ hp)⟩
theorem kstr_sign (k : Kind) : (kstr k == Str.ofString "sign") = decide (k = .sign) := by cases k <;> decide
theorem comma_yes {c : List UInt8} {x : T} (h : (kstr x.kind == Str.ofString "sign") = true) (h2 : x.worth = c) : isComma c x = true := by
  rw [kstr_sign] at h; simp only [isComma, h, h2]; simp
theorem comma_no1 {c : List UInt8} {x : T} (h : (kstr x.kind == Str.ofString "sign") = false) : isComma c x = false := by
  rw [kstr_sign] at h; simp only [isComma, h, Bool.false_and]
theorem comma_no2 {c : List UInt8} {x : T} (h : ¬ x.worth = c) : isComma c x = false := by
  simp only [isComma, h, decide_false, Bool.and_false]
theorem sub3 {a b c : Addr × Obj} {os news own : List (Addr × Obj)} : ∀ p ∈ a :: b :: ((c :: os) ++ news), p ∈ a :: b :: c :: (os ++ news ++ own) := by
  intro p hp; simp only [List.mem_cons, List.mem_append, List.cons_append] at hp ⊢; rcases hp with h | h | h | h | h <;> simp only [h, true_or, or_true]
theorem sub2 {a b : Addr × Obj} {os news own : List (Addr × Obj)} : ∀ p ∈ b :: a :: (os ++ news), p ∈ a :: b :: (os ++ news ++ own) := by
  intro p hp; simp only [List.mem_cons, List.mem_append] at hp ⊢; rcases hp with h | h | h | h <;> simp only [h, true_or, or_true]
theorem off_mem {own nx : List (Addr × Obj)} (h : OwnOff own (nx.map (·.1))) : ∀ p ∈ own, ∀ q ∈ nx, p.1 ≠ q.1 := fun p hp q hq => h p hp q.1 (List.mem_map_of_mem hq)
section
variable {prog : Program} {w : World} {A : Around} {E : Value → Shared → Prop} {s : Shared} {h₀ : Heap} {L P : Addr}
theorem last_item {value slice : PySem.Expr} {news : List (Addr × Obj)} {ps : List Value} {x : Value} {n : Nat} {u : Tok} {Q : Value → Shared → Prop} (N : News h₀ L s.heap news) (hm : (P, listOf (ps ++ [x]).toArray n) ∈ news) (h : Q x s)
    (hs : subscripted slice false (.ref P) (.int (-1) u) = operate [.ref P, .int (-1) u] (getItem (.ref P) (.int (-1) u)) := by with_unfolding_all rfl) :
    wpAny (model prog w) A (subscriptTail value slice (.ref P) (.int (-1) u)) Q E s := by
  have hl : s.heap.IsList P (ps ++ [x]).toArray := ⟨_, (N _ hm).1, rfl, n, rfl⟩
  refine tail_any hl.typeIs slot_list_getitem.lookup (wpAny_getItem_list_neg hl (by decide) (by simp; omega) (by decide) ?_ h) hs
  have e : ((-1 : Int) + ((ps ++ [x]).toArray.size : Nat)).toNat = ps.length := by simp; omega
  rw [e]; simp
end
local macro_rules | `(tactic| walk_at "subscriptTail Name UnaryOp ref int") => `(tactic| (k_here; (with_reducible show wpAny _ _ (subscriptTail _ _ (Value.ref _) (Value.int _ _)) _ _ _); k_dflt (refine last_item (by k_asm) (by k_mem) ?_)))
local macro_rules | `(tactic| walk_at "call builtin:list.append") => `(tactic| (refine Halt.out ?_))
set_option maxRecDepth 100000 in
set_option maxHeartbeats 8000000 in
theorem split_gives (w : World) (mean : ExcName → Option Value) (mg mb : Str → Option Value) (Dt : Addr) (us : List Value) (kk : Nat) (ts : List T) (c : List UInt8) (t : Tok) (news : List (Addr × Obj)) (hm : (Dt, listOf us.toArray kk) ∈ news) (hT : Toks news us ts) (hz : ts.length ≤ 65536) :
    Ctr w mean mg mb 10 137 [.ref Dt, .bytes c.toArray t] news (fun r tl => ∃ D ps k os, r = .ref D ∧ tl = (D, listOf (List.toArray ps) k) :: os ∧ Parts (os ++ news) ps (splitTs c ts)) (fun _ => False) := by
  unfold Ctr
  k_fill
  intro dp un gd cn cs a ccd cl outer A₀ base h₀ L m s Q E B F X N Tp hk hd hu hret hrai
  walk_at "m_enter"
  intro g L' h₁ FG F1 N1 B1 X1 T1
  dsimp only
  k_fold
  generalize s.toks + List.length _ = tk0
  replace F1 : Fr g L' h₁ (fun y => List.lookup y [(Str.ofString "sign", Value.bytes c.toArray t), (Str.ofString "tokens", Value.ref Dt)]) := F1
  refine wp_abs fun Q1 hQ1 => ?_
  have hlen : us.length = ts.length := hT.1
  k_steps
  unfold Halt
  refine For_invV g rfl rfl ?_
  k_steps
  unfold Halt
  with_reducible rename Fr _ _ _ _ => Fa
  with_reducible rename News _ _ _ _ => Na
  rename _ ∧ AllLt _ news => h9
  refine kdl_iter (vs := us) (nn := kk) (fun i m₁ nx => ∃ (u : Option Value) (P D : Addr) (ps vs : List Value) (tss : List (List T)) (tl : List T) (os : List (Addr × Obj)) (k k' : Nat),
    m₁ = (fun y => if y = Str.ofString "token" then u else if y = Str.ofString "found" then some (.ref P) else List.lookup y [(Str.ofString "sign", Value.bytes c.toArray t), (Str.ofString "tokens", Value.ref Dt)]) ∧
    nx = (P, listOf (ps ++ [Value.ref D]).toArray k) :: (D, listOf vs.toArray k') :: (os ++ news) ∧ PartsAre news ps os tss ∧ Toks news vs tl ∧ Held (∀ p ∈ (D, listOf vs.toArray k') :: (os ++ news), p.1 ≠ P) ∧ Held (∀ p ∈ os ++ news, p.1 ≠ D) ∧
    splitTs c (ts.take i) = tss ++ [tl] ∧ ps.length ≤ i ∧ vs.length ≤ i) (by rfl) (List.mem_cons_of_mem _ (List.mem_cons_of_mem _ hm)) Fa Na ?_ ?_ ?_
  · exact ⟨none, _, _, [], [], [], [], [], _, _, funext fun y => by
      by_cases h : y = Str.ofString "token"
      · subst h; rfl
      · simp only [if_neg h], rfl, .nil, Toks.nil _, ⟨fun p hp => by
          rcases List.mem_cons.mp hp with rfl | hp
          · exact Nat.ne_of_lt h9.1
          · exact Nat.ne_of_lt (allLt_mem h9.2 p hp)⟩, ⟨fun p hp => Nat.ne_of_lt ((by assumption : ∀ p ∈ news, p.1 < _) p hp)⟩, rfl, Nat.zero_le _, Nat.zero_le _⟩
  · intro i v m₁ nx h2 tk2 own hv hoff hml hJ0 F2 N2
    refine wp_abs fun Q2 hQ2 => ?_
    obtain ⟨u, P, D, ps, vs, tss, tl, os, k, k', rfl, rfl, hp, hTv, hneP, hneD, hgo, hl1, hl2⟩ := hJ0
    have hi' : i < ts.length := by
      rcases Nat.lt_or_ge i us.length with z | z
      · omega
      · rw [List.getElem?_eq_none z] at hv; cases hv
    obtain ⟨Di, oi, e1, e2, t1, t2, t3, rfl⟩ := hT.2 i (tsAt ts i) (tsAt_get hi')
    have hv2 := Option.some.inj (hv.symm.trans e1)
    subst hv2
    rw [List.cons_append, List.cons_append] at N2
    have N3 := News.also N2 (List.mem_cons_of_mem _ (List.mem_cons_of_mem _ (List.mem_append_left _ (List.mem_append_right _ e2))))
    clear N2
    k_steps
    · rename (kstr _ == _) = true => q1
      rename _ = c => q2
      rename _ ∧ _ ∧ _ ∧ AllLt _ _ => h8
      with_reducible rename Fr _ _ _ _ => sF
      with_reducible rename News _ _ _ _ => sN
      rename_i Dn _
      unfold Halt
      refine append_M2 (vs := ps ++ [Value.ref D]) (n := k) (rest := (Dn, listOf [].toArray 0) :: (D, listOf vs.toArray k') :: (os ++ news ++ own)) sF sN (by k_mem) ?_ ?_ (by simp; omega) ?_
      · intro p hp'
        rcases List.mem_cons.mp hp' with rfl | hp'
        · exact Ne.symm (Nat.ne_of_lt h8.2.1)
        · rcases List.mem_cons.mp hp' with rfl | hp'
          · exact hneP.out _ List.mem_cons_self
          · rcases List.mem_append.mp hp' with hp' | hp'
            · exact hneP.out _ (List.mem_cons_of_mem _ hp')
            · exact off_mem hoff _ hp' _ List.mem_cons_self
      · intro p hp'
        rcases List.mem_cons.mp hp' with rfl | hp'
        · exact List.mem_cons_self
        · rcases List.mem_cons.mp hp' with rfl | hp'
          · exact List.mem_cons_of_mem _ (List.mem_cons_of_mem _ (List.mem_cons_of_mem _ List.mem_cons_self))
          · exact List.mem_cons_of_mem _ (List.mem_cons_of_mem _ (List.mem_cons_of_mem _ (List.mem_cons_of_mem _ hp')))
      intro h9' F9 N9
      k_steps
      refine InvEndG.intro (nx := (P, _) :: (_, listOf [].toArray 0) :: (((D, listOf vs.toArray k') :: os) ++ news)) F9 N9 ⟨List.mem_cons_of_mem _ (List.mem_cons_of_mem _ (List.mem_append_right _ hm)), _, P, _, ps ++ [Value.ref D], [], tss ++ [tl], [], (D, listOf vs.toArray k') :: os, _, _, dup1, rfl, hp.snoc D hTv, Toks.nil _, ⟨?_⟩, ⟨?_⟩, ?_, ?_, Nat.zero_le _⟩ ?_ (sub3 (own := own)) (fun p hp' => List.mem_cons_of_mem _ (List.mem_cons_of_mem _ (List.mem_cons_of_mem _ (List.mem_append_right _ hp'))))
      · intro p hp'
        rcases List.mem_cons.mp hp' with rfl | hp'
        · exact Ne.symm (Nat.ne_of_lt h8.2.1)
        · exact hneP.out _ hp'
      · intro p hp'
        rcases List.mem_cons.mp hp' with rfl | hp'
        · exact Nat.ne_of_lt h8.2.2.1
        · exact Nat.ne_of_lt (allLt_mem h8.2.2.2 p (List.mem_append_left _ hp'))
      · rw [splitTs_take hi', hgo, splitStep_yes (comma_yes q1 q2)]
      · simp; omega
      · intro p hp' b hb
        rcases List.mem_cons.mp hb with rfl | hb
        · exact off_mem hoff _ hp' _ List.mem_cons_self
        · rcases List.mem_cons.mp hb with rfl | hb
          · exact Nat.ne_of_lt (allLt_mem h8.2.2.2 p (List.mem_append_right _ hp'))
          · exact hoff p hp' b (List.mem_cons_of_mem _ hb)
    · rename ¬ _ = c => q1
      with_reducible rename Fr _ _ _ _ => sF
      with_reducible rename News _ _ _ _ => sN
      unfold Halt
      refine append_M2 (vs := vs) (n := k') (rest := (P, listOf (ps ++ [Value.ref D]).toArray k) :: (os ++ news ++ own)) sF sN (by k_mem) ?_ ?_ (by omega) ?_
      · intro p hp'
        rcases List.mem_cons.mp hp' with rfl | hp'
        · exact Ne.symm (hneP.out _ List.mem_cons_self)
        · rcases List.mem_append.mp hp' with hp' | hp'
          · exact hneD.out _ hp'
          · exact off_mem hoff _ hp' _ (List.mem_cons_of_mem _ List.mem_cons_self)
      · intro p hp'
        rcases List.mem_cons.mp hp' with rfl | hp'
        · exact List.mem_cons_of_mem _ List.mem_cons_self
        · exact List.mem_cons_of_mem _ (List.mem_cons_of_mem _ (List.mem_cons_of_mem _ hp'))
      intro h9' F9 N9
      k_steps
      refine InvEndG.intro (nx := (P, listOf (ps ++ [Value.ref D]).toArray k) :: (D, _) :: (os ++ news)) F9 N9 ⟨List.mem_cons_of_mem _ (List.mem_cons_of_mem _ (List.mem_append_right _ hm)), _, P, D, ps, vs ++ [Value.ref Di], tss, tl ++ [tsAt ts i], os, _, _, dup1, rfl, hp, hTv.push e2 ⟨_, _, _, rfl⟩, ⟨?_⟩, hneD, ?_, by omega, by simp; omega⟩ hoff (sub2 (own := own)) (fun p hp' => List.mem_cons_of_mem _ (List.mem_cons_of_mem _ (List.mem_append_right _ hp')))
      · intro p hp'
        rcases List.mem_cons.mp hp' with rfl | hp'
        · exact (hneP.out (D, listOf vs.toArray k') List.mem_cons_self : D ≠ P)
        · exact hneP.out _ (List.mem_cons_of_mem _ hp')
      · rw [splitTs_take hi', hgo, splitStep_no (comma_no2 q1)]
    · rename (kstr _ == _) = false => q1
      with_reducible rename Fr _ _ _ _ => sF
      with_reducible rename News _ _ _ _ => sN
      unfold Halt
      refine append_M2 (vs := vs) (n := k') (rest := (P, listOf (ps ++ [Value.ref D]).toArray k) :: (os ++ news ++ own)) sF sN (by k_mem) ?_ ?_ (by omega) ?_
      · intro p hp'
        rcases List.mem_cons.mp hp' with rfl | hp'
        · exact Ne.symm (hneP.out _ List.mem_cons_self)
        · rcases List.mem_append.mp hp' with hp' | hp'
          · exact hneD.out _ hp'
          · exact off_mem hoff _ hp' _ (List.mem_cons_of_mem _ List.mem_cons_self)
      · intro p hp'
        rcases List.mem_cons.mp hp' with rfl | hp'
        · exact List.mem_cons_of_mem _ List.mem_cons_self
        · exact List.mem_cons_of_mem _ (List.mem_cons_of_mem _ (List.mem_cons_of_mem _ hp'))
      intro h9' F9 N9
      k_steps
      refine InvEndG.intro (nx := (P, listOf (ps ++ [Value.ref D]).toArray k) :: (D, _) :: (os ++ news)) F9 N9 ⟨List.mem_cons_of_mem _ (List.mem_cons_of_mem _ (List.mem_append_right _ hm)), _, P, D, ps, vs ++ [Value.ref Di], tss, tl ++ [tsAt ts i], os, _, _, dup1, rfl, hp, hTv.push e2 ⟨_, _, _, rfl⟩, ⟨?_⟩, hneD, ?_, by omega, by simp; omega⟩ hoff (sub2 (own := own)) (fun p hp' => List.mem_cons_of_mem _ (List.mem_cons_of_mem _ (List.mem_append_right _ hp')))
      · intro p hp'
        rcases List.mem_cons.mp hp' with rfl | hp'
        · exact (hneP.out (D, listOf vs.toArray k') List.mem_cons_self : D ≠ P)
        · exact hneP.out _ (List.mem_cons_of_mem _ hp')
      · rw [splitTs_take hi', hgo, splitStep_no (comma_no1 q1)]
  · rintro m₁ nx h2 tk2 ⟨u, P, D, ps, vs, tss, tl, os, k, k', rfl, rfl, hp, hTv, hneP, hneD, hgo, hl1, hl2⟩ F2 N2
    have e : ts.take us.length = ts := by rw [hlen, List.take_of_length_le (Nat.le_refl _)]
    rw [e] at hgo
    k_steps
    have hp2 := (PartsAre.snoc (k := k') D hp hTv).parts
    exact hret _ ((P, _) :: (D, _) :: os) _ _ (by assumption) (by assumption) ⟨_, _, _, _, rfl, rfl, by rw [hgo]; exact hp2⟩
section
open PySem PySem.W PyProof.Rows PySem.Calls PySem.SeqAt
theorem fresh_NEq : True := by w_top off; trivial
section
variable {A : Around} {s : Shared} {h₀ : Heap} {L D D' : Addr} {led : List (Addr × Obj)}
theorem eqAt_bytes (a b : List UInt8) (t u : Tok) : EqAt A s (.bytes a.toArray t) (.bytes b.toArray u) (decide (a = b)) := fun prog w E Q hq => by
  unfold eqBool
  refine wpAny_holding ?_
  refine wpAny_ite_split (fun hab => ?_) (fun _ => ?_)
  · have e : (Value.bytes a.toArray t) = (Value.bytes b.toArray u) := eq_of_beq hab
    injection e with e1 e2
    have e3 : a = b := by simpa using e1
    rw [decide_eq_true e3] at hq
    exact wpAny_bind (wpAny_rule (wpAny_pure hq))
  · refine wpAny_bind ?_
    show wpAny _ _ (compareOp .Eq _ _) _ _ _
    refine eq_B ?_
    exact wpAny_truthy_bool hq
theorem eqAt_str (a b : PySem.Str) (t u : Tok) : EqAt A s (.str a t) (.str b u) (a == b) := (eqGives_str a b t u).at A s
theorem all_true (n : Nat) : (List.range n).all (fun _ => true) = true := by simp
theorem tup_same {us vs : List Value} (N : News h₀ L s.heap led) (h1 : (D, tupOf us) ∈ led) (h2 : (D', tupOf vs) ∈ led) (hl : us.length = vs.length) (hu : A.units + 8 < cLine)
    (he : ∀ (j : Nat) (x y : Value), us[j]? = some x → vs[j]? = some y → EqAt A.in1 s x y true) : EqAt A s (.ref D) (.ref D') true := by
  by_cases q : D = D'
  · subst q; exact EqAt.same _
  · have h := RcAt.tuples (A := A) (s := s) (l := D) (b := D') (items := us.toArray) (items2 := vs.toArray) (e := fun _ => true) ⟨_, (N _ h1).1, rfl, _, rfl⟩ ⟨_, (N _ h2).1, rfl, _, rfl⟩ (by omega) (fun j j1 j2 => he j _ _ (by simp at j1; simp [j1]) (by simp at j2; simp [j2]))
    have e : ((List.range (min us.toArray.size vs.toArray.size)).all (fun _ => true) && us.toArray.size == vs.toArray.size) = true := by simp [hl]
    rw [e] at h
    exact EqAt.of_refs q h
theorem list_same {us vs : List Value} {k k' : Nat} (N : News h₀ L s.heap led) (h1 : (D, listOf us.toArray k) ∈ led) (h2 : (D', listOf vs.toArray k') ∈ led) (hl : us.length = vs.length) (hu : A.units + 8 < cLine)
    (he : ∀ (j : Nat) (x y : Value), us[j]? = some x → vs[j]? = some y → EqAt A.in1 s x y true) : EqAt A s (.ref D) (.ref D') true := by
  by_cases q : D = D'
  · subst q; exact EqAt.same _
  · have h := RcAt.lists (A := A) (s := s) (l := D) (b := D') (items := us.toArray) (items2 := vs.toArray) (e := fun _ => true) ⟨_, (N _ h1).1, rfl, _, rfl⟩ ⟨_, (N _ h2).1, rfl, _, rfl⟩ (by simpa using hl) (by omega) (fun j j1 j2 => he j _ _ (by simp at j1; simp [j1]) (by simp at j2; simp [j2]))
    rw [all_true] at h
    exact EqAt.of_refs q h
theorem units_in1 : A.in1.units = A.units + 1 := rfl
theorem tok_same {o o' : Obj} {x : T} (N : News h₀ L s.heap led) (h1 : (D, o) ∈ led) (h2 : (D', o') ∈ led) (ho : IsTok o x) (ho' : IsTok o' x) (hu : A.units + 8 < cLine) : EqAt A s (.ref D) (.ref D') true := by
  obtain ⟨t1, t2, t3, rfl⟩ := ho
  obtain ⟨u1, u2, u3, rfl⟩ := ho'
  refine tup_same N h1 h2 rfl hu fun j a b ha hb => ?_
  match j, ha, hb with
  | 0, ha, hb =>
    cases ha; cases hb
    have := eqAt_str (A := A.in1) (s := s) (kstr x.kind) (kstr x.kind) t1 u1
    rwa [beq_self_eq_true] at this
  | 1, ha, hb =>
    cases ha; cases hb
    have := eqAt_bytes (A := A.in1) (s := s) x.worth x.worth t2 u2
    rwa [decide_eq_true rfl] at this
  | 2, ha, hb =>
    cases ha; cases hb
    have := EqAt.int_int (A := A.in1) (s := s) (x.at_ : Int) t3 (x.at_ : Int) u3
    rwa [beq_self_eq_true] at this
  | j + 3, ha, hb => simp at ha
noncomputable def Prs (led : List (Addr × Obj)) (vs : List Value) (ps : List (Kind × List UInt8)) : Prop :=
  vs.length = ps.length ∧ ∀ (i : Nat) (p : Kind × List UInt8), ps[i]? = some p → ∃ (D : Addr) (t1 t2 : Tok), vs[i]? = some (Value.ref D) ∧ (D, tupOf [.str (kstr p.1) t1, .bytes p.2.toArray t2]) ∈ led
theorem Prs.mono {led led' : List (Addr × Obj)} {vs : List Value} {ps : List (Kind × List UInt8)} (h : Prs led vs ps) (hs : ∀ p ∈ led, p ∈ led') : Prs led' vs ps :=
  ⟨h.1, fun i x hx => let ⟨D, t1, t2, h1, h2⟩ := h.2 i x hx; ⟨D, t1, t2, h1, hs _ h2⟩⟩
theorem Prs.nil (led : List (Addr × Obj)) : Prs led [] [] := ⟨rfl, fun i x hx => by simp at hx⟩
theorem Prs.push {led : List (Addr × Obj)} {vs : List Value} {ps : List (Kind × List UInt8)} {D : Addr} {p : Kind × List UInt8} {t1 t2 : Tok} (h : Prs led vs ps) (hm : (D, tupOf [.str (kstr p.1) t1, .bytes p.2.toArray t2]) ∈ led) : Prs led (vs ++ [.ref D]) (ps ++ [p]) := by
  refine ⟨by simp [h.1], fun i y hy => ?_⟩
  by_cases q : i < ps.length
  · rw [List.getElem?_append_left q] at hy
    obtain ⟨D', t1', t2', h1, h2⟩ := h.2 i y hy
    exact ⟨D', t1', t2', by rw [List.getElem?_append_left (by rw [h.1]; exact q)]; exact h1, h2⟩
  · have q2 : i = ps.length := by
      have : i < (ps ++ [p]).length := by
        rcases Nat.lt_or_ge i (ps ++ [p]).length with z | z
        · exact z
        · rw [List.getElem?_eq_none z] at hy; cases hy
      simp at this; omega
    subst q2
    simp at hy
    subst hy
    exact ⟨D, t1, t2, by rw [← h.1]; simp, hm⟩
theorem toks_item {vs : List Value} {ts : List T} {j : Nat} {x : Value} (h : Toks led vs ts) (hx : vs[j]? = some x) : ∃ y D o, ts[j]? = some y ∧ x = .ref D ∧ (D, o) ∈ led ∧ IsTok o y := by
  have hj : j < vs.length := by
    rcases Nat.lt_or_ge j vs.length with z | z
    · exact z
    · rw [List.getElem?_eq_none z] at hx; cases hx
  have hj2 : j < ts.length := by rw [← h.1]; exact hj
  obtain ⟨D, o, h1, h2, h3⟩ := h.2 j ts[j] (by simp [hj2])
  exact ⟨ts[j], D, o, by simp [hj2], Option.some.inj (hx.symm.trans h1), h2, h3⟩
theorem prs_item {vs : List Value} {ps : List (Kind × List UInt8)} {j : Nat} {x : Value} (h : Prs led vs ps) (hx : vs[j]? = some x) : ∃ y D t1 t2, ps[j]? = some y ∧ x = .ref D ∧ (D, tupOf [.str (kstr y.1) t1, .bytes y.2.toArray t2]) ∈ led := by
  have hj : j < vs.length := by
    rcases Nat.lt_or_ge j vs.length with z | z
    · exact z
    · rw [List.getElem?_eq_none z] at hx; cases hx
  have hj2 : j < ps.length := by rw [← h.1]; exact hj
  obtain ⟨D, t1, t2, h1, h2⟩ := h.2 j ps[j] (by simp [hj2])
  exact ⟨ps[j], D, t1, t2, by simp [hj2], Option.some.inj (hx.symm.trans h1), h2⟩
theorem parts_item {vs : List Value} {tss : List (List T)} {j : Nat} {x : Value} (h : Parts led vs tss) (hx : vs[j]? = some x) : ∃ y D us k, tss[j]? = some y ∧ x = .ref D ∧ (D, listOf (List.toArray us) k) ∈ led ∧ Toks led us y := by
  have hj : j < vs.length := by
    rcases Nat.lt_or_ge j vs.length with z | z
    · exact z
    · rw [List.getElem?_eq_none z] at hx; cases hx
  have hj2 : j < tss.length := by rw [← h.1]; exact hj
  obtain ⟨D, us, k, h1, h2, h3⟩ := h.2 j tss[j] (by simp [hj2])
  exact ⟨tss[j], D, us, k, by simp [hj2], Option.some.inj (hx.symm.trans h1), h2, h3⟩
theorem toks_same {us vs : List Value} {ts : List T} (N : News h₀ L s.heap led) (h1 : Toks led us ts) (h2 : Toks led vs ts) (hu : A.units + 8 < cLine) : ∀ (j : Nat) (x y : Value), us[j]? = some x → vs[j]? = some y → EqAt A s x y true := fun j x y hx hy => by
  obtain ⟨z, D, o, e1, rfl, m1, i1⟩ := toks_item h1 hx
  obtain ⟨z', D', o', e2, rfl, m2, i2⟩ := toks_item h2 hy
  obtain rfl : z = z' := Option.some.inj (e1.symm.trans e2)
  exact tok_same N m1 m2 i1 i2 hu
theorem prs_same {us vs : List Value} {ps : List (Kind × List UInt8)} (N : News h₀ L s.heap led) (h1 : Prs led us ps) (h2 : Prs led vs ps) (hu : A.units + 8 < cLine) : ∀ (j : Nat) (x y : Value), us[j]? = some x → vs[j]? = some y → EqAt A s x y true := fun j x y hx hy => by
  obtain ⟨z, D, t1, t2, e1, rfl, m1⟩ := prs_item h1 hx
  obtain ⟨z', D', u1, u2, e2, rfl, m2⟩ := prs_item h2 hy
  obtain rfl : z = z' := Option.some.inj (e1.symm.trans e2)
  refine tup_same N m1 m2 rfl hu fun j a b ha hb => ?_
  match j, ha, hb with
  | 0, ha, hb =>
    cases ha; cases hb
    have := eqAt_str (A := A.in1) (s := s) (kstr z.1) (kstr z.1) t1 u1
    rwa [beq_self_eq_true] at this
  | 1, ha, hb =>
    cases ha; cases hb
    have := eqAt_bytes (A := A.in1) (s := s) z.2 z.2 t2 u2
    rwa [decide_eq_true rfl] at this
  | j + 2, ha, hb => simp at ha
theorem parts_same {us vs : List Value} {tss : List (List T)} (N : News h₀ L s.heap led) (h1 : Parts led us tss) (h2 : Parts led vs tss) (hu : A.units + 9 < cLine) : ∀ (j : Nat) (x y : Value), us[j]? = some x → vs[j]? = some y → EqAt A s x y true := fun j x y hx hy => by
  obtain ⟨z, D, us', k, e1, rfl, m1, i1⟩ := parts_item h1 hx
  obtain ⟨z', D', vs', k', e2, rfl, m2, i2⟩ := parts_item h2 hy
  obtain rfl : z = z' := Option.some.inj (e1.symm.trans e2)
  exact list_same N m1 m2 (by rw [i1.1, i2.1]) (by omega) (toks_same N i1 i2 (by rw [units_in1]; omega))
end
section
variable {prog : Program} {w : World} {A : Around} {E : Value → Shared → Prop} {s : Shared} {h₀ : Heap} {L P P' : Addr} {led : List (Addr × Obj)} {us vs : List Value} {k k' : Nat} {Q : Value → Shared → Prop}
theorem ne_lists (N : News h₀ L s.heap led) (h1 : (P, listOf us.toArray k) ∈ led) (h2 : (P', listOf vs.toArray k') ∈ led) (hl : us.length = vs.length) (hu : A.units + 8 < cLine)
    (he : ∀ (j : Nat) (x y : Value), us[j]? = some x → vs[j]? = some y → EqAt A.in1 s x y true) (h : Q (.bool false) s) : wpAny (model prog w) A (compareOp .NotEq (.ref P) (.ref P')) Q E s := by
  have r := RcNeAt.lists (A := A) (s := s) (l := P) (b := P') (items := us.toArray) (items2 := vs.toArray) (e := fun _ => true) ⟨_, (N _ h1).1, rfl, _, rfl⟩ ⟨_, (N _ h2).1, rfl, _, rfl⟩ (by simpa using hl) (by omega) (fun j j1 j2 => he j _ _ (by simp at j1; simp [j1]) (by simp at j2; simp [j2]))
  rw [all_true] at r
  exact r prog w E Q h
theorem eq_lists (N : News h₀ L s.heap led) (h1 : (P, listOf us.toArray k) ∈ led) (h2 : (P', listOf vs.toArray k') ∈ led) (hl : us.length = vs.length) (hu : A.units + 8 < cLine)
    (he : ∀ (j : Nat) (x y : Value), us[j]? = some x → vs[j]? = some y → EqAt A.in1 s x y true) (h : Q (.bool true) s) : wpAny (model prog w) A (compareOp .Eq (.ref P) (.ref P')) Q E s := by
  have r := RcAt.lists (A := A) (s := s) (l := P) (b := P') (items := us.toArray) (items2 := vs.toArray) (e := fun _ => true) ⟨_, (N _ h1).1, rfl, _, rfl⟩ ⟨_, (N _ h2).1, rfl, _, rfl⟩ (by simpa using hl) (by omega) (fun j j1 j2 => he j _ _ (by simp at j1; simp [j1]) (by simp at j2; simp [j2]))
  rw [all_true] at r
  exact r prog w E Q h
theorem eq_pairs {a b : PySem.Str} {x y : List UInt8} {t1 t2 u1 u2 : Tok} (N : News h₀ L s.heap led) (h1 : (P, tupOf [.str a t1, .bytes x.toArray t2]) ∈ led) (h2 : (P', tupOf [.str b u1, .bytes y.toArray u2]) ∈ led) (hu : A.units + 8 < cLine)
    (h : Q (.bool ((a == b) && decide (x = y))) s) : wpAny (model prog w) A (compareOp .Eq (.ref P) (.ref P')) Q E s := by
  have r := RcAt.tuples (A := A) (s := s) (l := P) (b := P') (items := [Value.str a t1, .bytes x.toArray t2].toArray) (items2 := [Value.str b u1, .bytes y.toArray u2].toArray) (e := fun j => if j = 0 then (a == b) else decide (x = y)) ⟨_, (N _ h1).1, rfl, _, rfl⟩ ⟨_, (N _ h2).1, rfl, _, rfl⟩ (by omega) (fun j j1 j2 => by
    match j, j1, j2 with
    | 0, _, _ => exact eqAt_str a b t1 u1
    | 1, _, _ => exact eqAt_bytes x y t2 u2)
  have e : ((List.range (min [Value.str a t1, .bytes x.toArray t2].toArray.size [Value.str b u1, .bytes y.toArray u2].toArray.size)).all (fun j => if j = 0 then (a == b) else decide (x = y)) && [Value.str a t1, .bytes x.toArray t2].toArray.size == [Value.str b u1, .bytes y.toArray u2].toArray.size) = ((a == b) && decide (x = y)) := by
    show (([0, 1] : List Nat).all _ && _) = _
    simp
  rw [e] at r
  exact r prog w E Q h
end
end
section
open PySem PySem.W PyProof.Rows PySem.Calls
theorem fresh_NSl : True := by w_top off; trivial
section
variable {prog : Program} {w : World} {A : Around} {E : Value → Shared → Prop} {s : Shared} {h₀ : Heap} {L : Addr} {m : PySem.Str → Option Value} {news : List (Addr × Obj)}
theorem sliceApplied_two {sl : Addr} {u : Tok} {Q : Int × Int × Nat → Shared → Prop} (hs : s.heap.IsSliceOf sl .none (.int 2 u) .none) (h : Q (0, 1, 2) s) :
    wpAny (model prog w) A (Builtin.Slice.sliceApplied (.ref sl) (pure (3 : Int))) Q E s := by
  obtain ⟨os, hos, hcs, hds⟩ := id hs
  unfold Builtin.Slice.sliceApplied Builtin.Slice.sliceFields
  refine wpAny_bind (wpAny_bind (wpAny_field hos hds (x := .none) rfl (wpAny_bind (wpAny_field hos hds (x := .int 2 u) rfl (wpAny_bind (wpAny_field hos hds (x := .none) rfl (wpAny_pure ?_)))))))
  refine wpAny_bind (slicePart_none ?_)
  show wpAny _ _ (if ((1 : Int) == 0) = true then _ else _) _ _ s
  rw [if_neg (by decide)]
  refine wpAny_bind (slicePart_none (wpAny_bind (slicePart_int (wpAny_bind (wpAny_pure ?_)))))
  show wpAny _ _ (match Builtin.Slice.sliceAdjust none (some 2) 1 (3 : Int) with | (lo, hi) => pure (lo, (1 : Int), Builtin.Slice.slicePlaces lo hi 1)) _ _ s
  have e : Builtin.Slice.sliceAdjust none (some 2) 1 (3 : Int) = (0, 2) := by decide
  rw [e]
  show wpAny _ _ (pure ((0 : Int), (1 : Int), Builtin.Slice.slicePlaces 0 2 1)) _ _ s
  have e2 : Builtin.Slice.slicePlaces 0 2 1 = 2 := by decide
  rw [e2]
  exact wpAny_pure h
theorem getItem_two {t sl : Addr} {a b c : Value} {u : Tok} {Q : Value → Shared → Prop} (ht : IsTup s.heap t #[a, b, c]) (hs : s.heap.IsSliceOf sl .none (.int 2 u) .none)
    (h : Q (.ref s.heap.objs.size) { s with heap := s.heap.push (tupOf [a, b]) }) : wpAny (model prog w) A (getItem (.ref t) (.ref sl)) Q E s := by
  have hdrop : sizeOk (.seq #[a, b]) := by
    show (2 : Nat) ≤ sizeLine
    rw [sizeLine_eq]; omega
  obtain ⟨os, hos, hcs, hds⟩ := id hs
  have hTs : s.TypeIs (.ref sl) "slice" := ⟨os, hos, hcs⟩
  unfold getItem
  try with_reducible refine wpAny_holding ?_
  first | refine wpAny_bind (wpAny_pure ?_) | skip
  refine wpAny_bind (wpAny_sequenceKey ht.typeIs (by decide) ?_)
  refine wpAny_bind (wpAny_callSpecial?_slot (name := PySem.Str.ofString "__getitem__") ht.typeIs slot_tuple_getitem
    (wpAny_call_entry slot_tuple_getitem ht.typeIs entry_tuple_getitem ?_ (args_tuple_getitem _ _)))
  show wpAny _ _ (Builtin.Tuple.tupleItemsOf (.ref t) >>= _) _ _ s
  refine wpAny_bind (tupleItemsOf_ ht ?_)
  refine wpAny_bind (wpAny_typeOf hTs ?_)
  rw [if_pos (by decide)]
  refine wpAny_bind ?_
  show wpAny _ _ (Builtin.Slice.sliceApplied (.ref sl) (pure (3 : Int))) _ _ s
  refine sliceApplied_two hs ?_
  show wpAny _ _ (if (((0 : Int) == 0 && (1 : Int) == 1 && ((2 : Nat) == 3)) = true) then _ else _) _ _ s
  rw [if_neg (by decide)]
  have e : ((List.range 2).filterMap fun (k : Nat) => #[a, b, c][((0 : Int) + (k : Int) * 1).toNat]?).toArray = #[a, b] := rfl
  first
    | exact wpAny_bind (m := Builtin.Tuple.tupleExact _) (wpAny_newObj_type (wpAny_pure ⟨_, rfl, wpAny_pure h⟩) hdrop)
    | exact wpAny_bind (m := Builtin.Tuple.tupleExact _) (wpAny_newObj_type (wpAny_bind (wpAny_pure (wpAny_pure ⟨_, rfl, wpAny_pure h⟩))) hdrop)
    | exact wpAny_bind (wpAny_bind (m := Builtin.Tuple.tupleExact _) (wpAny_newObj_type (wpAny_pure (wpAny_pure ⟨_, rfl, wpAny_pure h⟩)) hdrop))
    | exact wpAny_bind (wpAny_bind (m := Builtin.Tuple.tupleExact _) (wpAny_newObj_type (wpAny_pure ⟨_, rfl, wpAny_pure h⟩) hdrop))
theorem slice_two {value slice : PySem.Expr} {t : Addr} {a b c : Value} {u : Tok} {Q : Value → Shared → Prop}
    (F : Fr h₀ L s.heap m) (N : News h₀ L s.heap news) (hm : (t, tupOf [a, b, c]) ∈ news)
    (h : ∀ D h', Fr h₀ L h' m → News h₀ L h' ((D, tupOf [a, b]) :: news) → (∀ p ∈ news, p.1 < D) → Q (.ref D) { s with heap := h' })
    (hs : subscripted slice false (.ref t) (.ref s.heap.objs.size) = operate [.ref s.heap.objs.size, .ref t] (getItem (.ref t) (.ref s.heap.objs.size)) := by with_unfolding_all rfl)
    (hg : ∀ r, letTemporaryGo value (.ref t) r = pure () := by intro _; with_unfolding_all rfl) :
    wpAny (model prog w) A (subscriptTail value slice (.ref t) (.ref s.heap.objs.size)) Q E { s with heap := s.heap.push { cls := .type "slice", data := .fields #[.none, .int 2 u, .none] } } := by
  have ht : IsTup s.heap t #[a, b, c] := ⟨_, (N _ hm).1, rfl, _, rfl⟩
  have ht' : IsTup (s.heap.push { cls := .type "slice", data := .fields #[.none, .int 2 u, .none] }) t #[a, b, c] := ht.keeps fun _ _ e => Heap.get?_push_of_some _ e
  refine subscriptTail_ops (s := { s with heap := s.heap.push { cls := .type "slice", data := .fields #[.none, .int 2 u, .none] } }) ht'.typeIs slot_tuple_getitem.lookup
    (getItem_two ht' (Heap.IsSliceOf.new ..) ?_) hs hg
  have N1 := News.push (F.push { cls := .type "slice", data := .fields #[.none, .int 2 u, .none] }) (N.grown fun _ _ e => Heap.get?_push_of_some _ e) (tupOf [a, b])
  rw [Heap.size_push] at N1
  show Q (.ref (s.heap.push _).objs.size) _
  rw [Heap.size_push]
  exact h _ _ ((F.push _).push _) N1 (fun p hp => Nat.lt_succ_of_lt (Heap.lt_size (N p hp).1))
end
end
section
open PySem PySem.W PyProof.Rows PySem.Calls
theorem fresh_NPJ : True := by w_top off; trivial
noncomputable abbrev sToken : PySem.Str := PySem.Str.ofString "token"
noncomputable abbrev sParts : PySem.Str := PySem.Str.ofString "parts"
noncomputable def PJ (led : List (Addr × Obj)) (m0 : PySem.Str → Option Value) (ts : List T) (i : Nat) (m₁ : PySem.Str → Option Value) (nx : List (Addr × Obj)) : Prop :=
  ∃ (u : Option Value) (P D : Addr) (ps vs : List Value) (tss : List (List T)) (tl : List T) (os : List (Addr × Obj)) (k k' : Nat),
    m₁ = (fun y => if y = PySem.Str.ofString "token" then u else if y = PySem.Str.ofString "parts" then some (.ref P) else m0 y) ∧
    nx = (P, listOf (ps ++ [Value.ref D]).toArray k) :: (D, listOf vs.toArray k') :: (os ++ led) ∧ PartsAre led ps os tss ∧ Toks led vs tl ∧ Held (∀ p ∈ (D, listOf vs.toArray k') :: (os ++ led), p.1 ≠ P) ∧ Held (∀ p ∈ os ++ led, p.1 ≠ D) ∧
    splitTs [44] (ts.take i) = tss ++ [tl] ∧ ps.length ≤ i ∧ vs.length ≤ i
theorem PJ.start {led : List (Addr × Obj)} {m0 : PySem.Str → Option Value} {ts : List T} {P D : Addr} {k k' : Nat} (h1 : D ≠ P) (h2 : ∀ p ∈ led, p.1 ≠ P) (h3 : ∀ p ∈ led, p.1 ≠ D) :
    PJ led m0 ts 0 (fun y => if y = PySem.Str.ofString "parts" then some (.ref P) else m0 y) ((P, listOf [Value.ref D].toArray k) :: (D, listOf ([] : List Value).toArray k') :: ([] ++ led)) :=
  ⟨m0 (PySem.Str.ofString "token"), P, D, [], [], [], [], [], k, k', funext fun y => by
    by_cases h : y = PySem.Str.ofString "token"
    · subst h; rfl
    · simp only [if_neg h], rfl, .nil, Toks.nil _, ⟨fun p hp => by
      rcases List.mem_cons.mp hp with rfl | hp
      · exact h1
      · exact h2 p hp⟩, ⟨h3⟩, rfl, Nat.zero_le _, Nat.zero_le _⟩
theorem dupP {A B : PySem.Str} {a a' b b' : Option Value} {r : PySem.Str → Option Value} (h : A ≠ B) : (fun y => if y = B then b' else if y = A then a' else if y = A then a else if y = B then b else r y) = fun y => if y = A then a' else if y = B then b' else r y := by
  funext y
  by_cases h1 : y = A
  · subst h1; simp [h]
  · by_cases h2 : y = B
    · subst h2; simp [h1]
    · simp [h1, h2]
theorem PJ.comma {led : List (Addr × Obj)} {m0 : PySem.Str → Option Value} {ts : List T} {i : Nat} {u : Option Value} {P D E : Addr} {ps vs : List Value} {tss : List (List T)} {tl : List T} {os : List (Addr × Obj)} {k k' k'' : Nat} {m₁ : PySem.Str → Option Value}
    (hm : m₁ = fun y => if y = PySem.Str.ofString "token" then u else if y = PySem.Str.ofString "parts" then some (.ref P) else m0 y)
    (hp : PartsAre led ps os tss) (hT : Toks led vs tl) (hgo : splitTs [44] (ts.take i) = tss ++ [tl]) (h1 : ps.length ≤ i) (hi : i < ts.length) (hc : isComma [44] (tsAt ts i) = true)
    (hP : ∀ p ∈ (E, listOf ([] : List Value).toArray k'') :: (((D, listOf vs.toArray k') :: os) ++ led), p.1 ≠ P) (hE : ∀ p ∈ ((D, listOf vs.toArray k') :: os) ++ led, p.1 ≠ E) :
    PJ led m0 ts (i + 1) m₁ ((P, listOf ((ps ++ [Value.ref D]) ++ [Value.ref E]).toArray k) :: (E, listOf ([] : List Value).toArray k'') :: (((D, listOf vs.toArray k') :: os) ++ led)) :=
  ⟨u, P, E, ps ++ [Value.ref D], [], tss ++ [tl], [], (D, listOf vs.toArray k') :: os, k, k'', hm, rfl, hp.snoc D hT, Toks.nil _, ⟨hP⟩, ⟨hE⟩, by rw [splitTs_take hi, hgo, splitStep_yes hc], by simp; omega, Nat.zero_le _⟩
theorem PJ.other {led : List (Addr × Obj)} {m0 : PySem.Str → Option Value} {ts : List T} {i : Nat} {u : Option Value} {P D Di : Addr} {oi : Obj} {ps vs : List Value} {tss : List (List T)} {tl : List T} {os : List (Addr × Obj)} {k k' : Nat} {m₁ : PySem.Str → Option Value}
    (hm : m₁ = fun y => if y = PySem.Str.ofString "token" then u else if y = PySem.Str.ofString "parts" then some (.ref P) else m0 y)
    (hp : PartsAre led ps os tss) (hT : Toks led vs tl) (hgo : splitTs [44] (ts.take i) = tss ++ [tl]) (h1 : ps.length ≤ i) (h2 : vs.length ≤ i) (hi : i < ts.length) (hc : isComma [44] (tsAt ts i) = false) (hm2 : (Di, oi) ∈ led) (hI : IsTok oi (tsAt ts i))
    (hP : ∀ p ∈ (D, listOf (vs ++ [Value.ref Di]).toArray k') :: (os ++ led), p.1 ≠ P) (hD : ∀ p ∈ os ++ led, p.1 ≠ D) :
    PJ led m0 ts (i + 1) m₁ ((P, listOf (ps ++ [Value.ref D]).toArray k) :: (D, listOf (vs ++ [Value.ref Di]).toArray k') :: (os ++ led)) :=
  ⟨u, P, D, ps, vs ++ [Value.ref Di], tss, tl ++ [tsAt ts i], os, k, k', hm, rfl, hp, hT.push hm2 hI, ⟨hP⟩, ⟨hD⟩, by rw [splitTs_take hi, hgo, splitStep_no hc], by omega, by simp; omega⟩
theorem comma_eq {x : T} : ((kstr x.kind == PySem.Str.ofString "sign") && decide (x.worth = [44])) = isComma [44] x := by
  rw [kstr_sign]; rfl
end
theorem fresh_NL1 : True := by w_top off; trivial
noncomputable def CtrM (w : World) (mean : ExcName → Option Value) (mg mb : Str → Option Value) (k : Nat) (f : Addr) (vs : List Value) (news : List (Addr × Obj)) (R : Value → List (Addr × Obj) → Prop) : Prop :=
  ∀ (dp un : Nat) (gd : Option (List Code)) (cn : Str) (cs : Scope) (a : Addr) (ccd : Value) (cl : List (Str × Addr)) (outer : List Env) (A₀ : Around) (base h₀ : Heap) (L : Addr) (m : Str → Option Value) (s : Shared) (Q E : Value → Shared → Prop),
    Below A₀ base outer h₀ → Fr h₀ L s.heap m → (hd.heap_1 w.params).In h₀ → News h₀ L s.heap news → Top hd.view_1 LO mean mg mb h₀ → cs.kind = .function →
    dp + k < recursionLimit → un + 8 * k < cLine →
    (∀ (r : Value) (led : List (Addr × Obj)) (h' : Heap) (tk' : Nat), Fr h₀ L h' m → News h₀ L h' led → R r led → Q r { s with heap := h', toks := tk' }) →
    wpAny (model PySem.Challenge.rw_no0365_01.row.prog w) (ktrTop dp un gd cn cs L a ccd cl outer) (call (.ref f) vs) Q E s
theorem CtrM.use {w : World} {mean : ExcName → Option Value} {mg mb : Str → Option Value} {k : Nat} {f : Addr} {vs : List Value} {news led : List (Addr × Obj)} {R : Value → List (Addr × Obj) → Prop}
    {dp un : Nat} {gd : Option (List Code)} {cn : Str} {cs : Scope} {a : Addr} {ccd : Value} {cl : List (Str × Addr)} {outer : List Env} {A₀ : Around} {base h₀ : Heap} {L : Addr} {m : Str → Option Value} {s : Shared} {Q E : Value → Shared → Prop}
    (N : News h₀ L s.heap led) (C : CtrM w mean mg mb k f vs news R) (hs : ∀ p ∈ news, p ∈ led)
    (B : Below A₀ base outer h₀) (F : Fr h₀ L s.heap m) (K : (hd.heap_1 w.params).In h₀) (T : Top hd.view_1 LO mean mg mb h₀) (hk : cs.kind = .function) (h1 : dp + k < recursionLimit) (h2 : un + 8 * k < cLine)
    (hret : ∀ (r : Value) (led : List (Addr × Obj)) (h' : Heap) (tk' : Nat), Fr h₀ L h' m → News h₀ L h' led → R r led → Q r { s with heap := h', toks := tk' }) :
    wpAny (model PySem.Challenge.rw_no0365_01.row.prog w) (ktrTop dp un gd cn cs L a ccd cl outer) (call (.ref f) vs) Q E s :=
  C _ _ _ _ _ _ _ _ _ _ _ _ _ _ _ _ _ B F K (fun p hp => N p (hs p hp)) T hk h1 h2 hret
theorem CtrM.useA {w : World} {mean : ExcName → Option Value} {mg mb : Str → Option Value} {k : Nat} {f : Addr} {vs : List Value} {news led : List (Addr × Obj)} {R : Value → List (Addr × Obj) → Prop}
    {dp un : Nat} {gd : Option (List Code)} {cn : Str} {cs : Scope} {a : Addr} {ccd : Value} {cl : List (Str × Addr)} {outer : List Env} {A₀ : Around} {base h₀ : Heap} {L : Addr} {m : Str → Option Value} {s : Shared} {Q E : Value → Shared → Prop}
    (N : News h₀ L s.heap led) (C : CtrM w mean mg mb k f vs news R) (hs : ∀ p ∈ news, p ∈ led)
    (hret : ∀ (r : Value) (led : List (Addr × Obj)) (h' : Heap) (tk' : Nat), Fr h₀ L h' m → News h₀ L h' led → R r led → Q r { s with heap := h', toks := tk' })
    (B : Below A₀ base outer h₀ := by k_asm) (F : Fr h₀ L s.heap m := by k_asm) (K : (hd.heap_1 w.params).In h₀ := by k_asm) (T : Top hd.view_1 LO mean mg mb h₀ := by k_asm) (hk : cs.kind = .function := by first | exact rfl | assumption) (h1 : dp + k < recursionLimit := by walk_at "m_room") (h2 : un + 8 * k < cLine := by walk_at "m_room") :
    wpAny (model PySem.Challenge.rw_no0365_01.row.prog w) (ktrTop dp un gd cn cs L a ccd cl outer) (call (.ref f) vs) Q E s := CtrM.use N C hs B F K T hk h1 h2 hret
section
variable {prog : Program} {w : World} {A : Around} {E : Value → Shared → Prop} {s : Shared} {Q : Value → Shared → Prop}
theorem notIn_int_B {l : List UInt8} {c : Int} {t u : Tok} (h0 : 0 ≤ c) (h1 : c < 256) (h : Q (.bool (!(l.contains c.toNat.toUInt8))) s) : wpAny (model prog w) A (compareOp .NotIn (.int c t) (.bytes l.toArray u)) Q E s :=
  notIn_gives (typeIs_bytes s _ _) FB.slot_bytes_contains FB.entry_bytes_contains (FB.args_bytes_contains_2 _ _) (gives_in_int l c h0 h1 u t) h
end
local macro_rules | `(tactic| walk_at "compareOp NotIn int bytes") => `(tactic| (k_here; k_dflt (refine notIn_int_B (by first | assumption | exact cAt_lo _ _) (by first | assumption | exact cAt_hi _ _) ?_)))
set_option maxRecDepth 100000 in
set_option maxHeartbeats 8000000 in
theorem pieces_gives (w : World) (mean : ExcName → Option Value) (mg mb : Str → Option Value) (news : List (Addr × Obj)) :
    Ctr w mean mg mb 2 172 [] news (fun r tl => ∃ D vs ws, r = .ref D ∧ tl = [(D, tupOf vs)] ∧ BytesAre vs ws ∧ vs.length = 24 ∧ ∀ x ∈ ws, x.length ≤ 19) (fun _ => False) := by
  unfold Ctr
  k_fill
  intro dp un gd cn cs a ccd cl outer A₀ base h₀ L m s Q E B F X N Tp hk hd hu hret hrai
  walk_at "m_enter"
  intro g L' h₁ FG F1 N1 B1 X1 T1
  dsimp only
  k_fold
  generalize s.toks + List.length _ = tk0
  k_steps
  exact hret _ [_] _ _ (by assumption) (by assumption) ⟨_, _, [[97], [40], [41], [34], [92], [91], [93], [46], [32], [13, 10, 32], [10], [13], [233, 61], [60, 64, 44, 59, 58, 62], [1], [0], [34, 120, 92, 34, 121, 13, 10, 32, 122, 34], [40, 98, 40, 99, 41, 92, 41, 100, 41], [91, 49, 92, 93, 50, 93], [40, 40, 40, 40, 40, 40, 40, 40, 40, 40, 40, 40, 40, 40, 40, 40, 40, 40, 40], [41, 41, 41, 41, 41, 41, 41, 41, 41, 41, 41, 41, 41, 41, 41, 41, 41, 41, 41], [9], [126, 98, 45, 57], [127]], rfl, rfl, by repeat (first | exact .nil | refine .cons _ _ ?_), rfl, by decide⟩
noncomputable def lawAtom (c : Int) : Bool := decide (127 < c) || (decide (33 ≤ c) && decide (c ≤ 126) && !([40, 41, 60, 62, 91, 93, 58, 59, 64, 92, 44, 46, 34] : List UInt8).contains c.toNat.toUInt8)
set_option maxRecDepth 100000 in
set_option maxHeartbeats 8000000 in
theorem law_is_atom_gives (w : World) (mean : ExcName → Option Value) (mg mb : Str → Option Value) (c : Int) (t : Tok) (h0 : 0 ≤ c) (h1 : c < 256) (news : List (Addr × Obj)) :
    Ctr w mean mg mb 2 186 [.int c t] news (fun r tl => r = .bool (lawAtom c) ∧ tl = []) (fun _ => False) := by
  unfold Ctr
  k_fill
  intro dp un gd cn cs a ccd cl outer A₀ base h₀ L m s Q E B F X N Tp hk hd hu hret hrai
  walk_at "m_enter"
  intro g L' h₁ FG F1 N1 B1 X1 T1
  dsimp only
  k_fold
  generalize s.toks + List.length _ = tk0
  replace F1 : Fr g L' h₁ (fun y => List.lookup y [(Str.ofString "code", Value.int c t)]) := F1
  refine wp_abs fun Q1 hQ1 => ?_
  k_steps
  all_goals refine end_bool hret ?_ (by assumption) (by assumption)
  all_goals unfold lawAtom
  all_goals simp [*]
theorem fresh_NL2 : True := by w_top off; trivial
section
variable {prog : Program} {w : World} {A : Around} {E : Value → Shared → Prop} {s : Shared} {h₀ : Heap} {L D : Addr} {m : Str → Option Value} {rest led : List (Addr × Obj)} {vs : List Value} {x v : Value} {n : Nat} {t u : Tok}
theorem set0_M {Q : Unit → Shared → Prop} (F : Fr h₀ L s.heap m) (N : News h₀ L s.heap led) (hm : (D, listOf (v :: vs).toArray n) ∈ led) (hne : ∀ p ∈ rest, p.1 ≠ D) (hs : ∀ p ∈ rest, p ∈ led) (hz : vs.length ≤ 16777216)
    (h : ∀ h', Fr h₀ L h' m → News h₀ L h' ((D, listOf (x :: vs).toArray n) :: rest) → Q () { s with heap := h' }) : wpAny (model prog w) A (setItem (.ref D) (.int 0 t) x) Q E s := by
  have N2 : News h₀ L s.heap ([] ++ (D, listOf (v :: vs).toArray n) :: rest) := fun p hp => by
    rcases List.mem_cons.mp hp with rfl | hp
    · exact N _ hm
    · exact N p (hs p hp)
  have z := N2 _ (List.Mem.head _)
  refine ki_setAt z.1 (by decide) (by decide) (by simp) (h _ (F.change (Heap.SameBut.update ..) z.2.1 z.2.2) (ki_turn _ N2 (fun _ h => nomatch h) hne ?_ ?_))
  · simp
  · simp
theorem pop0_M {Q : Value → Shared → Prop} (F : Fr h₀ L s.heap m) (N : News h₀ L s.heap led) (hm : (D, listOf (v :: vs).toArray n) ∈ led) (hne : ∀ p ∈ rest, p.1 ≠ D) (hs : ∀ p ∈ rest, p ∈ led) (hz : (v :: vs).length ≤ 16777216)
    (h : ∀ h', Fr h₀ L h' m → News h₀ L h' ((D, listOf vs.toArray (n + 1)) :: rest) → Q v { s with heap := h' }) : wpAny (model prog w) A (call (.builtin "list.pop") [.ref D, .int 0 u]) Q E s :=
  kl_popAt (its := (v :: vs).toArray) (n := n) (p := []) (q := vs) F (fun p hp => by
    rcases List.mem_cons.mp hp with rfl | hp
    · exact N _ hm
    · exact N p (hs p hp)) (by decide) (k := 0) (by simp [seqIndex?]) rfl (.head hne) (by rw [sizeLine_eq]; simpa using hz) h
end
theorem fm_lo {n many : Int} (h : 0 < many) : 0 ≤ n.fmod many := by rw [Int.fmod_eq_emod_of_nonneg _ (by omega)]; exact Int.emod_nonneg _ (by omega)
theorem fm_hi {n many : Int} (h : 0 < many) : n.fmod many < many := by rw [Int.fmod_eq_emod_of_nonneg _ (by omega)]; exact Int.emod_lt_of_pos _ h
theorem fd_bd {n many B : Int} (h : 0 < many) (hn : 0 ≤ n ∧ n < B) : 0 ≤ n.fdiv many ∧ n.fdiv many < B := by
  rw [Int.fdiv_eq_ediv_of_nonneg _ (by omega)]
  have := Int.ediv_le_self many hn.1
  exact ⟨Int.ediv_nonneg hn.1 (by omega), by omega⟩
set_option maxRecDepth 100000 in
set_option maxHeartbeats 8000000 in
theorem take_gives (w : World) (mean : ExcName → Option Value) (mg mb : Str → Option Value) (Pl : Addr) (vs : List Value) (ns : List Int) (kk : Nat) (many : Int) (t : Tok) (hi : IntsAre vs ns) (hn : ∀ n ∈ ns, 0 ≤ n ∧ n < 10 ^ 80) (hl : ns.length ≤ 24) (hm : 0 < many) (hm2 : many < 100) (rest : List (Addr × Obj)) (hne : ∀ p ∈ rest, p.1 ≠ Pl) :
    CtrM w mean mg mb 2 179 [.ref Pl, .int many t] ((Pl, listOf vs.toArray kk) :: rest) (fun r led => ∃ v t' vs' ns' k', r = .int v t' ∧ 0 ≤ v ∧ v < many ∧ led = (Pl, listOf vs'.toArray k') :: rest ∧ IntsAre vs' ns' ∧ (∀ n ∈ ns', 0 ≤ n ∧ n < 10 ^ 80) ∧ ns'.length ≤ 24) := by
  unfold CtrM
  k_fill
  intro dp un gd cn cs a ccd cl outer A₀ base h₀ L m s Q E B F X N Tp hk hd hu hret
  walk_at "m_enter"
  intro g L' h₁ FG F1 N1 B1 X1 T1
  dsimp only
  k_fold
  generalize s.toks + List.length _ = tk0
  replace F1 : Fr g L' h₁ (fun y => List.lookup y [(Str.ofString "many", Value.int many t), (Str.ofString "pool", Value.ref Pl)]) := F1
  refine wp_abs fun Q1 hQ1 => ?_
  have hlen := hi.length
  k_steps
  · exact hret _ _ _ _ (by assumption) (by assumption) ⟨0, _, vs, ns, kk, rfl, by omega, hm, rfl, hi, hn, hl⟩
  · cases hi with
    | nil => simp at *
    | @cons n tn vs' ns' hi2 =>
      have hn0 := hn n (List.Mem.head _)
      refine set0_M (by k_asm) (by k_asm) (by k_mem) hne (by walk_at "m_sub") (by simp at hl hlen; omega) ?_
      intro h' F' N'
      dsimp only
      k_steps
      · refine pop0_M (by k_asm) (by k_asm) (by k_mem) hne (by walk_at "m_sub") (by simp at hl hlen ⊢; omega) ?_
        intro h2' F2' N2'
        dsimp only
        k_steps
        exact hret _ _ _ _ (by assumption) (by assumption) ⟨_, _, vs', ns', _, rfl, fm_lo hm, fm_hi hm, rfl, hi2, fun x hx => hn x (List.mem_cons_of_mem _ hx), by simp at hl; omega⟩
      · exact hret _ _ _ _ (by assumption) (by assumption) ⟨_, _, _ :: vs', n.fdiv many :: ns', _, rfl, fm_lo hm, fm_hi hm, rfl, .cons _ _ hi2, fun x hx => by
          rcases List.mem_cons.mp hx with rfl | hx
          · exact fd_bd hm hn0
          · exact hn x (List.mem_cons_of_mem _ hx), hl⟩
theorem fresh_NL3 : True := by w_top off; trivial
noncomputable def codes (d : List UInt8) : List Int := d.map fun c => (c.toNat : Int)
theorem codes_in (d : List UInt8) : KBa.In (codes d) := fun n hn => by
  obtain ⟨c, _, rfl⟩ := List.mem_map.mp hn
  have := c.toNat_lt
  exact ⟨Int.natCast_nonneg _, by omega⟩
theorem codes_arr (d : List UInt8) : byteArr (codes d) = d.toArray := by
  have e : ∀ c : UInt8, ((c.toNat : Int).toNat.toUInt8) = c := fun c => by simp
  unfold byteArr codes
  rw [List.map_map]
  congr 1
  exact (List.map_congr_left fun c _ => e c).trans (List.map_id' d)
theorem sub_new {a b c : Addr × Obj} {rest : List (Addr × Obj)} : ∀ p ∈ a :: rest, p ∈ a :: b :: c :: rest := by
  intro p hp; simp only [List.mem_cons] at hp ⊢; rcases hp with h | h <;> simp only [h, true_or, or_true]
section
variable {prog : Program} {w : World} {A : Around} {E : Value → Shared → Prop} {s : Shared} {h₀ : Heap} {L D : Addr} {m : Str → Option Value} {news : List (Addr × Obj)} {vs : List Value} {d : List UInt8} {n : Nat}
theorem bytes_M {Q : Value → Shared → Prop} (F : Fr h₀ L s.heap m) (N : News h₀ L s.heap news) (hm : (D, listOf vs.toArray n) ∈ news) (hh : A.handled = none) (hi : IntsAre vs (codes d)) (hn : d.length ≤ 16777216)
    (h : ∀ h' t' k, Fr h₀ L h' m → News h₀ L h' news → Q (.bytes d.toArray t') { s with heap := h', toks := k }) : wpAny (model prog w) A (call (.type "bytes") [.ref D]) Q E s :=
  KBa.make_K F N hh ⟨_, (N _ hm).1, rfl, n, rfl⟩ hi (codes_in d) (by simpa [codes] using hn) fun h' t' k F' N' _ => by
    have := h h' t' k F' N'; rw [codes_arr]; exact this
end
local macro_rules | `(tactic| walk_at "call type:bytes") => `(tactic| (k_here; (with_reducible show wpAny _ _ (call (Value.type "bytes") [Value.ref _]) _ _ _); k_dflt (refine bytes_M (by k_asm) (by k_asm) (by k_mem) (by exact rfl) (by assumption) (by omega) ?_); intro h' t' tk' F' N'; (try k_sweep)))
set_option maxRecDepth 100000 in
set_option maxHeartbeats 8000000 in
theorem law_closed_gives (w : World) (mean : ExcName → Option Value) (mg mb : Str → Option Value) (P W : Addr) (vs ws : List Value) (k kw : Nat) (st : Str) (t t1 : Tok) (bs : List UInt8) (b : Int) (hi : IntsAre ws (codes bs)) (hl : bs.length ≤ 65536) (hv : vs.length ≤ 65536) (rest : List (Addr × Obj)) (hne : ∀ p ∈ rest, p.1 ≠ P) (hW : (W, listOf ws.toArray kw) ∈ rest) :
    CtrM w mean mg mb 2 193 [.ref P, .str st t, .ref W, .int b t1] ((P, listOf vs.toArray k) :: rest) (fun r led => ∃ (D : Addr) (t1 t2 t3 : Tok), r = .none ∧ led = (P, listOf (vs ++ [Value.ref D]).toArray (k + 1)) :: (D, tupOf [.str st t1, .bytes bs.toArray t2, .int b t3]) :: rest ∧ D ≠ P ∧ ∀ p ∈ rest, p.1 ≠ D) := by
  unfold CtrM
  k_fill
  intro dp un gd cn cs a ccd cl outer A₀ base h₀ L m s Q E B F X N Tp hk hd hu hret
  walk_at "m_enter"
  intro g L' h₁ FG F1 N1 B1 X1 T1
  dsimp only
  k_fold
  generalize s.toks + List.length _ = tk0
  replace F1 : Fr g L' h₁ (fun y => List.lookup y [(Str.ofString "begun", Value.int b t1), (Str.ofString "worth", Value.ref W), (Str.ofString "state", Value.str st t), (Str.ofString "tokens", Value.ref P)]) := F1
  refine wp_abs fun Q1 hQ1 => ?_
  have N2 := News.also N1 (List.mem_cons_of_mem _ hW)
  clear N1
  k_steps
  rename _ ∧ _ ∧ AllLt _ _ => h8
  with_reducible rename Fr g _ _ _ => sF
  with_reducible rename News g _ _ _ => sN
  unfold Halt
  refine append_M2 (vs := vs) (n := k) (rest := (_, _) :: rest) sF sN (List.mem_cons_of_mem _ (List.mem_cons_of_mem _ List.mem_cons_self)) ?_ (sub_new (a := (_, _))) (by omega) ?_
  · intro p hp
    rcases List.mem_cons.mp hp with rfl | hp
    · exact Ne.symm (Nat.ne_of_lt h8.2.1)
    · exact hne p hp
  intro h9' F9 N9
  k_steps
  exact hret _ _ _ _ (by assumption) (by assumption) ⟨_, _, _, _, rfl, rfl, Ne.symm (Nat.ne_of_lt h8.2.1), fun p hp => Nat.ne_of_lt (allLt_mem h8.2.2 p hp)⟩
theorem fresh_NL4 : True := by w_top off; trivial
local macro_rules | `(tactic| walk_at "call builtin:list.append") => `(tactic| (k_here; (with_reducible show wpAny _ _ (call (Value.builtin _) [Value.ref _, _]) _ _ _); k_dflt (refine append_M2 (by k_asm) (by k_asm) (by k_mem) (by assumption) (by walk_at "m_sub") (by walk_at "m_len") ?_); intro h' F' N'; (try k_sweep)))
theorem lawIn_a {d : List UInt8} {n : Nat} (h1 : cAt d n = 92) (h2 : (n : Int) + 1 = d.length) : lawIn d n = (-2, []) := by simp only [lawIn, if_pos h1, if_pos h2]
theorem lawIn_b {d : List UInt8} {n : Nat} (h1 : cAt d n = 92) (h2 : (n : Int) + 1 ≠ d.length) (h3 : ([0, 10, 13] : List Int).any (fun x => x == cAt d (n + 1)) = true) : lawIn d n = (-1, []) := by
  have h4 : nev (cAt d (n + 1)) = true := h3
  simp only [lawIn, if_pos h1, if_neg h2, if_pos h4]
theorem lawIn_c {d : List UInt8} {n : Nat} (h1 : cAt d n = 92) (h2 : (n : Int) + 1 ≠ d.length) (h3 : ([0, 10, 13] : List Int).any (fun x => x == cAt d (n + 1)) = false) : lawIn d n = ((n : Int) + 2, sub d (n + 1) 1) := by
  have h4 : nev (cAt d (n + 1)) = false := h3
  simp only [lawIn, if_pos h1, if_neg h2, h4, Bool.false_eq_true, if_false]
theorem lawIn_d {d : List UInt8} {n : Nat} (h1 : cAt d n ≠ 92) (h2 : cAt d n = 10) : lawIn d n = ((n : Int) + 1, []) := by simp only [lawIn, if_neg h1, if_pos h2]
theorem lawIn_e {d : List UInt8} {n : Nat} (h1 : cAt d n ≠ 92) (h2 : cAt d n ≠ 10) (h3 : sub d n 2 = [13, 10]) : lawIn d n = ((n : Int) + 2, []) := by simp only [lawIn, if_neg h1, if_neg h2, if_pos h3]
theorem lawIn_f {d : List UInt8} {n : Nat} (h1 : cAt d n ≠ 92) (h2 : cAt d n ≠ 10) (h3 : ¬ sub d n 2 = [13, 10]) (h4 : ([0, 13] : List Int).any (fun x => x == cAt d n) = true) : lawIn d n = (-1, []) := by simp only [lawIn, if_neg h1, if_neg h2, if_neg h3, if_pos h4]
theorem lawIn_g {d : List UInt8} {n : Nat} (h1 : cAt d n ≠ 92) (h2 : cAt d n ≠ 10) (h3 : ¬ sub d n 2 = [13, 10]) (h4 : ([0, 13] : List Int).any (fun x => x == cAt d n) = false) : lawIn d n = ((n : Int) + 1, sub d n 1) := by simp only [lawIn, if_neg h1, if_neg h2, if_neg h3, h4, Bool.false_eq_true, if_false]
theorem codes_snoc {ws : List Value} {bs d : List UInt8} {n : Nat} {t : Tok} (h : IntsAre ws (codes bs)) (hn : n < d.length) : IntsAre (ws ++ [.int (cAt d n) t]) (codes (bs ++ sub d n 1)) := by
  have e : codes (bs ++ sub d n 1) = codes bs ++ [cAt d n] := by rw [sub_one hn]; simp [codes, cAt]
  rw [e]
  exact h.append (.cons _ _ .nil)
set_option maxRecDepth 100000 in
set_option maxHeartbeats 8000000 in
theorem law_inside_gives (w : World) (mean : ExcName → Option Value) (mg mb : Str → Option Value) (W : Addr) (ws : List Value) (kw : Nat) (d bs : List UInt8) (n : Nat) (t t1 : Tok) (hz : d.length ≤ 65536) (hn : n < d.length) (hi : IntsAre ws (codes bs)) (hl : ws.length ≤ 65536) (rest : List (Addr × Obj)) (hne : ∀ p ∈ rest, p.1 ≠ W) :
    CtrM w mean mg mb 2 200 [.bytes d.toArray t, .int (n : Int) t1, .ref W] ((W, listOf ws.toArray kw) :: rest) (fun r led => ∃ (t' : Tok) (ws' : List Value) (k' : Nat), r = .int (lawIn d n).1 t' ∧ led = (W, listOf ws'.toArray k') :: rest ∧ IntsAre ws' (codes (bs ++ (lawIn d n).2))) := by
  unfold CtrM
  k_fill
  intro dp un gd cn cs a ccd cl outer A₀ base h₀ L m s Q E B F X N Tp hk hd hu hret
  walk_at "m_enter"
  intro g L' h₁ FG F1 N1 B1 X1 T1
  dsimp only
  k_fold
  generalize s.toks + List.length _ = tk0
  replace F1 : Fr g L' h₁ (fun y => List.lookup y [(Str.ofString "worth", Value.ref W), (Str.ofString "at", Value.int n t1), (Str.ofString "data", Value.bytes d.toArray t)]) := F1
  refine wp_abs fun Q1 hQ1 => ?_
  have hz1 : d.length ≤ 16777216 := by omega
  have hl1 : ws.length ≤ 16777216 := by omega
  k_steps
  · have e := @lawIn_a d n (by assumption) (by assumption)
    exact hret _ _ _ _ (by assumption) (by walk_at "m_fin") ⟨_, ws, _, by rw [e], rfl, by rw [e]; simpa [codes] using hi⟩
  · have e := @lawIn_b d n (by assumption) (by assumption) (by assumption)
    exact hret _ _ _ _ (by assumption) (by walk_at "m_fin") ⟨_, ws, _, by rw [e], rfl, by rw [e]; simpa [codes] using hi⟩
  · have e := @lawIn_c d n (by assumption) (by assumption) (by assumption)
    exact hret _ _ _ _ (by assumption) (by walk_at "m_fin") ⟨_, ws ++ [_], _, by rw [e], rfl, by rw [e]; exact codes_snoc hi (by omega)⟩
  · have e := @lawIn_d d n (by assumption) (by assumption)
    exact hret _ _ _ _ (by assumption) (by walk_at "m_fin") ⟨_, ws, _, by rw [e], rfl, by rw [e]; simpa [codes] using hi⟩
  · exact absurd (by assumption : cAt d n = 10) (by assumption)
  · exact absurd (by assumption : cAt d n = 10) (by assumption)
  · have e := @lawIn_e d n (by assumption) (by assumption) (by assumption)
    exact hret _ _ _ _ (by assumption) (by walk_at "m_fin") ⟨_, ws, _, by rw [e], rfl, by rw [e]; simpa [codes] using hi⟩
  · have e := @lawIn_f d n (by assumption) (by assumption) (by assumption) (by assumption)
    exact hret _ _ _ _ (by assumption) (by walk_at "m_fin") ⟨_, ws, _, by rw [e], rfl, by rw [e]; simpa [codes] using hi⟩
  · have e := @lawIn_g d n (by assumption) (by assumption) (by assumption) (by assumption)
    exact hret _ _ _ _ (by assumption) (by walk_at "m_fin") ⟨_, ws ++ [_], _, by rw [e], rfl, by rw [e]; exact codes_snoc hi hn⟩
theorem fresh_NL5 : True := by w_top off; trivial
noncomputable def sstr : St → PySem.Str
  | .out => Str.ofString "out"
  | .atom => Str.ofString "atom"
  | .quoted => Str.ofString "quoted"
  | .comment => Str.ofString "comment"
  | .literal => Str.ofString "literal"
noncomputable def rank (d : List UInt8) (st : St) (i : Nat) : Nat := 3 * (d.length - i) + (match st with | .atom => if i < d.length ∧ atomCode (cAt d i) = true then 0 else 2 | _ => 1)
theorem lawAtom_eq {d : List UInt8} {i : Nat} : lawAtom (cAt d i) = atomCode (cAt d i) := law_atom (d.getD i 0)
local macro_rules | `(tactic| walk_at "call ref") => `(tactic| (k_here; k_dflt (refine Ctr.useA (law_is_atom_gives _ _ _ _ _ _ (by first | assumption | exact cAt_lo _ _) (by first | assumption | exact cAt_hi _ _) _) (hret := ?_) (hrai := RaiseTo.never)); intro r tl h' tk' F' N' hR; obtain ⟨e1, e2⟩ := hR; subst e1 e2; walk_at "m_nsw"))
local macro_rules | `(tactic| walk_at "call ref") => `(tactic| (refine Halt.at 193 ?_))
local macro_rules | `(tactic| walk_at "call ref") => `(tactic| (refine Halt.at 200 ?_))
noncomputable def fr8 (x1 x2 x3 x4 x5 x6 x7 x8 : Option Value) (m : PySem.Str → Option Value) : PySem.Str → Option Value := fun y => if y = Str.ofString "at" then x1 else if y = Str.ofString "depth" then x2 else if y = Str.ofString "begun" then x3 else if y = Str.ofString "worth" then x4 else if y = Str.ofString "state" then x5 else if y = Str.ofString "tokens" then x6 else if y = Str.ofString "code" then x7 else if y = Str.ofString "later" then x8 else m y
theorem fr8_at {x1 x2 x3 x4 x5 x6 x7 x8 z : Option Value} {m : PySem.Str → Option Value} : (fun y => if y = Str.ofString "at" then z else fr8 x1 x2 x3 x4 x5 x6 x7 x8 m y) = fr8 z x2 x3 x4 x5 x6 x7 x8 m := by
  funext y; by_cases h : y = Str.ofString "at"
  · subst h; rfl
  · simp only [fr8, if_neg h]
theorem fr8_depth {x1 x2 x3 x4 x5 x6 x7 x8 z : Option Value} {m : PySem.Str → Option Value} : (fun y => if y = Str.ofString "depth" then z else fr8 x1 x2 x3 x4 x5 x6 x7 x8 m y) = fr8 x1 z x3 x4 x5 x6 x7 x8 m := by
  funext y; by_cases h : y = Str.ofString "depth"
  · subst h; rfl
  · simp only [fr8, if_neg h]
theorem fr8_begun {x1 x2 x3 x4 x5 x6 x7 x8 z : Option Value} {m : PySem.Str → Option Value} : (fun y => if y = Str.ofString "begun" then z else fr8 x1 x2 x3 x4 x5 x6 x7 x8 m y) = fr8 x1 x2 z x4 x5 x6 x7 x8 m := by
  funext y; by_cases h : y = Str.ofString "begun"
  · subst h; rfl
  · simp only [fr8, if_neg h]
theorem fr8_worth {x1 x2 x3 x4 x5 x6 x7 x8 z : Option Value} {m : PySem.Str → Option Value} : (fun y => if y = Str.ofString "worth" then z else fr8 x1 x2 x3 x4 x5 x6 x7 x8 m y) = fr8 x1 x2 x3 z x5 x6 x7 x8 m := by
  funext y; by_cases h : y = Str.ofString "worth"
  · subst h; rfl
  · simp only [fr8, if_neg h]
theorem fr8_state {x1 x2 x3 x4 x5 x6 x7 x8 z : Option Value} {m : PySem.Str → Option Value} : (fun y => if y = Str.ofString "state" then z else fr8 x1 x2 x3 x4 x5 x6 x7 x8 m y) = fr8 x1 x2 x3 x4 z x6 x7 x8 m := by
  funext y; by_cases h : y = Str.ofString "state"
  · subst h; rfl
  · simp only [fr8, if_neg h]
theorem fr8_code {x1 x2 x3 x4 x5 x6 x7 x8 z : Option Value} {m : PySem.Str → Option Value} : (fun y => if y = Str.ofString "code" then z else fr8 x1 x2 x3 x4 x5 x6 x7 x8 m y) = fr8 x1 x2 x3 x4 x5 x6 z x8 m := by
  funext y; by_cases h : y = Str.ofString "code"
  · subst h; rfl
  · simp only [fr8, if_neg h]
theorem fr8_later {x1 x2 x3 x4 x5 x6 x7 x8 z : Option Value} {m : PySem.Str → Option Value} : (fun y => if y = Str.ofString "later" then z else fr8 x1 x2 x3 x4 x5 x6 x7 x8 m y) = fr8 x1 x2 x3 x4 x5 x6 x7 z m := by
  funext y; by_cases h : y = Str.ofString "later"
  · subst h; rfl
  · simp only [fr8, if_neg h]
section
variable {M : Model} {A : Around} {E : Value → Shared → Prop} {cn : PySem.Str} {cs : Scope} {L a : Addr} {ccd : Value} {cl : List (PySem.Str × Addr)} {h₀ h : Heap} {gs : Array GenState} {dr : Drawn} {tk : Nat} {os : OsState} {m m' : PySem.Str → Option Value} {news : List (Addr × Obj)} {x : PySem.Str} {v : Value} {Q : Unit → Shared → Prop}
theorem storeX_E (F : Fr h₀ L h m) (N : News h₀ L h news) (e : (fun y => if y = x then some v else m y) = m')
    (k : ∀ h', Fr h₀ L h' m' → News h₀ L h' news → Q () ⟨h', gs, dr, tk + 1, os⟩)
    (hk : cs.kind = .function := by rfl) (hx : (envX cn cs L a ccd cl).kindOf x = some .local := by rfl) : wpAny M A (storeName (envX cn cs L a ccd cl) x v) Q E ⟨h, gs, dr, tk, os⟩ :=
  storeX_L (s := ⟨h, gs, dr, tk, os⟩) F N (fun h' F' N' => k h' (e ▸ F') N') hk hx
end
local macro_rules | `(tactic| walk_at "storeName") => `(tactic| (k_here; k_dflt (refine' storeX_E ?F ?N ?e ?_ ?a ?b; (case F => k_asm); (case N => k_asm); (case e => with_reducible first | exact fr8_at | exact fr8_depth | exact fr8_begun | exact fr8_worth | exact fr8_state | exact fr8_code | exact fr8_later); (case a => rfl); (case b => rfl); k_whole; intro h' F' N'; (try k_sweep))))
theorem le_p1 {a n B : Nat} (h : a + (n + 1) ≤ B) : a + n ≤ B := Nat.le_of_succ_le h
theorem le_p2 {α : Type} {l : List α} {x : α} {n B : Nat} (h : l.length + (n + 1) ≤ B) : (l ++ [x]).length + n ≤ B := by rw [List.length_append, List.length_singleton]; omega
theorem le_p3 {α : Type} {a n B : Nat} (h : a + (n + 1) ≤ B) : ([] : List α).length + n ≤ B := by rw [List.length_nil]; omega
noncomputable def LJ (d : List UInt8) (t : Tok) (P : Addr) (news : List (Addr × Obj)) (n : Nat) (m₁ : PySem.Str → Option Value) (news₁ : List (Addr × Obj)) : Prop :=
  ∃ (st : St) (ai di : Int) (i b dp : Nat) (bs : List UInt8) (ts : List T) (W : Addr) (vs ws : List Value) (os : List (Addr × Obj)) (k kw : Nat) (ti tb td tst : Tok) (u v : Option Value),
    m₁ = fr8 (some (Value.int ai ti)) (some (Value.int di td)) (some (Value.int (b : Int) tb)) (some (Value.ref W)) (some (Value.str (sstr st) tst)) (some (Value.ref P)) u v (fun y => List.lookup y [(Str.ofString "data", Value.bytes d.toArray t)]) ∧
    news₁ = (P, listOf vs.toArray k) :: (W, listOf ws.toArray kw) :: (os ++ news) ∧ ai = (i : Int) ∧ di = (dp : Int) ∧ ToksAre vs os ts ∧ IntsAre ws (codes bs) ∧ Held (∀ p ∈ (W, listOf ws.toArray kw) :: (os ++ news), p.1 ≠ P) ∧ Held (∀ p ∈ os ++ news, p.1 ≠ W) ∧
    Inv d st bs b i dp ts ∧ i ≤ d.length ∧ rank d st i < n ∧ vs.length + n ≤ 3 * d.length + 2 ∧ ws.length + n ≤ 3 * d.length + 2 ∧ dp ≤ 20
theorem LJ.intro {d : List UInt8} {t : Tok} {P : Addr} {news : List (Addr × Obj)} {n : Nat} {m₁ : PySem.Str → Option Value} {news₁ : List (Addr × Obj)} (st : St) {ai di : Int} (i : Nat) {b : Nat} (dp : Nat) {bs : List UInt8} {ts : List T} {W : Addr} {vs ws : List Value} {os : List (Addr × Obj)} {k kw : Nat} {ti tb td tst : Tok} {u v : Option Value}
    (hm : m₁ = fr8 (some (Value.int ai ti)) (some (Value.int di td)) (some (Value.int (b : Int) tb)) (some (Value.ref W)) (some (Value.str (sstr st) tst)) (some (Value.ref P)) u v (fun y => List.lookup y [(Str.ofString "data", Value.bytes d.toArray t)]))
    (hn : news₁ = (P, listOf vs.toArray k) :: (W, listOf ws.toArray kw) :: (os ++ news)) (h1 : ToksAre vs os ts) (h2 : IntsAre ws (codes bs)) (h3 : ∀ p ∈ (W, listOf ws.toArray kw) :: (os ++ news), p.1 ≠ P) (h4 : ∀ p ∈ os ++ news, p.1 ≠ W)
    (h5 : Inv d st bs b i dp ts) (ha : ai = (i : Int)) (hd : di = (dp : Int)) (h6 : i ≤ d.length) (h7 : rank d st i < n) (h8 : vs.length + n ≤ 3 * d.length + 2) (h9 : ws.length + n ≤ 3 * d.length + 2) (h10 : dp ≤ 20) : LJ d t P news n m₁ news₁ :=
  ⟨st, ai, di, i, b, dp, bs, ts, W, vs, ws, os, k, kw, ti, tb, td, tst, u, v, hm, hn, ha, hd, h1, h2, ⟨h3⟩, ⟨h4⟩, h5, h6, h7, h8, h9, h10⟩
theorem shut_q (c : Int) : ([PyData.tuple [.str (Str.ofString "quoted"), .int 34], .tuple [.str (Str.ofString "literal"), .int 93]].any fun y => PyData.eqv y (.tuple [.str (Str.ofString "quoted"), .int c])) = decide (c = 34) := by
  have e1 : (Str.ofString "quoted" == Str.ofString "quoted") = true := by decide +kernel
  have e2 : (Str.ofString "literal" == Str.ofString "quoted") = false := by decide +kernel
  simp only [List.any_cons, List.any_nil, PyData.eqv, PyData.eqvAll, e1, e2, Bool.true_and, Bool.false_and, Bool.and_true, Bool.or_false]
  rw [Bool.eq_iff_iff]; simp; omega
theorem shut_l (c : Int) : ([PyData.tuple [.str (Str.ofString "quoted"), .int 34], .tuple [.str (Str.ofString "literal"), .int 93]].any fun y => PyData.eqv y (.tuple [.str (Str.ofString "literal"), .int c])) = decide (c = 93) := by
  have e1 : (Str.ofString "quoted" == Str.ofString "literal") = false := by decide +kernel
  have e2 : (Str.ofString "literal" == Str.ofString "literal") = true := by decide +kernel
  simp only [List.any_cons, List.any_nil, PyData.eqv, PyData.eqvAll, e1, e2, Bool.true_and, Bool.false_and, Bool.and_true, Bool.or_false, Bool.false_or]
  rw [Bool.eq_iff_iff]; simp; omega
theorem shut_c (c : Int) : ([PyData.tuple [.str (Str.ofString "quoted"), .int 34], .tuple [.str (Str.ofString "literal"), .int 93]].any fun y => PyData.eqv y (.tuple [.str (Str.ofString "comment"), .int c])) = false := by
  have e1 : (Str.ofString "quoted" == Str.ofString "comment") = false := by decide +kernel
  have e2 : (Str.ofString "literal" == Str.ofString "comment") = false := by decide +kernel
  simp only [List.any_cons, List.any_nil, PyData.eqv, PyData.eqvAll, e1, e2, Bool.true_and, Bool.false_and, Bool.and_true, Bool.or_false, Bool.false_or]
theorem lay_lit : PyData.canLayAll0 [PyData.tuple [.str (Str.ofString "quoted"), .int 34], .tuple [.str (Str.ofString "literal"), .int 93]] = true := by decide +kernel
theorem lay_st (st : St) (c : Int) : (PyData.tuple [.str (sstr st), .int c]).canLay0 = true := by
  have h : PyData.strOk (sstr st) = true := by cases st <;> decide +kernel
  simp [PyData.canLay0, PyData.canLayAll0, h]
local macro_rules | `(tactic| walk_at "compareOp In ref ref") => `(tactic| (k_here; (with_reducible show wpAny _ _ (compareOp CmpOp.In (Value.ref _) (Value.ref _)) _ _ _); k_dflt (refine' SeqAt.in_tuple_reads ?a ?b ?c ?d ?e ?_; (case a => ked_read); (case b => ked_read); (case c => exact lay_lit); (case d => first | exact lay_st .quoted _ | exact lay_st .literal _ | exact lay_st .comment _); (case e => (simp only [PyData.depth, PyData.depthAll]; walk_at "m_room"))); (first | rw [shut_q] | rw [shut_l] | rw [shut_c])))
theorem rank_ne {d : List UInt8} {st : St} {i : Nat} (h : st ≠ .atom) : rank d st i = 3 * (d.length - i) + 1 := by cases st <;> first | rfl | exact absurd rfl h
theorem rank_in {d : List UInt8} {i : Nat} (h : i < d.length) (ha : atomCode (cAt d i) = true) : rank d .atom i = 3 * (d.length - i) := by
  show 3 * (d.length - i) + (if _ then 0 else 2) = _; rw [if_pos ⟨h, ha⟩]; rfl
theorem rank_off {d : List UInt8} {i : Nat} (h : ¬ (i < d.length ∧ atomCode (cAt d i) = true)) : rank d .atom i = 3 * (d.length - i) + 2 := by
  show 3 * (d.length - i) + (if _ then 0 else 2) = _; rw [if_neg h]
theorem rank_le {d : List UInt8} {i : Nat} : rank d .atom i ≤ 3 * (d.length - i) + 2 := by
  show 3 * (d.length - i) + (if _ then 0 else 2) ≤ _; split <;> omega
theorem rank_up {d : List UInt8} {st st' : St} {i i' n : Nat} (h : rank d st i < n + 1) (hl : i < d.length) (hi : i < i') (hs : st ≠ .atom) (hs' : st' ≠ .atom) : rank d st' i' < n := by
  rw [rank_ne hs] at h; rw [rank_ne hs']; omega
local macro_rules | `(tactic| walk_at "m_ai") => `(tactic| first | rfl | omega)
local macro_rules | `(tactic| walk_at "m_i6") => `(tactic| first | assumption | omega)
local macro_rules | `(tactic| walk_at "m_le") => `(tactic| first | exact le_p1 (by assumption) | exact le_p2 (by assumption) | exact le_p3 (by assumption) | omega)
local macro_rules | `(tactic| walk_at "m_rk") => `(tactic| first | exact rank_up (by assumption) (by assumption) (by first | exact Nat.lt_succ_self _ | omega) (by decide) (by decide) | (rw [rank_ne (by decide)]; omega) | omega)
local macro_rules | `(tactic| walk_at "m_d20") => `(tactic| first | assumption | decide | omega)
theorem LJ.turn {d : List UInt8} {t : Tok} {P L' : Addr} {g h₁ h' : Heap} {gs : Array GenState} {dr : Drawn} {t1 tk : Nat} {os' : OsState} {Q : Flow → Shared → Prop} {news led : List (Addr × Obj)} {n : Nat} {m₁ : PySem.Str → Option Value} {ai di : Int} {b : Nat} {bs : List UInt8} {ts : List T} {W : Addr} {vs ws : List Value} {os : List (Addr × Obj)} {k kw : Nat} {ti tb td tst : Tok} {u v : Option Value}
    (F : Fr g L' h' m₁) (N : News g L' h' led) (hs : ∀ p ∈ (P, listOf vs.toArray k) :: (W, listOf ws.toArray kw) :: (os ++ news), p ∈ led) (st : St) (i dp : Nat)
    (hm : m₁ = fr8 (some (Value.int ai ti)) (some (Value.int di td)) (some (Value.int (b : Int) tb)) (some (Value.ref W)) (some (Value.str (sstr st) tst)) (some (Value.ref P)) u v (fun y => List.lookup y [(Str.ofString "data", Value.bytes d.toArray t)]))
    (h1 : ToksAre vs os ts) (h2 : IntsAre ws (codes bs)) (h3 : ∀ p ∈ (W, listOf ws.toArray kw) :: (os ++ news), p.1 ≠ P) (h4 : ∀ p ∈ os ++ news, p.1 ≠ W)
    (h5 : Inv d st bs b i dp ts) (ha : ai = (i : Int)) (hd : di = (dp : Int)) (h6 : i ≤ d.length) (h7 : rank d st i < n) (h8 : vs.length + n ≤ 3 * d.length + 2) (h9 : ws.length + n ≤ 3 * d.length + 2) (h10 : dp ≤ 20) :
    WhileStep2 g L' ⟨h₁, gs, dr, t1, os'⟩ (LJ d t P news) Q (n + 1) .next ⟨h', gs, dr, tk, os'⟩ :=
  ⟨h', tk, m₁, _, n, rfl, F, fun p hp => N p (hs p hp), Nat.lt_succ_self n, LJ.intro st i dp hm rfl h1 h2 h3 h4 h5 ha hd h6 h7 h8 h9 h10⟩
theorem News.sub {h₀ h' : Heap} {L : Addr} {l led : List (Addr × Obj)} (N : News h₀ L h' led) (hs : ∀ p ∈ l, p ∈ led) : News h₀ L h' l := fun p hp => N p (hs p hp)
theorem sub_cons {q : Addr × Obj} {l led : List (Addr × Obj)} (h : q ∈ led) (hs : ∀ p ∈ l, p ∈ led) : ∀ p ∈ q :: l, p ∈ led := fun p hp => by
  rcases List.mem_cons.mp hp with rfl | hp
  · exact h
  · exact hs p hp
local macro_rules | `(tactic| walk_at "m_s1") => `(tactic| (repeat (first | exact List.Mem.head _ | refine List.Mem.tail _ ?_)))
local macro_rules | `(tactic| walk_at "m_s2") => `(tactic| ((try simp only [List.cons_append, List.nil_append]); (repeat ((with_reducible refine sub_cons ?hm ?_); (case hm => walk_at "m_s1"))); (intro p hp; repeat (first | (with_reducible exact hp) | (with_reducible exact List.mem_append_right _ hp) | (with_reducible refine List.mem_cons_of_mem _ ?_)))))
theorem in3 {c : UInt8} (h : ([34, 40, 91] : List UInt8).contains c = true) : c = 34 ∨ c = 40 ∨ c = 91 := by simpa using h
theorem apart_tok {P D : Addr} {q o : Obj} {W' : Addr} {l : List (Addr × Obj)} (h : ∀ p ∈ (W', q) :: l, p.1 ≠ P) (hD : D ≠ P) : ∀ p ∈ (W', q) :: ((D, o) :: l), p.1 ≠ P := fun p hp => by
  rcases List.mem_cons.mp hp with rfl | hp
  · exact h _ List.mem_cons_self
  · rcases List.mem_cons.mp hp with rfl | hp
    · exact hD
    · exact h p (List.mem_cons_of_mem _ hp)
theorem apart_tok2 {D : Addr} {o : Obj} {W' : Addr} {l : List (Addr × Obj)} (h : ∀ p ∈ l, p.1 ≠ W') (hD : D ≠ W') : ∀ p ∈ (D, o) :: l, p.1 ≠ W' := fun p hp => by
  rcases List.mem_cons.mp hp with rfl | hp
  · exact hD
  · exact h p hp
theorem apart_two {P W : Addr} {o q : Obj} {l : List (Addr × Obj)} (h : Held (∀ p ∈ (W, q) :: l, p.1 ≠ P)) (h2 : Held (∀ p ∈ l, p.1 ≠ W)) : ∀ p ∈ (P, o) :: l, p.1 ≠ W := fun p hp => by
  rcases List.mem_cons.mp hp with rfl | hp
  · exact Ne.symm (h.out _ List.mem_cons_self)
  · exact h2.out p hp
theorem apart_old {P W : Addr} {o q : Obj} {l : List (Addr × Obj)} (h : Held (∀ p ∈ (W, q) :: l, p.1 ≠ P)) : ∀ p ∈ (W, o) :: l, p.1 ≠ P := fun p hp => by
  rcases List.mem_cons.mp hp with rfl | hp
  · exact h.out (W, q) List.mem_cons_self
  · exact h.out p (List.mem_cons_of_mem _ hp)
theorem lawIn_len (d : List UInt8) (n : Nat) : (lawIn d n).2.length ≤ 1 := by
  unfold lawIn
  repeat' split
  all_goals first | exact Nat.zero_le _ | (show (sub _ _ _).length ≤ 1; rw [sub_len]; omega)
theorem no4041 {c : Int} (h : ([40, 41] : List Int).any (fun x => x == c) = false) : c ≠ 40 ∧ c ≠ 41 := by
  simp only [List.any_cons, List.any_nil, Bool.or_false, Bool.or_eq_false_iff, beq_eq_false_iff_ne] at h; omega
theorem is4041 {c : Int} (h : ([40, 41] : List Int).any (fun x => x == c) = true) : c = 40 ∨ c = 41 := by
  simp only [List.any_cons, List.any_nil, Bool.or_false, Bool.or_eq_true, beq_iff_eq] at h; omega
theorem codes_len (bs : List UInt8) : (codes bs).length = bs.length := by simp [codes]
theorem apart_new {P W W' : Addr} {q : Obj} {o : Obj} {l : List (Addr × Obj)} (h : P < W' ∧ W < W' ∧ AllLt W' l) (hP : Held (∀ p ∈ (W, q) :: l, p.1 ≠ P)) : ∀ p ∈ (W', o) :: l, p.1 ≠ P := fun p hp => by
  rcases List.mem_cons.mp hp with rfl | hp
  · exact Ne.symm (Nat.ne_of_lt h.1)
  · exact hP.out p (List.mem_cons_of_mem _ hp)
theorem apart_new2 {P W W' : Addr} {l : List (Addr × Obj)} (h : P < W' ∧ W < W' ∧ AllLt W' l) : ∀ p ∈ l, p.1 ≠ W' := fun p hp => Nat.ne_of_lt (allLt_mem h.2.2 p hp)
theorem white_1 {d : List UInt8} {i : Nat} (hi : i < d.length) (h : ([9, 10, 32] : List Int).any (fun x => x == cAt d i) = true) : whiteI d i = (i : Int) + 1 := by
  unfold whiteI leI
  have e : sub d i 1 = [10] ↔ cAt d i = 10 := sub_is hi 10
  simp only [List.any_cons, List.any_nil, Bool.or_false, Bool.or_eq_true, beq_iff_eq] at h
  split
  · rfl
  · rw [if_pos (e.mpr (by omega))]
theorem white_2 {d : List UInt8} {i : Nat} (hi : i < d.length) (h : ([9, 10, 32] : List Int).any (fun x => x == cAt d i) = false) (h2 : sub d i 2 = [13, 10]) : whiteI d i = (i : Int) + 2 := by
  unfold whiteI leI
  have e : sub d i 1 = [10] ↔ cAt d i = 10 := sub_is hi 10
  simp only [List.any_cons, List.any_nil, Bool.or_false, Bool.or_eq_false_iff, beq_eq_false_iff_ne] at h
  rw [if_neg (by omega), if_neg (fun z => by have := e.mp z; omega), if_pos h2]
theorem white_3 {d : List UInt8} {i : Nat} (hi : i < d.length) (h : ([9, 10, 32] : List Int).any (fun x => x == cAt d i) = false) (h2 : ¬ sub d i 2 = [13, 10]) : ¬ 0 ≤ whiteI d i := by
  unfold whiteI leI
  have e : sub d i 1 = [10] ↔ cAt d i = 10 := sub_is hi 10
  simp only [List.any_cons, List.any_nil, Bool.or_false, Bool.or_eq_false_iff, beq_eq_false_iff_ne] at h
  rw [if_neg (by omega), if_neg (fun z => by have := e.mp z; omega), if_neg h2]; decide
theorem cr_is {d : List UInt8} {i : Nat} (hi : i < d.length) (h2 : sub d i 2 = [13, 10]) : cAt d i = 13 := by
  have e : sub d i 1 = [13] ↔ cAt d i = 13 := sub_is hi 13
  refine e.mp ?_
  have : (sub d i 2).take 1 = sub d i 1 := by unfold sub; rw [List.take_take]; rfl
  rw [← this, h2]; rfl
set_option maxRecDepth 100000 in
set_option maxHeartbeats 8000000 in
theorem law_read_gives (w : World) (mean : ExcName → Option Value) (mg mb : Str → Option Value) (d : List UInt8) (t : Tok) (hz0 : d.length ≤ 1024) (news : List (Addr × Obj)) :
    Ctr w mean mg mb 5 207 [.bytes d.toArray t] news (fun r tl => ∃ D t', (∃ P vs k os ts, r = .ref D ∧ tl = (D, tupOf [.ref P, .int (-1) t']) :: (P, listOf (List.toArray vs) k) :: os ∧ ToksAre vs os ts ∧ tokensOf d = .ok ts) ∨ (∃ e : Nat, r = .ref D ∧ tl = [(D, tupOf [.none, .int (e : Int) t'])] ∧ tokensOf d = .error e)) (fun _ => False) := by
  unfold Ctr
  k_fill
  intro dp un gd cn cs a ccd cl outer A₀ base h₀ L m s Q E B F X N Tp hk hd hu hret hrai
  walk_at "m_enter"
  intro g L' h₁ FG F1 N1 B1 X1 T1
  dsimp only
  k_fold
  generalize s.toks + List.length _ = tk0
  replace F1 : Fr g L' h₁ (fun y => List.lookup y [(Str.ofString "data", Value.bytes d.toArray t)]) := F1
  have hz : d.length ≤ 16777216 := by omega
  refine wp_abs fun Q1 hQ1 => ?_
  k_steps
  unfold Halt
  rename_i P _ l1P W _ l1W _ _ _ _ _ _ _ _ _ _ Fa Na
  have hnW : ∀ p ∈ news, p.1 ≠ W := fun p hp => Nat.ne_of_lt (allLt_mem l1W.2 p hp)
  have hnP : ∀ p ∈ news, p.1 ≠ P := fun p hp => Nat.ne_of_lt (l1P p hp)
  have hWP : W ≠ P := Ne.symm (Nat.ne_of_lt l1W.1)
  have Nb : News g L' _ ((P, listOf ([] : List Value).toArray 0) :: (W, listOf ([] : List Value).toArray 0) :: ([] ++ news)) := fun p hp => Na p (by
    rcases List.mem_cons.mp hp with rfl | hp
    · exact .tail _ (.tail _ (.head _))
    · rcases List.mem_cons.mp hp with rfl | hp
      · exact .tail _ (.head _)
      · exact .tail _ (.tail _ (.tail _ hp)))
  refine While_inv2 (LJ d t P news) (n₀ := 3 * d.length + 2) Fa Nb ?_ ?_
  · refine LJ.intro (b := 0) (bs := []) (u := none) (v := none) .out 0 0 (by
        funext y
        by_cases h1 : y = Str.ofString "at"; · subst h1; rfl
        by_cases h2 : y = Str.ofString "depth"; · subst h2; rfl
        by_cases h3 : y = Str.ofString "begun"; · subst h3; rfl
        by_cases h4 : y = Str.ofString "worth"; · subst h4; rfl
        by_cases h5 : y = Str.ofString "state"; · subst h5; rfl
        by_cases h6 : y = Str.ofString "tokens"; · subst h6; rfl
        by_cases h7 : y = Str.ofString "code"; · subst h7; rfl
        by_cases h8 : y = Str.ofString "later"; · subst h8; rfl
        simp only [fr8, if_neg h1, if_neg h2, if_neg h3, if_neg h4, if_neg h5, if_neg h6, if_neg h7, if_neg h8]; try rfl) rfl .nil .nil ?_ hnW (Inv.start d) rfl rfl (Nat.zero_le _) ?_ (by simp) (by simp) (by omega)
    · intro p hp
      rcases List.mem_cons.mp hp with rfl | hp
      · exact hWP
      · exact hnP p hp
    · show 3 * (d.length - 0) + 1 < _; omega
  · intro n m₁ news₁ h2 tk2 F2 N2 hJ
    refine While_abs fun Q2 hQ2 => ?_
    obtain ⟨st, ai, di, i, b, dp, bs, ts, W, vs, ws, os, k, kw, ti, tb, td, tst, u, v, rfl, rfl, rfl, rfl, hT, hI, hP, hW, hInv, hi, hrk, hv1, hw1, hdp⟩ := hJ
    have hlen := hI.length
    have hc0 := cAt_lo d i
    have hc1 := cAt_hi d i
    have hv2 : vs.length ≤ 16777216 := by omega
    have hbs : bs.length ≤ 65536 := by rw [codes_len] at hlen; omega
    have hw2 : ws.length ≤ 16777216 := by omega
    obtain ⟨n, rfl⟩ := Nat.exists_eq_succ_of_ne_zero (show n ≠ 0 by omega)
    rw [Nat.succ_eq_add_one] at *
    cases st with
    | out =>
      simp only [sstr] at F2
      by_cases hlt : i < d.length
      · have hr := rank_ne (d := d) (i := i) (st := .out) (by decide)
        k_steps
        · rename List.any _ _ = true => q
          rename cAt d i = 13 => q2
          rw [q2] at q; exact absurd q (by decide)
        · rename List.any _ _ = true => q
          rename _ < _ ∧ _ < _ ∧ AllLt _ (os ++ news) => h8
          have hw := white_1 hlt q
          have hI2 := hInv.white (bs' := []) (b' := i) (dp' := 1) hlt (by omega)
          exact LJ.turn (ws := []) (bs := []) (k := k) (kw := 0) (by assumption) (by assumption) (by walk_at "m_s2") .out (whiteI d i).toNat 1 rfl hT .nil (apart_new h8 hP) (apart_new2 h8) hI2 (by walk_at "m_ai") (by walk_at "m_ai") (by walk_at "m_i6") (by walk_at "m_rk") (by walk_at "m_le") (by walk_at "m_le") (by walk_at "m_d20")
        · rename List.any _ _ = false => q
          rename sub d i 2 = _ => q3
          rename _ < _ ∧ _ < _ ∧ AllLt _ (os ++ news) => h8
          have hw := white_2 hlt q q3
          have hI2 := hInv.white (bs' := []) (b' := i) (dp' := 1) hlt (by omega)
          have hge := (whiteI_ge hlt (by omega)).2
          exact LJ.turn (ws := []) (bs := []) (k := k) (kw := 0) (by assumption) (by assumption) (by walk_at "m_s2") .out (whiteI d i).toNat 1 rfl hT .nil (apart_new h8 hP) (apart_new2 h8) hI2 (by walk_at "m_ai") (by walk_at "m_ai") (by walk_at "m_i6") (by walk_at "m_rk") (by walk_at "m_le") (by walk_at "m_le") (by walk_at "m_d20")
        · exact absurd (cr_is hlt (by assumption)) (by assumption)
        · rename List.any _ _ = false => q
          rename ¬ sub d i 2 = _ => q3
          rename lawAtom _ = true => q4
          rename _ < _ ∧ _ < _ ∧ AllLt _ (os ++ news) => h8
          have hw := white_3 hlt q q3
          rw [lawAtom_eq] at q4
          have hI2 := Inv.atom0 (dp := 1) (hInv.goes hlt hw) hlt q4
          exact LJ.turn (ws := []) (bs := []) (k := k) (kw := 0) (by assumption) (by assumption) (by walk_at "m_s2") .atom i 1 rfl hT .nil (apart_new h8 hP) (apart_new2 h8) hI2 (by walk_at "m_ai") (by walk_at "m_ai") (by walk_at "m_i6") (by rw [rank_in hlt q4]; omega) (by walk_at "m_le") (by walk_at "m_le") (by walk_at "m_d20")
        · rename List.any _ _ = false => q
          rename ¬ sub d i 2 = _ => q3
          rename List.contains _ _ = true => q5
          rename_i W' _ h8 D1 _ _ _ _ _ _ _ D2 _ _ _ _ _ _ _ _ C _ sF sN hC
          have hw := white_3 hlt q q3
          rw [code_at] at q5
          have hI2 := Inv.sign (bs' := []) (b' := i) (dp' := 1) (hInv.goes hlt hw) hlt q5
          have hs1 : ((sub d i 1).length ≤ 65536) := by rw [sub_len]; omega
          have hap := apart_new (o := listOf ([] : List Value).toArray 0) h8 hP
          unfold Halt
          k_dflt (refine CtrM.useA sN (law_closed_gives w mean mg mb P C vs [Value.int (cAt d i) _] k 0 (Str.ofString "sign") _ _ (sub d i 1) i ?hc hs1 (by omega) ((C, listOf [Value.int (cAt d i) _].toArray 0) :: (W', listOf ([] : List Value).toArray 0) :: (os ++ news)) ?hne List.mem_cons_self) (by walk_at "m_s2") ?_)
          case hc => exact codes_snoc (ws := []) (bs := []) .nil hlt
          case hne =>
            intro p hp
            rcases List.mem_cons.mp hp with rfl | hp
            · exact Ne.symm (Nat.ne_of_lt hC.2.2.2.1)
            · exact hap p hp
          clear sF sN
          rintro r led h' tk' F' N' ⟨D, ta, tb', tc, rfl, rfl, hDP, hDr⟩
          k_steps
          have hDW : D ≠ W' := fun z => hDr (W', listOf ([] : List Value).toArray 0) (List.mem_cons_of_mem _ List.mem_cons_self) z.symm
          exact LJ.turn (ws := []) (bs := []) (k := k + 1) (kw := 0) (os := (D, _) :: os) (by assumption) (by assumption) (by walk_at "m_s2") .out (i + 1) 1 rfl (.snoc D hT ⟨_, _, _, rfl⟩) .nil (apart_tok hap hDP) (apart_tok2 (apart_new2 h8) hDW) hI2 (by walk_at "m_ai") (by walk_at "m_ai") (by walk_at "m_i6") (by walk_at "m_rk") (by walk_at "m_le") (by walk_at "m_le") (by walk_at "m_d20")
        · skip
          rename List.any _ _ = false => q
          rename ¬ sub d i 2 = _ => q3
          rename cAt d i = 34 => q4
          rename _ < _ ∧ _ < _ ∧ AllLt _ (os ++ news) => h8
          have hw := white_3 hlt q q3
          have hI2 := Inv.quoted0 (dp := 1) (hInv.goes hlt hw) hlt q4
          exact LJ.turn (ws := []) (bs := []) (k := k) (kw := 0) (by assumption) (by assumption) (by walk_at "m_s2") .quoted (i + 1) 1 rfl hT .nil (apart_new h8 hP) (apart_new2 h8) hI2 (by walk_at "m_ai") (by walk_at "m_ai") (by walk_at "m_i6") (by walk_at "m_rk") (by walk_at "m_le") (by walk_at "m_le") (by walk_at "m_d20")
        · rename List.any _ _ = false => q
          rename ¬ sub d i 2 = _ => q3
          rename cAt d i = 40 => q4
          rename _ < _ ∧ _ < _ ∧ AllLt _ (os ++ news) => h8
          have hw := white_3 hlt q q3
          have hI2 := Inv.comment0 (hInv.goes hlt hw) hlt q4
          exact LJ.turn (ws := []) (bs := []) (k := k) (kw := 0) (by assumption) (by assumption) (by walk_at "m_s2") .comment (i + 1) 1 rfl hT .nil (apart_new h8 hP) (apart_new2 h8) hI2 (by walk_at "m_ai") (by walk_at "m_ai") (by walk_at "m_i6") (by walk_at "m_rk") (by walk_at "m_le") (by walk_at "m_le") (by walk_at "m_d20")
        · rename List.any _ _ = false => q
          rename ¬ sub d i 2 = _ => q3
          rename cAt d i = 91 => q4
          rename _ < _ ∧ _ < _ ∧ AllLt _ (os ++ news) => h8
          have hw := white_3 hlt q q3
          have hI2 := Inv.literal0 (dp := 1) (hInv.goes hlt hw) hlt q4
          exact LJ.turn (ws := []) (bs := []) (k := k) (kw := 0) (by assumption) (by assumption) (by walk_at "m_s2") .literal (i + 1) 1 rfl hT .nil (apart_new h8 hP) (apart_new2 h8) hI2 (by walk_at "m_ai") (by walk_at "m_ai") (by walk_at "m_i6") (by walk_at "m_rk") (by walk_at "m_le") (by walk_at "m_le") (by walk_at "m_d20")
        · rename List.contains _ _ = true => q
          rw [code_at] at q
          have q34 : d.getD i 0 ≠ 34 := fun z => (by assumption : ¬ cAt d i = 34) ((cAt_eq 34).mpr z)
          have q40 : d.getD i 0 ≠ 40 := fun z => (by assumption : ¬ cAt d i = 40) ((cAt_eq 40).mpr z)
          have q91 : d.getD i 0 ≠ 91 := fun z => (by assumption : ¬ cAt d i = 91) ((cAt_eq 91).mpr z)
          rcases in3 q with z | z | z
          · exact q34 z
          · exact q40 z
          · exact q91 z
        · rename List.any _ _ = false => q
          rename ¬ sub d i 2 = _ => q3
          rename [34, 40, 91].contains _ = false => q4
          rename [60, 62, 64, 44, 59, 58, 46, 92].contains _ = false => q5
          rename lawAtom _ = false => q6
          have hw := white_3 hlt q q3
          rw [code_at] at q4 q5
          rw [lawAtom_eq] at q6
          have q34 : cAt d i ≠ 34 := fun z => by have := (cAt_eq (d := d) (n := i) 34).mp z; rw [this] at q4; exact absurd q4 (by decide)
          have q40 : cAt d i ≠ 40 := fun z => by have := (cAt_eq (d := d) (n := i) 40).mp z; rw [this] at q4; exact absurd q4 (by decide)
          have q91 : cAt d i ≠ 91 := fun z => by have := (cAt_eq (d := d) (n := i) 91).mp z; rw [this] at q4; exact absurd q4 (by decide)
          have hE := (hInv.goes hlt hw).none hlt q34 q91 q40 q5 q6
          unfold WhileStep2
          repeat dsimp only
          k_steps
          refine' hret _ [_] _ _ (by assumption) ?hn ⟨_, _, .inr ⟨i, rfl, rfl, hE⟩⟩
          case hn => exact News.sub (by assumption) (by walk_at "m_s2")
      · k_steps
        refine' hret _ ((_, _) :: (P, _) :: os) _ _ (by assumption) ?hn ⟨_, _, .inl ⟨P, vs, k, os, ts, rfl, rfl, hT, hInv.done hlt⟩⟩
        case hn => exact News.sub (by assumption) (by walk_at "m_s2")
    | atom =>
      simp only [sstr] at F2
      by_cases hlt : i < d.length
      · k_steps
        · rename lawAtom _ = true => q
          rw [lawAtom_eq] at q
          have hrk2 := rank_in hlt q
          have hrk3 := rank_le (d := d) (i := i + 1)
          with_reducible rename Fr g L' _ _ => sF
          with_reducible rename News g L' _ _ => sN
          unfold Halt
          refine append_M2 (vs := ws) (n := kw) (rest := (P, listOf vs.toArray k) :: (os ++ news)) sF sN (List.mem_cons_of_mem _ List.mem_cons_self) (apart_two hP hW) (by walk_at "m_s2") hw2 ?_
          intro h9' F9 N9
          clear sF sN
          k_steps
          exact LJ.turn (k := k) (kw := kw + 1) (by assumption) (by assumption) (by walk_at "m_s2") .atom (i + 1) dp rfl hT (codes_snoc hI hlt) (apart_old hP) hW.out (hInv.atom1 hlt q) (by walk_at "m_ai") (by walk_at "m_ai") (by walk_at "m_i6") (by walk_at "m_rk") (by walk_at "m_le") (by walk_at "m_le") (by walk_at "m_d20")
        · rename lawAtom _ = false => q
          rw [lawAtom_eq] at q
          have hna : ¬ (i < d.length ∧ atomCode (cAt d i) = true) := fun z => by rw [q] at z; exact absurd z.2 (by decide)
          have hrk2 := rank_off hna
          have hI2 := hInv.atom2 (bs' := bs) (b' := b) (dp' := dp) hna
          with_reducible rename Fr g L' _ _ => sF
          with_reducible rename News g L' _ _ => sN
          unfold Halt
          k_dflt (refine CtrM.useA sN (law_closed_gives w mean mg mb P W vs ws k kw (Str.ofString "atom") _ _ bs b hI hbs (by omega) ((W, listOf ws.toArray kw) :: (os ++ news)) hP.out List.mem_cons_self) (by walk_at "m_s2") ?_)
          clear sF sN
          rintro r led h' tk' F' N' ⟨D, ta, tb', tc, rfl, rfl, hDP, hDr⟩
          k_steps
          have hDW : D ≠ W := fun z => hDr (W, listOf ws.toArray kw) List.mem_cons_self z.symm
          exact LJ.turn (k := k + 1) (os := (D, _) :: os) (by assumption) (by assumption) (by walk_at "m_s2") .out i dp rfl (.snoc D hT ⟨_, _, _, rfl⟩) hI (apart_tok hP.out hDP) (apart_tok2 hW.out hDW) hI2 (by walk_at "m_ai") (by walk_at "m_ai") (by walk_at "m_i6") (by walk_at "m_rk") (by walk_at "m_le") (by walk_at "m_le") (by walk_at "m_d20")
      · k_steps
        have hna : ¬ (i < d.length ∧ atomCode (cAt d i) = true) := fun z => hlt z.1
        have hrk2 := rank_off hna
        have hI2 := hInv.atom2 (bs' := bs) (b' := b) (dp' := dp) hna
        with_reducible rename Fr g L' _ _ => sF
        with_reducible rename News g L' _ _ => sN
        unfold Halt
        k_dflt (refine CtrM.useA sN (law_closed_gives w mean mg mb P W vs ws k kw (Str.ofString "atom") _ _ bs b hI hbs (by omega) ((W, listOf ws.toArray kw) :: (os ++ news)) hP.out List.mem_cons_self) (by walk_at "m_s2") ?_)
        clear sF sN
        rintro r led h' tk' F' N' ⟨D, ta, tb', tc, rfl, rfl, hDP, hDr⟩
        k_steps
        have hDW : D ≠ W := fun z => hDr (W, listOf ws.toArray kw) List.mem_cons_self z.symm
        exact LJ.turn (k := k + 1) (os := (D, _) :: os) (by assumption) (by assumption) (by walk_at "m_s2") .out i dp rfl (.snoc D hT ⟨_, _, _, rfl⟩) hI (apart_tok hP.out hDP) (apart_tok2 hW.out hDW) hI2 (by walk_at "m_ai") (by walk_at "m_ai") (by walk_at "m_i6") (by walk_at "m_rk") (by walk_at "m_le") (by walk_at "m_le") (by walk_at "m_d20")
    | quoted =>
      simp only [sstr] at F2
      by_cases hlt : i < d.length
      · have hr := rank_ne (d := d) (i := i) (st := .quoted) (by decide)
        have hlin := lawIn_len d i
        k_steps
        · rename cAt d i = 34 => q
          have hI2 := hInv.quoted_shut (bs' := bs) (b' := b) (dp' := dp) hlt q
          with_reducible rename Fr g L' _ _ => sF
          with_reducible rename News g L' _ _ => sN
          unfold Halt
          k_dflt (refine CtrM.useA sN (law_closed_gives w mean mg mb P W vs ws k kw (Str.ofString "quoted") _ _ bs b hI hbs (by omega) ((W, listOf ws.toArray kw) :: (os ++ news)) hP.out List.mem_cons_self) (by walk_at "m_s2") ?_)
          clear sF sN
          rintro r led h' tk' F' N' ⟨D, ta, tb', tc, rfl, rfl, hDP, hDr⟩
          k_steps
          have hDW : D ≠ W := fun z => hDr (W, listOf ws.toArray kw) List.mem_cons_self z.symm
          exact LJ.turn (k := k + 1) (os := (D, _) :: os) (by assumption) (by assumption) (by walk_at "m_s2") .out (i + 1) _ rfl (.snoc D hT ⟨_, _, _, rfl⟩) hI (apart_tok hP.out hDP) (apart_tok2 hW.out hDW) hI2 (by walk_at "m_ai") (by walk_at "m_ai") (by walk_at "m_i6") (by walk_at "m_rk") (by walk_at "m_le") (by walk_at "m_le") (by walk_at "m_d20")
        · rename ¬ cAt d i = 34 => q
          with_reducible rename Fr g L' _ _ => sF
          with_reducible rename News g L' _ _ => sN
          unfold Halt
          k_dflt (refine CtrM.useA sN (law_inside_gives w mean mg mb W ws kw d bs i _ _ (by omega) hlt hI (by omega) ((P, listOf vs.toArray k) :: (os ++ news)) (apart_two hP hW)) (by walk_at "m_s2") ?_)
          clear sF sN
          rintro r led h' tk' F' N' ⟨ta, ws', k', rfl, rfl, hI3⟩
          have hlen3 := hI3.length
          rw [codes_len, List.length_append] at hlen3
          k_steps
          · rename (lawIn d i).1 < 0 => hneg
            have hE := hInv.quoted_bad hlt q hneg
            first | rw [if_pos (by assumption)] at hE | rw [if_neg (by assumption)] at hE
            unfold WhileStep2
            repeat dsimp only
            k_steps
            refine' hret _ [_] _ _ (by assumption) ?hn ⟨_, _, .inr ⟨_, rfl, rfl, hE⟩⟩
            case hn => exact News.sub (by assumption) (by walk_at "m_s2")
          · rename (lawIn d i).1 < 0 => hneg
            have hE := hInv.quoted_bad hlt q hneg
            first | rw [if_pos (by assumption)] at hE | rw [if_neg (by assumption)] at hE
            unfold WhileStep2
            repeat dsimp only
            k_steps
            refine' hret _ [_] _ _ (by assumption) ?hn ⟨_, _, .inr ⟨_, rfl, rfl, hE⟩⟩
            case hn => exact News.sub (by assumption) (by walk_at "m_s2")
          · have hpos : 0 ≤ (lawIn d i).1 := by omega
            have hI2 := hInv.quoted_step (dp' := dp) hlt q hpos
            have hq := insideAt_ok (lawIn_ok (b := b) hlt hpos)
            exact LJ.turn (k := k) (kw := k') (by assumption) (by assumption) (by walk_at "m_s2") .quoted (lawIn d i).1.toNat dp rfl hT hI3 (apart_old hP) hW.out hI2 (by walk_at "m_ai") (by walk_at "m_ai") (by walk_at "m_i6") (by walk_at "m_rk") (by walk_at "m_le") (by rw [hlen3]; rw [codes_len] at hlen; omega) (by walk_at "m_d20")
      · k_steps
        have hE := hInv.quoted_end hlt hi
        unfold WhileStep2
        repeat dsimp only
        k_steps
        refine' hret _ [_] _ _ (by assumption) ?hn ⟨_, _, .inr ⟨b, rfl, rfl, hE⟩⟩
        case hn => exact News.sub (by assumption) (by walk_at "m_s2")
    | literal =>
      simp only [sstr] at F2
      by_cases hlt : i < d.length
      · have hr := rank_ne (d := d) (i := i) (st := .literal) (by decide)
        have hlin := lawIn_len d i
        k_steps
        · rename cAt d i = 93 => q
          have hI2 := hInv.literal_shut (bs' := bs) (b' := b) (dp' := dp) hlt q
          with_reducible rename Fr g L' _ _ => sF
          with_reducible rename News g L' _ _ => sN
          unfold Halt
          k_dflt (refine CtrM.useA sN (law_closed_gives w mean mg mb P W vs ws k kw (Str.ofString "literal") _ _ bs b hI hbs (by omega) ((W, listOf ws.toArray kw) :: (os ++ news)) hP.out List.mem_cons_self) (by walk_at "m_s2") ?_)
          clear sF sN
          rintro r led h' tk' F' N' ⟨D, ta, tb', tc, rfl, rfl, hDP, hDr⟩
          k_steps
          have hDW : D ≠ W := fun z => hDr (W, listOf ws.toArray kw) List.mem_cons_self z.symm
          exact LJ.turn (k := k + 1) (os := (D, _) :: os) (by assumption) (by assumption) (by walk_at "m_s2") .out (i + 1) _ rfl (.snoc D hT ⟨_, _, _, rfl⟩) hI (apart_tok hP.out hDP) (apart_tok2 hW.out hDW) hI2 (by walk_at "m_ai") (by walk_at "m_ai") (by walk_at "m_i6") (by walk_at "m_rk") (by walk_at "m_le") (by walk_at "m_le") (by walk_at "m_d20")
        · rename cAt d i = 91 => q
          have hE := hInv.literal_bar hlt q
          unfold WhileStep2
          repeat dsimp only
          k_steps
          refine' hret _ [_] _ _ (by assumption) ?hn ⟨_, _, .inr ⟨i, rfl, rfl, hE⟩⟩
          case hn => exact News.sub (by assumption) (by walk_at "m_s2")
        · rename ¬ cAt d i = 93 => q
          rename _ ≠ _ => q2
          with_reducible rename Fr g L' _ _ => sF
          with_reducible rename News g L' _ _ => sN
          unfold Halt
          k_dflt (refine CtrM.useA sN (law_inside_gives w mean mg mb W ws kw d bs i _ _ (by omega) hlt hI (by omega) ((P, listOf vs.toArray k) :: (os ++ news)) (apart_two hP hW)) (by walk_at "m_s2") ?_)
          clear sF sN
          rintro r led h' tk' F' N' ⟨ta, ws', k', rfl, rfl, hI3⟩
          have hlen3 := hI3.length
          rw [codes_len, List.length_append] at hlen3
          k_steps
          · rename (lawIn d i).1 < 0 => hneg
            have hE := hInv.literal_bad hlt q q2 hneg
            first | rw [if_pos (by assumption)] at hE | rw [if_neg (by assumption)] at hE
            unfold WhileStep2
            repeat dsimp only
            k_steps
            refine' hret _ [_] _ _ (by assumption) ?hn ⟨_, _, .inr ⟨_, rfl, rfl, hE⟩⟩
            case hn => exact News.sub (by assumption) (by walk_at "m_s2")
          · rename (lawIn d i).1 < 0 => hneg
            have hE := hInv.literal_bad hlt q q2 hneg
            first | rw [if_pos (by assumption)] at hE | rw [if_neg (by assumption)] at hE
            unfold WhileStep2
            repeat dsimp only
            k_steps
            refine' hret _ [_] _ _ (by assumption) ?hn ⟨_, _, .inr ⟨_, rfl, rfl, hE⟩⟩
            case hn => exact News.sub (by assumption) (by walk_at "m_s2")
          · have hpos : 0 ≤ (lawIn d i).1 := by omega
            have hI2 := hInv.literal_step (dp' := dp) hlt q q2 hpos
            have hq := insideAt_ok (lawIn_ok (b := b) hlt hpos)
            exact LJ.turn (k := k) (kw := k') (by assumption) (by assumption) (by walk_at "m_s2") .literal (lawIn d i).1.toNat dp rfl hT hI3 (apart_old hP) hW.out hI2 (by walk_at "m_ai") (by walk_at "m_ai") (by walk_at "m_i6") (by walk_at "m_rk") (by walk_at "m_le") (by rw [hlen3]; rw [codes_len] at hlen; omega) (by walk_at "m_d20")
      · k_steps
        have hE := hInv.literal_end hlt hi
        unfold WhileStep2
        repeat dsimp only
        k_steps
        refine' hret _ [_] _ _ (by assumption) ?hn ⟨_, _, .inr ⟨b, rfl, rfl, hE⟩⟩
        case hn => exact News.sub (by assumption) (by walk_at "m_s2")
    | comment =>
      simp only [sstr] at F2
      by_cases hlt : i < d.length
      · have hr := rank_ne (d := d) (i := i) (st := .comment) (by decide)
        have hlin := lawIn_len d i
        have hdp0 : 0 < dp := hInv.2.2.2.2.2
        k_steps
        · rename cAt d i = 41 => q
          have e1 : dp = 1 := by omega
          subst e1
          have hI2 := hInv.comment_shut (bs' := bs) (b' := b) (dp' := 1) hlt q
          with_reducible rename Fr g L' _ _ => sF
          with_reducible rename News g L' _ _ => sN
          unfold Halt
          k_dflt (refine CtrM.useA sN (law_closed_gives w mean mg mb P W vs ws k kw (Str.ofString "comment") _ _ bs b hI hbs (by omega) ((W, listOf ws.toArray kw) :: (os ++ news)) hP.out List.mem_cons_self) (by walk_at "m_s2") ?_)
          clear sF sN
          rintro r led h' tk' F' N' ⟨D, ta, tb', tc, rfl, rfl, hDP, hDr⟩
          k_steps
          have hDW : D ≠ W := fun z => hDr (W, listOf ws.toArray kw) List.mem_cons_self z.symm
          exact LJ.turn (k := k + 1) (os := (D, _) :: os) (by assumption) (by assumption) (by walk_at "m_s2") .out (i + 1) _ rfl (.snoc D hT ⟨_, _, _, rfl⟩) hI (apart_tok hP.out hDP) (apart_tok2 hW.out hDW) hI2 (by walk_at "m_ai") (by walk_at "m_ai") (by walk_at "m_i6") (by walk_at "m_rk") (by walk_at "m_le") (by walk_at "m_le") (by walk_at "m_d20")
        · exact absurd (by assumption : cAt d i = 40) (by omega)
        · skip
          have hD : lawDepth d i dp = dp - 1 := by unfold lawDepth; first | rw [if_pos (by omega)] | (rw [if_neg (by omega)]; first | rw [if_pos (by omega)] | rw [if_neg (by omega)])
          have hd20 : ¬ 20 < lawDepth d i dp := by omega
          have hd0 : 0 < lawDepth d i dp := by omega
          with_reducible rename Fr g L' _ _ => sF
          with_reducible rename News g L' _ _ => sN
          unfold Halt
          k_dflt (refine CtrM.useA sN (law_inside_gives w mean mg mb W ws kw d bs i _ _ (by omega) hlt hI (by omega) ((P, listOf vs.toArray k) :: (os ++ news)) (apart_two hP hW)) (by walk_at "m_s2") ?_)
          clear sF sN
          rintro r led h' tk' F' N' ⟨ta, ws', k', rfl, rfl, hI3⟩
          have hlen3 := hI3.length
          rw [codes_len, List.length_append] at hlen3
          k_steps
          · rename (lawIn d i).1 < 0 => hneg
            have hE := hInv.comment_bad hlt hd20 hneg
            first | rw [if_pos (by assumption)] at hE | rw [if_neg (by assumption)] at hE
            unfold WhileStep2
            repeat dsimp only
            k_steps
            refine' hret _ [_] _ _ (by assumption) ?hn ⟨_, _, .inr ⟨_, rfl, rfl, hE⟩⟩
            case hn => exact News.sub (by assumption) (by walk_at "m_s2")
          · rename (lawIn d i).1 < 0 => hneg
            have hE := hInv.comment_bad hlt hd20 hneg
            first | rw [if_pos (by assumption)] at hE | rw [if_neg (by assumption)] at hE
            unfold WhileStep2
            repeat dsimp only
            k_steps
            refine' hret _ [_] _ _ (by assumption) ?hn ⟨_, _, .inr ⟨_, rfl, rfl, hE⟩⟩
            case hn => exact News.sub (by assumption) (by walk_at "m_s2")
          · have hpos : 0 ≤ (lawIn d i).1 := by omega
            have hI2 := hInv.comment_step hlt hd20 hd0 hpos
            have hq := insideAt_ok (lawIn_ok (b := b) hlt hpos)
            exact LJ.turn (k := k) (kw := k') (by assumption) (by assumption) (by walk_at "m_s2") .comment (lawIn d i).1.toNat (lawDepth d i dp) rfl hT hI3 (apart_old hP) hW.out hI2 (by walk_at "m_ai") (by walk_at "m_ai") (by walk_at "m_i6") (by walk_at "m_rk") (by walk_at "m_le") (by rw [hlen3]; rw [codes_len] at hlen; omega) (by walk_at "m_d20")
        · have q4 : cAt d i ≠ 40 ∧ cAt d i ≠ 41 := no4041 (by assumption)
          exact absurd (by assumption) q4.2
        · skip
          have hD : lawDepth d i dp = dp + 1 := by unfold lawDepth; rw [if_pos (by omega)]
          have hE := hInv.comment_deep hlt (by omega) hdp
          unfold WhileStep2
          repeat dsimp only
          k_steps
          refine' hret _ [_] _ _ (by assumption) ?hn ⟨_, _, .inr ⟨i, rfl, rfl, hE⟩⟩
          case hn => exact News.sub (by assumption) (by walk_at "m_s2")
        · skip
          have hD : lawDepth d i dp = dp + 1 := by unfold lawDepth; first | rw [if_pos (by omega)] | (rw [if_neg (by omega)]; first | rw [if_pos (by omega)] | rw [if_neg (by omega)])
          have hd20 : ¬ 20 < lawDepth d i dp := by omega
          have hd0 : 0 < lawDepth d i dp := by omega
          with_reducible rename Fr g L' _ _ => sF
          with_reducible rename News g L' _ _ => sN
          unfold Halt
          k_dflt (refine CtrM.useA sN (law_inside_gives w mean mg mb W ws kw d bs i _ _ (by omega) hlt hI (by omega) ((P, listOf vs.toArray k) :: (os ++ news)) (apart_two hP hW)) (by walk_at "m_s2") ?_)
          clear sF sN
          rintro r led h' tk' F' N' ⟨ta, ws', k', rfl, rfl, hI3⟩
          have hlen3 := hI3.length
          rw [codes_len, List.length_append] at hlen3
          k_steps
          · rename (lawIn d i).1 < 0 => hneg
            have hE := hInv.comment_bad hlt hd20 hneg
            first | rw [if_pos (by assumption)] at hE | rw [if_neg (by assumption)] at hE
            unfold WhileStep2
            repeat dsimp only
            k_steps
            refine' hret _ [_] _ _ (by assumption) ?hn ⟨_, _, .inr ⟨_, rfl, rfl, hE⟩⟩
            case hn => exact News.sub (by assumption) (by walk_at "m_s2")
          · rename (lawIn d i).1 < 0 => hneg
            have hE := hInv.comment_bad hlt hd20 hneg
            first | rw [if_pos (by assumption)] at hE | rw [if_neg (by assumption)] at hE
            unfold WhileStep2
            repeat dsimp only
            k_steps
            refine' hret _ [_] _ _ (by assumption) ?hn ⟨_, _, .inr ⟨_, rfl, rfl, hE⟩⟩
            case hn => exact News.sub (by assumption) (by walk_at "m_s2")
          · have hpos : 0 ≤ (lawIn d i).1 := by omega
            have hI2 := hInv.comment_step hlt hd20 hd0 hpos
            have hq := insideAt_ok (lawIn_ok (b := b) hlt hpos)
            exact LJ.turn (k := k) (kw := k') (by assumption) (by assumption) (by walk_at "m_s2") .comment (lawIn d i).1.toNat (lawDepth d i dp) rfl hT hI3 (apart_old hP) hW.out hI2 (by walk_at "m_ai") (by walk_at "m_ai") (by walk_at "m_i6") (by walk_at "m_rk") (by walk_at "m_le") (by rw [hlen3]; rw [codes_len] at hlen; omega) (by walk_at "m_d20")
        · have q4 := is4041 (by assumption)
          omega
        · skip
          have q4 : cAt d i ≠ 40 ∧ cAt d i ≠ 41 := no4041 (by assumption)
          have hD : lawDepth d i dp = dp := by unfold lawDepth; first | rw [if_pos (by omega)] | (rw [if_neg (by omega)]; first | rw [if_pos (by omega)] | rw [if_neg (by omega)])
          have hd20 : ¬ 20 < lawDepth d i dp := by omega
          have hd0 : 0 < lawDepth d i dp := by omega
          with_reducible rename Fr g L' _ _ => sF
          with_reducible rename News g L' _ _ => sN
          unfold Halt
          k_dflt (refine CtrM.useA sN (law_inside_gives w mean mg mb W ws kw d bs i _ _ (by omega) hlt hI (by omega) ((P, listOf vs.toArray k) :: (os ++ news)) (apart_two hP hW)) (by walk_at "m_s2") ?_)
          clear sF sN
          rintro r led h' tk' F' N' ⟨ta, ws', k', rfl, rfl, hI3⟩
          have hlen3 := hI3.length
          rw [codes_len, List.length_append] at hlen3
          k_steps
          · rename (lawIn d i).1 < 0 => hneg
            have hE := hInv.comment_bad hlt hd20 hneg
            first | rw [if_pos (by assumption)] at hE | rw [if_neg (by assumption)] at hE
            unfold WhileStep2
            repeat dsimp only
            k_steps
            refine' hret _ [_] _ _ (by assumption) ?hn ⟨_, _, .inr ⟨_, rfl, rfl, hE⟩⟩
            case hn => exact News.sub (by assumption) (by walk_at "m_s2")
          · rename (lawIn d i).1 < 0 => hneg
            have hE := hInv.comment_bad hlt hd20 hneg
            first | rw [if_pos (by assumption)] at hE | rw [if_neg (by assumption)] at hE
            unfold WhileStep2
            repeat dsimp only
            k_steps
            refine' hret _ [_] _ _ (by assumption) ?hn ⟨_, _, .inr ⟨_, rfl, rfl, hE⟩⟩
            case hn => exact News.sub (by assumption) (by walk_at "m_s2")
          · have hpos : 0 ≤ (lawIn d i).1 := by omega
            have hI2 := hInv.comment_step hlt hd20 hd0 hpos
            have hq := insideAt_ok (lawIn_ok (b := b) hlt hpos)
            exact LJ.turn (k := k) (kw := k') (by assumption) (by assumption) (by walk_at "m_s2") .comment (lawIn d i).1.toNat (lawDepth d i dp) rfl hT hI3 (apart_old hP) hW.out hI2 (by walk_at "m_ai") (by walk_at "m_ai") (by walk_at "m_i6") (by walk_at "m_rk") (by walk_at "m_le") (by rw [hlen3]; rw [codes_len] at hlen; omega) (by walk_at "m_d20")
      · k_steps
        have hE := hInv.comment_end hlt hi
        unfold WhileStep2
        repeat dsimp only
        k_steps
        refine' hret _ [_] _ _ (by assumption) ?hn ⟨_, _, .inr ⟨b, rfl, rfl, hE⟩⟩
        case hn => exact News.sub (by assumption) (by walk_at "m_s2")
section
open PySem PySem.W PyProof.Rows PySem.Calls
open PySem.Sem (wp)
theorem fresh_NTry : True := by w_top off; trivial
section
variable {M : Model} {A : Around} {E : Value → Shared → Prop} {s : Shared} {base : Heap} {env : Env} {outer l : List Env} {L e : Addr} {cls a0 : Value} {Q : Unit → Shared → Prop}
theorem note_dk (hfr : A.frames = some (env :: outer)) (hf : env.frame = some L) (hfl : Heap.FlyingW base (env :: outer) e cls a0 s.heap)
    (hQ : ∀ h', Heap.HeldW base (env :: outer) e cls a0 L h' → s.heap.UpToSlots h' → DK s.heap h' → Q () { s with heap := h' }) : wpAny M A (noteFrame (.ref e) env) Q E s := by
  refine wpAny_mono ((dk_note _ _).any (wpAny_looks_onW (Q := fun _ s'' => ∃ h', s'' = { s with heap := h' } ∧ Heap.HeldW base (env :: outer) e cls a0 L h' ∧ s.heap.UpToSlots h') hfr hf hfl fun h' x y => ⟨h', rfl, x, y⟩)) (fun _ s'' z => ?_) fun _ _ z => z
  obtain ⟨⟨h', rfl, x, y⟩, d⟩ := z
  exact hQ h' x y d
theorem land_dk (hh : Heap.HeldW base l e cls a0 L s.heap)
    (hQ : ∀ h', Heap.FlyingW base l e cls a0 h' → s.heap.UpToSlots h' → DK s.heap h' → Q () { s with heap := h' }) : wpAny M A (setFlight (.ref e) none) Q E s := by
  refine wpAny_mono ((dk_flight _ _).any (wpAny_landsW (Q := fun _ s'' => ∃ h', s'' = { s with heap := h' } ∧ Heap.FlyingW base l e cls a0 h' ∧ s.heap.UpToSlots h') hh fun h' x y => ⟨h', rfl, x, y⟩)) (fun _ s'' z => ?_) fun _ _ z => z
  obtain ⟨⟨h', rfl, x, y⟩, d⟩ := z
  exact hQ h' x y d
theorem again_dk (hh : Heap.FlyingW base l e cls a0 s.heap)
    (hQ : ∀ h', Heap.FlyingW base l e cls a0 h' → s.heap.UpToSlots h' → DK s.heap h' → Q () { s with heap := h' }) : wpAny M A (setFlight (.ref e) none) Q E s := by
  refine wpAny_mono ((dk_flight _ _).any (lands_againW (Q := fun _ s'' => ∃ h', s'' = { s with heap := h' } ∧ Heap.FlyingW base l e cls a0 h' ∧ s.heap.UpToSlots h') hh fun h' x y => ⟨h', rfl, x, y⟩)) (fun _ s'' z => ?_) fun _ _ z => z
  obtain ⟨⟨h', rfl, x, y⟩, d⟩ := z
  exact hQ h' x y d
end
section
variable {prog : Program} {w : World} {A₀ : Around} {E : Value → Shared → Prop} {s' : Shared} {h₀ h : Heap} {outer : List Env} {L a e : Addr} {m : PySem.Str → Option Value} {cn : PySem.Str} {cs : Scope} {ccd : Value} {cl : List (PySem.Str × Addr)}
  {n : PySem.Str} {b₀ : Stmt} {suite : List Stmt} {pos np : Pos} {rest : List ExceptHandler} {Q : Flow → Shared → Prop} {news : List (Addr × Obj)} {KF : Frag} {k : Int}
  {p : Program} {loose : List PySem.Str} {mg mb : PySem.Str → Option Value} {x : PySem.Str}
theorem fault_caught (K : Below A₀ h₀ outer h₀) (F : Fr h₀ L h m) (hsm : h.UpToSlots s'.heap) (R : Flown w h₀ (envX cn cs L a ccd cl :: outer) e k news s'.heap)
    (X : KF.In h₀) (T : TopRead p loose mg mb h₀) (ex : nsIn KF mainGlobals x = some (some (.ref 59))) (hK : KF.lookup 59 = some fClass)
    (kont : ∀ (h' : Heap) (tk : Nat) (o : Obj) (dx : Addr) (ws : Array Value) (sl : Array (Option Value)), Fr h₀ L h' (fun y => if y = n then some (.ref e) else m y) → News h₀ L h' ((e, ({ cls := .ref 59, dict := some dx, data := .fields ws, slots := sl } : Obj)) :: (dx, o) :: news) → AtDict w k o →
      wpAny (model prog w) ((A₀.deeper (envX cn cs L a ccd cl)).mark (some (.ref e))) (execs (b₀ :: suite) (envX cn cs L a ccd cl))
        (fun f s₄ => wpAny (model prog w) (A₀.deeper (envX cn cs L a ccd cl)) (do bindName (envX cn cs L a ccd cl) n .none; unbindBehindTheSuite (envX cn cs L a ccd cl) n pos) (fun _ s₅ => Q f s₅) E s₄)
        (AsSuiteRaised (model prog w) ((A₀.deeper (envX cn cs L a ccd cl)).mark (some (.ref e))) (envX cn cs L a ccd cl) n pos (notedBy (model prog w) ((A₀.deeper (envX cn cs L a ccd cl)).mark (some (.ref e))) (envX cn cs L a ccd cl) (cameBackBy (model prog w) (A₀.deeper (envX cn cs L a ccd cl)) (envX cn cs L a ccd cl) E)))
        { s' with heap := h', toks := tk })
    (hk : cs.kind = .function := by rfl) (hlo : (envX cn cs L a ccd cl).kindOf n = some .local := by rfl) (hx : (envX cn cs L a ccd cl).kindOf x = some .globalImplicit := by rfl) (hd : (x == ("__debug__" : PySem.Str)) = false := by decide) :
    wpAny (model prog w) (A₀.deeper (envX cn cs L a ccd cl)) (noteFrame (.ref e) (envX cn cs L a ccd cl))
      (fun _ s₂ => wpAny (model prog w) (A₀.deeper (envX cn cs L a ccd cl)) (setFlight (.ref e) none) (fun _ s₃ =>
        wpAny (model prog w) (A₀.deeper (envX cn cs L a ccd cl)) (handleBy (.ref e) (envX cn cs L a ccd cl) (.ExceptHandler (some (.Name x np)) (some n) (b₀ :: suite) pos :: rest)) Q E s₃) E s₂) E s' := by
  obtain ⟨dx, o, ha, ⟨B, a0, hB, hl, hfl⟩, oe0, hoe0, hdx⟩ := R
  have hL : B.get? L = none := by
    obtain ⟨_, ⟨L', _, hf, hn', _⟩, _⟩ := hfl.2.2.1
    obtain rfl : L = L' := Option.some.inj hf
    exact hn'
  refine note_dk (Around.frames_deeper K.stack) rfl hfl fun h₄ hheld₄ hsm₄ d₄ => ?_
  refine land_dk hheld₄ fun h₅ hheld hsm₅' d₅ => ?_
  have hsm₅ := hsm₄.trans hsm₅'
  have hheld' := flyingW_base hB hheld
  have F₅ := F.of_stays hheld'.1 (hsm.trans hsm₅)
  obtain ⟨ob, hob, hobc⟩ := hheld'.there
  refine wpAny_handleBy_cons (codeAny_handlers_test (nameX_K F₅ X T ex ?_ hk hx hd)) (by intro q; cases q)
  have hC : h₅.get? 59 = some fClass := (X.keeps F₅.keep) 59 _ hK
  refine wpAny_excMatches_sub_self hC hob hobc (by decide +kernel) (codeAny_handlers_suite_as ?_)
  refine again_dk hheld fun h₆ hfl₆ hsm₆ d₆ => ?_
  have hfl₆' := flyingW_base hB hfl₆
  have F₆ := F.of_stays hfl₆'.1 ((hsm.trans hsm₅).trans hsm₆)
  obtain ⟨oe, ws, hoe, hoec, hoed, hoe1⟩ := hfl₆'.first
  obtain ⟨oe', hoe', hdx'⟩ := ((d₄.trans d₅).trans d₆) e oe0 dx hoe0 hdx
  obtain rfl : oe' = oe := Option.some.inj (hoe'.symm.trans hoe)
  have N₆ := News.more F₆ News.nil hoe (fun es n q => by rw [hoed] at q; cases q) hfl₆'.2.1
  have Nl : News h₀ L h₆ ((dx, o) :: news) := fun q hq => ⟨hfl₆.1 _ _ (hl q hq).1, (fun z => by have := (hl q hq).1; rw [z, hL] at this; cases this), (hl q hq).2⟩
  refine storeX_L F₆ (news := (e, oe') :: (dx, o) :: news) (fun q hq => ?_) (fun h₇ F₇ N₇ => ?_) hk hlo
  · rcases List.mem_cons.mp hq with rfl | hq
    · exact N₆ _ (.head _)
    · exact Nl q hq
  · obtain ⟨c9, d9, dt9, sl9⟩ := oe'
    dsimp only at hoec hdx' hoed
    subst hoec hdx' hoed
    exact kont h₇ _ o dx _ _ F₇ N₇ ha
end
section
variable {prog : Program} {w : World} {A : Around} {E : Value → Shared → Prop} {s : Shared} {K : Frag} {x : Addr} {ox : Obj} {od : Option Obj} {name : PySem.Str} {expr : Bool} {Q : Value → Shared → Prop}
theorem fault_check {M : Model} {h : Heap} {g : Array GenState} {d : Drawn} {t : Nat} {os : OsState} {nameV : Value} {Q : Unit → Shared → Prop} (hC : h.get? 59 = some fClass) (hx : h.get? x = some ox) (hc : ox.cls = .ref 59)
    (hq : Q () ⟨h, g, d, t, os⟩) : wpAny M A (checkBuiltinCall "BaseException.__getattribute__" ⟨[.ref x, nameV], []⟩) Q E ⟨h, g, d, t, os⟩ := by
  have hk : builtinKind "BaseException.__getattribute__" = some .slot := by decide +kernel
  have hsplit : splitId "BaseException.__getattribute__" = some ("BaseException", "__getattribute__") := by decide +kernel
  have hcB : (Value.ref 59 :: [Value.ref 46, .type "Exception", .type "BaseException", .type "object"]).contains (.type "BaseException") = true := by decide +kernel
  have ha := PySem.F.args_bexc_ga (.ref x) nameV
  simp only [checkBuiltinCall, hk, hsplit]
  refine wpAny_bind ?_
  unfold isInstance
  repeat (first | (with_reducible refine wpAny_loadPart_at hx ?_; rw [hc]) | (with_reducible refine wpAny_isSubtype_exc hC ?_; rw [hcB]) | wp_step)
  exact hq
theorem fault_get {v : Value} {r : Option Value} (X : K.In s.heap) (I : InstAt s.heap x ox 59 od) (hC : s.heap.get? 59 = some fClass) (hga : findIn K (.ref 59) "__getattribute__" = some (some (.builtin "BaseException.__getattribute__")))
    (hgh : findIn K (.ref 59) "__getattr__" = some r) (hf : findObj K 59 od name = some (.value v)) (hh : handedIn v = true) (h : Q v { s with toks := s.toks + 1 }) : wpAny (model prog w) A (getAttr (.ref x) name expr) Q E s := by
  obtain ⟨hp, g, d, t, os⟩ := s
  have L0 := I.type (M := model prog w)
  have L1 := looks_findIn (M := model prog w) X hga
  have L2 := looks_findIn (M := model prog w) X hgh
  have L3 := looks_find (M := model prog w) X I hf
  have f3 := PySem.F.attrBase_Exception.ga.bind (.ref x)
  have hx2 : (Value.builtin "BaseException.__getattribute__" == Value.builtin "object.__getattribute__") = false := by decide +kernel
  unfold getAttr getAttrBy
  refine wpAny_bind (wpAny_mkText (wpAny_holding (wpAny_bind (L0.at (wpAny_bind (L1.at ?_))))))
  dsimp only
  rw [hx2, Bool.and_false]
  simp only [Bool.false_eq_true, if_false]
  unfold getAttrByItsOwn hookBefore
  refine wpAny_bind ?_
  show wpAny _ _ (typeLookup (.ref 59) "__getattr__") _ _ _
  refine L2.at ?_
  refine wpAny_bind (wpAny_attempt (wpAny_holding ?_))
  have hx0 : (expr && onTheHeap (Value.builtin "BaseException.__getattribute__")) = false := by cases expr <;> rfl
  unfold callGetattribute
  rw [hx0]
  simp only [Bool.false_eq_true, if_false]
  unfold boundAndCalled
  refine wpAny_bind (wpAny_of_eq f3 ?_)
  refine wpAny_call (codeAny_call_builtin PySem.F.attrBase_Exception.ga.plain PySem.F.entry_bexc_ga (fault_check hC I.at_ I.cls ?_))
  show wpAny _ _ (Builtin.«object.__getattribute__» ⟨[.ref x, .str name t], []⟩) _ _ _
  unfold Builtin.«object.__getattribute__»
  refine wpAny_bind (wpAny_of_eq (a := (.ref x, [.str name t])) rfl ?_)
  dsimp only
  refine wpAny_bind (wpAny_of_eq (a := name) rfl ?_)
  refine wpAny_bind (L0.at ?_)
  refine wpAny_bind (L3.at ?_)
  refine wpAny_pure ?_
  dsimp only
  show wpAny _ _ (handedOut v) _ _ _
  rw [handedOut_of hh]; exact wpAny_pure h
end
theorem findObj_own {K : Frag} {C : Addr} {cd : ClassData} {o : Obj} {v : Value} {name : PySem.Str} (hc : clsIn K C = some cd) (ha : findIn K (.ref C) name = some none) (hd : cd.hasDict = true) (hl : lookIn name o = some (some v)) : findObj K C (some o) name = some (.value v) := by
  unfold findObj PySem.W.ownOf
  rw [hc, ha]
  simp only [Option.bind_some, hd, if_true, hl]
end
theorem fresh_NW1 : True := by w_top off; trivial
structure Marked : Prop
theorem Halt.outM {P : Prop} (_ : Marked) (h : Halt P) : P := h
local macro_rules | `(tactic| k_qdec) => `(tactic| decide +kernel)
local macro_rules | `(tactic| walk_at "getMethod bytes") => `(tactic| (refine Halt.out ?_))
local macro_rules | `(tactic| walk_at "CompSrc") => `(tactic| (refine Halt.outM (by assumption) ?_))
local macro_rules | `(tactic| walk_at "call ref") => `(tactic| (refine Halt.at 179 ?_))
local macro_rules | `(tactic| walk_at "m_room") => `(tactic| exact Nat.le_of_ble_eq_true rfl)
theorem flat_len : ∀ (ws : List (List UInt8)), (∀ x ∈ ws, x.length ≤ 19) → ws.flatten.length ≤ 19 * ws.length
  | [], _ => Nat.le_refl _
  | w :: ws, h => by
    have h1 := h w (.head _)
    have h2 := flat_len ws fun x hx => h x (.tail _ hx)
    rw [List.flatten_cons, List.length_append, List.length_cons]; omega
theorem same_take {ts : List T} {i : Nat} (h : i < ts.length) : (same ts).take (i + 1) = (same ts).take i ++ [((tsAt ts i).kind, (tsAt ts i).worth)] := by
  have h2 : i < (same ts).length := by simpa [same] using h
  rw [List.take_succ_eq_append_getElem h2]
  congr 2
  simp [same, tsAt, h]
section
variable {e t1 t2 t3 t4 t5 q d f : Addr × Obj} {os led own : List (Addr × Obj)}
theorem sub_c1 : ∀ p ∈ f :: e :: ((d :: os) ++ led), p ∈ f :: t1 :: e :: t2 :: t3 :: t4 :: q :: d :: (os ++ led ++ own) := by
  intro p hp; simp only [List.mem_cons, List.mem_append, List.cons_append] at hp ⊢; rcases hp with h | h | h | h | h <;> simp only [h, true_or, or_true]
theorem own_c1 : ∀ p ∈ own, p ∈ f :: t1 :: e :: t2 :: t3 :: t4 :: q :: d :: (os ++ led ++ own) := by
  intro p h; simp only [List.mem_cons, List.mem_append]; simp only [h, true_or, or_true]
theorem sub_c2 : ∀ p ∈ e :: ((d :: os) ++ led), p ∈ t1 :: e :: t2 :: t3 :: t4 :: q :: d :: (os ++ led ++ own) := by
  intro p hp; simp only [List.mem_cons, List.mem_append, List.cons_append] at hp ⊢; rcases hp with h | h | h | h <;> simp only [h, true_or, or_true]
theorem sub_c3 : ∀ p ∈ q :: (os ++ led ++ own), p ∈ t1 :: t2 :: t3 :: q :: d :: (os ++ led ++ own) := by
  intro p hp; simp only [List.mem_cons, List.mem_append, List.cons_append] at hp ⊢; rcases hp with h | (h | h) | h <;> simp only [h, true_or, or_true]
theorem own_c2 : ∀ p ∈ own, p ∈ t1 :: e :: t2 :: t3 :: t4 :: q :: d :: (os ++ led ++ own) := by
  intro p h; simp only [List.mem_cons, List.mem_append]; simp only [h, true_or, or_true]
end
theorem Parts.mono {led led' : List (Addr × Obj)} {ps : List Value} {tss : List (List T)} (h : Parts led ps tss) (hs : ∀ p ∈ led, p ∈ led') : Parts led' ps tss :=
  ⟨h.1, fun i ts hi => let ⟨D, vs, k, h1, h2, h3⟩ := h.2 i ts hi; ⟨D, vs, k, h1, hs _ h2, h3.mono hs⟩⟩
theorem pool_bd (l : List Int) : ∀ n ∈ List.map (fun k' : Int => (if k' < 0 then -k' else k').fmod (10 ^ Int.toNat 80)) (List.take 24 l), 0 ≤ n ∧ n < 10 ^ 80 := fun n hn => by
  obtain ⟨k, _, rfl⟩ := List.mem_map.mp hn
  have e : (10 : Int) ^ Int.toNat 80 = 10 ^ 80 := rfl
  rw [e]
  exact ⟨fm_lo (by decide), fm_hi (by decide)⟩
theorem pool_len (l : List Int) : (List.map (fun k' : Int => (if k' < 0 then -k' else k').fmod (10 ^ Int.toNat 80)) (List.take 24 l)).length ≤ 24 := by
  rw [List.length_map, List.length_take]; omega
theorem bytes_item {prog : Program} {w : World} {A : Around} {E : Value → Shared → Prop} {s : Shared} {h₀ : Heap} {L l : Addr} {value slice : PySem.Expr} {news : List (Addr × Obj)} {us : List Value} {ws : List (List UInt8)} {j : Int} {u : Tok} {Q : Value → Shared → Prop}
    (N : News h₀ L s.heap news) (hm : (l, tupOf us) ∈ news) (hB : BytesAre us ws) (h0 : 0 ≤ j) (h1 : j < us.length) (hz : us.length ≤ 1000) (h : ∀ t w, w ∈ ws → Q (.bytes w.toArray t) s)
    (hs : subscripted slice false (.ref l) (.int j u) = operate [.int j u, .ref l] (getItem (.ref l) (.int j u)) := by with_unfolding_all rfl) :
    wpAny (model prog w) A (subscriptTail value slice (.ref l) (.int j u)) Q E s := by
  obtain ⟨n, rfl⟩ := Int.eq_ofNat_of_zero_le h0
  obtain ⟨t, x, e1, e2⟩ := hB.at n (by rw [← hB.length]; omega)
  exact item_tupleT (j := n) ⟨_, (N _ hm).1, rfl, _, rfl⟩ (by omega) (by omega) (by simp [seqIndex?]; omega) e1 (h t x (List.mem_of_getElem? e2)) hs
local macro_rules | `(tactic| walk_at "subscriptTail Call Call ref int") => `(tactic| (refine Halt.outM (by assumption) ?_))
local macro_rules | `(tactic| walk_at "call ref") => `(tactic| (k_here; (with_reducible rename News _ _ _ _ => sN); k_dflt (refine Ctr.useNA sN (pieces_gives _ _ _ _ _) (hret := ?_) (hrai := RaiseTo.never)); clear sN; intro r tl h' tk' F' N' hR; obtain ⟨D', us', ws', e1, e2, hB', hl', hw'⟩ := hR; subst e1 e2; walk_at "m_nsw"))
theorem News.tup_ne {h₀ h' : Heap} {L a b : Addr} {l : List (Addr × Obj)} {us : List Value} {its : Array Value} {n : Nat} (N : News h₀ L h' l) (h1 : (a, tupOf us) ∈ l) (h2 : (b, W.listOf its n) ∈ l) : a ≠ b := by
  rintro rfl
  have := (N _ h1).1.symm.trans (N _ h2).1
  simp [tupOf, W.listOf] at this
local macro_rules | `(tactic| walk_at "call ref") => `(tactic| (refine Halt.at 207 ?_))
local macro_rules | `(tactic| walk_at "call ref") => `(tactic| (refine Halt.at 125 ?_))
local macro_rules | `(tactic| walk_at "subscriptTail Name Slice ref ref") => `(tactic| (refine Halt.outM (by assumption) ?_))
local macro_rules | `(tactic| walk_at "binaryOp Add ref ref") => `(tactic| (refine Halt.outM (by assumption) ?_))
local macro_rules | `(tactic| walk_at "compareOp NotEq ref ref") => `(tactic| (refine Halt.outM (by assumption) ?_))
local macro_rules | `(tactic| walk_at "compareOp Eq ref ref") => `(tactic| (refine Halt.outM (by assumption) ?_))
local macro_rules | `(tactic| walk_at "call ref") => `(tactic| (refine Halt.at 165 ?_))
local macro_rules | `(tactic| walk_at "call ref") => `(tactic| (refine Halt.at 130 ?_))
local macro_rules | `(tactic| walk_at "call ref") => `(tactic| (refine Halt.at 137 ?_))
set_option maxRecDepth 100000 in
set_option maxHeartbeats 8000000 in
theorem law_holds : PySem.Challenge.rw_no0365_01.Holds := by
  refine hd ?_
  k_go0
  all_goals try k_fold
  k_steps
  have mk : Marked := ⟨⟩
  unfold Halt
  with_reducible refine join_method ?_
  k_steps
  unfold Halt
  rename_i D1 ws1 _ hI1 _ _ l1 _ _ _ hIy hLy D _ _ hDD _ o' sF sN hcell
  k_dflt (refine CtrM.useA sN (take_gives _ _ _ _ D ys _ ys.length 17 _ hIy (pool_bd _) (pool_len _) (by decide) (by decide) _ ?hne) (fun _ h => h) ?_)
  case hne =>
    intro p hp
    rcases List.mem_cons.mp hp with rfl | hp
    · exact hDD.1
    · rw [List.mem_singleton.mp hp]; exact hDD.2
  clear sF sN
  rintro r led h' tk' F' N' ⟨v, t', vs0, ns0, k', rfl, hv0, hv1, rfl, hI0, hb0, hl0⟩
  clear hIy hLy
  k_steps
  unfold Halt
  rename IsRange _ _ _ _ _ _ _ _ => hR
  obtain ⟨nn, rfl⟩ := Int.eq_ofNat_of_zero_le hv0
  with_reducible rename Fr _ _ _ _ => sF
  with_reducible rename News _ _ _ _ => sN
  refine CompSrc.range (by rfl) sF sN hR (small_one (by omega) (by omega) (by omega) (by omega)) (n := nn) (by rw [rangeSize_one]; split <;> omega) (by rw [sizeLine_eq]; omega) ?_
  intro g'
  refine rest_ind (fun i ys nw => ∃ vs ns k ws, nw = (D, listOf (List.toArray vs) k) :: [(D1, listOf ws1.toArray 0), (_, o')] ∧ IntsAre vs ns ∧ (∀ n ∈ ns, 0 ≤ n ∧ n < 10 ^ 80) ∧ ns.length ≤ 24 ∧ BytesAre ys ws ∧ ys.length ≤ i ∧ ∀ x ∈ ws, x.length ≤ 19) nn ?_ ?_ _ 0 [] _ (by omega) ⟨vs0, ns0, k', [], rfl, hI0, hb0, hl0, .nil, Nat.zero_le _, fun _ h => nomatch h⟩
  · clear sF sN hI0 hb0 hl0
    rintro i ys nw hi ⟨vs, ns, k, ws, rfl, hI, hb, hl, hB, hy, hw⟩ v I oI C oC D9 m₂ hp tk E' hv hC hx F2 N2 off hne
    have hlB : ys.length ≤ 17 := by omega
    k_steps
    unfold Halt
    have o1 := off.1
    have o2 := off.2.1
    have o3 := off.2.2.1
    with_reducible rename News _ _ _ _ => sN
    rename_i sF Dp usp wsp hBp hlp hwp _
    k_dflt (refine CtrM.useA sN (take_gives _ _ _ _ D vs ns k 24 _ hI hb hl (by decide) (by decide) [(Dp, tupOf usp), (I, oI), (C, oC), (D9, lst ys), (D1, listOf ws1.toArray 0), (_, o')] ?hne) (by walk_at "m_s2") ?_)
    case hne =>
      have hDp : Dp ≠ D := News.tup_ne sN (List.Mem.head _) (by walk_at "m_s1")
      intro p hp
      simp only [List.mem_cons, List.not_mem_nil, or_false] at hp
      rcases hp with rfl | rfl | rfl | rfl | rfl | rfl
      · exact hDp
      · exact Ne.symm o1.1
      · exact Ne.symm o1.2.1
      · exact Ne.symm o1.2.2
      · exact hDD.1
      · exact hDD.2
    clear sF sN
    rintro r led h' tk' F' N' ⟨v, t', vs', ns', k', rfl, hv0, hv1, rfl, hI', hb', hl'⟩
    (try k_unfold)
    dsimp only
    refine bytes_item (us := usp) (ws := wsp) N' (by walk_at "m_s1") hBp hv0 (by omega) (by omega) ?_
    intro tb x hx
    (try k_unfold)
    dsimp only
    refine CompEnd.intro F' N' [(D, listOf (List.toArray vs') k'), (D1, listOf ws1.toArray 0), (_, o')] (by walk_at "m_s2") ⟨o1, o2, o3, trivial⟩ trivial ⟨vs', ns', k', ws ++ [x], rfl, hI', hb', hl', hB.snoc x tb, by simp; omega, fun z hz => ?_⟩
    rcases List.mem_append.mp hz with hz | hz
    · exact hw z hz
    · rw [List.mem_singleton.mp hz]; exact hwp x hx
  · clear sF sN hI0 hb0 hl0
    rintro ys nw ⟨vs, ns, k, ws, rfl, hI, hb, hl, hB, hy, hw⟩
    clear hI hb hl
    have hlB := hB.length
    have hfl2 : ws.flatten.length ≤ 304 := by
      have := flat_len ws hw
      omega
    have hfl : ws.flatten.length ≤ 16777216 := by omega
    k_steps
    unfold Halt
    generalize ws.flatten = d at *
    clear hB hy hw hlB
    have hd1 : d.length ≤ 1024 := by omega
    with_reducible rename Fr _ _ _ _ => sF
    with_reducible rename News _ _ _ _ => sN
    have sN2 := News.sub sN (l := [(_, o')]) (by walk_at "m_s2")
    clear sN
    k_dflt (refine Ctr.useNA sN2 (law_read_gives _ _ _ _ d _ hd1 _) (hret := ?_) (hrai := RaiseTo.never))
    clear sF sN2
    rintro r tl h' tk' F' N' ⟨Dr, tq, ⟨P, vs, kp, os, ts, rfl, rfl, hT, hok⟩ | ⟨e, rfl, rfl, herr⟩⟩
    · k_steps
      refine wpAny_Try_except ?_
      k_steps
      unfold Halt
      with_reducible rename Fr _ _ _ _ => sF
      with_reducible rename News _ _ _ _ => sN
      k_dflt (refine Ctr.useNA sN (tokens_of_gives _ _ _ _ d _ (by omega) _) (hret := ?_) (hrai := ?_))
      rotate_left
      · intro ee ii g₂ h2 tk2 fl F₂ up hx
        obtain ⟨kk, rfl, hx⟩ := hx
        rw [hok] at hx; cases hx
      · rintro r tl h' tk' F' N' ⟨P2, k2, vs2, os2, ts2, rfl, rfl, hT2, hok2⟩
        obtain rfl : ts = ts2 := by rw [hok] at hok2; injection hok2
        clear sF sN
        have hG := tokensOf_good hok
        k_steps
        unfold Halt
        with_reducible rename Fr _ _ _ _ => sF
        with_reducible rename News _ _ _ _ => sN
        generalize hled : (P2, listOf (List.toArray vs2) k2) :: os2 ++ ((Dr, tupOf [Value.ref P, Value.int (-1) tq]) :: (P, listOf (List.toArray vs) kp) :: os ++ [(_, o')]) = led at sN
        have hmP2 : (P2, listOf (List.toArray vs2) k2) ∈ led := by rw [← hled]; exact List.Mem.head _
        have hmP : (P, listOf (List.toArray vs) kp) ∈ led := by rw [← hled]; exact List.mem_append_right _ (.tail _ (.head _))
        have hk2 : Toks led vs2 ts := hT2.toks.mono fun p hp => by rw [← hled]; exact List.mem_append_left _ (.tail _ hp)
        have hk1 : Toks led vs ts := hT.toks.mono fun p hp => by rw [← hled]; exact List.mem_append_right _ (.tail _ (.tail _ (List.mem_append_left _ hp)))
        clear hled hT hT2
        have hlen1 := hk1.1
        have hlen2 := hk2.1
        have htl : ts.length ≤ 304 := by have := hG.1; omega
        refine ne_lists sN hmP2 hmP (by omega) (by walk_at "m_room") (toks_same sN hk2 hk1 (by walk_at "m_room")) ?_
        k_steps
        unfold Halt
        with_reducible rename Fr _ _ _ _ => sF
        with_reducible rename News _ _ _ _ => sN
        have hsl : (showAll false ts).length ≤ 1000000 := by
          have h1 := showAll_len ts false hG.2
          have h2 : ts.length * (2 * d.length + 3) ≤ 304 * 611 := Nat.mul_le_mul htl (by omega)
          omega
        k_dflt (refine Ctr.useNA sN (show_tokens_gives _ _ _ _ P2 vs2 k2 ts led hmP2 hk2 (by omega) (fun x hx => (hG.2 x hx).worthy (by omega)) (by omega)) (hret := ?_) (hrai := RaiseTo.never))
        clear sF sN
        rintro r tl h' tk' F' N' ⟨t9, rfl, rfl⟩
        k_steps
        unfold Halt
        with_reducible rename Fr _ _ _ _ => sF
        refine LCg.ListComp_U sF (by rfl) (by decide) (by rfl) (by decide) (by rfl) ?_
        k_steps
        unfold Halt
        with_reducible rename News _ _ _ _ => sN
        k_dflt (refine Ctr.useNA sN (tokens_of_gives _ _ _ _ (showAll false ts) _ (by omega) _) (hret := ?_) (hrai := ?_))
        rotate_left
        · intro ee ii g₂ h2 tk2 fl F₂ up hx
          obtain ⟨kk, rfl, hx⟩ := hx
          obtain ⟨ts', hs1, _⟩ := show_read hok
          rw [hs1] at hx; cases hx
        clear sF sN
        rintro r tl h' tk' F' N' ⟨P3, k3, vs3, os3, ts3, rfl, rfl, hT3, hok3⟩
        have hsame : same ts3 = same ts := by
          obtain ⟨ts', hs1, hs2⟩ := show_read hok
          rw [hs1] at hok3; injection hok3 with e; rw [← e]; exact hs2
        have hlen3 : ts3.length = ts.length := by have := congrArg List.length hsame; simpa [same] using this
        k_steps
        unfold Halt
        with_reducible rename Fr _ _ _ _ => sF
        with_reducible rename News _ _ _ _ => sN
        generalize hled3 : (P3, listOf (List.toArray vs3) k3) :: os3 ++ ([] ++ led) = led3 at sN
        have up3 : ∀ p ∈ led, p ∈ led3 := fun p hp => by rw [← hled3]; exact List.mem_append_right _ hp
        have hmP3 : (P3, listOf (List.toArray vs3) k3) ∈ led3 := by rw [← hled3]; exact List.Mem.head _
        have hk3 : Toks led3 vs3 ts3 := hT3.toks.mono fun p hp => by rw [← hled3]; exact List.mem_append_left _ (.tail _ hp)
        clear hled3 hT3
        have hv3 := hk3.1
        refine CompSrc.ledger (by rfl) sF sN hmP3 (by rw [List.size_toArray, sizeLine_eq]; omega) ?_
        intro g'
        refine rest_ind (fun i ys nw => ∃ pl, nw = pl ++ led3 ∧ Prs nw ys ((same ts3).take i)) (List.toArray vs3).size ?_ ?_ _ 0 [] led3 (by omega) ⟨[], rfl, Prs.nil _⟩
        · clear sF sN
          rintro i ys nw hi ⟨pl, rfl, hy⟩ v I oI C oC D9 m₂ hp tk E' hv hC hx F2 N2 off hne
          have hi' : i < ts3.length := by rw [List.size_toArray] at hi; omega
          obtain ⟨Di, oi, e1, e2, t1, t2, t3, rfl⟩ := hk3.2 i (tsAt ts3 i) (tsAt_get hi')
          have hv2 : v = .ref Di := by
            have : (List.toArray vs3)[i]? = some (Value.ref Di) := by simpa using e1
            exact Option.some.inj (hv.symm.trans this)
          subst hv2
          have N3 := News.also N2 (List.mem_cons_of_mem _ (List.mem_cons_of_mem _ (List.mem_cons_of_mem _ (List.mem_append_right _ e2))))
          clear N2
          k_steps
          unfold Halt
          with_reducible rename Fr _ _ _ _ => sF
          with_reducible rename News _ _ _ _ => sN
          refine slice_two (s := ⟨_, _, _, _, _⟩) sF sN List.mem_cons_self ?_
          intro D3 h9 F9 N9 l9
          clear sF sN
          (try k_unfold)
          dsimp only
          refine CompEnd.intro F9 N9 ((D3, _) :: (pl ++ led3)) (by walk_at "m_s2") ⟨⟨Ne.symm (Nat.ne_of_lt (l9 (I, oI) (.tail _ (.head _)))), Ne.symm (Nat.ne_of_lt (l9 (C, oC) (.tail _ (.tail _ (.head _))))), Ne.symm (Nat.ne_of_lt (l9 (D9, lst ys) (.tail _ (.tail _ (.tail _ (.head _))))))⟩, off⟩ (Or.inr ⟨_, List.mem_cons_of_mem _ (List.mem_append_right _ hmP3), rfl, _, rfl⟩) ⟨(D3, _) :: pl, rfl, ?_⟩
          rw [same_take hi']
          exact (hy.mono fun p hp => List.mem_cons_of_mem _ hp).push (p := ((tsAt ts3 i).kind, (tsAt ts3 i).worth)) List.mem_cons_self
        · clear sF sN
          rintro ys nw ⟨pl, rfl, hy⟩
          rw [List.take_of_length_le (by rw [List.size_toArray]; simp [same]; omega)] at hy
          k_steps
          unfold Halt
          with_reducible rename Fr _ _ _ _ => sF
          with_reducible rename News _ _ _ _ => sN
          rename_i Dy _ _ _
          generalize hled4 : (Dy, lst ys) :: (pl ++ led3) = led4 at sN
          have up4 : ∀ p ∈ led, p ∈ led4 := fun p hp => by rw [← hled4]; exact List.mem_cons_of_mem _ (List.mem_append_right _ (up3 p hp))
          have hmy : (Dy, listOf (List.toArray ys) ys.length) ∈ led4 := by rw [← hled4]; exact List.Mem.head _
          have hy4 : Prs led4 ys (same ts) := by rw [← hsame]; exact hy.mono fun p hp => by rw [← hled4]; exact List.mem_cons_of_mem _ hp
          have hmP4 := up4 _ hmP
          have hk4 := hk1.mono up4
          clear hled4 hy
          refine LCg.ListComp_U sF (by rfl) (by decide) (by rfl) (by decide) (by rfl) ?_
          k_steps
          unfold Halt
          refine CompSrc.ledger (by rfl) sF sN hmP4 (by rw [List.size_toArray, sizeLine_eq]; omega) ?_
          intro g'
          refine rest_ind (fun i ys nw => ∃ pl, nw = pl ++ led4 ∧ Prs nw ys ((same ts).take i)) (List.toArray vs).size ?_ ?_ _ 0 [] led4 (by omega) ⟨[], rfl, Prs.nil _⟩
          · clear sF sN
            rintro i ys nw hi ⟨pl, rfl, hy⟩ v I oI C oC D9 m₂ hp tk E' hv hC hx F2 N2 off hne
            have hi' : i < ts.length := by rw [List.size_toArray] at hi; omega
            obtain ⟨Di, oi, e1, e2, t1, t2, t3, rfl⟩ := hk4.2 i (tsAt ts i) (tsAt_get hi')
            have hv2 : v = .ref Di := by
              have : (List.toArray vs)[i]? = some (Value.ref Di) := by simpa using e1
              exact Option.some.inj (hv.symm.trans this)
            subst hv2
            have N3 := News.also N2 (List.mem_cons_of_mem _ (List.mem_cons_of_mem _ (List.mem_cons_of_mem _ (List.mem_append_right _ e2))))
            clear N2
            k_steps
            unfold Halt
            with_reducible rename Fr _ _ _ _ => sF
            with_reducible rename News _ _ _ _ => sN
            refine slice_two (s := ⟨_, _, _, _, _⟩) sF sN List.mem_cons_self ?_
            intro D3 h9 F9 N9 l9
            clear sF sN
            (try k_unfold)
            dsimp only
            refine CompEnd.intro F9 N9 ((D3, _) :: (pl ++ led4)) (by walk_at "m_s2") ⟨⟨Ne.symm (Nat.ne_of_lt (l9 (I, oI) (.tail _ (.head _)))), Ne.symm (Nat.ne_of_lt (l9 (C, oC) (.tail _ (.tail _ (.head _))))), Ne.symm (Nat.ne_of_lt (l9 (D9, lst ys) (.tail _ (.tail _ (.tail _ (.head _))))))⟩, off⟩ (Or.inr ⟨_, List.mem_cons_of_mem _ (List.mem_append_right _ hmP4), rfl, _, rfl⟩) ⟨(D3, _) :: pl, rfl, ?_⟩
            rw [same_take hi']
            exact (hy.mono fun p hp => List.mem_cons_of_mem _ hp).push (p := ((tsAt ts i).kind, (tsAt ts i).worth)) List.mem_cons_self
          · clear sF sN
            rintro zs nw ⟨pl, rfl, hz⟩
            rw [List.take_of_length_le (by rw [List.size_toArray]; simp [same]; omega)] at hz
            k_steps
            unfold Halt
            with_reducible rename Fr _ _ _ _ => sF
            with_reducible rename News _ _ _ _ => sN
            rename_i Dz _ _ _
            generalize hled5 : (Dz, lst zs) :: (pl ++ led4) = led5 at sN
            have up45 : ∀ p ∈ led4, p ∈ led5 := fun p hp => by rw [← hled5]; exact List.mem_cons_of_mem _ (List.mem_append_right _ hp)
            have hmz : (Dz, listOf (List.toArray zs) zs.length) ∈ led5 := by rw [← hled5]; exact List.Mem.head _
            have hz5 : Prs led5 zs (same ts) := hz.mono fun p hp => by rw [← hled5]; exact List.mem_cons_of_mem _ hp
            have hy5 := hy4.mono up45
            refine ne_lists sN (up45 _ hmy) hmz (by rw [hy5.1, hz5.1]) (by walk_at "m_room") (prs_same sN hy5 hz5 (by walk_at "m_room")) ?_
            have sN6 : News _ _ _ led := News.sub sN fun p hp => up45 p (up4 p hp)
            clear sN hled5 hz hz5 hy5 hmz hy4 hmy hmP4 hk4 hmP3 hk3
            k_steps
            unfold Halt
            with_reducible rename Fr _ _ _ _ => sF
            with_reducible rename News _ _ _ _ => sN
            k_dflt (refine Ctr.useNA sN (without_gives _ _ _ _ P2 vs2 k2 ts led hmP2 hk2 (by omega)) (hret := ?_) (hrai := RaiseTo.never))
            clear sF sN
            rintro r tl h' tk' F' N' ⟨Pw, yw, rfl, rfl, hkw⟩
            k_steps
            unfold Halt
            with_reducible rename Fr _ _ _ _ => sF
            with_reducible rename News _ _ _ _ => sN
            generalize hled6 : [(Pw, listOf (List.toArray yw) yw.length)] ++ led = led6 at sN
            have up6 : ∀ p ∈ led, p ∈ led6 := fun p hp => by rw [← hled6]; exact List.mem_append_right _ hp
            have hmw : (Pw, listOf (List.toArray yw) yw.length) ∈ led6 := by rw [← hled6]; exact List.Mem.head _
            have hkw6 := hkw.mono up6
            have hmP6 := up6 _ hmP
            have hk6 := hk1.mono up6
            clear hled6 hkw
            refine LCt.ListComp_T sF (by rfl) (by decide) (by rfl) (by decide) (by rfl) ?_
            k_steps
            unfold Halt
            refine LCt.CompSrcT.ledger (by rfl) sF sN hmP6 (by rw [List.size_toArray, sizeLine_eq]; omega) ?_
            intro g'
            refine restT_ind (fun i ys nw => nw = led6 ∧ Toks led6 ys ((ts.take i).filter (fun x => decide (x.kind ≠ .comment)))) (List.toArray vs).size ?_ ?_ _ 0 [] led6 (by omega) ⟨rfl, Toks.nil _⟩
            · clear sF sN
              rintro i ys nw hi ⟨rfl, hTy⟩ v I oI C oC D9 m₂ hp tk E' hv hC hx F2 N2 off hne
              have hi' : i < ts.length := by rw [List.size_toArray] at hi; omega
              obtain ⟨Di, oi, e1, e2, t1, t2, t3, rfl⟩ := hk6.2 i (tsAt ts i) (tsAt_get hi')
              have hv2 : v = .ref Di := by
                have : (List.toArray vs)[i]? = some (Value.ref Di) := by simpa using e1
                exact Option.some.inj (hv.symm.trans this)
              subst hv2
              have N3 := News.also N2 (List.mem_cons_of_mem _ (List.mem_cons_of_mem _ (List.mem_cons_of_mem _ e2)))
              clear N2
              k_steps
              · refine CompEnd.intro F2 N3 nw (fun p hp => List.mem_cons_of_mem _ hp) off (Or.inr ⟨_, hmP6, rfl, _, rfl⟩) ⟨rfl, ?_⟩
                rename (kstr _ != _) = true => q
                rw [filter_take_yes hi' q]
                exact hTy.push e2 ⟨_, _, _, rfl⟩
              · refine CompEnd.intro F2 N3 nw (fun p hp => List.mem_cons_of_mem _ hp) off (Or.inr ⟨_, hmP6, rfl, _, rfl⟩) ⟨rfl, ?_⟩
                rename (kstr _ != _) = false => q
                rw [filter_take_no hi' q]
                exact hTy
            · clear sF sN
              rintro zs nw ⟨rfl, hz⟩
              have ez : ts.take (List.toArray vs).size = ts := by rw [List.size_toArray, hlen1, List.take_of_length_le (Nat.le_refl _)]
              rw [ez] at hz
              k_steps
              unfold Halt
              with_reducible rename Fr _ _ _ _ => sF
              with_reducible rename News _ _ _ _ => sN
              rename_i Dw _ _ _
              refine ne_lists sN (.tail _ hmw) (List.Mem.head _) (by rw [hkw6.1, hz.1]) (by walk_at "m_room") (toks_same sN (hkw6.mono fun p hp => .tail _ hp) (hz.mono fun p hp => .tail _ hp) (by walk_at "m_room")) ?_
              have sN7 : News _ _ _ led := News.sub sN fun p hp => .tail _ (up6 p hp)
              clear sN hz hkw6 hk6 hmP6 hmw
              k_steps
              unfold Halt
              rename Shared => sh1
              refine For_invV sh1.heap rfl rfl ?_
              k_steps
              unfold Halt
              with_reducible rename Fr _ _ _ _ => sF
              with_reducible rename News _ _ _ _ => sN
              rename _ ∧ AllLt _ led => h9
              refine' kdl_iter (vs := vs) (nn := kp) (PJ led ?m0 ts) ?hh ?hm sF sN ?j0 ?turn ?done
              case hh => rfl
              case hm => exact List.mem_cons_of_mem _ (List.mem_cons_of_mem _ hmP)
              case j0 => exact PJ.start (Nat.ne_of_lt h9.1) (fun p hp => Nat.ne_of_lt (allLt_mem h9.2 p hp)) (fun p hp => Nat.ne_of_lt ((by assumption : ∀ p ∈ led, p.1 < _) p hp))
              case turn =>
                intro i v m₁ nx h2 tk2 own hv hoff hml hJ0 F2 N2
                refine wp_abs fun Q2 hQ2 => ?_
                obtain ⟨u, Pp, Dd, ps, us, tss, tl, os, ka, kb, rfl, rfl, hp, hTv, hneP, hneD, hgo, hl1, hl2⟩ := hJ0
                have hi' : i < ts.length := by
                  rcases Nat.lt_or_ge i vs.length with z | z
                  · omega
                  · rw [List.getElem?_eq_none z] at hv; cases hv
                obtain ⟨Di, oi, e1, e2, t1, t2, t3, rfl⟩ := hk1.2 i (tsAt ts i) (tsAt_get hi')
                have hv2 := Option.some.inj (hv.symm.trans e1)
                subst hv2
                rw [List.cons_append, List.cons_append] at N2
                have N3 := News.also N2 (List.mem_cons_of_mem _ (List.mem_cons_of_mem _ (List.mem_append_left _ (List.mem_append_right _ e2))))
                clear N2
                k_steps
                unfold Halt
                with_reducible rename Fr _ _ _ _ => sF
                with_reducible rename News _ _ _ _ => sN
                refine slice_two (s := ⟨_, _, _, _, _⟩) sF sN List.mem_cons_self ?_
                intro D3 h9' F9 N9 l9
                clear sF sN
                k_steps
                unfold Halt
                with_reducible rename Fr _ _ _ _ => sF
                with_reducible rename News _ _ _ _ => sN
                rename Addr => D4
                refine eq_pairs (P := D3) (P' := D4) sN (by walk_at "m_s1") (by walk_at "m_s1") (by walk_at "m_room") ?_
                rw [comma_eq]
                k_steps
                · rename isComma [44] _ = true => hc
                  unfold Halt
                  with_reducible rename Fr _ _ _ _ => sF
                  with_reducible rename News _ _ _ _ => sN
                  rename_i E _ lE Tt _ lT
                  refine kmk_add_lit (zs := (ps ++ [Value.ref Dd]) ++ [Value.ref E]) sF sN (News.isList sN (by walk_at "m_s1")) (News.isList sN (List.Mem.head _)) (by simp) ?_ (by rw [sizeLine_eq]; simp; omega)
                  intro D5 h5 F5 N5 l5
                  clear sF sN
                  k_steps
                  with_reducible rename Fr _ _ _ _ => sF
                  with_reducible rename News _ _ _ _ => sN
                  refine InvEndG.intro (nx := (D5, listOf ((ps ++ [Value.ref Dd]) ++ [Value.ref E]).toArray 0) :: (E, listOf ([] : List Value).toArray 0) :: (((Dd, listOf (List.toArray us) kb) :: os) ++ led)) sF sN ⟨.tail _ (.tail _ (List.mem_append_right _ hmP)), PJ.comma (dupP (by decide)) hp hTv hgo hl1 hi' hc ?_ ?_⟩ ?_ sub_c1 own_c1
                  · exact fun p hp' => Nat.ne_of_lt (l5 p (sub_c2 p hp'))
                  · intro p hp'
                    rcases List.mem_cons.mp hp' with rfl | hp'
                    · exact Nat.ne_of_lt lE.2.2.2.2.1
                    · exact Nat.ne_of_lt (allLt_mem lE.2.2.2.2.2 p (List.mem_append_left _ hp'))
                  · intro p hp' b hb
                    rcases List.mem_cons.mp hb with rfl | hb
                    · exact Nat.ne_of_lt (l5 p (own_c2 p hp'))
                    · rcases List.mem_cons.mp hb with rfl | hb
                      · exact Nat.ne_of_lt (allLt_mem lE.2.2.2.2.2 p (List.mem_append_right _ hp'))
                      · exact hoff p hp' b (List.mem_cons_of_mem _ hb)
                · rename isComma [44] _ = false => hc
                  unfold Halt
                  with_reducible rename Fr _ _ _ _ => sF
                  with_reducible rename News _ _ _ _ => sN
                  refine append_M2 (vs := us) (n := kb) (rest := (Pp, listOf (ps ++ [Value.ref Dd]).toArray ka) :: (os ++ led ++ own)) sF sN (by walk_at "m_s1") ?_ sub_c3 (by omega) ?_
                  · intro p hp'
                    rcases List.mem_cons.mp hp' with rfl | hp'
                    · exact Ne.symm (hneP.out _ List.mem_cons_self)
                    · rcases List.mem_append.mp hp' with hp' | hp'
                      · exact hneD.out _ hp'
                      · exact off_mem hoff _ hp' _ (List.mem_cons_of_mem _ List.mem_cons_self)
                  intro h6 F6 N6
                  clear sF sN
                  k_steps
                  refine InvEndG.intro (nx := (Pp, listOf (ps ++ [Value.ref Dd]).toArray ka) :: (Dd, _) :: (os ++ led)) F6 N6 ⟨.tail _ (.tail _ (List.mem_append_right _ hmP)), PJ.other dup1 hp hTv hgo hl1 hl2 hi' hc e2 ⟨_, _, _, rfl⟩ ?_ hneD.out⟩ hoff (sub2 (own := own)) (fun p hp' => List.mem_cons_of_mem _ (List.mem_cons_of_mem _ (List.mem_append_right _ hp')))
                  intro p hp'
                  rcases List.mem_cons.mp hp' with rfl | hp'
                  · exact (hneP.out (Dd, listOf (List.toArray us) kb) List.mem_cons_self : Dd ≠ Pp)
                  · exact hneP.out _ (List.mem_cons_of_mem _ hp')
              case done =>
                rintro m₁ nx h2 tk2 ⟨u, Pp, Dd, ps, us, tss, tl, os, ka, kb, rfl, rfl, hp, hTv, hneP, hneD, hgo, hl1, hl2⟩ F2 N2
                have ez : ts.take vs.length = ts := by rw [hlen1, List.take_of_length_le (Nat.le_refl _)]
                rw [ez] at hgo
                have hPp := (PartsAre.snoc (k := kb) Dd hp hTv).parts
                rw [← hgo] at hPp
                k_steps
                unfold Halt
                with_reducible rename Fr _ _ _ _ => sF
                with_reducible rename News _ _ _ _ => sN
                generalize hled8 : (Pp, listOf (ps ++ [Value.ref Dd]).toArray ka) :: (Dd, listOf (List.toArray us) kb) :: (os ++ led) = led8 at sN
                have up8 : ∀ p ∈ led, p ∈ led8 := fun p hp => by rw [← hled8]; exact .tail _ (.tail _ (List.mem_append_right _ hp))
                have hmp8 : (Pp, listOf (ps ++ [Value.ref Dd]).toArray ka) ∈ led8 := by rw [← hled8]; exact List.Mem.head _
                have hPp8 : Parts led8 (ps ++ [Value.ref Dd]) (splitTs [44] ts) := hPp.mono fun p hp => by rw [← hled8]; exact .tail _ hp
                clear hled8 hPp
                k_dflt (refine Ctr.useNA sN (split_gives _ _ _ _ P2 vs2 k2 ts [44] _ led8 (up8 _ hmP2) (hk2.mono up8) (by omega)) (hret := ?_) (hrai := RaiseTo.never))
                clear sF sN
                rintro r tl h' tk' F' N' ⟨Ps, qs, kq, os9, rfl, rfl, hPs⟩
                k_steps
                unfold Halt
                with_reducible rename Fr _ _ _ _ => sF
                with_reducible rename News _ _ _ _ => sN
                have hPs9 := hPs.mono (led' := (Ps, listOf (List.toArray qs) kq) :: os9 ++ led8) fun p hp => .tail _ hp
                have hPp9 := hPp8.mono (led' := (Ps, listOf (List.toArray qs) kq) :: os9 ++ led8) fun p hp => .tail _ (List.mem_append_right _ hp)
                refine eq_lists sN (List.Mem.head _) (.tail _ (List.mem_append_right _ hmp8)) (by rw [hPs9.1, hPp9.1]) (by walk_at "m_room") (parts_same sN hPs9 hPp9 (by walk_at "m_room")) ?_
                k_steps
    · k_steps
      refine wpAny_Try_except ?_
      k_steps
      unfold Halt
      with_reducible rename Fr _ _ _ _ => sF
      with_reducible rename News _ _ _ _ => sN
      k_dflt (refine Ctr.useNA sN (tokens_of_gives _ _ _ _ d _ (by omega) _) (hret := ?_) (hrai := ?_))
      · rintro r tl h' tk' F' N' ⟨D', k', vs, os, ts, rfl, rfl, hT, hok⟩
        rw [herr] at hok; cases hok
      · clear sF sN
        intro ee ii g₂ h2 tk2 fl F₂ up hx
        obtain ⟨kk, rfl, hx⟩ := hx
        obtain rfl : e = kk := by rw [herr] at hx; injection hx
        k_dflt (refine' fault_caught (A₀ := callerA) (outer := []) ?hK F₂ up fl ?hX ?hT ?hx ?hl ?_)
        case hK => k_asm
        case hX => k_asm
        case hT => k_asm
        case hx => k_dflt k_is
        case hl => k_dflt k_is
        rintro h3 tk3 o dx ws sl F3 N3 ⟨x9, t9, t8, t7, t6, rfl⟩
        k_steps
        have KX3 := Frag.In.keeps (by k_asm) (Fr.keep F3)
        have I : InstAt h3 ee { cls := .ref 59, dict := some dx, data := .fields ws, slots := sl } 59 (some (fDict _ x9 (e : Int) t9 t8 t7 t6)) := ⟨(N3 _ (List.Mem.head _)).1, rfl, rfl, (N3 _ (.tail _ (.head _))).1⟩
        k_dflt (refine' fault_get (v := .int (e : Int) t6) KX3 I ?hC ?ga ?gh ?gf rfl ?_)
        case hC => exact KX3 _ _ (by k_dflt k_is)
        case ga => k_dflt k_is
        case gh => k_dflt k_is
        case gf =>
          refine' findObj_own ?g1 ?g2 ?g3 ?g4
          case g1 => k_dflt k_is
          case g2 => k_dflt k_is
          case g3 => rfl
          case g4 => with_unfolding_all rfl
        k_steps
        with_reducible rename Fr _ _ _ _ => sF
        simp only [beq_self_eq_true]
        refine wpAny_nameGoes (by rfl) sF.ns (by rfl) ?_
        intro h4 m4 hn4 hs4
        have F4 := sF.set hn4 hs4
        have N4 := News.set N3 hs4
        clear sF N3
        k_steps
end Mine
end
set_option maxRecDepth 100000 in
set_option maxHeartbeats 8000000 in
theorem PySem.Challenge.cw_no0365_01_holds : PySem.Challenge.rw_no0365_01.Holds :=
  Mine.law_holds
