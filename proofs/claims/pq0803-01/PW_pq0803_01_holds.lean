import PyProof.Rows.All
import Wide.All
import OpenK.AllK
import Wide.FinOn
import PyProof.ExcAttrAll.Exception
import PySem.Challenge.RW_pq0803_01
set_option Elab.async false
set_option linter.unusedVariables false
set_option linter.unusedSimpArgs false
set_option compiler.extract_closed false
namespace Mine
/-- a block: a run or a row, its octets -/
structure Blk where
  run : Bool
  os : List UInt8
noncomputable def rowCodes (row : List UInt8) : List UInt8 := if row = [] then [] else UInt8.ofNat (row.length - 1) :: row
noncomputable def codesOf (b : Blk) : List UInt8 :=
  if b.run then [UInt8.ofNat (257 - b.os.length), b.os.headD 0] else UInt8.ofNat (b.os.length - 1) :: b.os
noncomputable def flatOs (l : List Blk) : List UInt8 := l.flatMap (·.os)
noncomputable def flatCs (l : List Blk) : List UInt8 := l.flatMap codesOf
noncomputable def Apart : List UInt8 → Prop
  | [] => True
  | [_] => True
  | x :: y :: r => x ≠ y ∧ Apart (y :: r)
noncomputable def Blk.Ok (b : Blk) : Prop :=
  1 ≤ b.os.length ∧ b.os.length ≤ 128 ∧ (b.run = true → 2 ≤ b.os.length ∧ ∃ x, b.os = List.replicate b.os.length x) ∧ (b.run = false → Apart b.os)
noncomputable def Follows (a b : Blk) : Prop :=
  (a.run = false → a.os.length < 128 → b.run = true ∧ 3 ≤ b.os.length) ∧
  (¬ (a.os.length = 128 ∧ (a.run = true ∨ b.run = false)) → b.os.headD 0 ≠ a.os.getLastD 0)
noncomputable def Good : List Blk → Prop
  | [] => True
  | [a] => a.Ok
  | a :: b :: r => a.Ok ∧ Follows a b ∧ Good (b :: r)
theorem Good.snoc : ∀ {l : List Blk} {a b : Blk}, Good (l ++ [a]) → b.Ok → Follows a b → Good (l ++ [a, b])
  | [], _, _, h, hb, hf => ⟨h, hf, hb⟩
  | [_], _, _, h, hb, hf => ⟨h.1, h.2.1, h.2.2, hf, hb⟩
  | _ :: y :: l, _, _, h, hb, hf => ⟨h.1, h.2.1, Good.snoc (l := y :: l) h.2.2 hb hf⟩
/-- how many octets at the begin are alike, at most 128 -/
noncomputable def runLen : List UInt8 → Nat
  | [] => 0
  | x :: xs => 1 + min 127 (xs.takeWhile (· == x)).length
inductive Enc : List UInt8 → List UInt8 → List UInt8 → Prop
  | done (row) : Enc [] row (rowCodes row)
  | run (x xs row out) : (2 < runLen (x :: xs) ∨ (runLen (x :: xs) = 2 ∧ row = [])) → Enc ((x :: xs).drop (runLen (x :: xs))) [] out →
      Enc (x :: xs) row (rowCodes row ++ [UInt8.ofNat (257 - runLen (x :: xs)), x] ++ out)
  | lit (x xs row out) : ¬ (2 < runLen (x :: xs) ∨ (runLen (x :: xs) = 2 ∧ row = [])) → row.length + 1 ≠ 128 → Enc xs (row ++ [x]) out → Enc (x :: xs) row out
  | full (x xs row out) : ¬ (2 < runLen (x :: xs) ∨ (runLen (x :: xs) = 2 ∧ row = [])) → row.length + 1 = 128 → Enc xs [] out →
      Enc (x :: xs) row (rowCodes (row ++ [x]) ++ out)
inductive Dec : List UInt8 → Nat → List UInt8 → Except Nat (List UInt8) → Prop
  | done (k acc) : Dec [] k acc (.ok acc)
  | stop (r k acc) : Dec (128 :: r) k acc (.ok acc)
  | row (b : UInt8) (r k acc res) : b.toNat < 128 → b.toNat < r.length → Dec (r.drop (b.toNat + 1)) (k + 2 + b.toNat) (acc ++ r.take (b.toNat + 1)) res → Dec (b :: r) k acc res
  | short (b : UInt8) (r k acc) : b.toNat < 128 → r.length ≤ b.toNat → Dec (b :: r) k acc (.error k)
  | run (b y : UInt8) (r k acc res) : 128 < b.toNat → Dec r (k + 2) (acc ++ List.replicate (257 - b.toNat) y) res → Dec (b :: y :: r) k acc res
  | cut (b : UInt8) (k acc) : 128 < b.toNat → Dec [b] k acc (.error k)
noncomputable def due : List Blk → Nat → List UInt8 → Nat → Except Nat (List UInt8)
  | [], _, acc, _ => .ok acc
  | b :: r, k, acc, cut =>
    if k < cut ∧ cut < k + (codesOf b).length then .error k
    else if cut ≤ k then .ok acc
    else due r (k + (codesOf b).length) (acc ++ b.os) cut
/-! the plain law -/
theorem u8_small {n : Nat} (h : n < 256) : (UInt8.ofNat n).toNat = n := by
  simp only [UInt8.toNat_ofNat']; omega
theorem runLen_cons_ne {x y : UInt8} {r : List UInt8} (h : y ≠ x) : runLen (x :: y :: r) = 1 := by
  have : (y == x) = false := by simpa using h
  simp [runLen, List.takeWhile_cons, this]
theorem runLen_one (x : UInt8) : runLen [x] = 1 := by simp [runLen]
theorem takeWhile_rep {x : UInt8} {rest : List UInt8} : ∀ n, (∀ y, rest.head? = some y → y ≠ x) → (List.replicate n x ++ rest).takeWhile (· == x) = List.replicate n x
  | 0, h => by
    cases rest with
    | nil => rfl
    | cons y r => have : (y == x) = false := by simpa using h y rfl
                  simp [List.takeWhile_cons, this]
  | n + 1, h => by
    rw [List.replicate_succ, List.cons_append, List.takeWhile_cons]
    simp [takeWhile_rep n h]
theorem takeWhile_rep_len {x : UInt8} {rest : List UInt8} (n : Nat) : n ≤ ((List.replicate n x ++ rest).takeWhile (· == x)).length := by
  induction n with
  | zero => exact Nat.zero_le _
  | succ n ih => rw [List.replicate_succ, List.cons_append, List.takeWhile_cons]; simpa using ih
/-- the count that run_at finds -/
theorem runLen_eq {x : UInt8} {rest : List UInt8} {c : Nat} (h1 : 1 ≤ c) (h2 : c ≤ 128) (h : c = 128 ∨ ∀ y, rest.head? = some y → y ≠ x) :
    runLen (List.replicate c x ++ rest) = c := by
  obtain ⟨n, rfl⟩ : ∃ n, c = n + 1 := ⟨c - 1, by omega⟩
  rw [List.replicate_succ, List.cons_append, runLen]
  rcases h with h | h
  · have := takeWhile_rep_len (x := x) (rest := rest) n
    omega
  · rw [takeWhile_rep n h, List.length_replicate]; omega
theorem drop_rep {x : UInt8} {rest : List UInt8} (c : Nat) : (List.replicate c x ++ rest).drop c = rest := by
  rw [List.drop_append, List.drop_of_length_le (by simp), List.length_replicate]; simp
/-- a row, octet by octet -/
theorem enc_lits : ∀ (a row rest out : List UInt8), row.length + a.length < 128 → Apart a → (∀ x, a.getLast? = some x → ∀ y, rest.head? = some y → y ≠ x) → Enc rest (row ++ a) out → Enc (a ++ rest) row out
  | [], row, rest, out, _, _, _, h => by simpa using h
  | x :: a, row, rest, out, hl, ha, hr, h => by
    have h1 : runLen (x :: (a ++ rest)) = 1 := by
      cases a with
      | nil =>
        cases rest with
        | nil => exact runLen_one x
        | cons y r => exact runLen_cons_ne (hr x rfl y rfl)
      | cons y r => exact runLen_cons_ne (Ne.symm ha.1)
    have ha' : Apart a := by
      cases a with
      | nil => trivial
      | cons y r => exact ha.2
    simp only [List.length_cons] at hl
    refine Enc.lit x (a ++ rest) row out (by rw [h1]; omega) (by omega) ?_
    refine enc_lits a (row ++ [x]) rest out (by simp; omega) ha' (fun z hz => hr z ?_) (by simpa using h)
    cases a with
    | nil => cases hz
    | cons y r => simpa using hz
theorem enc_runblk {x : UInt8} {n : Nat} {row rest out : List UInt8} (h2 : 2 ≤ n) (hn : n ≤ 128) (hr : n = 128 ∨ ∀ y, rest.head? = some y → y ≠ x) (h3 : row = [] ∨ 3 ≤ n) (h : Enc rest [] out) :
    Enc (List.replicate n x ++ rest) row (rowCodes row ++ [UInt8.ofNat (257 - n), x] ++ out) := by
  have e := runLen_eq (x := x) (rest := rest) (c := n) (by omega) hn hr
  obtain ⟨k, rfl⟩ : ∃ k, n = k + 1 := ⟨n - 1, by omega⟩
  have e2 : List.replicate (k + 1) x ++ rest = x :: (List.replicate k x ++ rest) := by rw [List.replicate_succ, List.cons_append]
  have d := drop_rep (x := x) (rest := rest) (k + 1)
  rw [e2] at e d ⊢
  have hc : 2 < k + 1 ∨ k + 1 = 2 ∧ row = [] := by
    rcases h3 with h3 | h3
    · by_cases hk : k = 1
      · exact .inr ⟨by omega, h3⟩
      · exact .inl (by omega)
    · exact .inl (by omega)
  have := Enc.run x (List.replicate k x ++ rest) row out (by rw [e]; exact hc) (by rw [e, d]; exact h)
  rw [e] at this
  exact this
theorem headD_of {a : List UInt8} {x : UInt8} (h : a.head? = some x) : a.headD 0 = x := by cases a <;> simp_all
theorem getLastD_of {a : List UInt8} {x : UInt8} (h : a.getLast? = some x) : a.getLastD 0 = x := by
  cases a with
  | nil => cases h
  | cons y r => simp only [List.getLastD_cons, List.getLast?_cons] at *; simpa [List.getLastD_eq_getLast?] using h
/-- what the head of the rest of the blocks is -/
theorem flat_head {b : Blk} {r : List Blk} (hb : b.Ok) : (flatOs (b :: r)).head? = some (b.os.headD 0) := by
  obtain ⟨h1, _⟩ := hb
  cases h : b.os with
  | nil => rw [h] at h1; simp at h1
  | cons y q => simp [flatOs, List.flatMap_cons, h]
theorem good_head {a b : Blk} {r : List Blk} (h : Good (a :: b :: r)) : b.Ok := by
  cases r with
  | nil => exact h.2.2
  | cons c r => exact h.2.2.1
theorem good_tail {a : Blk} {r : List Blk} (h : Good (a :: r)) : Good r := by
  cases r with
  | nil => trivial
  | cons c r => exact h.2.2
theorem good_one {a : Blk} {r : List Blk} (h : Good (a :: r)) : a.Ok := by
  cases r with
  | nil => exact h
  | cons c r => exact h.1
theorem rep_os {b : Blk} (h : b.Ok) (hr : b.run = true) : ∃ x, b.os = List.replicate b.os.length x ∧ b.os.headD 0 = x ∧ b.os.getLastD 0 = x := by
  obtain ⟨h1, h2, h3, h4⟩ := h
  obtain ⟨hl, x, hx⟩ := h3 hr
  refine ⟨x, hx, ?_, ?_⟩
  · rw [hx]; cases hn : b.os.length with
    | zero => omega
    | succ n => simp [List.replicate_succ]
  · rw [hx]; cases hn : b.os.length with
    | zero => omega
    | succ n => exact getLastD_of (by simp [List.getLast?_replicate])
theorem enc_of : ∀ (l : List Blk), Good l → Enc (flatOs l) [] (flatCs l)
  | [], _ => by
    have := Enc.done []
    simpa [flatOs, flatCs, rowCodes] using this
  | a :: r, hg => by
    have ha := good_one hg
    have ih := enc_of r (good_tail hg)
    have e1 : flatOs (a :: r) = a.os ++ flatOs r := by simp [flatOs]
    have e2 : flatCs (a :: r) = codesOf a ++ flatCs r := by simp [flatCs]
    rw [e1, e2]
    cases hr : a.run with
    | true =>
      obtain ⟨x, hx, hh, hlast⟩ := rep_os ha hr
      have hc : codesOf a = [UInt8.ofNat (257 - a.os.length), x] := by simp [codesOf, hr]; simpa using hh
      rw [hc, hx]
      have := enc_runblk (x := x) (n := a.os.length) (row := []) (rest := flatOs r) (out := flatCs r) (ha.2.2.1 hr).1 ha.2.1 ?_ (.inl rfl) ih
      · simpa [rowCodes] using this
      · cases r with
        | nil => exact .inr (by intro y hy; cases hy)
        | cons b r =>
          by_cases h128 : a.os.length = 128
          · exact .inl h128
          · refine .inr fun y hy => ?_
            rw [flat_head (good_head hg)] at hy
            cases hy
            have := hg.2.1.2 (by rintro ⟨h, _⟩; exact h128 h)
            rwa [hlast] at this
    | false =>
      have hap := ha.2.2.2 hr
      have hne : a.os ≠ [] := by intro e; have := ha.1; rw [e] at this; simp at this
      have hc : codesOf a = rowCodes a.os := by simp [codesOf, rowCodes, hr, hne]
      rw [hc]
      -- the last octet of the row
      by_cases h128 : a.os.length = 128
      · obtain ⟨i, z, hz⟩ : ∃ i z, a.os = i ++ [z] := ⟨a.os.dropLast, a.os.getLast hne, (List.dropLast_concat_getLast hne).symm⟩
        have hil : i.length = 127 := by rw [hz] at h128; simp at h128; omega
        have hapi : Apart i ∧ (∀ x, i.getLast? = some x → z ≠ x) := by
          clear hc ih e1 e2 hg
          rw [hz] at hap
          clear hz hil
          induction i with
          | nil => exact ⟨trivial, fun x hx => by cases hx⟩
          | cons y q ih =>
            cases q with
            | nil => exact ⟨trivial, fun x hx => by simp at hx; subst hx; exact Ne.symm hap.1⟩
            | cons u v => exact ⟨⟨hap.1, (ih hap.2).1⟩, fun x hx => (ih hap.2).2 x (by simpa using hx)⟩
        have key : Enc (z :: flatOs r) i (rowCodes (i ++ [z]) ++ flatCs r) := by
          refine Enc.full z (flatOs r) i _ ?_ (by omega) ih
          have hine : i ≠ [] := by intro e; rw [e] at hil; simp at hil
          cases r with
          | nil => simp only [flatOs, List.flatMap_nil, runLen_one]; omega
          | cons b r =>
            have hb := good_head hg
            -- the block behind a full row
            have hrl : runLen (z :: flatOs (b :: r)) ≤ 2 := by
              by_cases hbz : b.os.headD 0 = z
              · -- then it is a row
                have hbrow : b.run = false := by
                  cases hbr : b.run with
                  | false => rfl
                  | true =>
                    exfalso
                    refine hg.2.1.2 (by rintro ⟨_, h⟩; rcases h with h | h; · rw [hr] at h; cases h
                                        · rw [hbr] at h; cases h) ?_
                    rw [hbz, hz]; symm; exact getLastD_of (by simp)
                have hapb := hb.2.2.2 hbrow
                have hb1 := hb.1
                -- behind its first octet stands another one, or nothing, or a run of another octet
                cases hbo : b.os with
                | nil => rw [hbo] at hb1; simp at hb1
                | cons y q =>
                  rw [hbo] at hbz hapb
                  have hyz : y = z := by simpa using hbz
                  subst hyz
                  cases q with
                  | cons u v =>
                    have : u ≠ y := Ne.symm hapb.1
                    have e : flatOs (b :: r) = y :: u :: (v ++ flatOs r) := by simp [flatOs, hbo]
                    rw [e]
                    have hu : (u == y) = false := by simpa using this
                    simp [runLen, List.takeWhile_cons, hu]
                  | nil =>
                    cases r with
                    | nil =>
                      have e : flatOs [b] = [y] := by simp [flatOs, hbo]
                      rw [e]; simp [runLen, List.takeWhile_cons]
                    | cons c r =>
                      have hgb := good_tail hg
                      have hcy := hgb.2.1.2 (by rintro ⟨h, _⟩; rw [hbo] at h; simp at h)
                      have hco := good_head hgb
                      rw [hbo] at hcy
                      have hch := flat_head (r := r) hco
                      have e : flatOs (b :: c :: r) = y :: flatOs (c :: r) := by simp [flatOs, hbo]
                      rw [e]
                      cases hfc : flatOs (c :: r) with
                      | nil => rw [hfc] at hch; cases hch
                      | cons u v =>
                        rw [hfc] at hch
                        have hu : u = c.os.headD 0 := by simpa using hch
                        have : (u == y) = false := by rw [hu]; simpa using hcy
                        simp [runLen, List.takeWhile_cons, this]
              · have hh := flat_head (r := r) hb
                cases hf : flatOs (b :: r) with
                | nil => rw [hf] at hh; cases hh
                | cons u v =>
                  rw [hf] at hh
                  have hu : u = b.os.headD 0 := by simpa using hh
                  rw [runLen_cons_ne (by rw [hu]; exact hbz)]; omega
            intro h
            rcases h with h | ⟨_, h⟩
            · omega
            · exact hine h
        rw [hz]
        have := enc_lits i [] (z :: flatOs r) (rowCodes (i ++ [z]) ++ flatCs r) (by simp; omega) hapi.1 (fun x hx y hy => by simp at hy; subst hy; exact hapi.2 x hx) (by simpa using key)
        simpa using this
      · have hlt : a.os.length < 128 := by have := ha.2.1; omega
        cases r with
        | nil =>
          have := enc_lits a.os [] [] (rowCodes a.os) (by simpa using hlt) hap (fun x _ y hy => by cases hy) (by simpa using Enc.done a.os)
          simpa [flatOs, flatCs] using this
        | cons b r =>
          obtain ⟨hbr, hb3⟩ := hg.2.1.1 hr hlt
          have hb := good_head hg
          have hne' := hg.2.1.2 (by rintro ⟨h, _⟩; exact h128 h)
          -- the run behind the row closes it
          have ihb := enc_of r (good_tail (good_tail hg))
          obtain ⟨x, hx, hh, hlast⟩ := rep_os hb hbr
          have hcb : codesOf b = [UInt8.ofNat (257 - b.os.length), x] := by simp [codesOf, hbr]; simpa using hh
          have e3 : flatOs (b :: r) = List.replicate b.os.length x ++ flatOs r := by simp only [flatOs, List.flatMap_cons]; rw [← hx]
          have e4 : flatCs (b :: r) = [UInt8.ofNat (257 - b.os.length), x] ++ flatCs r := by simp only [flatCs, List.flatMap_cons]; rw [← hcb]
          have key := enc_runblk (x := x) (n := b.os.length) (row := a.os) (rest := flatOs r) (out := flatCs r) (by omega) hb.2.1 ?_ (.inr hb3) ihb
          · rw [e3, e4]
            have := enc_lits a.os [] (List.replicate b.os.length x ++ flatOs r) (rowCodes a.os ++ [UInt8.ofNat (257 - b.os.length), x] ++ flatCs r) (by simpa using hlt) hap ?_ (by simpa using key)
            · simpa using this
            · intro z hz y hy
              rw [← e3, flat_head hb] at hy
              cases hy
              rwa [getLastD_of hz] at hne'
          · cases r with
            | nil => exact .inr (by intro y hy; cases hy)
            | cons c r =>
              by_cases h128b : b.os.length = 128
              · exact .inl h128b
              · refine .inr fun y hy => ?_
                have hgb := good_tail hg
                rw [flat_head (good_head hgb)] at hy
                cases hy
                have := hgb.2.1.2 (by rintro ⟨h, _⟩; exact h128b h)
                rwa [hlast] at this
termination_by l => l.length
/-! the decoder -/
theorem len_codes_pos (b : Blk) : 1 ≤ (codesOf b).length := by unfold codesOf; split <;> simp
theorem dec_blk {b : Blk} (hb : b.Ok) (rest : List UInt8) (k : Nat) (acc : List UInt8) (res) (h : Dec rest (k + (codesOf b).length) (acc ++ b.os) res) :
    Dec (codesOf b ++ rest) k acc res := by
  have h1 := hb.1
  have h2 := hb.2.1
  cases hr : b.run with
  | true =>
    obtain ⟨x, hx, hh, _⟩ := rep_os hb hr
    have h3 := (hb.2.2.1 hr).1
    have hc : codesOf b = [UInt8.ofNat (257 - b.os.length), x] := by simp [codesOf, hr]; simpa using hh
    rw [hc] at h ⊢
    have hn : (UInt8.ofNat (257 - b.os.length)).toNat = 257 - b.os.length := u8_small (by omega)
    refine Dec.run _ _ _ _ _ _ (by rw [hn]; omega) ?_
    rw [hn, show 257 - (257 - b.os.length) = b.os.length by omega, ← hx]
    exact h
  | false =>
    have hc : codesOf b = UInt8.ofNat (b.os.length - 1) :: b.os := by simp [codesOf, hr]
    rw [hc] at h ⊢
    have hn : (UInt8.ofNat (b.os.length - 1)).toNat = b.os.length - 1 := u8_small (by omega)
    refine Dec.row _ _ _ _ _ (by rw [hn]; omega) (by rw [hn]; simp; omega) ?_
    rw [hn, show b.os.length - 1 + 1 = b.os.length by omega]
    rw [show b.os.append rest = b.os ++ rest from rfl, List.drop_left, List.take_left]
    rw [show k + 2 + (b.os.length - 1) = k + (UInt8.ofNat (b.os.length - 1) :: b.os).length by simp; omega]
    exact h
theorem dec_flat : ∀ (l : List Blk), Good l → ∀ (tail : List UInt8) (k : Nat) (acc : List UInt8), (tail = [] ∨ ∃ r, tail = 128 :: r) → Dec (flatCs l ++ tail) k acc (.ok (acc ++ flatOs l))
  | [], _, tail, k, acc, h => by
    have : Dec tail k acc (.ok acc) := by
      rcases h with rfl | ⟨r, rfl⟩
      · exact Dec.done k acc
      · exact Dec.stop r k acc
    simpa [flatCs, flatOs] using this
  | b :: r, hg, tail, k, acc, h => by
    have ih := dec_flat r (good_tail hg) tail (k + (codesOf b).length) (acc ++ b.os) h
    have := dec_blk (good_one hg) (flatCs r ++ tail) k acc _ ih
    simpa [flatCs, flatOs] using this
theorem dec_cut {b : Blk} (hb : b.Ok) (c : Nat) (h0 : 0 < c) (hc : c < (codesOf b).length) (k : Nat) (acc : List UInt8) : Dec ((codesOf b).take c) k acc (.error k) := by
  have h1 := hb.1
  have h2 := hb.2.1
  cases hr : b.run with
  | true =>
    have h3 := (hb.2.2.1 hr).1
    have e : codesOf b = [UInt8.ofNat (257 - b.os.length), b.os.headD 0] := by simp [codesOf, hr]
    rw [e] at hc ⊢
    obtain rfl : c = 1 := by simp at hc; omega
    exact Dec.cut _ _ _ (by rw [u8_small (by omega)]; omega)
  | false =>
    have e : codesOf b = UInt8.ofNat (b.os.length - 1) :: b.os := by simp [codesOf, hr]
    rw [e] at hc ⊢
    obtain ⟨n, rfl⟩ : ∃ n, c = n + 1 := ⟨c - 1, by omega⟩
    rw [List.take_succ_cons]
    simp only [List.length_cons] at hc
    have hn : (UInt8.ofNat (b.os.length - 1)).toNat = b.os.length - 1 := u8_small (by omega)
    exact Dec.short _ _ _ _ (by rw [hn]; omega) (by rw [hn, List.length_take]; omega)
theorem dec_due : ∀ (l : List Blk), Good l → ∀ (k : Nat) (acc : List UInt8) (cut : Nat), k ≤ cut → cut ≤ k + (flatCs l).length → Dec ((flatCs l).take (cut - k)) k acc (due l k acc cut)
  | [], _, k, acc, cut, _, _ => by simpa [flatCs, due] using Dec.done k acc
  | b :: r, hg, k, acc, cut, h1, h2 => by
    have e : flatCs (b :: r) = codesOf b ++ flatCs r := by simp [flatCs]
    rw [e] at h2 ⊢
    simp only [List.length_append] at h2
    unfold due
    by_cases hk : k < cut ∧ cut < k + (codesOf b).length
    · rw [if_pos hk, List.take_append_of_le_length (by omega)]
      exact dec_cut (good_one hg) _ (by omega) (by omega) k acc
    · rw [if_neg hk]
      by_cases hc : cut ≤ k
      · rw [if_pos hc, show cut - k = 0 by omega]
        exact Dec.done k acc
      · rw [if_neg hc, List.take_append, List.take_of_length_le (by omega)]
        refine dec_blk (good_one hg) _ k acc _ ?_
        have := dec_due r (good_tail hg) (k + (codesOf b).length) (acc ++ b.os) cut (by omega) (by omega)
        rwa [show cut - (k + (codesOf b).length) = cut - k - (codesOf b).length by omega] at this
/-! run_at's loop -/
theorem run_rep {bs : List UInt8} {k : Nat} : ∀ c, (∀ i, i < c → bs[k + i]? = bs[k]?) → ∀ x, bs[k]? = some x → bs.drop k = List.replicate c x ++ bs.drop (k + c)
  | 0, _, _, _ => by simp
  | c + 1, h, x, hx => by
    rw [run_rep c (fun i hi => h i (by omega)) x hx]
    have hc := h c (by omega)
    rw [hx] at hc
    obtain ⟨hl, he⟩ := List.getElem?_eq_some_iff.mp hc
    rw [List.drop_eq_getElem_cons hl, he, List.replicate_succ', List.append_assoc]
    rfl
theorem run_stop {bs : List UInt8} {k c : Nat} (hk : k < bs.length) (h1 : 1 ≤ c) (h2 : c ≤ 128) (h4 : ∀ i, i < c → bs[k + i]? = bs[k]?) (h : c = 128 ∨ bs[k + c]? ≠ bs[k]?) : runLen (bs.drop k) = c := by
  have hx : bs[k]? = some bs[k] := List.getElem?_eq_getElem hk
  rw [run_rep c h4 _ hx]
  refine runLen_eq h1 h2 (h.imp_right fun hn y hy => ?_)
  rintro rfl
  rw [List.head?_drop] at hy
  exact hn (hy.trans hx.symm)
theorem getD_iff {bs : List UInt8} {i j : Nat} (hi : i < bs.length) (hj : j < bs.length) : ((bs.getD i 0).toNat : Int) = ((bs.getD j 0).toNat : Int) ↔ bs[i]? = bs[j]? := by
  simp only [List.getD_eq_getElem?_getD, List.getElem?_eq_getElem hi, List.getElem?_eq_getElem hj, Option.getD_some, Option.some.injEq]
  constructor
  · intro h; exact UInt8.toNat_inj.mp (by omega)
  · intro h; rw [h]
theorem rowCodes_len {row : List UInt8} (h : row.length ≤ 128) : (rowCodes row).length ≤ 129 := by
  unfold rowCodes; split <;> simp; omega
theorem runLen_le : ∀ l : List UInt8, runLen l ≤ 128
  | [] => by simp [runLen]
  | x :: xs => by simp only [runLen]; omega
/-! run_encoded's loop -/
theorem drop_cons {os : List UInt8} {k : Nat} (hk : k < os.length) : os.drop k = os.getD k 0 :: os.drop (k + 1) := by
  rw [List.drop_eq_getElem_cons hk]
  simp [List.getD_eq_getElem?_getD, List.getElem?_eq_getElem hk]
theorem enc_run_step {os row o' : List UInt8} {k : Nat} (hk : k < os.length) (h : Enc (os.drop k) row o') (hc : 2 < runLen (os.drop k) ∨ (runLen (os.drop k) = 2 ∧ row = [])) :
    ∃ o'', Enc (os.drop (k + runLen (os.drop k))) [] o'' ∧ o' = rowCodes row ++ [UInt8.ofNat (257 - runLen (os.drop k)), os.getD k 0] ++ o'' := by
  have e := drop_cons hk
  generalize hs : os.drop k = sfx at h hc e ⊢
  cases h with
  | done => cases e
  | run x xs row out h1 h2 =>
    injection e with e1 e2
    refine ⟨out, ?_, by rw [e1]⟩
    rw [← List.drop_drop, hs]
    exact h2
  | lit x xs row out h1 h2 h3 => exact absurd hc h1
  | full x xs row out h1 h2 h3 => exact absurd hc h1
theorem enc_lit_step {os row o' : List UInt8} {k : Nat} (hk : k < os.length) (h : Enc (os.drop k) row o') (hc : ¬ (2 < runLen (os.drop k) ∨ (runLen (os.drop k) = 2 ∧ row = []))) (hr : row.length + 1 ≠ 128) :
    Enc (os.drop (k + 1)) (row ++ [os.getD k 0]) o' := by
  have e := drop_cons hk
  generalize hs : os.drop k = sfx at h hc e
  cases h with
  | done => cases e
  | run x xs row out h1 h2 => exact absurd h1 hc
  | lit x xs row out h1 h2 h3 =>
    injection e with e1 e2
    rw [← e1, ← e2]
    exact h3
  | full x xs row out h1 h2 h3 => exact absurd h2 hr
theorem enc_full_step {os row o' : List UInt8} {k : Nat} (hk : k < os.length) (h : Enc (os.drop k) row o') (hc : ¬ (2 < runLen (os.drop k) ∨ (runLen (os.drop k) = 2 ∧ row = []))) (hr : row.length + 1 = 128) :
    ∃ o'', Enc (os.drop (k + 1)) [] o'' ∧ o' = rowCodes (row ++ [os.getD k 0]) ++ o'' := by
  have e := drop_cons hk
  generalize hs : os.drop k = sfx at h hc e
  cases h with
  | done => cases e
  | run x xs row out h1 h2 => exact absurd h1 hc
  | lit x xs row out h1 h2 h3 => exact absurd hr h2
  | full x xs row out h1 h2 h3 =>
    injection e with e1 e2
    refine ⟨out, ?_, by rw [e1]⟩
    rw [← e2]
    exact h3
theorem enc_done {os row o' : List UInt8} {k : Nat} (hk : os.length ≤ k) (h : Enc (os.drop k) row o') : o' = rowCodes row := by
  rw [List.drop_of_length_le hk] at h
  cases h
  rfl
theorem runLen_pos {os : List UInt8} {k : Nat} (hk : k < os.length) : 1 ≤ runLen (os.drop k) := by
  rw [drop_cons hk, runLen]; omega
theorem runLen_fit (os : List UInt8) : runLen os ≤ os.length := by
  cases os with
  | nil => simp [runLen]
  | cons x xs =>
    have : (xs.takeWhile (· == x)).length ≤ xs.length := by
      have h := congrArg List.length (List.takeWhile_append_dropWhile (p := (· == x)) (l := xs))
      rw [List.length_append] at h
      omega
    simp only [runLen, List.length_cons]; omega
end Mine
namespace Mine
theorem dec_end {d : List UInt8} {k : Nat} {acc : List UInt8} {res} (hk : d.length ≤ k) (h : Dec (d.drop k) k acc res) : res = .ok acc := by
  rw [List.drop_of_length_le hk] at h
  cases h
  rfl
theorem dec_mark {d : List UInt8} {k : Nat} {acc : List UInt8} {res} (hk : k < d.length) (h : Dec (d.drop k) k acc res) (hb : (d.getD k 0).toNat = 128) : res = .ok acc := by
  have e := drop_cons hk
  generalize d.drop k = sfx at h e
  cases h with
  | done => cases e
  | stop => rfl
  | row b r _ _ _ h1 => injection e with e1; rw [e1] at h1; omega
  | short b r _ _ h1 => injection e with e1; rw [e1] at h1; omega
  | run b y r _ _ _ h1 => injection e with e1; rw [e1] at h1; omega
  | cut b _ _ h1 => injection e with e1; rw [e1] at h1; omega
theorem dec_row {d : List UInt8} {k : Nat} {acc : List UInt8} {res} (hk : k < d.length) (h : Dec (d.drop k) k acc res) (hb : (d.getD k 0).toNat < 128)
    (hl : (d.getD k 0).toNat < ((d.drop (k + 1)).take ((d.getD k 0).toNat + 1)).length) :
    Dec (d.drop (k + 2 + (d.getD k 0).toNat)) (k + 2 + (d.getD k 0).toNat) (acc ++ (d.drop (k + 1)).take ((d.getD k 0).toNat + 1)) res := by
  have e := drop_cons hk
  rw [List.length_take] at hl
  generalize hs : d.drop k = sfx at h e
  cases h with
  | done => cases e
  | stop => injection e with e1; rw [← e1] at hb; simp at hb
  | row b r _ _ _ h1 h2 h3 =>
    injection e with e1 e2
    subst e2
    rw [e1] at h3
    rw [List.drop_drop] at h3
    rwa [show k + 1 + ((d.getD k 0).toNat + 1) = k + 2 + (d.getD k 0).toNat by omega] at h3
  | short b r _ _ h1 h2 => injection e with e1 e2; subst e2; rw [e1] at h2; omega
  | run b y r _ _ _ h1 => injection e with e1; rw [e1] at h1; omega
  | cut b _ _ h1 => injection e with e1; rw [e1] at h1; omega
theorem dec_short {d : List UInt8} {k : Nat} {acc : List UInt8} {res} (hk : k < d.length) (h : Dec (d.drop k) k acc res) (hb : (d.getD k 0).toNat < 128)
    (hl : ((d.drop (k + 1)).take ((d.getD k 0).toNat + 1)).length ≤ (d.getD k 0).toNat) : res = .error k := by
  have e := drop_cons hk
  rw [List.length_take] at hl
  generalize hs : d.drop k = sfx at h e
  cases h with
  | done => cases e
  | stop => injection e with e1; rw [← e1] at hb; simp at hb
  | row b r _ _ _ h1 h2 h3 => injection e with e1 e2; subst e2; rw [e1] at h2; omega
  | short b r _ _ h1 h2 => rfl
  | run b y r _ _ _ h1 => injection e with e1; rw [e1] at h1; omega
  | cut b _ _ h1 => rfl
theorem dec_run {d : List UInt8} {k : Nat} {acc : List UInt8} {res} (hk : k < d.length) (h : Dec (d.drop k) k acc res) (hb : 128 < (d.getD k 0).toNat) (hl : k + 1 ≠ d.length) :
    Dec (d.drop (k + 2)) (k + 2) (acc ++ List.replicate (257 - (d.getD k 0).toNat) (d.getD (k + 1) 0)) res := by
  have e := drop_cons hk
  rw [drop_cons (k := k + 1) (by omega)] at e
  generalize hs : d.drop k = sfx at h e
  cases h with
  | done => cases e
  | stop => injection e with e1; rw [← e1] at hb; simp at hb
  | row b r _ _ _ h1 => injection e with e1; rw [e1] at h1; omega
  | short b r _ _ h1 => injection e with e1; rw [e1] at h1; omega
  | run b y r _ _ _ h1 h2 =>
    injection e with e1 e2
    injection e2 with e2 e3
    subst e3
    rwa [e1, e2] at h2
  | cut b _ _ h1 => injection e with e1 e2; cases e2
theorem dec_cutoff {d : List UInt8} {k : Nat} {acc : List UInt8} {res} (hk : k < d.length) (h : Dec (d.drop k) k acc res) (hb : 128 < (d.getD k 0).toNat) (hl : k + 1 = d.length) : res = .error k := by
  have e := drop_cons hk
  rw [List.drop_of_length_le (i := k + 1) (by omega)] at e
  generalize hs : d.drop k = sfx at h e
  cases h with
  | done => cases e
  | stop => injection e with e1; rw [← e1] at hb; simp at hb
  | row b r _ _ _ h1 => injection e with e1; rw [e1] at h1; omega
  | short b r _ _ h1 => rfl
  | run b y r _ _ _ h1 h2 => injection e with e1 e2; cases e2
  | cut b _ _ h1 => rfl
end Mine
open PySem PySem.W PyProof.Rows
namespace Mine
set_option maxRecDepth 100000
set_option maxHeartbeats 8000000
open_top hd for PySem.Challenge.rw_pq0803_01
end Mine
namespace Mine
theorem rs_MBase : True := by w_top off; trivial
noncomputable abbrev PG : PySem.Program := PySem.Challenge.rw_pq0803_01.row.prog
noncomputable abbrev LO : List Str := looseW hd.view_39 [Str.ofString "PaperError"]
noncomputable def MStop (P : Prop) : Prop := P
theorem mstop {P : Prop} (h : MStop P) : P := h
theorem mgo {P : Prop} (h : P) : MStop P := h
noncomputable abbrev ub (l : List UInt8) : List Int := l.map fun b => (b.toNat : Int)
theorem of_allLt {d : Addr} : ∀ {l : List (Addr × Obj)}, AllLt d l → ∀ p ∈ l, p.1 < d
  | [], _, _, hp => nomatch hp
  | q :: r, h, p, hp => by
    rcases List.mem_cons.mp hp with rfl | hp
    · exact h.1
    · exact of_allLt h.2 p hp
theorem news_drop {h₀ h : Heap} {L : Addr} {news news' : List (Addr × Obj)} (N : News h₀ L h news') (hs : ∀ p ∈ news, p ∈ news') : News h₀ L h news := fun p hp => N p (hs p hp)
theorem ub_row {os : List UInt8} (hne : os ≠ []) (h : os.length ≤ 128) : [((ub os).length : Int) - 1] ++ ub os = ub (rowCodes os) := by
  have h1 : 1 ≤ os.length := by cases os with
    | nil => exact absurd rfl hne
    | cons x r => simp
  have hn := u8_small (n := os.length - 1) (by omega)
  simp only [rowCodes, if_neg hne, List.map_cons, List.cons_append, List.nil_append, List.length_map, hn]
  congr 1
  omega
section
variable {prog : Program} {w : World} {A : Around} {E : Value → Shared → Prop} {s : Shared} {h₀ h : Heap} {L D b : Addr} {m : Str → Option Value} {news news' : List (Addr × Obj)} {g : Obj → List (Addr × Obj)}
  {vs ws : List Value} {ns ms : List Int} {n n2 : Nat} {Q : Value → Shared → Prop}
theorem app_ints {x : Int} {u : Tok} (F : Fr h₀ L s.heap m) (N : News h₀ L s.heap news) (U : Upd D (listOf vs.toArray n) (listOf (vs ++ [Value.int x u]).toArray (n + 1)) news news') (hi : IntsAre vs ns) (hsz : ns.length ≤ 1000000)
    (h : ∀ h', Fr h₀ L h' m → News h₀ L h' news' → IntsAre (vs ++ [Value.int x u]) (ns ++ [x]) → Q .none { s with heap := h' }) : wpAny (model prog w) A (call (.builtin "list.append") [.ref D, .int x u]) Q E s := by
  refine append_K (n := n) (its := vs.toArray) F N (news' := news') ?_ (fun h' F' N' => h h' F' N' (hi.append (.cons _ _ .nil))) (by rw [List.size_toArray, hi.length, sizeLine_eq]; omega)
  rw [List.push_toArray]
  exact U
theorem ext_ints (F : Fr h₀ L s.heap m) (N : News h₀ L s.heap news) (U : UpdF D (listOf vs.toArray n) news g) (hb : (b, listOf ws.toArray n2) ∈ news) (hi : IntsAre vs ns) (hj : IntsAre ws ms) (hsz : ns.length + ms.length ≤ 1000000)
    (h : ∀ h' n', Fr h₀ L h' m → News h₀ L h' (g (listOf (vs ++ ws).toArray n')) → IntsAre (vs ++ ws) (ns ++ ms) → Q .none { s with heap := h' }) : wpAny (model prog w) A (call (.builtin "list.extend") [.ref D, .ref b]) Q E s := by
  obtain ⟨own, rest, rfl, hg, h1, h2⟩ := U.split
  refine extend_in_ints F N h1 h2 (N.get hb) hi (by simpa using hj) (fun h' n' F' N' i' => h h' n' F' ?_ i') (by rw [List.size_toArray, hi.length, hj.length, sizeLine_eq]; omega)
  rw [hg]
  exact N'
end
/-- a list of ints is a list of octets -/
inductive OctL : List Int → List UInt8 → Prop
  | ub (os) : OctL (ub os) os
  | nil : OctL [] []
  | one (b : UInt8) {r x} : OctL r x → OctL ((b.toNat : Int) :: r) (b :: x)
  | c128 {r x} : OctL r x → OctL (128 :: r) (128 :: x)
  | c255 {r x} : OctL r x → OctL (255 :: r) (255 :: x)
  | app {a b x y} : OctL a x → OctL b y → OctL (a ++ b) (x ++ y)
theorem OctL.eq {ns : List Int} {os : List UInt8} (h : OctL ns os) : ns = Mine.ub os := by
  induction h with
  | ub => rfl
  | nil => rfl
  | one b _ ih => simp [ih]
  | c128 _ ih => simp [ih]
  | c255 _ ih => simp [ih]
  | app _ _ ih1 ih2 => simp [ih1, ih2]
section
variable {prog : Program} {w : World} {A : Around} {E : Value → Shared → Prop} {s : Shared} {h₀ h : Heap} {L D b : Addr} {m : Str → Option Value} {news news' : List (Addr × Obj)}
  {vs ws : List Value} {ns ms : List Int} {os : List UInt8} {n n2 : Nat} {Q : Value → Shared → Prop}
theorem ub_back (os : List UInt8) : ((ub os).map fun n => n.toNat.toUInt8) = os := by
  induction os with
  | nil => rfl
  | cons b r ih =>
    simp only [List.map_cons, List.cons.injEq] at ih ⊢
    refine ⟨?_, by simpa using ih⟩
    apply UInt8.toNat_inj.mp
    have := b.toNat_lt
    simp
theorem bytes_octs (F : Fr h₀ L s.heap m) (N : News h₀ L s.heap news) (hl : s.heap.IsList D vs.toArray) (hi : IntsAre vs ns) (ho : OctL ns os) (hz : ns.length ≤ 1000000) (hh : A.handled = none)
    (h : ∀ h' t k, Fr h₀ L h' m → News h₀ L h' news → Q (.bytes os.toArray t) { s with heap := h', toks := k }) : wpAny (model prog w) A (call (.type "bytes") [.ref D]) Q E s := by
  obtain rfl := ho.eq
  refine bytes_K F N hl hi (fun n hn => ?_) (by rw [hi.length, sizeLine_eq]; omega) hh (fun h' t k F' N' _ => ?_)
  · obtain ⟨b, _, rfl⟩ := List.mem_map.mp hn
    have := b.toNat_lt
    omega
  · rw [ub_back]
    exact h h' t k F' N'
end
theorem ub_run {ec rc : List UInt8} {x : UInt8} {c : Nat} (h : c ≤ 128) (h1 : 2 ≤ c) : ub ec ++ (ub rc ++ [257 - (c : Int), (x.toNat : Int)]) = ub (ec ++ (rc ++ [UInt8.ofNat (257 - c), x])) := by
  have hn := u8_small (n := 257 - c) (by omega)
  simp only [List.map_append, List.map_cons, List.map_nil, hn]
  congr 4
  omega
theorem ub_app (a b : List UInt8) : ub a ++ ub b = ub (a ++ b) := by simp
theorem ub_snoc (a : List UInt8) (x : UInt8) : ub a ++ [(x.toNat : Int)] = ub (a ++ [x]) := by simp
/-! looks at a goal's form, one step each -/
section
variable {M : Model} {A : Around} {Q E : Value → Shared → Prop} {s : Shared}
theorem gC (n : Nat) {as : List Value} {kw : List (PySem.Str × Value)} (h : wpAny M A (call (.ref n) as kw) Q E s) : wpAny M A (call (.ref n) as kw) Q E s := h
theorem gBr {f : String} {a b : Addr} (h : wpAny M A (call (.builtin f) [.ref a, .ref b]) Q E s) : wpAny M A (call (.builtin f) [.ref a, .ref b]) Q E s := h
theorem gBi {f : String} {a : Addr} {i : Int} {t : Tok} (h : wpAny M A (call (.builtin f) [.ref a, .int i t]) Q E s) : wpAny M A (call (.builtin f) [.ref a, .int i t]) Q E s := h
theorem gTr {f : String} {a : Addr} (h : wpAny M A (call (.type f) [.ref a]) Q E s) : wpAny M A (call (.type f) [.ref a]) Q E s := h
theorem gTb {f : String} {b : Array UInt8} {t : Tok} (h : wpAny M A (call (.type f) [.bytes b t]) Q E s) : wpAny M A (call (.type f) [.bytes b t]) Q E s := h
theorem gAdd {b c : Array UInt8} {t u : Tok} (h : wpAny M A (binaryOp .Add (.bytes b t) (.bytes c u)) Q E s) : wpAny M A (binaryOp .Add (.bytes b t) (.bytes c u)) Q E s := h
theorem gNe {b c : Addr} (h : wpAny M A (compareOp .NotEq (.ref b) (.ref c)) Q E s) : wpAny M A (compareOp .NotEq (.ref b) (.ref c)) Q E s := h
theorem gIt {prog : Program} {w : World} {B : Around} {h₀ : Heap} {env : Env} {x : PySem.Str} {body : List Stmt} {R : Flow → Shared → Prop} {F : Value → Shared → Prop} {a : Addr} (h : wpAny M A (pyIter (.ref a)) (fun it s₂ => LoopAtV prog w B h₀ env x body R F it s₂) E s) : wpAny M A (pyIter (.ref a)) (fun it s₂ => LoopAtV prog w B h₀ env x body R F it s₂) E s := h
theorem gLen {a : Addr} (h : wpAny M A (call (.builtin "len") [.ref a]) Q E s) : wpAny M A (call (.builtin "len") [.ref a]) Q E s := h
theorem gSb {value slice : PySem.Expr} {l : List UInt8} {t : Tok} {a : Addr} (h : wpAny M A (subscriptTail value slice (.bytes (List.toArray l) t) (.ref a)) Q E s) : wpAny M A (subscriptTail value slice (.bytes (List.toArray l) t) (.ref a)) Q E s := h
theorem gSi {value slice : PySem.Expr} {a : Addr} {i : Int} {t : Tok} (h : wpAny M A (subscriptTail value slice (.ref a) (.int i t)) Q E s) : wpAny M A (subscriptTail value slice (.ref a) (.int i t)) Q E s := h
end
section
variable {prog : Program} {w : World} {A : Around} {E : Value → Shared → Prop} {Q : Flow → Shared → Prop} {s : Shared} {env : Env} {h₀ : Heap} {L : Addr}
theorem ksw_h {σ : Type} {test : PySem.Expr} {body : List Stmt} {pos : Pos} {m₀ : Str → Option Value} (Led : σ → List (Addr × Obj)) (ps : σ → List (Str × Value)) (Facts : σ → Prop) (stored : List Str) (P : σ → Prop) (μ : σ → Nat) (c₀ : σ)
    (F : Fr h₀ L s.heap m₀) (N : News h₀ L s.heap (Led c₀)) (hf : Facts c₀) (hk : ∀ p ∈ ps c₀, m₀ p.1 = some p.2) (hp : P c₀)
    (turn : ∀ (K : Flow → Shared → Prop) (c : σ), K = KswPost h₀ L s Led ps Facts stored m₀ P μ Q c → ∀ (u : Str → Option Value) h tk, Facts c → P c → Fr h₀ L h (kstB (fun z => if stored.contains z then u z else m₀ z) (ps c)) → News h₀ L h (Led c) →
      wpAny (model prog w) A (isTrue test env (eval test env)) (fun b s₂ =>
        if b = true then wpAny (model prog w) A (execs body env) K E s₂ else Q .next s₂) E { s with heap := h, toks := tk })
    (hE : PassesOwn (model prog w) A env E := by passes_own) :
    wpAny (model prog w) A (exec (.While test body [] pos) env) Q E s := ksw_while Led ps Facts stored P μ c₀ F N hf hk hp (fun c => turn _ c rfl) hE
end
section
variable {σ : Type} {h₀ : Heap} {L : Addr} {s s₂ : Shared} {Led : σ → List (Addr × Obj)} {ps : σ → List (Str × Value)} {Facts : σ → Prop} {stored : List Str} {m₀ : Str → Option Value} {P : σ → Prop} {μ : σ → Nat} {K Q : Flow → Shared → Prop} {c : σ}
theorem kpn (hK : K = KswPost h₀ L s Led ps Facts stored m₀ P μ Q c) (h : KswEnd h₀ L s Led ps Facts stored m₀ P μ c s₂) : K .next s₂ := hK ▸ h
theorem kpr (hK : K = KswPost h₀ L s Led ps Facts stored m₀ P μ Q c) {v : Value} (h : Q (.ret v) s₂) : K (.ret v) s₂ := hK ▸ h
theorem kpb (hK : K = KswPost h₀ L s Led ps Facts stored m₀ P μ Q c) (h : Q .next s₂) : K .brk s₂ := hK ▸ h
end
theorem pr3 {α β γ : Type} {p : α × β × γ → Prop} (h : ∀ a b c, p (a, b, c)) : ∀ x, p x := fun ⟨a, b, c⟩ => h a b c
theorem pr5 {α β γ δ ε : Type} {p : α × β × γ × δ × ε → Prop} (h : ∀ a b c d e, p (a, b, c, d, e)) : ∀ x, p x := fun ⟨a, b, c, d, e⟩ => h a b c d e
theorem pr23 {α β γ δ ε : Type} {p : (α × β) × (γ × δ × ε) → Prop} (h : ∀ a b c d e, p ((a, b), (c, d, e))) : ∀ x, p x := fun ⟨⟨a, b⟩, ⟨c, d, e⟩⟩ => h a b c d e
theorem pr24 {α β γ δ ε ζ : Type} {p : (α × β) × (γ × δ × ε × ζ) → Prop} (h : ∀ a b c d e f, p ((a, b), (c, d, e, f))) : ∀ x, p x := fun ⟨⟨a, b⟩, ⟨c, d, e, f⟩⟩ => h a b c d e f
end Mine
local macro_rules | `(tactic| walk_at "dup 0") => `(tactic| repeat' (first | (k_unfold; (try dsimp only)) | walk1 | (dsimp only; walk1)))
namespace Mine
theorem rs_MRunAt : True := by w_top off; trivial
set_option maxRecDepth 100000
set_option maxHeartbeats 8000000
section
local macro_rules | `(tactic| k_steps) => `(tactic| walk_at "dup 0")
local macro_rules | `(tactic| walk_at "exec While") => `(tactic| (refine mstop ?_))
theorem run_at_spec {w : World} {mean : ExcName → Option Value} {mg mb : Str → Option Value}
    {dp un : Nat} {gd : Option (List Code)} {cn : Str} {cs : Scope} {a : Addr} {ccd : Value} {cl : List (Str × Addr)} {outer : List Env} {A₀ : Around} {base h₀ : Heap} {L : Addr} {m : Str → Option Value} {news : List (Addr × Obj)} {s : Shared}
    {Q E : Value → Shared → Prop} {bs : List UInt8} {tb ta : Tok} {k : Nat}
    (B : Below A₀ base outer h₀) (F : Fr h₀ L s.heap m) (X : (hd.heap_39 w.params).In h₀) (N : News h₀ L s.heap news) (T : Top hd.view_39 LO mean mg mb h₀)
    (hk : cs.kind = .function) (hdp : dp + 1 < recursionLimit) (hun : un + 200 < cLine) (hkb : k < bs.length) (hsz : bs.length ≤ 1000000)
    (ret : ∀ t h' tk, Fr h₀ L h' m → News h₀ L h' news → Q (.int (runLen (bs.drop k)) t) { s with heap := h', toks := tk }) :
    wpAny (model PG w) (ktrTop dp un gd cn cs L a ccd cl outer) (call (.ref 68) [.bytes bs.toArray tb, .int (k : Int) ta]) Q E s := by
  have zz0 : (PySem.Challenge.rw_pq0803_01 = PySem.Challenge.rw_pq0803_01) ∧ hd.heap_39 = hd.heap_39 := by k_fill; exact ⟨rfl, rfl⟩
  refine wpAny_call ?_
  k_dflt ktr_enter
  k_steps
  refine mgo ?_
  rename Fr _ _ _ _ => F1
  rename News _ _ _ _ => N1
  refine' ksw_h (σ := Nat × Tok) (fun _ => news) (fun c => [(Str.ofString "count", .int (c.1 : Int) c.2)]) (fun _ => True) [] (fun c => 1 ≤ c.1 ∧ c.1 ≤ 128 ∧ k + c.1 ≤ bs.length ∧ ∀ i, i < c.1 → bs[k + i]? = bs[k]?) (fun c => 128 - c.1) (1, _) F1 N1 trivial ?ka ?kb ?kc
  case ka =>
    intro p hp
    rw [List.mem_singleton.mp hp]
    rfl
  case kb => exact ⟨by omega, by omega, by omega, fun i hi => by rw [show i = 0 by omega]; rfl⟩
  case kc =>
    clear F1 N1
    rintro K9 ⟨c, t⟩ hK9 u h tk _ ⟨h1, h2, h3, h4⟩ F2 N2
    dsimp only at h1 h2 h3 h4 F2 N2
    k_steps
    · rename_i e _ _ F3 N3
      have hlt : k + c < bs.length := by simp only [List.size_toArray] at *; omega
      refine kpn hK9 ?_
      refine' ksw_end (c + 1, _) F3 N3 (fun p hp => hp) trivial ?ka ?kb ?kc ?kd
      case ka =>
        intro p hp
        rw [List.mem_singleton.mp hp]
        rfl
      case kb =>
        intro z h2 h3
        simp only [List.forall_mem_cons, List.not_mem_nil, false_implies, implies_true, and_true, ne_eq] at h2
        simp [kstB, h2]
      case kd => dsimp only; omega
      case kc =>
        dsimp only
        refine ⟨by omega, by omega, by omega, fun i hi => ?_⟩
        by_cases hi' : i = c
        · subst hi'
          rename_i e2 _ _
          have e0 : ((bs.getD ((k : Int) + (i : Int)).toNat 0).toNat : Int) = ((bs.getD (k : Int).toNat 0).toNat : Int) := by assumption
          rw [show ((k : Int) + (i : Int)).toNat = k + i by omega, show (k : Int).toNat = k by omega, getD_iff hlt hkb] at e0
          exact e0
        · exact h4 i (by omega)
    · have hlt : (k : Int) + (c : Int) < (bs.toArray.size : Int) := by assumption
      have e0 : ((bs.getD ((k : Int) + (c : Int)).toNat 0).toNat : Int) ≠ ((bs.getD (k : Int).toNat 0).toNat : Int) := by assumption
      simp only [List.size_toArray] at hlt
      have hlt' : k + c < bs.length := by omega
      rw [show ((k : Int) + (c : Int)).toNat = k + c by omega, show (k : Int).toNat = k by omega, ne_eq, getD_iff hlt' hkb] at e0
      rw [show (c : Int) = ((runLen (bs.drop k) : Nat) : Int) by rw [run_stop hkb h1 h2 h4 (.inr e0)]]
      exact ret _ _ _ (by assumption) (by assumption)
    · have hlt : ¬ ((k : Int) + (c : Int) < (bs.toArray.size : Int)) := by assumption
      simp only [List.size_toArray] at hlt
      rw [show (c : Int) = ((runLen (bs.drop k) : Nat) : Int) by rw [run_stop hkb h1 h2 h4 (.inr (by rw [List.getElem?_eq_none (by omega), List.getElem?_eq_getElem hkb]; simp))]]
      exact ret _ _ _ (by assumption) (by assumption)
    · rw [show (c : Int) = ((runLen (bs.drop k) : Nat) : Int) by rw [run_stop hkb h1 h2 h4 (.inl (by omega))]]
      exact ret _ _ _ (by assumption) (by assumption)
end
end Mine
namespace Mine
theorem rs_MListB : True := by w_top off; trivial
set_option maxRecDepth 100000
set_option maxHeartbeats 8000000
/-! list(data) of bytes -/
theorem bytes_len_look : typeLookup (.type "bytes") "__len__" = pure (some (.builtin "bytes.__len__")) := by rw [typeLookup_type, builtinLookup_eq_fast]; kernel_rfl
noncomputable abbrev ByteAt (b : Array UInt8) (i : Nat) (v : Value) : Prop := ∃ c u, b[i]? = some c ∧ v = .int (c.toNat : Int) u
section
variable {prog : Program} {w : World} {A : Around} {E : Value → Shared → Prop} {s : Shared}
theorem extend_bytes {R : Result → Shared → Prop} (hh : A.handled = none) (b : Array UInt8) (t : Tok) (S : Addr) (res : Value) (c₀ : Nat) (hS : s.heap.get? S = some { cls := .type "list", data := .seq #[] c₀ })
    (hR : ∀ h' tk acc' c', (∀ a o, a ≠ S → s.heap.get? a = some o → h'.get? a = some o) → h'.get? S = some { cls := .type "list", dict := none, data := .seq acc' c', slots := #[] } →
      ItemsOf (ByteAt b) acc' b.size → R (.ok (.ret res)) { s with heap := h', toks := tk }) (hn : b.size ≤ sizeLine) :
    wpAny (model prog w) A.in1 (Builtin.List.listExtendWith (.ref S) (.bytes b t) res)
      (fun fin s' => match fin with | .done f => R (.ok f) s' | .again c' => c'.quiet = true ∧ codeAny (model prog w) A c' R s') (fun e s' => R (.error e) s') s := by
  have hSI : S ≠ s.heap.objs.size := Nat.ne_of_lt (Heap.lt_size hS)
  have hSf : S ∉ [s.heap.objs.size] := fun hm => hSI (List.mem_singleton.mp hm)
  unfold Builtin.List.listExtendWith
  refine wpAny_bind (wpAny_typeOf (T := "bytes") (v := .bytes b t) rfl ?_)
  have h1 : Builtin.List.listSameRef (.ref S) (.bytes b t) = false := rfl
  have h2 : (Value.type "bytes" == Value.type "list") = false := by decide
  have h3 : (Value.type "bytes" == Value.type "tuple") = false := by decide
  simp only [h1, h2, h3, Bool.or_false, Bool.false_eq_true, if_false]
  refine wpAny_bind (KBw.pyIter_bytes ?_)
  refine wpAny_bind (wpAny_holding ?_)
  unfold Builtin.List.listLengthHint
  refine wpAny_bind (wpAny_specialOf (T := "bytes") (v := .bytes b t) rfl bytes_len_look ?_)
  wp_delta
  refine wpAny_bind (wpAny_isInstance (T := "bytes") (v := .bytes b t) (b := true) rfl (by rw [isSubtype_type]; kernel_rfl) ?_)
  show wpAny _ _ (typeOf (Value.bytes b t) >>= _) _ _ _
  refine wpAny_bind (wpAny_typeOf (T := "bytes") (v := .bytes b t) rfl ?_)
  refine wpAny_pure ?_
  rw [if_neg (by decide)]
  have hst : KBw.IsBytesIter (s.heap.push { cls := .type "bytes_iterator", data := .fields #[.bytes b t, .int 0 0] }) s.heap.objs.size b t 0 := ⟨_, Heap.get?_push_size _ rfl, rfl, rfl⟩
  refine wpAny_pure ⟨plainId_quiet F.plain_extend_loop _, codeAny_extend_loopS (KBw.walks (A := A.in1) hh s.heap.objs.size b t).toS hn _ hSf _ b.size 0 _ _ _ rfl (Nat.zero_le _) hst (Heap.get?_push_of_some _ hS) (ItemsOf.nil _) fun s' acc' c' hm hS' hacc => ?_⟩
  rw [Moved.eq_with hm]
  refine hR s'.heap s'.toks acc' c' (fun b ob hb e => hm.heap b ob (fun hmem => ?_) (Heap.get?_push_of_some _ e)) hS' hacc
  rcases List.mem_cons.mp hmem with e' | hmem
  · exact hb e'
  · exact absurd (Heap.lt_size e) (by rw [List.mem_singleton.mp hmem]; exact Nat.lt_irrefl _)
theorem list_init_bytes {R : Result → Shared → Prop} (hh : A.handled = none) (b : Array UInt8) (t : Tok) (S : Addr) (hS : s.heap.get? S = some { cls := .type "list", data := .seq #[] })
    (hR : ∀ h' tk acc' c', (∀ b o, b ≠ S → s.heap.get? b = some o → h'.get? b = some o) → h'.get? S = some { cls := .type "list", dict := none, data := .seq acc' c', slots := #[] } →
      ItemsOf (ByteAt b) acc' b.size → R (.ok (.ret .none)) { s with heap := h', toks := tk }) (hn : b.size ≤ sizeLine) :
    wpAny (model prog w) A.in1 (Builtin.«list.__init__» ⟨[.ref S, .bytes b t], []⟩)
      (fun fin s' => match fin with | .done f => R (.ok f) s' | .again c' => c'.quiet = true ∧ codeAny (model prog w) A c' R s') (fun e s' => R (.error e) s') s := by
  show wpAny _ _ (do let old ← Builtin.List.listItems (.ref S); Builtin.List.listUpdate (.ref S) (fun _ => #[]); letGo old.toList.reverse; Builtin.List.listExtendWith (.ref S) (.bytes b t) .none) _ _ s
  refine wpAny_bind ?_
  unfold Builtin.List.listItems
  refine wpAny_bind (wpAny_seqItems hS rfl (wpAny_pure ?_))
  show wpAny _ _ (updateSeq S (fun _ => #[]) >>= fun _ => letGo (#[] : Array Value).toList.reverse >>= fun _ => Builtin.List.listExtendWith (.ref S) (.bytes b t) .none) _ _ s
  refine wpAny_bind (wpAny_updateSeq hS rfl ?_)
  have hS₂ := Heap.get?_update_self (Obj.mapSeq (fun _ => (#[] : Array Value))) hS rfl
  have oth : ∀ b o, b ≠ S → s.heap.get? b = some o → (s.heap.update S (Obj.mapSeq (fun _ => (#[] : Array Value)))).get? b = some o :=
    fun b o hb e => (Heap.get?_update_other _ _ (Ne.symm hb)).trans e
  refine wpAny_bind (wpAny_letGo ?_)
  refine extend_bytes (hn := hn) hh b t S .none _ hS₂ fun h' tk acc' c' hk hS' hacc => ?_
  exact hR h' tk acc' c' (fun b o hb e => hk b o hb (oth b o hb e)) hS' hacc
theorem ints_of_bytes : ∀ (d : List UInt8) (vs : List Value), vs.length = d.length → (∀ j v, vs[j]? = some v → ByteAt d.toArray j v) → IntsAre vs (ub d)
  | [], [], _, _ => .nil
  | c :: d, v :: vs, hl, h => by
    obtain ⟨c', u, hc, rfl⟩ := h 0 v rfl
    obtain rfl : c = c' := by simpa using hc
    refine .cons _ _ (ints_of_bytes d vs (by simpa using hl) fun j v hv => ?_)
    obtain ⟨c', u, hc, rfl⟩ := h (j + 1) v (by simpa using hv)
    exact ⟨c', u, by simpa using hc, rfl⟩
  | [], _ :: _, hl, _ => by simp at hl
  | _ :: _, [], hl, _ => by simp at hl
theorem list_bytes_K {h₀ : Heap} {L : Addr} {m : Str → Option Value} {news : List (Addr × Obj)} {Q : Value → Shared → Prop} {d : List UInt8} {t : Tok} (F : Fr h₀ L s.heap m) (N : News h₀ L s.heap news) (hh : A.handled = none) (hn : d.length ≤ 1000000)
    (h : ∀ D vs n h' tk, Fr h₀ L h' m → News h₀ L h' ((D, listOf (List.toArray vs) n) :: news) → (∀ p ∈ news, p.1 < D) → IntsAre vs (ub d) → Q (.ref D) { s with heap := h', toks := tk }) :
    wpAny (model prog w) A (call (.type "list") [.bytes d.toArray t]) Q E s := by
  refine callType_codes (Q₁ := fun obj s₁ => obj = .ref s.heap.objs.size ∧ s₁ = { s with heap := s.heap.push { cls := .type "list", data := .seq #[] } }) PySem.F.called_list (PySem.F.typeCall_list_1 _) PySem.F.entry_list_init
    (code_list_new _ ⟨rfl, rfl⟩) fun obj s₁ h₁ => ?_
  obtain ⟨rfl, rfl⟩ := h₁
  have hS : (s.heap.push { cls := .type "list", data := .seq #[] }).get? s.heap.objs.size = some { cls := .type "list", data := .seq #[] } := Heap.get?_push_size _ rfl
  refine ⟨⟨_, hS, rfl⟩, PySem.F.args_list_init_2 _ _, list_init_bytes (A := A.in1) hh d.toArray t _ hS (fun h' tk acc' c' hk hS' hacc => ?_) (by rw [List.size_toArray, sizeLine_eq]; omega)⟩
  have hk' : ∀ b o, s.heap.get? b = some o → h'.get? b = some o := fun b o e => hk b o (Nat.ne_of_lt (Heap.lt_size e)) (Heap.get?_push_of_some _ e)
  refine ⟨rfl, h _ acc'.toList c' h' tk (Fr.keeps F hk') (news_pushed F N hk' (by simpa using hS') rfl) (fun p hp => Heap.lt_size (N p hp).1) (ints_of_bytes d _ (by simpa using hacc.1) fun j v hv => hacc.2 j v (by simpa using hv))⟩
end
/-! cuts of bytes -/
theorem cut_octs (d : List UInt8) (a c : Nat) : (d.drop (min a d.length)).take (min c d.length - min a d.length) = (d.drop a).take (c - a) := by
  by_cases ha : a ≤ d.length
  · rw [Nat.min_eq_left ha]
    by_cases hc : c ≤ d.length
    · rw [Nat.min_eq_left hc]
    · rw [Nat.min_eq_right (by omega), List.take_of_length_le (by simp), List.take_of_length_le (by simp; omega)]
  · rw [Nat.min_eq_right (by omega : d.length ≤ a), List.drop_of_length_le (Nat.le_refl _), List.drop_of_length_le (by omega)]; simp
section
variable {prog : Program} {w : World} {A : Around} {E : Value → Shared → Prop} {s : Shared} {value slice : PySem.Expr} {d : List UInt8} {t t1 t2 : Tok} {h₀ : Heap} {L : Addr} {m : PySem.Str → Option Value} {news : List (Addr × Obj)} {lo hi : Int} {Q : Value → Shared → Prop}
theorem slice_octs (F : Fr h₀ L s.heap m) (N : News h₀ L s.heap news) (h0 : 0 ≤ lo) (h1 : 0 ≤ hi) (hz : d.length ≤ 1000000)
    (h : ∀ h' t' k, Fr h₀ L h' m → News h₀ L h' news → Q (.bytes ((d.drop lo.toNat).take (hi.toNat - lo.toNat)).toArray t') { s with heap := h', toks := k })
    (hs : subscripted slice false (.bytes d.toArray t) (.ref s.heap.objs.size) = operate [.ref s.heap.objs.size, .bytes d.toArray t] (getItem (.bytes d.toArray t) (.ref s.heap.objs.size)))
    (ht : ∀ r, letTemporaryGo value (.bytes d.toArray t) r = pure ()) :
    wpAny (model prog w) A (subscriptTail value slice (.bytes d.toArray t) (.ref s.heap.objs.size)) Q E { s with heap := s.heap.push { cls := .type "slice", data := .fields #[.int lo t1, .int hi t2, .none] } } := by
  refine KBc.slice_K (lo := some lo) (hi := some hi) F N rfl (IsPart.int _ _) (IsPart.int _ _) (by rw [KBw.ints_length, List.size_toArray]; omega) (fun h' t' k F' N' _ => ?_) hs ht
  have e : KBy.picked d.toArray (some lo) (some hi) = ((d.drop lo.toNat).take (hi.toNat - lo.toNat)).toArray := by
    rw [KBc.picked_eq]
    obtain ⟨a, rfl⟩ := Int.eq_ofNat_of_zero_le h0
    obtain ⟨c, rfl⟩ := Int.eq_ofNat_of_zero_le h1
    simp only [Option.elim, clipAt_nat, List.size_toArray, Int.toNat_natCast]
    rw [cut_octs]
  rw [e]
  exact h h' t' k F' N'
theorem slice_upto (F : Fr h₀ L s.heap m) (N : News h₀ L s.heap news) (h1 : 0 ≤ hi) (hz : d.length ≤ 1000000)
    (h : ∀ h' t' k, Fr h₀ L h' m → News h₀ L h' news → Q (.bytes (d.take hi.toNat).toArray t') { s with heap := h', toks := k })
    (hs : subscripted slice false (.bytes d.toArray t) (.ref s.heap.objs.size) = operate [.ref s.heap.objs.size, .bytes d.toArray t] (getItem (.bytes d.toArray t) (.ref s.heap.objs.size)))
    (ht : ∀ r, letTemporaryGo value (.bytes d.toArray t) r = pure ()) :
    wpAny (model prog w) A (subscriptTail value slice (.bytes d.toArray t) (.ref s.heap.objs.size)) Q E { s with heap := s.heap.push { cls := .type "slice", data := .fields #[.none, .int hi t2, .none] } } := by
  refine KBc.slice_K (lo := none) (hi := some hi) F N rfl IsPart.none (IsPart.int _ _) (by rw [KBw.ints_length, List.size_toArray]; omega) (fun h' t' k F' N' _ => ?_) hs ht
  have e : KBy.picked d.toArray none (some hi) = (d.take hi.toNat).toArray := by
    rw [KBc.picked_eq]
    obtain ⟨c, rfl⟩ := Int.eq_ofNat_of_zero_le h1
    simp only [Option.elim, clipAt_nat, List.size_toArray, Int.toNat_natCast, List.drop_zero, Nat.sub_zero]
    by_cases hc : c ≤ d.length
    · rw [Nat.min_eq_left hc]
    · rw [Nat.min_eq_right (by omega), List.take_of_length_le (Nat.le_refl _), List.take_of_length_le (by omega)]
  rw [e]
  exact h h' t' k F' N'
end
theorem len_octs {prog : Program} {w : World} {A : Around} {h₀ : Heap} {L D : Addr} {news : List (Addr × Obj)} {s : Shared} {Q E : Value → Shared → Prop} {vs : List Value} {ns : List Int} {n : Nat} (N : News h₀ L s.heap news) (hm : (D, listOf vs.toArray n) ∈ news) (hi : IntsAre vs ns) (hz : ns.length ≤ 1000000)
    (h : Q (.int (ns.length : Nat) (s.toks + 1)) { s with toks := s.toks + 1 + 1 }) : wpAny (model prog w) A (call (.builtin "len") [.ref D]) Q E s :=
  KM.len_K N hm (by rw [List.size_toArray]; exact hi.length) (by omega) h
end Mine
namespace Mine
theorem rs_MDk : True := by w_top off; trivial
set_option maxRecDepth 100000
set_option maxHeartbeats 8000000
/-! trees that keep every object's own dict -/
inductive DK {α : Type} : Sem α → Prop
  | pure (a : α) : DK (.pure a)
  | raise (e : Value) : DK (.raise e)
  | uns (what : String) : DK (.unsupported what)
  | fin (e : Ending) : DK (.finish e)
  | rule (t : String) {k : Unit → Sem α} : (∀ u, DK (k u)) → DK (.rule t k)
  | at_ (p : Pos) {k : Unit → Sem α} : (∀ u, DK (k u)) → DK (.at p k)
  | load (a : Addr) (p : Option Value) {k : Obj → Sem α} : (∀ o, DK (k o)) → DK (.load a p k)
  | upd (a : Addr) (p : Option Value) {f : Obj → Obj} {k : Unit → Sem α} : (∀ o, (f o).dict = o.dict) → (∀ u, DK (k u)) → DK (.update a p f k)
  | alloc (o : Obj) {k : Addr → Sem α} : (∀ a, DK (k a)) → DK (.alloc o k)
  | alive (a : Addr) {k : Option Obj → Sem α} : (∀ o, DK (k o)) → DK (.loadIfAlive a k)
  | point (l : List Value) {k : Unit → Sem α} : (∀ u, DK (k u)) → DK (.point l k)
  | reg (a : Addr) (k : Unit → Sem α) : DK (.register a k)
  | fresh {k : Tok → Sem α} : (∀ u, DK (k u)) → DK (.fresh k)
  | ask {k : Setting → Sem α} : (∀ u, DK (k u)) → DK (.ask k)
  | handled (o : Bool) {k : Option Value → Sem α} : (∀ u, DK (k u)) → DK (.handled o k)
  | stack {k : List (Code × Pos) → Sem α} : (∀ u, DK (k u)) → DK (.stack k)
theorem DK.bind {α β : Type} {t : Sem α} {f : α → Sem β} (h : DK t) (hf : ∀ a, DK (f a)) : DK (t >>= f) := by
  show DK (Sem.bind t f)
  induction h with
  | pure a => exact hf a
  | raise e => exact .raise e
  | uns w => exact .uns w
  | fin e => exact .fin e
  | rule t _ ih => exact .rule t ih
  | at_ p _ ih => exact .at_ p ih
  | load a p _ ih => exact .load a p ih
  | upd a p hd _ ih => exact .upd a p hd ih
  | alloc o _ ih => exact .alloc o ih
  | alive a _ ih => exact .alive a ih
  | point l _ ih => exact .point l ih
  | reg a k => exact .reg a _
  | fresh _ ih => exact .fresh ih
  | ask _ ih => exact .ask ih
  | handled o _ ih => exact .handled o ih
  | stack _ ih => exact .stack ih
noncomputable def KD (h h' : Heap) : Prop := ∀ (b : Addr) (o : Obj), h.objs[b]? = some o → ∃ o', h'.objs[b]? = some o' ∧ o'.dict = o.dict
theorem KD.refl (h : Heap) : KD h h := fun _ o e => ⟨o, e, rfl⟩
theorem KD.trans {h h' h'' : Heap} (x : KD h h') (y : KD h' h'') : KD h h'' := fun b o e => by
  obtain ⟨o', e', d'⟩ := x b o e
  obtain ⟨o'', e'', d''⟩ := y b o' e'
  exact ⟨o'', e'', d''.trans d'⟩
theorem KD.push (h : Heap) (o : Obj) : KD h (h.push o) := fun b x e => by
  obtain ⟨objs, l⟩ := h
  refine ⟨x, ?_, rfl⟩
  show (objs.push o)[b]? = some x
  rw [Array.getElem?_push, if_neg]
  · exact e
  · intro q
    have := (Array.getElem?_eq_some_iff.mp e).1
    subst q
    exact absurd this (Nat.lt_irrefl _)
theorem KD.upd (h : Heap) (a : Addr) {f : Obj → Obj} (hf : ∀ o, (f o).dict = o.dict) : KD h (h.update a f) := fun b x e => by
  obtain ⟨objs, l⟩ := h
  show ∃ o', (objs.modify a f)[b]? = some o' ∧ _
  rw [Array.getElem?_modify]
  by_cases q : a = b
  · exact ⟨f x, by rw [if_pos q]; exact congrArg (Option.map f) e, hf x⟩
  · exact ⟨x, by rw [if_neg q]; exact e, rfl⟩
theorem KD.at_ {h h' : Heap} (k : KD h h') {b : Addr} {o o' : Obj} (e : h.get? b = some o) (e' : h'.get? b = some o') : o'.dict = o.dict := by
  obtain ⟨x, ex, dx⟩ := k b o (Heap.get?_some_iff.mp e).1
  have := ex.symm.trans (Heap.get?_some_iff.mp e').1
  cases this
  exact dx
theorem DK.wp {α : Type} {M : Model} {Γ : Ctx} {Q : α → Pos → Shared → Prop} {E : Value → Pos → Shared → Prop} {h₀ : Heap} {t : Sem α} (d : DK t) :
    ∀ p s, KD h₀ s.heap → Sem.wp M Γ t (fun a p s' => KD h₀ s'.heap → Q a p s') E p s → Sem.wp M Γ t Q E p s := by
  induction d with
  | pure a => intro p s k h; exact h k
  | raise e => intro p s k h; exact h
  | uns w => intro p s k h; exact h.elim
  | fin e => intro p s k h; exact h.elim
  | rule t _ ih => intro p s k h; exact ih () p s k h
  | at_ p' _ ih => intro p s k h; exact ih () p' s k h
  | load a p' _ ih => intro p s k h; obtain ⟨o, ho, h⟩ := h; exact ⟨o, ho, ih o p s k h⟩
  | upd a p' hd _ ih => intro p s k h; exact ⟨h.1, ih () p _ (k.trans (KD.upd _ a hd)) h.2⟩
  | alloc o _ ih => intro p s k h; exact ih _ p _ (k.trans (KD.push _ o)) h
  | alive a _ ih => intro p s k h; exact ih _ p s k h
  | point l _ ih => intro p s k h; exact ih () p s k h
  | reg a k' => intro p s k h; exact h.elim
  | fresh _ ih => intro p s k h; exact ih _ p { s with toks := s.toks + 1 } k h
  | ask _ ih => intro p s k h; exact ih _ p s k h
  | handled o _ ih => intro p s k h; exact ih _ p s k h
  | stack _ ih => intro p s k h; exact ih _ p s k h
theorem DK.any {α : Type} {M : Model} {A : Around} {Q : α → Shared → Prop} {E : Value → Shared → Prop} {t : Sem α} {s : Shared} (d : DK t) (h : wpAny M A t (fun a s' => KD s.heap s'.heap → Q a s') E s) : wpAny M A t Q E s :=
  fun Γ p hΓ => d.wp p s (KD.refl _) (h Γ p hΓ)
theorem dk_load (a : Addr) : DK (load a) := .load a none .pure
theorem dk_uns {α : Type} (w : String) : DK (unsupported w : Sem α) := .uns w
theorem dk_pure {α : Type} (a : α) : DK (pure a : Sem α) := .pure a
theorem dk_stack : DK stack := .stack .pure
theorem dk_update (a : Addr) {f : Obj → Obj} (hf : ∀ o, (f o).dict = o.dict) : DK (update a f) := .upd a none hf .pure
theorem dk_alloc (o : Obj) : DK (alloc o) := .alloc o .pure
theorem dk_fields (v : Value) : DK (fieldsOf v) := by
  unfold fieldsOf
  repeat' (first | exact dk_uns _ | exact dk_pure _ | exact dk_load _ | refine DK.bind ?_ fun _ => ?_ | split)
theorem dk_field (v : Value) (i : Nat) : DK (field v i) := by
  unfold field
  repeat' (first | exact dk_uns _ | exact dk_pure _ | exact dk_fields _ | refine DK.bind ?_ fun _ => ?_ | split)
theorem dk_mapFields (g : Array Value → Array Value) (o : Obj) : (Obj.mapFields g o).dict = o.dict := by
  obtain ⟨c, d, dt, sl⟩ := o
  cases dt <;> rfl
theorem dk_setField (v : Value) (i : Nat) (x : Value) : DK (setField v i x) := by
  unfold setField updateField
  repeat' (first | exact dk_uns _ | exact dk_pure _ | exact dk_load _ | exact dk_update _ (dk_mapFields _) | refine DK.bind ?_ fun _ => ?_ | split)
theorem dk_setFlight (e : Value) (f : Option Addr) : DK (setFlight e f) := by
  unfold setFlight
  repeat' (first | exact dk_uns _ | exact dk_pure _ | exact dk_field _ _ | exact dk_setField _ _ _ | refine DK.bind ?_ fun _ => ?_ | split)
theorem dk_behind (env : Env) (outer : List Env) : DK (behindIsImport env outer) := by
  unfold behindIsImport
  repeat' (first | exact dk_uns _ | exact dk_pure _ | exact dk_field _ _ | exact dk_setField _ _ _ | refine DK.bind ?_ fun _ => ?_ | split)
theorem dk_back (env : Env) (i : Bool) : ∀ l : List Env, DK (keptBack env i l)
  | [] => by
    unfold keptBack underTheClaimsCaller
    repeat' (first | exact dk_uns _ | exact dk_pure _ | exact dk_stack | refine DK.bind ?_ fun _ => ?_ | split)
  | _ :: _ => by
    unfold keptBack
    exact dk_pure _
theorem dk_ready : ∀ l : List Env, DK (readyFrames l)
  | [] => dk_pure _
  | env :: outer => by
    unfold readyFrames
    repeat' (first | exact dk_uns _ | exact dk_pure _ | exact dk_load _ | exact dk_behind _ _ | exact dk_back _ _ _ | exact dk_ready _ | exact dk_update _ (fun _ => rfl) | refine DK.bind ?_ fun _ => ?_ | split)
theorem dk_frameObj : ∀ l : List Env, DK (frameObject l)
  | [] => dk_pure _
  | env :: outer => DK.bind (dk_ready _) fun _ => dk_pure _
theorem dk_frameOf (env : Env) : DK (PySem.frameOf env) := by
  unfold PySem.frameOf frameEnvs
  repeat' (first | exact dk_uns _ | exact dk_pure _ | exact dk_stack | exact dk_frameObj _ | refine DK.bind ?_ fun _ => ?_ | split)
theorem dk_place (f : Addr) (b : Bool) : DK (entryPlaceOf f b) := by
  unfold entryPlaceOf
  repeat' (first | exact dk_uns _ | exact dk_pure _ | exact dk_stack | refine DK.bind ?_ fun _ => ?_ | split)
theorem dk_newEntry (n f l fl la : Value) (p : List Value) : DK (EntryCells.newEntry n f l fl la p) := by
  unfold EntryCells.newEntry newFields newObj
  repeat' (first | exact dk_uns _ | exact dk_pure _ | exact dk_alloc _ | refine DK.bind ?_ fun _ => ?_ | split)
theorem dk_note (e : Value) (env : Env) : DK (noteFrame e env) := by
  unfold noteFrame
  repeat' (first | exact dk_uns _ | exact dk_pure _ | exact dk_field _ _ | exact dk_setField _ _ _ | exact dk_frameOf _ | exact dk_place _ _ | exact dk_newEntry _ _ _ _ _ _ | refine DK.bind ?_ fun _ => ?_ | split)
theorem dk_leaving (e : Value) (env : Env) : DK (leaving env e) := DK.bind (dk_note _ _) fun _ => dk_setFlight _ _
end Mine
local macro_rules | `(tactic| walk_at "dup 1") => `(tactic| ((have hcL9 := cLine_is); (simp only [units_in1, units_deeper, Around.mark_units, ktrTop]); omega))
namespace Mine
theorem rs_MRowCodes : True := by w_top off; trivial
set_option maxRecDepth 100000
set_option maxHeartbeats 8000000
section
variable {w : World} {mean : ExcName → Option Value} {mg mb : Str → Option Value}
  {dp un : Nat} {gd : Option (List Code)} {cn : Str} {cs : Scope} {a : Addr} {ccd : Value} {cl : List (Str × Addr)} {outer : List Env} {A₀ : Around} {base h₀ : Heap} {L : Addr} {m : Str → Option Value} {news : List (Addr × Obj)} {s : Shared}
  {Q E : Value → Shared → Prop}
local macro_rules | `(tactic| k_steps) => `(tactic| walk_at "dup 0")
local macro_rules | `(tactic| walk_at "exec While") => `(tactic| (refine mstop ?_))
local macro_rules | `(tactic| is_list) => `(tactic| exact News.isList (by assumption) (by k_mem))
local macro_rules | `(tactic| units_room) => `(tactic| walk_at "dup 1")
local macro_rules | `(tactic| k_mem) => `(tactic| assumption)
theorem row_codes_spec {r : Addr} {vs : List Value} {n : Nat} {ns : List Int} {os : List UInt8}
    (B : Below A₀ base outer h₀) (F : Fr h₀ L s.heap m) (X : (hd.heap_39 w.params).In h₀) (N : News h₀ L s.heap news) (T : Top hd.view_39 LO mean mg mb h₀)
    (hk : cs.kind = .function) (hdp : dp + 1 < recursionLimit) (hun : un + 200 < cLine) (hr : (r, listOf vs.toArray n) ∈ news) (hi : IntsAre vs ns) (ho : OctL ns os) (hsz : os.length ≤ 128)
    (ret : ∀ l vs' n' h' tk, Fr h₀ L h' m → News h₀ L h' ((l, listOf vs'.toArray n') :: news) → (∀ p ∈ news, p.1 < l) → IntsAre vs' (ub (rowCodes os)) → (rowCodes os).length ≤ 129 → Q (.ref l) { s with heap := h', toks := tk }) :
    wpAny (model PG w) (ktrTop dp un gd cn cs L a ccd cl outer) (call (.ref 82) [.ref r]) Q E s := by
  obtain rfl := ho.eq
  have zz0 : (PySem.Challenge.rw_pq0803_01 = PySem.Challenge.rw_pq0803_01) ∧ hd.heap_39 = hd.heap_39 := by k_fill; exact ⟨rfl, rfl⟩
  refine wpAny_call ?_
  k_dflt ktr_enter
  k_steps
  · rename_i l1 kF kN _ _
    have he : decide (ub os = []) = true := by assumption
    obtain rfl : os = [] := by simpa using he
    exact ret _ [] _ _ _ kF (news_drop kN fun p hp => by simp only [List.mem_cons] at hp ⊢; exact hp.imp_right .inr) (of_allLt l1.2) .nil (rowCodes_len hsz)
  · rename_i hI l1 kF kN _ _
    have he : decide (ub os = []) = false := by assumption
    have hne : os ≠ [] := by rintro rfl; simp at he
    rw [ub_row hne hsz] at hI
    exact ret _ _ _ _ _ kF (news_drop kN fun p hp => by simp only [List.mem_cons] at hp ⊢; exact hp.imp_right fun h => .inr (.inr h)) (of_allLt l1.2.2) hI (rowCodes_len hsz)
end
end Mine
namespace Mine
set_option maxRecDepth 100000
set_option maxHeartbeats 8000000
section
variable {w : World} {mean : ExcName → Option Value} {mg mb : Str → Option Value}
  {dp un : Nat} {gd : Option (List Code)} {cn : Str} {cs : Scope} {a : Addr} {ccd : Value} {cl : List (Str × Addr)} {outer : List Env} {A₀ : Around} {base h₀ : Heap} {L : Addr} {m : Str → Option Value} {news : List (Addr × Obj)} {s : Shared}
  {Q E : Value → Shared → Prop}
local macro_rules | `(tactic| k_steps) => `(tactic| walk_at "dup 0")
local macro_rules | `(tactic| walk_at "exec While Compare cons nil") => `(tactic| (refine mstop ?_))
local macro_rules | `(tactic| walk_at "exec While BoolOp cons nil") => `(tactic| (refine mstop ?_))
local macro_rules | `(tactic| is_list) => `(tactic| exact News.isList (by assumption) (by k_mem))
local macro_rules | `(tactic| units_room) => `(tactic| walk_at "dup 1")
local macro_rules | `(tactic| k_mem) => `(tactic| assumption)
local macro_rules | `(tactic| kmk_sum) => `(tactic| ((simp only [PySem.sizeLine_eq, List.size_toArray, List.length_append, List.length_cons, List.length_nil, List.length_map]); omega))
local macro_rules | `(tactic| size_fits) => `(tactic| ((try simp only [PySem.sizeLine_eq, List.size_toArray, Array.size_push, List.length_append, List.length_cons, List.length_nil, List.length_map]); omega))
local macro_rules | `(tactic| k_all) => `(tactic| assumption)
local macro_rules | `(tactic| walk_at "call builtin:list.append") => `(tactic| (k_here; (with_reducible refine gBi ?_); k_dflt (refine' app_ints (by k_asm) (by k_asm) (by k_upd) (by l_ints) (by ((try simp only [List.length_append, List.length_cons, List.length_nil, List.length_map]); omega)) ?_; k_whole); intros; (try k_sweep)))
local macro_rules | `(tactic| walk_at "call builtin:list.extend") => `(tactic| (k_here; (with_reducible refine gBr ?_); k_dflt (refine' ext_ints (by k_asm) (by k_asm) (by k_updF) (by k_mem) (by l_ints) (by l_ints) (by ((try simp only [List.length_append, List.length_cons, List.length_nil, List.length_map]); omega)) ?_; k_whole); intros; rename_i N' i'; (try dsimp only at N'); (try k_sweep)))
local macro_rules | `(tactic| walk_at "call type:bytes") => `(tactic| (k_here; (with_reducible refine gTr ?_); k_dflt (refine' bytes_octs (by k_asm) (by k_asm) (by is_list) (by l_ints) (by repeat' (first | exact OctL.nil | exact OctL.ub _ | refine' OctL.one _ ?_ | refine' OctL.c128 ?_ | refine' OctL.c255 ?_ | refine' OctL.app ?_ ?_)) (by ((try simp only [List.length_append, List.length_cons, List.length_nil, List.length_map]); omega)) (by with_unfolding_all rfl) ?_; k_whole); intros; (try k_sweep)))
section
theorem rs_MEnc : True := by w_top off; trivial
local macro_rules | `(tactic| walk_at "call ref") => `(tactic| (k_here; (with_reducible refine gC 68 ?_); (with_unfolding_all refine' run_at_spec (by k_asm) (by k_asm) (by k_asm) (by k_asm) (by k_asm) (by rfl) (by ktr_room) (by units_room) (by (simp only [List.size_toArray] at *; omega)) (by omega) ?_); intros; (try dsimp only)))
local macro_rules | `(tactic| walk_at "call ref") => `(tactic| (k_here; (with_reducible refine gC 82 ?_); (with_unfolding_all refine' row_codes_spec (by k_asm) (by k_asm) (by k_asm) (by k_asm) (by k_asm) (by rfl) (by ktr_room) (by units_room) (by k_mem) (by l_ints) (by repeat' (first | exact OctL.nil | exact OctL.ub _ | refine' OctL.one _ ?_ | refine' OctL.c128 ?_ | refine' OctL.app ?_ ?_)) (by ((try simp only [List.length_append, List.length_cons, List.length_nil, List.length_map] at *); omega)) ?_); intros; rename_i lt9 i9 b9; (try k_lt lt9); (try dsimp only)))
noncomputable abbrev EncS := (Nat × Tok) × (List Value × Nat × List UInt8) × (Addr × List Value × Nat × List UInt8)
noncomputable def encLed (cA : Addr) (news : List (Addr × Obj)) (c : EncS) : List (Addr × Obj) := (cA, listOf c.2.1.1.toArray c.2.1.2.1) :: (c.2.2.1, listOf c.2.2.2.1.toArray c.2.2.2.2.1) :: news
noncomputable def encPs (c : EncS) : List (Str × Value) := [(Str.ofString "row", .ref c.2.2.1), (Str.ofString "at", .int (c.1.1 : Int) c.1.2)]
noncomputable def encFacts (cA : Addr) (news : List (Addr × Obj)) (c : EncS) : Prop := cA < c.2.2.1 ∧ (∀ p ∈ news, p.1 < c.2.2.1) ∧ IntsAre c.2.1.1 (ub c.2.1.2.2) ∧ IntsAre c.2.2.2.1 (ub c.2.2.2.2.2)
noncomputable def encP (os out : List UInt8) (c : EncS) : Prop := c.1.1 ≤ os.length ∧ c.2.2.2.2.2.length < 128 ∧ ∃ o', Enc (os.drop c.1.1) c.2.2.2.2.2 o' ∧ c.2.1.2.2 ++ o' = out
noncomputable def encMu (os : List UInt8) (c : EncS) : Nat := os.length - c.1.1
theorem enc_end {g h' : Heap} {m₀ m' : Str → Option Value} {cA rA : Addr} {news news' : List (Addr × Obj)} {os out ec row o' : List UInt8} {c : EncS} {tk k' nc nr : Nat} {t' : Tok} {vc vr : List Value} {nsc nsr : List Int}
    (F' : Fr g L h' m') (N' : News g L h' news') (h1 : (cA, listOf vc.toArray nc) ∈ news') (h2 : (rA, listOf vr.toArray nr) ∈ news') (h3 : ∀ p ∈ news, p ∈ news') (hr : m' (Str.ofString "row") = some (.ref rA)) (ha : m' (Str.ofString "at") = some (.int (k' : Int) t'))
    (hm : ∀ z, z ≠ Str.ofString "row" → z ≠ Str.ofString "at" → z ≠ Str.ofString "count" → m' z = m₀ z) (h4 : cA < rA) (h5 : ∀ p ∈ news, p.1 < rA) (hic : IntsAre vc nsc) (hec : nsc = ub ec) (hir : IntsAre vr nsr) (her : nsr = ub row)
    (hk : k' ≤ os.length) (hl : row.length < 128) (hE : Enc (os.drop k') row o') (ho : ec ++ o' = out) (hmu : os.length - k' < os.length - c.1.1) :
    KswEnd g L s (encLed cA news) encPs (encFacts cA news) [Str.ofString "count"] m₀ (encP os out) (encMu os) c { s with heap := h', toks := tk } := by
  subst hec her
  refine ksw_end ((k', t'), (vc, nc, ec), (rA, vr, nr, row)) F' N' (fun p hp => ?_) ⟨h4, h5, hic, hir⟩ (fun p hp => ?_) (fun z h6 h7 => ?_) ⟨hk, hl, o', hE, ho⟩ hmu
  · simp only [encLed, List.mem_cons] at hp
    rcases hp with rfl | rfl | hp
    · exact h1
    · exact h2
    · exact h3 p hp
  · simp only [encPs, List.mem_cons, List.not_mem_nil, or_false] at hp
    rcases hp with rfl | rfl
    · exact hr
    · exact ha
  · simp only [encPs, List.forall_mem_cons, List.not_mem_nil, false_implies, implies_true, and_true] at h6
    refine hm z h6.1 h6.2 ?_
    simpa using h7
theorem enc_all {p : EncS → Prop} (h : ∀ k t vc nc ec rA vr nr row, p ((k, t), (vc, nc, ec), (rA, vr, nr, row))) : ∀ x, p x := fun ⟨⟨k, t⟩, ⟨vc, nc, ec⟩, ⟨rA, vr, nr, row⟩⟩ => h k t vc nc ec rA vr nr row
theorem run_encoded_spec {os out : List UInt8} {tb : Tok}
    (B : Below A₀ base outer h₀) (F : Fr h₀ L s.heap m) (X : (hd.heap_39 w.params).In h₀) (N : News h₀ L s.heap news) (T : Top hd.view_39 LO mean mg mb h₀)
    (hk : cs.kind = .function) (hdp : dp + 2 < recursionLimit) (hun : un + 300 < cLine) (hE : Enc os [] out) (hsz : os.length ≤ 100000) (hso : out.length ≤ 100000)
    (ret : ∀ t h' tk, Fr h₀ L h' m → News h₀ L h' news → Q (.bytes (out ++ [128]).toArray t) { s with heap := h', toks := tk }) :
    wpAny (model PG w) (ktrTop dp un gd cn cs L a ccd cl outer) (call (.ref 75) [.bytes os.toArray tb]) Q E s := by
  have zz0 : (PySem.Challenge.rw_pq0803_01 = PySem.Challenge.rw_pq0803_01) ∧ hd.heap_39 = hd.heap_39 := by k_fill; exact ⟨rfl, rfl⟩
  refine wpAny_call ?_
  k_dflt ktr_enter
  k_steps
  refine mgo ?_
  rename_i cA _ lcA rA _ lc D _ ld _ _ _ hp F1 N1
  clear ld
  have hcr : cA < rA := lc.1
  have lrA : ∀ p ∈ news, p.1 < rA := of_allLt lc.2
  clear lc
  refine' ksw_h (encLed cA news) encPs (encFacts cA news) [Str.ofString "count"] (encP os out) (encMu os) ((0, _), ([], 0, []), (rA, [], 0, [])) F1 (news_drop N1 ?kn) ⟨hcr, lrA, .nil, .nil⟩ ?ka ⟨Nat.zero_le _, by simp, out, by simpa using hE, by simp⟩ ?kc
  case ka =>
    intro p hp
    simp only [encPs, List.mem_cons, List.not_mem_nil, or_false] at hp
    rcases hp with rfl | rfl <;> rfl
  case kn =>
    intro p hp
    simp only [encLed, List.mem_cons] at hp ⊢
    rcases hp with h | h | h
    · exact .inr (.inr (.inl h))
    · exact .inr (.inl h)
    · exact .inr (.inr (.inr h))
  case kc =>
    clear F1 N1 hcr lrA
    intro K9
    refine enc_all fun k t vc nc ec rA vr nr row => ?_
    intro hK9 u h tk hf9 hp9 F2 N2
    have hcr := hf9.1
    have lrA := hf9.2.1
    have hic := hf9.2.2.1
    have hir := hf9.2.2.2
    have hk1 := hp9.1
    have hk2 := hp9.2.1
    obtain ⟨o', hoo⟩ := hp9.2.2
    have hE' := hoo.1
    have ho := hoo.2
    clear hf9 hp9 hoo
    dsimp only [encLed, encPs] at hcr lrA hic hir hk1 hk2 hE' ho F2 N2
    have neR : ∀ p ∈ news, p.1 ≠ rA := fun p hp => Nat.ne_of_lt (lrA p hp)
    have neC : ∀ p ∈ news, p.1 ≠ cA := fun p hp => Nat.ne_of_lt (lcA p hp)
    replace hcr := ltN hcr
    have hlc : vc.length = ec.length := by rw [hic.length, List.length_map]
    have hlr : vr.length = row.length := by rw [hir.length, List.length_map]
    have hle : ec.length ≤ 100000 := by have := congrArg List.length ho; simp only [List.length_append] at this; omega
    have hrc : (rowCodes row).length ≤ 129 := rowCodes_len (by omega)
    have hrl : ∀ l, runLen l ≤ 128 := runLen_le
    k_steps
    · have hc : (2 : Int) < (runLen (os.drop k) : Nat) := by assumption
      have hk : k < os.length := by have h : (k : Int) < (os.toArray.size : Int) := by assumption
                                    simp only [List.size_toArray] at h; omega
      have hpos := hrl (os.drop k)
      have hfit := runLen_fit (os.drop k)
      rw [List.length_drop] at hfit
      skip
      obtain ⟨o'', hE2, he⟩ := enc_run_step hk hE' (.inl (by omega))
      refine kpn hK9 ?_
      refine' enc_end (k' := k + runLen (os.drop k)) (ec := ec ++ (rowCodes row ++ [UInt8.ofNat (257 - runLen (os.drop k)), os.getD k 0])) (row := []) (o' := o'') (by assumption) (by assumption) ?h1 ?h2 ?h3 ?hr ?ha ?hm ?h4 ?h5 ?hic ?hec ?hir ?her ?hk ?hl ?hE ?ho ?hmu
      case hr => rfl
      case ha => rfl
      case h1 => k_mem
      case h2 => k_mem
      case h3 => intro p hp; simp only [List.mem_cons, hp, or_true]
      case hm => intro z z1 z2 z3; simp [kstB, z1, z2, z3]
      case h4 => refine ltN ?_; omega
      case hic => assumption
      case h5 => first | exact of_allLt (by assumption : _ ∧ _ ∧ _ ∧ AllLt _ news).2.2.2 | exact of_allLt (by assumption : _ ∧ _ ∧ _ ∧ _ ∧ AllLt _ news).2.2.2.2 | exact of_allLt (by assumption : _ ∧ _ ∧ _ ∧ _ ∧ _ ∧ AllLt _ news).2.2.2.2.2 | exact of_allLt (by assumption : _ ∧ _ ∧ _ ∧ _ ∧ _ ∧ _ ∧ AllLt _ news).2.2.2.2.2.2
      case hec => exact ub_run hpos (by omega)
      case hir => exact .nil
      case her => rfl
      case hk => omega
      case hl => simp
      case hE => exact hE2
      case ho => rw [← ho, he, List.append_assoc]
      case hmu => dsimp only; omega
    · have hc : ((runLen (os.drop k) : Nat) : Int) = 2 := by assumption
      have hk : k < os.length := by have h : (k : Int) < (os.toArray.size : Int) := by assumption
                                    simp only [List.size_toArray] at h; omega
      have hpos := hrl (os.drop k)
      have hfit := runLen_fit (os.drop k)
      rw [List.length_drop] at hfit
      have hz : decide (ub row = []) = true := by assumption
      have hz' : row = [] := by simpa using hz
      obtain ⟨o'', hE2, he⟩ := enc_run_step hk hE' (.inr ⟨by omega, hz'⟩)
      refine kpn hK9 ?_
      refine' enc_end (k' := k + runLen (os.drop k)) (ec := ec ++ (rowCodes row ++ [UInt8.ofNat (257 - runLen (os.drop k)), os.getD k 0])) (row := []) (o' := o'') (by assumption) (by assumption) ?h1 ?h2 ?h3 ?hr ?ha ?hm ?h4 ?h5 ?hic ?hec ?hir ?her ?hk ?hl ?hE ?ho ?hmu
      case hr => rfl
      case ha => rfl
      case h1 => k_mem
      case h2 => k_mem
      case h3 => intro p hp; simp only [List.mem_cons, hp, or_true]
      case hm => intro z z1 z2 z3; simp [kstB, z1, z2, z3]
      case h4 => refine ltN ?_; omega
      case hic => assumption
      case h5 => first | exact of_allLt (by assumption : _ ∧ _ ∧ _ ∧ AllLt _ news).2.2.2 | exact of_allLt (by assumption : _ ∧ _ ∧ _ ∧ _ ∧ AllLt _ news).2.2.2.2 | exact of_allLt (by assumption : _ ∧ _ ∧ _ ∧ _ ∧ _ ∧ AllLt _ news).2.2.2.2.2 | exact of_allLt (by assumption : _ ∧ _ ∧ _ ∧ _ ∧ _ ∧ _ ∧ AllLt _ news).2.2.2.2.2.2
      case hec => exact ub_run hpos (by omega)
      case hir => exact .nil
      case her => rfl
      case hk => omega
      case hl => simp
      case hE => exact hE2
      case ho => rw [← ho, he, List.append_assoc]
      case hmu => dsimp only; omega
    · have hk : k < os.length := by have h : (k : Int) < (os.toArray.size : Int) := by assumption
                                    simp only [List.size_toArray] at h; omega
      have hc : ¬ ((2 : Int) < (runLen (os.drop k) : Nat)) := by assumption
      have hz : decide (ub row = []) = false := by assumption
      have hz' : row ≠ [] := by rintro rfl; simp at hz
      have hr8 : (((ub row).length + 1 : Nat) : Int) = 128 := by assumption
      rw [List.length_map] at hr8
      obtain ⟨o'', hE2, he⟩ := enc_full_step hk hE' (by exact fun h => h.elim (fun h => by omega) fun h => hz' h.2) (by omega)
      refine kpn hK9 ?_
      refine' enc_end (k' := k + 1) (ec := ec ++ rowCodes (row ++ [os.getD k 0])) (row := []) (o' := o'') (by assumption) (by assumption) ?h1 ?h2 ?h3 ?hr ?ha ?hm ?h4 ?h5 ?hic ?hec ?hir ?her ?hk ?hl ?hE ?ho ?hmu
      case hr => rfl
      case ha => rfl
      case h1 => k_mem
      case h2 => k_mem
      case h3 => intro p hp; simp only [List.mem_cons, hp, or_true]
      case hm => intro z z1 z2 z3; simp [kstB, z1, z2, z3]
      case h4 => refine ltN ?_; omega
      case hic => assumption
      case h5 => first | exact of_allLt (by assumption : _ ∧ _ ∧ _ ∧ AllLt _ news).2.2.2 | exact of_allLt (by assumption : _ ∧ _ ∧ _ ∧ _ ∧ AllLt _ news).2.2.2.2 | exact of_allLt (by assumption : _ ∧ _ ∧ _ ∧ _ ∧ _ ∧ AllLt _ news).2.2.2.2.2 | exact of_allLt (by assumption : _ ∧ _ ∧ _ ∧ _ ∧ _ ∧ _ ∧ AllLt _ news).2.2.2.2.2.2
      case hec => exact ub_app _ _
      case hir => exact .nil
      case her => rfl
      case hk => omega
      case hl => simp
      case hE => exact hE2
      case ho => rw [← ho, he, List.append_assoc]
      case hmu => dsimp only; omega
    · have hk : k < os.length := by have h : (k : Int) < (os.toArray.size : Int) := by assumption
                                    simp only [List.size_toArray] at h; omega
      have hc : ¬ ((2 : Int) < (runLen (os.drop k) : Nat)) := by assumption
      have hz : decide (ub row = []) = false := by assumption
      have hz' : row ≠ [] := by rintro rfl; simp at hz
      have hr8 : (((ub row).length + 1 : Nat) : Int) ≠ 128 := by assumption
      rw [List.length_map] at hr8
      have hE2 := enc_lit_step hk hE' (by exact fun h => h.elim (fun h => by omega) fun h => hz' h.2) (by omega)
      refine kpn hK9 ?_
      refine' enc_end (k' := k + 1) (ec := ec) (row := row ++ [os.getD k 0]) (o' := o') (by assumption) (by assumption) ?h1 ?h2 ?h3 ?hr ?ha ?hm ?h4 ?h5 ?hic ?hec ?hir ?her ?hk ?hl ?hE ?ho ?hmu
      case hr => rfl
      case ha => rfl
      case h1 => k_mem
      case h2 => k_mem
      case h3 => intro p hp; simp only [List.mem_cons, hp, or_true]
      case hm => intro z z1 z2 z3; simp [kstB, z1, z2, z3]
      case h4 => refine ltN ?_; omega
      case hic => assumption
      case h5 => exact lrA
      case hec => rfl
      case hir => assumption
      case her => exact ub_snoc _ _
      case hk => omega
      case hl => rw [List.length_append, List.length_singleton]; omega
      case hE => exact hE2
      case ho => exact ho
      case hmu => dsimp only; omega
    · have hk : k < os.length := by have h : (k : Int) < (os.toArray.size : Int) := by assumption
                                    simp only [List.size_toArray] at h; omega
      have hc : ¬ ((2 : Int) < (runLen (os.drop k) : Nat)) := by assumption
      have hc2 : ((runLen (os.drop k) : Nat) : Int) ≠ 2 := by assumption
      have hr8 : (((ub row).length + 1 : Nat) : Int) = 128 := by assumption
      rw [List.length_map] at hr8
      obtain ⟨o'', hE2, he⟩ := enc_full_step hk hE' (by rintro (h | ⟨h, _⟩) <;> omega) (by omega)
      refine kpn hK9 ?_
      refine' enc_end (k' := k + 1) (ec := ec ++ rowCodes (row ++ [os.getD k 0])) (row := []) (o' := o'') (by assumption) (by assumption) ?h1 ?h2 ?h3 ?hr ?ha ?hm ?h4 ?h5 ?hic ?hec ?hir ?her ?hk ?hl ?hE ?ho ?hmu
      case hr => rfl
      case ha => rfl
      case h1 => k_mem
      case h2 => k_mem
      case h3 => intro p hp; simp only [List.mem_cons, hp, or_true]
      case hm => intro z z1 z2 z3; simp [kstB, z1, z2, z3]
      case h4 => refine ltN ?_; omega
      case hic => assumption
      case h5 => first | exact of_allLt (by assumption : _ ∧ _ ∧ _ ∧ AllLt _ news).2.2.2 | exact of_allLt (by assumption : _ ∧ _ ∧ _ ∧ _ ∧ AllLt _ news).2.2.2.2 | exact of_allLt (by assumption : _ ∧ _ ∧ _ ∧ _ ∧ _ ∧ AllLt _ news).2.2.2.2.2 | exact of_allLt (by assumption : _ ∧ _ ∧ _ ∧ _ ∧ _ ∧ _ ∧ AllLt _ news).2.2.2.2.2.2
      case hec => exact ub_app _ _
      case hir => exact .nil
      case her => rfl
      case hk => omega
      case hl => simp
      case hE => exact hE2
      case ho => rw [← ho, he, List.append_assoc]
      case hmu => dsimp only; omega
    · have hk : k < os.length := by have h : (k : Int) < (os.toArray.size : Int) := by assumption
                                    simp only [List.size_toArray] at h; omega
      have hc : ¬ ((2 : Int) < (runLen (os.drop k) : Nat)) := by assumption
      have hc2 : ((runLen (os.drop k) : Nat) : Int) ≠ 2 := by assumption
      have hr8 : (((ub row).length + 1 : Nat) : Int) ≠ 128 := by assumption
      rw [List.length_map] at hr8
      have hE2 := enc_lit_step hk hE' (by rintro (h | ⟨h, _⟩) <;> omega) (by omega)
      refine kpn hK9 ?_
      refine' enc_end (k' := k + 1) (ec := ec) (row := row ++ [os.getD k 0]) (o' := o') (by assumption) (by assumption) ?h1 ?h2 ?h3 ?hr ?ha ?hm ?h4 ?h5 ?hic ?hec ?hir ?her ?hk ?hl ?hE ?ho ?hmu
      case hr => rfl
      case ha => rfl
      case h1 => k_mem
      case h2 => k_mem
      case h3 => intro p hp; simp only [List.mem_cons, hp, or_true]
      case hm => intro z z1 z2 z3; simp [kstB, z1, z2, z3]
      case h4 => refine ltN ?_; omega
      case hic => assumption
      case h5 => exact lrA
      case hec => rfl
      case hir => assumption
      case her => exact ub_snoc _ _
      case hk => omega
      case hl => rw [List.length_append, List.length_singleton]; omega
      case hE => exact hE2
      case ho => exact ho
      case hmu => dsimp only; omega
    · have hk : ¬ ((k : Int) < (os.toArray.size : Int)) := by assumption
      simp only [List.size_toArray] at hk
      have he := enc_done (by omega) hE'
      subst he
      rw [← ho] at ret
      refine ret _ _ _ (by assumption) (news_drop (by assumption) fun p hp => ?_)
      simp only [List.mem_cons, hp, or_true]
end
local macro_rules | `(tactic| walk_at "pad") => `(tactic| skip)
local macro_rules | `(tactic| walk_at "pad") => `(tactic| skip)
local macro_rules | `(tactic| walk_at "pad") => `(tactic| skip)
section
theorem rs_MFault : True := by w_top off; trivial
noncomputable abbrev excObj (t : Addr) (dd : Option Addr) : Obj := { cls := .ref 59, dict := dd, data := .fields #[.ref t, .none, .none, .none, .bool false, .none] }
noncomputable abbrev tupObj (vs : List Value) : Obj := { cls := .type "tuple", data := .seq vs.toArray }
noncomputable abbrev bmF : List Value := [.ref 46, .type "Exception", .type "BaseException", .type "object"]
noncomputable def HasF (h : Heap) : Prop := ∃ nm q bs sn sub ab col dd k0 k1 k2 k3 k5, h.get? 59 = some (excClassObj nm q 59 58 bs bmF true sn sub ab col dd k0 k1 k2 k3 k5 "Exception.__new__")
theorem hasF {h : Heap} (X : (hd.heap_39 w.params).In h) : HasF h := by
  have zz0 : (PySem.Challenge.rw_pq0803_01 = PySem.Challenge.rw_pq0803_01) ∧ hd.heap_39 = hd.heap_39 := by k_fill; exact ⟨rfl, rfl⟩
  exact ⟨_, _, _, _, _, _, _, _, _, _, _, _, _, X 59 _ (by k_is)⟩
section
variable {prog : Program} {w : World} {A : Around} {E : Value → Shared → Prop} {h : Heap} {g : Array GenState} {d : Drawn} {t : Nat} {os : OsState}
variable {nm q : Str} {C N : Addr} {bs bm : List Value} {hdct : Bool} {sn : List Str} {sub : List Value} {ab : Bool} {col : Option Bool} {dd : Option Addr} {k0 k1 k2 k3 k5 : Option Value}
theorem check_newF {M : Model} {rest : List Value} {Q : Unit → Shared → Prop} (hC : h.get? C = some (excClassObj nm q C N bs bm hdct sn sub ab col dd k0 k1 k2 k3 k5 "Exception.__new__")) (hB : bm.contains (.type "Exception") = true)
    (hq : Q () ⟨h, g, d, t, os⟩) : wpAny M A (checkBuiltinCall "Exception.__new__" ⟨.ref C :: rest, []⟩) Q E ⟨h, g, d, t, os⟩ := by
  have F := PySem.F.excBase_Exception
  have hcont : (Value.ref C :: bm).contains (.type "Exception") = true := by rw [List.contains_cons, hB, Bool.or_true]
  have hstar := F.noStar
  simp only [checkBuiltinCall, F.newKind, F.newSplit, F.newRow]
  repeat (first | refine wpAny_loadPart_at hC ?_ | (refine wpAny_isSubtype_exc hC ?_; rw [hcont]) | refine wpAny_staticBase_exc hC ?_ | refine wpAny_madeBy_exc hC ?_ | simp only [bne_self_eq_false, Bool.false_eq_true, if_false] | wp_step)
  exact hq
theorem exc_newF {R : Result → Shared → Prop} {rest : List Value} (hC : h.get? C = some (excClassObj nm q C N bs bm hdct sn sub ab col dd k0 k1 k2 k3 k5 "Exception.__new__")) (hB : bm.contains (.type "Exception") = true)
    (hA : bm.contains (.type "AttributeError") = false) (hN : bm.contains (.type "NameError") = false)
    (hq : R (.ok (.ret (.ref (h.objs.size + 1)))) ⟨(h.push { cls := .type "tuple", data := .seq rest.toArray }).push
      { cls := .ref C, data := .fields #[.ref h.objs.size, .none, .none, .none, .bool false, .none] }, g, d, t, os⟩) (hrest : rest.length ≤ sizeLine) :
    codeAny (model prog w) A (.builtin "Exception.__new__" ⟨.ref C :: rest, []⟩) R ⟨h, g, d, t, os⟩ := by
  have F := PySem.F.excBase_Exception
  have hends := F.ends
  have hcB : (Value.ref C :: bm).contains (.type "Exception") = true := by rw [List.contains_cons, hB, Bool.or_true]
  have hcA : (Value.ref C :: bm).contains (.type "AttributeError") = false := by rw [List.contains_cons, hA]; rfl
  have hcN : (Value.ref C :: bm).contains (.type "NameError") = false := by rw [List.contains_cons, hN]; rfl
  refine codeAny_builtinAt F.entry ?_
  unfold Builtin.«BaseException.__new__»
  refine PySem.wpAt_bind ?_
  show PySem.wpAt _ _ _ (stack >>= _) _ _ _
  refine PySem.wpAt_bind (PySem.wpAt_stack fun p below => PySem.wpAt_of_wpAny ?_)
  wp_walk
  refine PySem.wpAt_of_wpAny ?_
  rw [F.owner]
  repeat (first | with_reducible refine wpAny_madeHere_exc F.canon hC ?_ | with_reducible refine wpAny_loadPart_at hC ?_ | (with_reducible refine wpAny_isSubtype_exc hC ?_; first | rw [hcB] | rw [hcA] | rw [hcN]) | wp_step)
  show R _ _
  rw [Heap.size_push]
  exact hq
theorem check_initF {M : Model} {e : Addr} {oe : Obj} {rest : List Value} {Q : Unit → Shared → Prop} (hC : h.get? C = some (excClassObj nm q C N bs bm hdct sn sub ab col dd k0 k1 k2 k3 k5 "Exception.__new__")) (hB : bm.contains (.type "Exception") = true)
    (he : h.get? e = some oe) (hcls : oe.cls = .ref C) (hq : Q () ⟨h, g, d, t, os⟩) :
    wpAny M A (checkBuiltinCall "Exception.__init__" ⟨.ref e :: rest, []⟩) Q E ⟨h, g, d, t, os⟩ := by
  have F := PySem.F.excBase_Exception
  have hcB : (Value.ref C :: bm).contains (.type "Exception") = true := by rw [List.contains_cons, hB, Bool.or_true]
  have hshort := F.noStar
  simp only [checkBuiltinCall, F.initKind, F.initSplit, F.initRow]
  repeat (first | (with_reducible refine wpAny_loadPart_at he ?_; rw [hcls]) | with_reducible refine wpAny_loadPart_at hC ?_ | (with_reducible refine wpAny_isSubtype_exc hC ?_; rw [hcB]) | wp_step)
  refine wpAny_onRaise ?_
  rw [show ∀ (a b : String) (n : Nat), Bind.check ⟨.positional, "*", "Exception", .self, [⟨"args", .varPos, false⟩]⟩ a b n (List.map (fun x => x.fst) ({ pos := Value.ref e :: rest } : Args).kw) = pure () from
    fun a b n => check_star_args _ _ _ _ _ _]
  exact wpAny_pure hq
theorem exc_initF {e t0 : Addr} {de : Option Addr} {rest : List Value} {Q : Value → Shared → Prop} (hC : h.get? C = some (excClassObj nm q C N bs bm hdct sn sub ab col dd k0 k1 k2 k3 k5 "Exception.__new__")) (hB : bm.contains (.type "Exception") = true)
    (he : h.get? e = some { cls := .ref C, dict := de, data := .fields #[.ref t0, .none, .none, .none, .bool false, .none] })
    (hq : Q .none ⟨(h.push { cls := .type "tuple", data := .seq rest.toArray }).update e (Obj.mapFields (·.setIfInBounds 0 (.ref h.objs.size))), g, d, t, os⟩) (hrest : rest.length ≤ sizeLine) :
    wpAny (model prog w) A (call (.builtin "Exception.__init__") (.ref e :: rest)) Q E ⟨h, g, d, t, os⟩ := by
  have F := PySem.F.excBase_Exception
  refine wpAny_call (codeAny_call_builtin F.init.plain F.initEntry (check_initF hC hB he rfl ?_))
  wp_walk
  exact hq
end
/-! the class is called -/
section
variable {prog : Program} {A : Around} {R : Result → Shared → Prop} {h : Heap} {g : Array GenState} {d : Drawn} {t : Nat} {os : OsState}
theorem make_F0 {rest : List Value} (X : (hd.heap_39 w.params).In h) (hrest : rest.length ≤ sizeLine)
    (hq : codeAny (model prog w) (A.under (.builtin "type.__call__" ⟨.ref 59 :: rest, []⟩)) (.call (.ref 36) ⟨.ref (h.objs.size + 1) :: rest, []⟩) (InitBack (h.objs.size + 1) R) ⟨(h.push (tupObj rest)).push (excObj h.objs.size none), g, d, t, os⟩) :
    codeAny (model prog w) A (.call (.ref 59) ⟨rest, []⟩) R ⟨h, g, d, t, os⟩ := by
  have zz0 : (PySem.Challenge.rw_pq0803_01 = PySem.Challenge.rw_pq0803_01) ∧ hd.heap_39 = hd.heap_39 := by k_fill; exact ⟨rfl, rfl⟩
  obtain ⟨nm, q, bs, sn, sub, ab, col, dd, k0, k1, k2, k3, k5, hC⟩ := hasF X
  have F := PySem.F.excBase_Exception
  have f1 := tc_lookup
  have f2 := tc_bind (.ref 59)
  have hT : (⟨h, g, d, t, os⟩ : Shared).TypeIs (.ref 59) "type" := ⟨_, hC, rfl⟩
  refine codeAny_of_tree ?_
  show wpAny _ _ (callAny (.ref 59) _) _ _ _
  repeat (any_goals (first | assumption | with_reducible refine wpAny_loadPart_at hC ?_ | wp_step))
  refine ⟨rfl, ?_⟩
  refine codeAny_call_builtin_at (Code.quiet_builtin _ (by decide +kernel)) entry_typeCall (wpAny_check_type_call_sub hC ?_)
  repeat (first | with_reducible refine wpAny_loadPart_at hC ?_ | with_reducible refine wpAny_madeBy_exc hC ?_ | wp_step)
  refine codeAny_call_builtin_code (Code.quiet_builtin _ F.quiet) (check_newF hC (by decide) ?_)
  refine exc_newF hC (by decide) (by decide) (by decide) ?_ hrest
  show wpAny _ _ _ _ _ ⟨(h.push (tupObj rest)).push (excObj h.objs.size none), g, d, t, os⟩
  have k : ∀ b o, h.get? b = some o → ((h.push (tupObj rest)).push (excObj h.objs.size none)).get? b = some o := fun b o e => Heap.get?_push_of_some _ (Heap.get?_push_of_some _ e)
  have hC₁ := k _ _ hC
  have hget : ((h.push (tupObj rest)).push (excObj h.objs.size none)).get? (h.objs.size + 1) = some (excObj h.objs.size none) := by heap_get
  have i1 : Looks (model prog w) ((h.push (tupObj rest)).push (excObj h.objs.size none)) (typeLookup (.ref 59) "__init__") (some (.ref 36)) := looks_findIn (X.keeps k) (by k_is)
  have b1 := bind_fn (M := model prog w) (X.keeps k) (f := 36) (.ref (h.objs.size + 1)) (by k_is)
  have t1 : Looks (model prog w) ((h.push (tupObj rest)).push (excObj h.objs.size none)) (typeOf (.ref (h.objs.size + 1))) (.ref 59) := (Looks.ld hget).andThen .now
  have s1 : Looks (model prog w) ((h.push (tupObj rest)).push (excObj h.objs.size none)) (isSubtype (.ref 59) (.ref 59)) true := looks_subIn (X.keeps k) (by k_is)
  unfold isInstance callSpecial? specialOf
  repeat (first | with_reducible refine wpAny_call ?_ | lk)
  refine codeAny_mono hq fun r s' z => ?_
  rcases r with e | (v | _ | _ | _) <;> first | exact z | exact z.elim | skip
  obtain ⟨rfl, z⟩ := z
  exact wpAny_pure (wpAny_pure z)
end
end
local macro_rules | `(tactic| walk_at "pad") => `(tactic| skip)
section
theorem rs_MFault2 : True := by w_top off; trivial
open PySem.Builtin PySem.Builtin.ObjectAttr in
theorem store_in_N {prog : Program} {A : Around} {Q : Fin → Shared → Prop} {E : Value → Shared → Prop} {dx : Addr} {name : PySem.Str} {v : Value} {tk : Tok} {es es' : List DictEntry} {n n' : Nat} {news' : List (Addr × Obj)}
    (F : Fr h₀ L s.heap m) (N : News h₀ L s.heap news) (U : Upd dx (dictOf es n) (dictOf es' n') news news') (hl : (getL name es).isSome = true)
    (e : (putL name (PyData.keyHash w.params name) (.str name s.toks) v es, putN name es n) = (es', n')) (hz : es'.length ≤ 1000)
    (h : ∀ h', Fr h₀ L h' m → News h₀ L h' news' → Q (.done (.ret .none)) { s with heap := h', toks := s.toks + 1 }) :
    wpAny (model prog w) A (storeInDict dx (.str name tk) name v) Q E s := by
  obtain ⟨pre, post, rfl, rfl, h1, h2⟩ := U.split
  obtain ⟨e1, e2⟩ := Prod.mk.inj e
  have ep : Obj.putName name (PyData.keyHash w.params name) (.str name s.toks) v (dictOf es n) = dictOf es' n' := by rw [putName_dict, e1, e2]
  obtain ⟨U1, U2⟩ := news_upd (f := Obj.putName name (PyData.keyHash w.params name) (.str name s.toks) v) F N h1 h2 ep rfl
  have D := (N (dx, dictOf es n) (by simp)).1
  have D' := (U2 (dx, dictOf es' n') (by simp)).1
  have hl' : (lookIn name (dictOf es n)).isSome = true := hl
  unfold storeInDict newKeyGuard
  refine wpAny_bind (wpAny_pure (wpAny_bind ?_))
  unfold nsSet
  refine wpAny_bind (wpAny_bind (wpAny_askSetting (wpAny_pure (wpAny_bind (wpAny_mkText (wpAny_bind (wpAny_loadPart D ?_)))))))
  unfold lookIn at hl'
  dsimp only at hl' ⊢
  have c : (!es.toArray.any (·.key.isStr name) && es.toArray.any (·.refKey)) = false := by
    rw [← Array.any_toList, ← Array.any_toList]
    split at hl'
    · rename_i en he
      rw [List.any_eq_true.mpr ⟨en, List.mem_of_find?_eq_some he, List.find?_some he⟩]; rfl
    · split at hl'
      · cases hl'
      · rename_i z; rw [Bool.not_eq_true] at z; rw [z, Bool.and_false]
  rw [aRefKeyMayBeTheName_at, c]
  refine wpAny_updatePart D ?_
  refine wpAny_bind (wpAny_lookBehind D' (by exact pastItsLine_dict (by rw [List.size_toArray, sizeLine_eq]; omega)) ?_)
  exact wpAny_pure (h _ U1 U2)
end
local macro_rules | `(tactic| walk_at "pad") => `(tactic| skip)
section
theorem rs_MFault3 : True := by w_top off; trivial
open PySem.Builtin PySem.Builtin.ObjectAttr
variable {prog : Program} {A : Around} {R : Result → Shared → Prop}
theorem osa_openF {ox : Obj} {od : Option Obj} {x : Addr} {name : PySem.Str} {tk : Tok} {v : Value} (X : (hd.heap_39 w.params).In s.heap) (I : InstAt s.heap x ox 59 od) (ht : takerIn (hd.heap_39 w.params) 59 name = some none)
    (h : ∀ b, wpAny (model prog w) A.in1 (storeInOwnDict (.ref x) (.ref 59) (.str name tk) name v b)
      (fun fin s' => match fin with | .done f => R (.ok f) s' | .again c' => c'.quiet = true ∧ codeAny (model prog w) A c' R s') (fun e s' => R (.error e) s') s) :
    codeAny (model prog w) A (.call (.builtin "object.__setattr__") ⟨[.ref x, .str name tk, v], []⟩) R s := by
  have zz0 : (PySem.Challenge.rw_pq0803_01 = PySem.Challenge.rw_pq0803_01) ∧ hd.heap_39 = hd.heap_39 := by k_fill; exact ⟨rfl, rfl⟩
  have SF := PySem.F.store_object
  have SE := PySem.F.store_Exception
  obtain ⟨nm, q, bs, sn, sub, ab, col, dd, k0, k1, k2, k3, k5, hC⟩ := hasF X
  have sb : Looks (model prog w) s.heap (isSubtype (.ref 59) (.type "object")) true := looks_subIn X (by k_is)
  have sub' : Looks (model prog w) s.heap (isInstance (.ref x) (.type "object")) true := I.type.andThen sb
  refine codeAny_call_builtin SF.slot.plain SF.entry (@check_slot (model prog w) _ _ s "object.__setattr__" "object" "__setattr__" (.ref x) [.str name tk, v] [] _ SF.kind SF.split sub' (SF.args (.ref x) (.str name tk) v) ?_)
  obtain ⟨attr, ha, hr⟩ := Option.bind_eq_some_iff.mp ht
  have L3 : Looks (model prog w) s.heap (storeTaker? attr) none := by
    cases attr with
    | none => cases hr; exact .now
    | some a =>
      obtain ⟨b, hb, e⟩ := Option.map_eq_some_iff.mp hr
      refine (looks_takesIn X hb).andThen ?_
      cases b
      · exact .now
      · cases e
  rw [osa_eq, refuse_eq]
  obtain ⟨hh, g, d, t, os⟩ := s
  refine wpAny_bind (wpAny_bind (I.type.here (wpAny_bind (wpAny_mroOf_exc hC ?_))))
  rw [refuseLoop_ref, refuseLoop_ref, SE.passes]
  refine wpAny_pure (wpAny_bind (I.type.here (wpAny_bind ((looks_findIn X ha).here (wpAny_bind (L3.here ?_))))))
  exact h _
variable {x dx t0 : Addr} {name : PySem.Str} {v : Value}
theorem exc_init_N {rest : List Value} {oa : Option Addr} (F : Fr h₀ L s.heap m) (X : (hd.heap_39 w.params).In h₀) (N : News h₀ L s.heap ((x, excObj t0 oa) :: news)) (hne : ∀ p ∈ news, p.1 ≠ x) (hrest : rest.length ≤ sizeLine)
    (ret : ∀ t2 h', Fr h₀ L h' m → News h₀ L h' ((x, excObj t2 oa) :: news) → Q .none { s with heap := h' }) :
    wpAny (model prog w) A (call (.builtin "Exception.__init__") (.ref x :: rest)) Q E s := by
  obtain ⟨nm, q, bs, sn, sub, ab, col, dd, k0, k1, k2, k3, k5, hC⟩ := hasF (X.keeps F.keep)
  obtain ⟨hh, g, d, t, os⟩ := s
  have N1 := N.push F (tupObj rest)
  have F1 := F.push (tupObj rest)
  have hx := (N _ (.head _)).1
  obtain ⟨F2, N2⟩ := news_upd (pre := [(hh.objs.size, tupObj rest)]) (post := news) (d := x) (o := excObj t0 oa) (o' := excObj hh.objs.size oa) (f := Obj.mapFields (·.setIfInBounds 0 (.ref hh.objs.size))) F1 N1
    (fun p hp => by
      rw [List.mem_singleton] at hp
      subst hp
      exact Ne.symm (Nat.ne_of_lt (Heap.lt_size hx))) hne rfl rfl
  exact exc_initF hC (by decide) hx (ret _ _ F2 fun p hp => N2 p (.tail _ hp)) hrest
theorem set_F1 {Q : Unit → Shared → Prop} {es es' : List DictEntry} {n n' : Nat} (F : Fr h₀ L s.heap m) (X : (hd.heap_39 w.params).In h₀) (N : News h₀ L s.heap ((x, excObj t0 (some dx)) :: (dx, dictOf es n) :: news))
    (hne : ∀ p ∈ news, p.1 ≠ dx) (hne2 : x ≠ dx) (ht : takerIn (hd.heap_39 w.params) 59 name = some none) (hl : (getL name es).isSome = true)
    (e : (putL name (PyData.keyHash w.params name) (.str name (s.toks + 1)) v es, putN name es n) = (es', n')) (hz : es'.length ≤ 1000)
    (h : ∀ h', Fr h₀ L h' m → News h₀ L h' ((x, excObj t0 (some dx)) :: (dx, dictOf es' n') :: news) → Q () { s with heap := h', toks := s.toks + 2 }) :
    wpAny (model prog w) A (setAttr (.ref x) name v) Q E s := by
  have zz0 : (PySem.Challenge.rw_pq0803_01 = PySem.Challenge.rw_pq0803_01) ∧ hd.heap_39 = hd.heap_39 := by k_fill; exact ⟨rfl, rfl⟩
  have hx := (N _ (.head _)).1
  have hdx := (N _ (.tail _ (.head _))).1
  have I : InstAt s.heap x (excObj t0 (some dx)) 59 (some (dictOf es n)) := ⟨hx, rfl, rfl, hdx⟩
  have X' := X.keeps F.keep
  refine set_plain X' I (by k_is) (osa_openF (s := { s with toks := s.toks + 1 }) X' I ht fun b => ?_)
  have hD : Looks (model prog w) s.heap (instanceDict x true) (some dx) := by
    obtain ⟨nm, q, bs, sn, sub, ab, col, dd, k0, k1, k2, k3, k5, hC⟩ := hasF X'
    have c : Looks (model prog w) s.heap (classData 59) _ := (Looks.ld (part := none) hC).andThen .now
    unfold instanceDict
    refine (Looks.ld hx).andThen ?_
    refine c.andThen ?_
    exact .now
  refine wpAny_bind (wpAny_pure (wpAny_bind (hD.at ?_)))
  exact store_in_N (s := { s with toks := s.toks + 1 }) F N (.tail hne2 (.head hne)) hl e hz fun h' F' N' => h h' F' N'
theorem set_F0 {Q : Unit → Shared → Prop} {es' : List DictEntry} {n' : Nat} (F : Fr h₀ L s.heap m) (X : (hd.heap_39 w.params).In h₀) (N : News h₀ L s.heap ((x, excObj t0 none) :: news))
    (hne : ∀ p ∈ news, p.1 ≠ x) (ht : takerIn (hd.heap_39 w.params) 59 name = some none) (hl : (getL name []).isSome = true)
    (e : (putL name (PyData.keyHash w.params name) (.str name (s.toks + 1)) v [], putN name [] 0) = (es', n')) (hz : es'.length ≤ 1000)
    (h : ∀ dx h', Fr h₀ L h' m → News h₀ L h' ((x, excObj t0 (some dx)) :: (dx, dictOf es' n') :: news) → (∀ p ∈ news, p.1 ≠ dx) → x ≠ dx → Q () { s with heap := h', toks := s.toks + 2 }) :
    wpAny (model prog w) A (setAttr (.ref x) name v) Q E s := by
  have zz0 : (PySem.Challenge.rw_pq0803_01 = PySem.Challenge.rw_pq0803_01) ∧ hd.heap_39 = hd.heap_39 := by k_fill; exact ⟨rfl, rfl⟩
  have hx := (N _ (.head _)).1
  have I : InstAt s.heap x (excObj t0 none) 59 none := ⟨hx, rfl, rfl, trivial⟩
  have X' := X.keeps F.keep
  refine set_plain X' I (by k_is) (osa_openF (s := { s with toks := s.toks + 1 }) X' I ht fun b => ?_)
  obtain ⟨nm, q, bs, sn, sub, ab, col, dd, k0, k1, k2, k3, k5, hC⟩ := hasF X'
  obtain ⟨hh, g, d, t, os⟩ := s
  have c : Looks (model prog w) hh (classData 59) _ := (Looks.ld (part := none) hC).andThen .now
  have N1 := N.push F emptyDict
  have F1 := F.push emptyDict
  have lx : x < hh.objs.size := Heap.lt_size hx
  have nx : x ≠ hh.objs.size := Nat.ne_of_lt lx
  have nd : ∀ p ∈ news, p.1 ≠ hh.objs.size := fun p hp => Nat.ne_of_lt (Heap.lt_size (N p (.tail _ hp)).1)
  obtain ⟨F2, N2⟩ := news_upd (pre := [(hh.objs.size, emptyDict)]) (post := news) (d := x) (o := excObj t0 none) (o' := excObj t0 (some hh.objs.size)) (f := fun o => { o with dict := some hh.objs.size }) F1 N1
    (fun p hp => by
      rw [List.mem_singleton] at hp
      subst hp
      exact Ne.symm nx) hne rfl rfl
  have N3 : News h₀ L ((hh.push emptyDict).update x fun o => { o with dict := some hh.objs.size }) ((x, excObj t0 (some hh.objs.size)) :: (hh.objs.size, dictOf [] 0) :: news) := fun p hp => by
    refine N2 p ?_
    simp only [List.mem_append, List.mem_cons, List.not_mem_nil, or_false] at hp ⊢
    rcases hp with rfl | rfl | hp
    · exact .inr (.inl rfl)
    · exact .inl rfl
    · exact .inr (.inr hp)
  refine wpAny_bind (wpAny_pure (wpAny_bind ?_))
  unfold ownDictForStores instanceDict
  refine wpAny_bind (wpAny_loadPart hx ?_)
  dsimp only
  refine wpAny_bind (c.at ?_)
  dsimp only
  refine wpAny_bind (wpAny_alloc (wpAny_bind ?_))
  refine wpAny_updatePart (N1 _ (.tail _ (.head _))).1 ?_
  dsimp only [dictMade]
  refine wpAny_pure ?_
  dsimp only
  exact store_in_N (s := ⟨(hh.push emptyDict).update x fun o => { o with dict := some hh.objs.size }, g, d, t + 1, os⟩) F2 N3 (.tail nx (.head nd)) hl e hz fun h' F' N' => h _ h' F' N' nd nx
end
section
theorem rs_MFault4 : True := by w_top off; trivial
local macro_rules | `(tactic| walk_at "getMethod type:Exception") => `(tactic| (k_here; refine' method_type ?F ?X ?m (by decide +kernel) ?e ?h ?_; (case F | X => k_asm); (case m => kernel_rfl); (case e => k_dflt k_is); (case h => k_handed)))
local macro_rules | `(tactic| walk_at "setAttr ref") => `(tactic| (refine mstop ?_))
local macro_rules | `(tactic| walk_at "call builtin:Exception.__init__") => `(tactic| (k_here; (with_unfolding_all refine' exc_init_N (by k_asm) (by k_asm) (by k_asm) (by k_asm) (by (simp only [sizeLine_eq, List.length_cons, List.length_nil]; omega)) ?_); intros; (try dsimp only)))
noncomputable abbrev faultEs (w : World) (what : PySem.Str) (tw : Tok) (k : Int) (tk : Tok) (n1 n2 : Tok) : List DictEntry :=
  [⟨PyData.keyHash w.params "what", .str "what" n1, .str what tw⟩, ⟨PyData.keyHash w.params "at", .str "at" n2, .int k tk⟩]
theorem init_spec {e t : Addr} {what : PySem.Str} {k : Int} {tw tk : Tok} {R : Result → Shared → Prop}
    (B : Below A₀ base outer h₀) (F : Fr h₀ L s.heap m) (X : (hd.heap_39 w.params).In h₀) (N : News h₀ L s.heap ((e, excObj t none) :: news)) (T : Top hd.view_39 LO mean mg mb h₀)
    (hk : cs.kind = .function) (hdp : dp + 4 < recursionLimit) (hun : un + 300 < cLine) (hne : ∀ p ∈ news, p.1 ≠ e)
    (ret : ∀ t2 dx h' tk' n1 n2, Fr h₀ L h' m → News h₀ L h' ((e, excObj t2 (some dx)) :: (dx, dictOf (faultEs w what tw k tk n1 n2) 2) :: news) → (∀ p ∈ news, p.1 ≠ dx) → e ≠ dx → R (.ok (.ret .none)) { s with heap := h', toks := tk' }) :
    codeAny (model PG w) ((ktrTop dp un gd cn cs L a ccd cl outer).under (.builtin "type.__call__" ⟨[.ref 59, .str what tw, .int k tk], []⟩)) (.call (.ref 36) ⟨[.ref e, .str what tw, .int k tk], []⟩) R s := by
  have zz0 : (PySem.Challenge.rw_pq0803_01 = PySem.Challenge.rw_pq0803_01) ∧ hd.heap_39 = hd.heap_39 := by k_fill; exact ⟨rfl, rfl⟩
  k_dflt (refine' code_def ?k1 ?k2 ?k3 ?k4 ?k5 ?kA ?kF ?kK ?k6 ?k7 ?k8 ?k9 ?kB ?_ ?c2 ?c3 ?c4 ?c5; (case kA => exact rfl); (case kF => exact rfl); (case kK => first | exact rfl | assumption); (case k1 => k_asm); (case k2 => k_asm); (case k3 => k_asm); (case k4 => k_asm); (case k5 => k_asm); (case k6 => k_is); (case k7 => k_is); (case k8 => (have hw9 : (Code.builtin "type.__call__" ⟨[.ref 59, .str what tw, .int k tk], []⟩).weight ≤ 1 := Nat.le_of_eq (by kernel_rfl)); (simp only [Around.under, ktrTop]; omega)); (case k9 => first | exact BindsTo.of_eq rfl | exact binds_K (by k_in) rfl (by k_is) rfl rfl rfl); (case c5 => decide); (case kB => exact locs rfl); (case c2 => exact rfl); (case c3 => exact rfl); (case c4 => exact rfl); k_whole; intro g' L' h' FG' F' N' B' X' T'; (try dsimp only); (try k_fold))
  k_steps
  refine mgo ?_
  rename_i N9
  refine' set_F0 ?k1 ?k2 N9 ?k4 ?k5 ?k6 ?k7 ?k8 ?_
  case k1 => k_asm
  case k2 => k_asm
  case k4 => exact hne
  case k5 => k_is
  case k6 => rfl
  case k7 => rfl
  case k8 => (show (1:Nat) ≤ 1000; decide)
  intro dx h8 F8 N8 nd8 ne8
  k_steps
  refine mgo ?_
  refine' set_F1 ?k1 ?k2 N8 ?k3 ?k4 ?k5 ?k6 ?k7 ?k8 ?_
  case k1 => k_asm
  case k2 => k_asm
  case k3 => exact nd8
  case k4 => exact ne8
  case k5 => k_is
  case k6 => rfl
  case k7 => rfl
  case k8 => (show (2:Nat) ≤ 1000; decide)
  intro h7 F7 N7
  k_steps
  exact ret _ _ _ _ _ _ (by assumption) (by assumption) nd8 ne8
theorem fault_new {what : PySem.Str} {k : Int} {tw tk : Tok}
    (B : Below A₀ base outer h₀) (F : Fr h₀ L s.heap m) (X : (hd.heap_39 w.params).In h₀) (N : News h₀ L s.heap news) (T : Top hd.view_39 LO mean mg mb h₀)
    (hk : cs.kind = .function) (hdp : dp + 4 < recursionLimit) (hun : un + 300 < cLine)
    (ret : ∀ e t2 dx h' tk' n1 n2, Fr h₀ L h' m → News h₀ L h' ((e, excObj t2 (some dx)) :: (dx, dictOf (faultEs w what tw k tk n1 n2) 2) :: news) → (∀ p ∈ news, p.1 ≠ e) → (∀ p ∈ news, p.1 ≠ dx) → e ≠ dx → Q (.ref e) { s with heap := h', toks := tk' }) :
    wpAny (model PG w) (ktrTop dp un gd cn cs L a ccd cl outer) (call (.ref 59) [.str what tw, .int k tk]) Q E s := by
  obtain ⟨hh, g, d, t, os⟩ := s
  have N1 := (N.push F (tupObj [.str what tw, .int k tk])).push (F.push _) (excObj hh.objs.size none)
  rw [Heap.size_push] at N1
  have N2 : News h₀ L ((hh.push (tupObj [.str what tw, .int k tk])).push (excObj hh.objs.size none)) ((hh.objs.size + 1, excObj hh.objs.size none) :: news) := fun p hp => N1 p (by
    rcases List.mem_cons.mp hp with rfl | hp
    · exact .head _
    · exact .tail _ (.tail _ hp))
  have ne : ∀ p ∈ news, p.1 ≠ hh.objs.size + 1 := fun p hp => Nat.ne_of_lt (Nat.lt_succ_of_lt (Heap.lt_size (N p hp).1))
  refine wpAny_call (make_F0 (X.keeps F.keep) (by simp only [sizeLine_eq, List.length_cons, List.length_nil]; omega) ?_)
  refine init_spec (s := ⟨(hh.push (tupObj [.str what tw, .int k tk])).push (excObj hh.objs.size none), g, d, t, os⟩) B ((F.push _).push _) X N2 T hk hdp hun ne ?_
  intro t2 dx h' tk' n1 n2 F3 N3 nd3 ne3
  exact ⟨rfl, ret _ _ _ _ _ _ _ F3 N3 ne nd3 ne3⟩
end
local macro_rules | `(tactic| walk_at "pad") => `(tactic| skip)
local macro_rules | `(tactic| walk_at "pad") => `(tactic| skip)
local macro_rules | `(tactic| walk_at "pad") => `(tactic| skip)
local macro_rules | `(tactic| walk_at "pad") => `(tactic| skip)
section
theorem rs_MRaise : True := by w_top off; trivial
/-! a FilterFault that flies: its dict lies in the ledger, and it is still its dict -/
noncomputable def RaisedF (base G : Heap) (l : List Env) (e dx : Addr) (news : List (Addr × Obj)) (h : Heap) : Prop :=
  ∃ B t, base.StaysIn B ∧ (∀ b o, G.get? b = some o → b ∉ l.filterMap (·.frame) → B.get? b = some o) ∧ (∀ q ∈ news, B.get? q.1 = some q.2 ∧ G.get? q.1 = none ∧ base.get? q.1 = none) ∧
    Heap.FlyingW B l e (.ref 59) (.ref t) h ∧ ∃ oe, h.get? e = some oe ∧ oe.dict = some dx
section
variable {M : Model} {A : Around} {E : Value → Shared → Prop} {s' : Shared} {base g g₂ h : Heap} {outer : List Env} {L a e t dx : Addr} {m : Str → Option Value} {name : PySem.Str} {scope : Scope} {cd : Value} {Q : Unit → Shared → Prop} {news : List (Addr × Obj)}
theorem leave_F (K : Below A base outer g) (F : Fr g L s'.heap m) (N : News g L s'.heap ((e, excObj t (some dx)) :: news)) (hne : ∀ p ∈ news, p.1 ≠ e)
    (hQ : ∀ h', RaisedF base g outer e dx news h' → g.UpToSlots h' → Q () { s' with heap := h' }) (hk : scope.kind = .function := by rfl) :
    wpAny M (A.deeper (envOf name scope L a cd)) (leaving (envOf name scope L a cd) (.ref e)) Q E s' := by
  have K' := K.push (name := name) (a := a) (cd := cd) F hk
  have he := N _ (.head _)
  have stk : ∀ b, b ∈ (envOf name scope L a cd :: outer).filterMap (·.frame) → b ≠ e := fun b hb q => by
    subst q
    rcases kts_mem hb with z | z
    · exact he.2.1 z
    · obtain ⟨_, o, ho, _⟩ := K.frames.mem z
      rw [he.2.2] at ho
      cases ho
  have hin : ∀ env ∈ (envOf name scope L a cd :: outer), ∀ b, env.frame = some b → b ∈ e :: (envOf name scope L a cd :: outer).filterMap (·.frame) := fun env he b hb => .tail _ (List.mem_filterMap.mpr ⟨env, he, hb⟩)
  have ge : g.get? e = none := he.2.2
  have be : base.get? e = none := fresh_of_stays K.stays he.2.2
  have st : base.StaysIn (hideAll s'.heap (e :: (envOf name scope L a cd :: outer).filterMap (·.frame))) := fun b o q => hideAll_get _ (K'.stays b o q) fun hm => by
    rcases List.mem_cons.mp hm with z | hm
    · rw [z, be] at q; cases q
    · rw [(K'.frames.mem hm).1] at q; cases q
  have sg : ∀ b o, g.get? b = some o → b ∉ outer.filterMap (·.frame) → (hideAll s'.heap (e :: (envOf name scope L a cd :: outer).filterMap (·.frame))).get? b = some o := fun b o q nm => hideAll_get _ (F.keep b o q) fun hm => by
    rcases List.mem_cons.mp hm with z | hm
    · rw [z, ge] at q; cases q
    · rcases kts_mem hm with z | z
      · rw [z, kts_self F] at q
        cases q
      · exact nm z
  have hl : ∀ q ∈ news, (hideAll s'.heap (e :: (envOf name scope L a cd :: outer).filterMap (·.frame))).get? q.1 = some q.2 ∧ g.get? q.1 = none ∧ base.get? q.1 = none := fun q hq => by
    have hq' := N q (.tail _ hq)
    refine ⟨hideAll_get _ hq'.1 fun hm => ?_, hq'.2.2, fresh_of_stays K.stays hq'.2.2⟩
    rcases List.mem_cons.mp hm with z | hm
    · exact hne q hq z
    · rcases kts_mem hm with z | z
      · exact hq'.2.1 z
      · obtain ⟨_, o, ho, _⟩ := K.frames.mem z
        rw [hq'.2.2] at ho; cases ho
  refine (dk_leaving _ _).any (wpAny_leaving_firstW (a0 := .ref t) (base := hideAll s'.heap (e :: (envOf name scope L a cd :: outer).filterMap (·.frame))) K'.stack (funFrames_hide K'.frames hin) rfl he.1 (fun b o q => of_hideAll _ q)
    (hideAll_none _ (List.mem_cons_self ..)) rfl rfl rfl fun h' hL => ?_)
  intro kd
  obtain ⟨k1, ⟨_, _, k2⟩, k3, k4⟩ := hL
  have k3' := k3
  obtain ⟨oe, vs, T, oT, ts, hoe, r⟩ := k3'
  exact hQ h' ⟨_, t, st, sg, hl, ⟨k1, hideAll_none _ (List.mem_cons_self ..), k2, k3⟩, oe, hoe, kd.at_ he.1 hoe⟩ ((Heap.UpToSlots.of_keeps F.keep).trans k4)
end
end
local macro_rules | `(tactic| walk_at "pad") => `(tactic| skip)
section
theorem rs_MRaise2 : True := by w_top off; trivial
noncomputable def RaisableF (w : World) (E : Value → Shared → Prop) (v : Value) (s₁ : Shared) : Prop :=
  ∃ e t dd, v = .ref e ∧ s₁.heap.get? e = some (excObj t dd) ∧ (hd.heap_39 w.params).In s₁.heap ∧ E (.ref e) s₁
theorem raise_F {prog : Program} {A : Around} {env : Env} {e : PySem.Expr} {pos : Pos} {Q : Flow → Shared → Prop} (hh : A.handled = none)
    (h : wpAny (model prog w) A (eval e env) (RaisableF w E) E s) : wpAny (model prog w) A (exec (.Raise (some e) none pos) env) Q E s := by
  have zz0 : (PySem.Challenge.rw_pq0803_01 = PySem.Challenge.rw_pq0803_01) ∧ hd.heap_39 = hd.heap_39 := by k_fill; exact ⟨rfl, rfl⟩
  show wpAny _ A (do standAt pos; raiseStmt env (some (do let v ← eval e env; standAt pos; pure v)) none) Q E s
  refine wpAny_bind (wpAny_standAt ?_)
  unfold raiseStmt
  dsimp only
  refine wpAny_bind (wpAny_bind (wpAny_mono h (fun v s₁ h₁ => wpAny_bind (wpAny_standAt (wpAny_pure ?_))) fun _ _ x => x))
  obtain ⟨x, t, dd, rfl, hx, X, hE⟩ := h₁
  obtain ⟨nm, q, bs, sn, sub, ab, col, cd, k0, k1, k2, k3, k5, hC⟩ := hasF X
  have hT : s₁.TypeIs (.ref 59) "type" := ⟨_, hC, rfl⟩
  have L0 : Looks (model prog w) s₁.heap (typeOf (.ref x)) (.ref 59) := (Looks.ld hx).andThen .now
  have sb : Looks (model prog w) s₁.heap (isInstance (.ref x) (.type "BaseException")) true := L0.andThen (looks_subIn X (by k_is))
  have hnt : ∀ {Q' : Bool → Shared → Prop}, Q' false s₁ → wpAny (model prog w) A (isType (.ref x)) Q' E s₁ := by
    intro Q' hq
    simp only [isType, loadHead]
    refine wpAny_bind (wpAny_loadPart hx ?_)
    exact wpAny_pure hq
  refine wpAny_bind (wpAny_pure ?_)
  dsimp only
  refine wpAny_bind (wpAny_holding ?_)
  unfold excFromValue isExcClass
  refine wpAny_bind (wpAny_bind (hnt ?_))
  simp only [Bool.false_eq_true, if_false]
  refine wpAny_pure ?_
  simp only [Bool.false_eq_true, if_false]
  refine wpAny_bind (sb.at ?_)
  simp only [if_true]
  refine wpAny_pure ?_
  refine wpAny_bind (hnt ?_)
  simp only [Bool.false_eq_true, if_false]
  unfold raisedInstance
  refine wpAny_bind (wpAny_bind (L0.at (wpAny_bind (wpAny_typeOf hT ?_))))
  rw [if_pos (by decide)]
  refine wpAny_pure ?_
  unfold setFlight raiseNew
  refine wpAny_bind (wpAny_bind (wpAny_field hx rfl (by rfl) ?_))
  rw [if_neg (by exact (by decide : ¬ ((Value.none != Value.none) = true)))]
  refine wpAny_pure (wpAny_bind (wpAny_handled ?_))
  rw [hh]
  first
    | exact wpAny_throw hE
    | exact wpAny_bind (wpAny_pure (wpAny_throw hE))
end
local macro_rules | `(tactic| walk_at "dup 2") => `(tactic| (k_here; (with_reducible refine gLen ?_); k_dflt (refine' len_octs (by k_asm) (by k_mem) (by l_ints) (by ((try simp only [List.length_append, List.length_cons, List.length_nil, List.length_map, List.length_take, List.length_drop]); omega)) ?_)))
section
theorem rs_MDec : True := by w_top off; trivial
local macro_rules | `(tactic| walk_at "exec Raise some none") => `(tactic| (k_here; refine raise_F rfl ?_))
local macro_rules | `(tactic| walk_at "call ref") => `(tactic| (k_here; (with_reducible refine gC 59 ?_); (with_unfolding_all refine' fault_new (by k_asm) (by k_asm) (by k_asm) (by k_asm) (by k_asm) (by rfl) (by ktr_room) (by units_room) ?_); intro e9 t9 dx9 h9 tk9 n19 n29 F9 N9 ne9 nd9 nx9; refine ⟨e9, _, _, rfl, (N9 _ (List.Mem.head _)).1, Frag.In.keeps (by k_asm) F9.keep, ?_⟩))
local macro_rules | `(tactic| walk_at "leaving ref") => `(tactic| (refine mstop ?_))
local macro_rules | `(tactic| walk_at "call builtin:len") => `(tactic| walk_at "dup 2")
theorem len_part {d : List UInt8} {a b : Nat} (h : d.length ≤ 2000) : ((d.drop a).take b).length ≤ 1000000 := by rw [List.length_take, List.length_drop]; omega
local macro_rules | `(tactic| walk_at "call type:list") => `(tactic| (k_here; (with_reducible refine gTb ?_); k_dflt (refine' list_bytes_K (by k_asm) (by k_asm) (by with_unfolding_all rfl) (by first | exact len_part (by assumption) | ((try simp only [List.length_take, List.length_drop]); omega)) ?_; k_whole); intros; rename_i lt9 i9; (have hl9 := i9.length); (simp only [List.length_map, List.length_take, List.length_drop] at hl9); (try k_lt lt9)))
local macro_rules | `(tactic| walk_at "subscriptTail") => `(tactic| (k_here; (with_reducible refine gSb ?_); k_dflt (refine' slice_octs (by k_asm) (by k_asm) (by omega) (by omega) (by omega) ?_ (by with_unfolding_all rfl) (by (intro _; with_unfolding_all rfl))); intros))
local macro_rules | `(tactic| walk_at "call builtin:list.extend") => `(tactic| (k_here; (with_reducible refine gBr ?_); k_dflt (refine' ext_ints (by k_asm) (by k_asm) (by k_updF) (by k_mem) (by l_ints) (by l_ints) (by ((try simp only [List.length_append, List.length_cons, List.length_nil, List.length_map, List.length_take, List.length_drop, KM.len_rep]); omega)) ?_; k_whole); intros; rename_i N' i'; (try dsimp only at N'); (try k_sweep)))
noncomputable abbrev DecS := (Nat × Tok) × (List Value × Nat × List UInt8)
noncomputable def decLed (oA : Addr) (news : List (Addr × Obj)) (c : DecS) : List (Addr × Obj) := (oA, listOf c.2.1.toArray c.2.2.1) :: news
noncomputable def decPs (c : DecS) : List (Str × Value) := [(Str.ofString "at", .int (c.1.1 : Int) c.1.2)]
noncomputable def decFacts (c : DecS) : Prop := IntsAre c.2.1 (ub c.2.2.2)
noncomputable def decP (d : List UInt8) (res : Except Nat (List UInt8)) (c : DecS) : Prop := c.1.1 ≤ d.length ∧ c.2.2.2.length ≤ 128 * c.1.1 ∧ Dec (d.drop c.1.1) c.1.1 c.2.2.2 res
noncomputable def decMu (d : List UInt8) (c : DecS) : Nat := d.length - c.1.1
theorem dec_fin {g h' : Heap} {m₀ m' : Str → Option Value} {oA : Addr} {news news' : List (Addr × Obj)} {d oc : List UInt8} {res : Except Nat (List UInt8)} {c : DecS} {tk k' no : Nat} {t' : Tok} {vo : List Value} {ns : List Int}
    (F' : Fr g L h' m') (N' : News g L h' news') (h1 : (oA, listOf vo.toArray no) ∈ news') (h3 : ∀ p ∈ news, p ∈ news') (ha : m' (Str.ofString "at") = some (.int (k' : Int) t'))
    (hm : ∀ z, z ≠ Str.ofString "at" → z ≠ Str.ofString "length" → z ≠ Str.ofString "row" → m' z = m₀ z) (hi : IntsAre vo ns) (he : ns = ub oc) (hk : k' ≤ d.length) (hl : oc.length ≤ 128 * k') (hD : Dec (d.drop k') k' oc res) (hmu : d.length - k' < d.length - c.1.1) :
    KswEnd g L s (decLed oA news) decPs decFacts [Str.ofString "length", Str.ofString "row"] m₀ (decP d res) (decMu d) c { s with heap := h', toks := tk } := by
  subst he
  refine ksw_end ((k', t'), (vo, no, oc)) F' N' (fun p hp => ?_) hi (fun p hp => ?_) (fun z h6 h7 => ?_) ⟨hk, hl, hD⟩ hmu
  · rcases List.mem_cons.mp hp with rfl | hp
    · exact h1
    · exact h3 p hp
  · simp only [decPs, List.mem_cons, List.not_mem_nil, or_false] at hp
    subst hp
    exact ha
  · simp only [decPs, List.forall_mem_cons, List.not_mem_nil, false_implies, implies_true, and_true] at h6
    have h8 : z ≠ Str.ofString "length" ∧ z ≠ Str.ofString "row" := by simpa using h7
    exact hm z h6 h8.1 h8.2
theorem raisedF_sub {base G : Heap} {l : List Env} {e dx : Addr} {news news' : List (Addr × Obj)} {h : Heap} (R : RaisedF base G l e dx news h) (hs : ∀ p ∈ news', p ∈ news) : RaisedF base G l e dx news' h := by
  obtain ⟨B, t, a, b, c, d⟩ := R
  exact ⟨B, t, a, b, fun q hq => c q (hs q hq), d⟩
theorem run_decoded_spec {d : List UInt8} {res : Except Nat (List UInt8)} {tb : Tok}
    (B : Below A₀ base outer h₀) (F : Fr h₀ L s.heap m) (X : (hd.heap_39 w.params).In h₀) (N : News h₀ L s.heap news) (T : Top hd.view_39 LO mean mg mb h₀)
    (hk : cs.kind = .function) (hdp : dp + 8 < recursionLimit) (hun : un + 500 < cLine) (hD : Dec d 0 [] res) (hsz : d.length ≤ 2000)
    (ret : ∀ os t h' tk, res = .ok os → Fr h₀ L h' m → News h₀ L h' news → Q (.bytes os.toArray t) { s with heap := h', toks := tk })
    (err : ∀ k e dx es n g' h' t tk, res = .error k → getL (Str.ofString "at") es = some (some (.int (k : Int) t)) → Fr h₀ L g' m → Below (ktrTop dp un gd cn cs L a ccd cl outer) base (envX cn cs L a ccd cl :: outer) g' →
      RaisedF base g' (envX cn cs L a ccd cl :: outer) e dx ((dx, dictOf es n) :: news) h' → g'.UpToSlots h' → E (.ref e) { s with heap := h', toks := tk }) :
    wpAny (model PG w) (ktrTop dp un gd cn cs L a ccd cl outer) (call (.ref 89) [.bytes d.toArray tb]) Q E s := by
  have zz0 : (PySem.Challenge.rw_pq0803_01 = PySem.Challenge.rw_pq0803_01) ∧ hd.heap_39 = hd.heap_39 := by k_fill; exact ⟨rfl, rfl⟩
  refine wpAny_call ?_
  k_dflt ktr_enter
  k_steps
  refine mgo ?_
  rename_i oA _ loA D _ lD _ _ hp F1 N1
  clear lD
  have neO : ∀ p ∈ news, p.1 ≠ oA := fun p hp => Nat.ne_of_lt (loA p hp)
  refine' ksw_h (decLed oA news) decPs decFacts [Str.ofString "length", Str.ofString "row"] (decP d res) (decMu d) ((0, _), ([], 0, [])) F1 (news_drop N1 ?kn) .nil ?ka ⟨Nat.zero_le _, by simp, by simpa using hD⟩ ?kc
  case ka =>
    intro p hp
    simp only [decPs, List.mem_cons, List.not_mem_nil, or_false] at hp
    subst hp
    rfl
  case kn =>
    intro p hp
    simp only [decLed, List.mem_cons] at hp ⊢
    exact .inr hp
  case kc =>
    clear F1 N1
    intro K9
    refine pr23 fun k t vo no oc => ?_
    intro hK9 u h tk hio hp9 F2 N2
    have hk1 := hp9.1
    have hk2 := hp9.2.1
    have hD' := hp9.2.2
    clear hp9
    dsimp only [decLed, decPs, decFacts] at hio hk1 hk2 hD' F2 N2
    have hlo : vo.length = oc.length := by rw [hio.length, List.length_map]
    have hb8 : ∀ i, (d.getD i 0).toNat < 256 := fun i => (d.getD i 0).toNat_lt
    have hb1 := hb8 (k : Int).toNat
    k_steps
    all_goals (first | (refine kpr hK9 ?_; k_steps) | skip)
    · rename_i hle e9 t9 dx9 h9 tk9 n19 n29 F9 N9 ne9 nd9 nx9
      have hk : k < d.length := by have h : (k : Int) < (d.toArray.size : Int) := by assumption
                                   simp only [List.size_toArray] at h; omega
      have e0 : (k : Int).toNat = k := by omega
      have e1 : ((k : Int) + 1).toNat = k + 1 := by omega
      have e2 : ((k : Int) + 2 + ((d.getD k 0).toNat : Int)).toNat = k + 2 + (d.getD k 0).toNat := by omega
      have e3 : k + 2 + (d.getD k 0).toNat - (k + 1) = (d.getD k 0).toNat + 1 := by omega
      have n128 : ((d.getD (k : Int).toNat 0).toNat : Int) ≠ 128 := by assumption
      have hb : ((d.getD (k : Int).toNat 0).toNat : Int) < 128 := by assumption
      rw [e0] at hb n128
      rw [List.length_map, e0, e1, e2, e3] at hle
      clear e0 e1 e2 e3
      have hres : res = .error k := dec_short hk hD' (by omega) (by omega)
      refine mgo ?_
      with_unfolding_all refine' leave_F ?k1 F9 N9 ?k4 ?_
      case k1 => k_asm
      case k4 =>
        intro p hp
        rcases List.mem_cons.mp hp with rfl | hp
        · exact Ne.symm nx9
        · exact ne9 p hp
      intro h' R U
      exact err k _ _ _ _ _ _ _ _ hres rfl (by assumption) (by assumption) (raisedF_sub R fun p hp => by
        rcases List.mem_cons.mp hp with rfl | hp
        · exact List.Mem.head _
        · simp only [List.mem_cons, hp, or_true]) U
    · rename_i hle _ _ _ hI _ F9 N9
      have hk : k < d.length := by have h : (k : Int) < (d.toArray.size : Int) := by assumption
                                   simp only [List.size_toArray] at h; omega
      have e0 : (k : Int).toNat = k := by omega
      have e1 : ((k : Int) + 1).toNat = k + 1 := by omega
      have e2 : ((k : Int) + 2 + ((d.getD k 0).toNat : Int)).toNat = k + 2 + (d.getD k 0).toNat := by omega
      have e3 : k + 2 + (d.getD k 0).toNat - (k + 1) = (d.getD k 0).toNat + 1 := by omega
      have n128 : ((d.getD (k : Int).toNat 0).toNat : Int) ≠ 128 := by assumption
      have hb : ((d.getD (k : Int).toNat 0).toNat : Int) < 128 := by assumption
      rw [e0] at hb n128
      rw [List.length_map, e0, e1, e2, e3] at hle
      rw [e0, e1, e2, e3] at hI
      clear e0 e1 e2 e3
      have hD2 := dec_row hk hD' (by omega) (by omega)
      rw [List.length_take, List.length_drop] at hle
      refine kpn hK9 ?_
      refine' dec_fin (k' := k + 2 + (d.getD k 0).toNat) (oc := oc ++ (d.drop (k + 1)).take ((d.getD k 0).toNat + 1)) F9 N9 ?h11 ?h31 ?ha1 ?hm1 hI ?he1 ?hk1 ?hl1 hD2 ?mu1
      case ha1 => rfl
      case h11 => exact .tail _ (.head _)
      case h31 => intro p hp; simp only [List.mem_cons, hp, or_true]
      case hm1 => intro z z1 z2 z3; simp [kstB, z1, z2, z3]
      case he1 => exact ub_app _ _
      case hk1 => omega
      case hl1 =>
        rw [List.length_append, List.length_take, List.length_drop]
        omega
      case mu1 => dsimp only; omega
    · rename_i hle e9 t9 dx9 h9 tk9 n19 n29 F9 N9 ne9 nd9 nx9
      have hk : k < d.length := by have h : (k : Int) < (d.toArray.size : Int) := by assumption
                                   simp only [List.size_toArray] at h; omega
      have e0 : (k : Int).toNat = k := by omega
      have e1 : ((k : Int) + 1).toNat = k + 1 := by omega
      have e2 : ((k : Int) + 2 + ((d.getD k 0).toNat : Int)).toNat = k + 2 + (d.getD k 0).toNat := by omega
      have e3 : k + 2 + (d.getD k 0).toNat - (k + 1) = (d.getD k 0).toNat + 1 := by omega
      have n128 : ((d.getD (k : Int).toNat 0).toNat : Int) ≠ 128 := by assumption
      have hb : ¬ ((d.getD (k : Int).toNat 0).toNat : Int) < 128 := by assumption
      rw [e0] at hb n128
      rw [List.size_toArray] at hle
      clear e0 e1 e2 e3
      have hres : res = .error k := dec_cutoff hk hD' (by omega) (by omega)
      refine mgo ?_
      with_unfolding_all refine' leave_F ?k1 F9 N9 ?k4 ?_
      case k1 => k_asm
      case k4 =>
        intro p hp
        rcases List.mem_cons.mp hp with rfl | hp
        · exact Ne.symm nx9
        · exact ne9 p hp
      intro h' R U
      exact err k _ _ _ _ _ _ _ _ hres rfl (by assumption) (by assumption) (raisedF_sub R fun p hp => by
        rcases List.mem_cons.mp hp with rfl | hp
        · exact List.Mem.head _
        · simp only [List.mem_cons, hp, or_true]) U
    · rename_i hle _ _ _ _ _ _ _ _ _ _ _ _ _ _ _ hI _ F9 N9
      have hk : k < d.length := by have h : (k : Int) < (d.toArray.size : Int) := by assumption
                                   simp only [List.size_toArray] at h; omega
      have e0 : (k : Int).toNat = k := by omega
      have e1 : ((k : Int) + 1).toNat = k + 1 := by omega
      have e2 : ((k : Int) + 2 + ((d.getD k 0).toNat : Int)).toNat = k + 2 + (d.getD k 0).toNat := by omega
      have e3 : k + 2 + (d.getD k 0).toNat - (k + 1) = (d.getD k 0).toNat + 1 := by omega
      have n128 : ((d.getD (k : Int).toNat 0).toNat : Int) ≠ 128 := by assumption
      have hb : ¬ ((d.getD (k : Int).toNat 0).toNat : Int) < 128 := by assumption
      rw [e0] at hb n128
      rw [List.size_toArray] at hle
      have hr : (List.replicate (257 - ((d.getD (k : Int).toNat 0).toNat : Int)).toNat [((d.getD ((k : Int) + 1).toNat 0).toNat : Int)]).flatten = ub (List.replicate (257 - (d.getD k 0).toNat) (d.getD (k + 1) 0)) := by
        rw [e0, e1, show (257 - ((d.getD k 0).toNat : Int)).toNat = 257 - (d.getD k 0).toNat by omega]
        generalize 257 - (d.getD k 0).toNat = n
        induction n with
        | zero => rfl
        | succ n ih => rw [List.replicate_succ, List.replicate_succ, List.flatten_cons, ih]; rfl
      rw [hr, ub_app] at hI
      clear hr e0 e1 e2 e3
      (rename _ < (0 : Int) → _ => qA)
      (rename (0 : Int) ≤ _ → _ => qB)
      clear qA qB
      have hD2 := dec_run hk hD' (by omega) (by omega)
      refine kpn hK9 ?_
      refine' dec_fin (k' := k + 2) (oc := oc ++ List.replicate (257 - (d.getD k 0).toNat) (d.getD (k + 1) 0)) F9 N9 ?h12 ?h32 ?ha2 ?hm2 hI ?he2 ?hk2 ?hl2 hD2 ?mu2
      case ha2 => rfl
      case h12 => exact .tail _ (.tail _ (.head _))
      case h32 => intro p hp; simp only [List.mem_cons, hp, or_true]
      case hm2 => intro z z1 z2 z3; simp [kstB, z1, z2, z3]
      case he2 => rfl
      case hk2 => omega
      case hl2 =>
        rw [List.length_append, List.length_replicate]
        omega
      case mu2 => dsimp only; omega
    · have hk : k < d.length := by have h : (k : Int) < (d.toArray.size : Int) := by assumption
                                   simp only [List.size_toArray] at h; omega
      have n128 : ((d.getD (k : Int).toNat 0).toNat : Int) = 128 := by assumption
      rw [show (k : Int).toNat = k by omega] at n128
      exact ret _ _ _ _ (dec_mark hk hD' (by omega)) (by assumption) (news_drop (by assumption) fun p hp => .tail _ hp)
    · have hk : ¬ ((k : Int) < (d.toArray.size : Int)) := by assumption
      simp only [List.size_toArray] at hk
      exact ret _ _ _ _ (dec_end (by omega) hD') (by assumption) (news_drop (by assumption) fun p hp => .tail _ hp)
end
local macro_rules | `(tactic| walk_at "pad") => `(tactic| skip)
local macro_rules | `(tactic| walk_at "pad") => `(tactic| skip)
local macro_rules | `(tactic| walk_at "pad") => `(tactic| skip)
local macro_rules | `(tactic| walk_at "pad") => `(tactic| skip)
local macro_rules | `(tactic| walk_at "pad") => `(tactic| skip)
local macro_rules | `(tactic| walk_at "pad") => `(tactic| skip)
local macro_rules | `(tactic| walk_at "pad") => `(tactic| skip)
local macro_rules | `(tactic| walk_at "pad") => `(tactic| skip)
section
theorem rs_MCaught : True := by w_top off; trivial
section
variable {prog : Program} {A₀ : Around} {s' : Shared} {g g₀ G : Heap} {e dx : Addr} {m : PySem.Str → Option Value} {name : PySem.Str} {scope : Scope} {cd : Value}
  {n : PySem.Str} {b₀ : Stmt} {suite : List Stmt} {pos np : Pos} {rest : List ExceptHandler} {Q : Flow → Shared → Prop} {KF : Frag}
  {p : Program} {loose : List PySem.Str} {x : PySem.Str}
/-- the handler «except FilterFault as n»: the fault's dict is still its dict -/
theorem caught_F (R : RaisedF base G (envOf name scope L a cd :: outer) e dx news s'.heap) (F : Fr g L G m) (K : Below A₀ base outer g) (hsm : G.UpToSlots s'.heap) (XB : KF.In base) (TB : Top p loose mean mg mb base)
    (D : KtsDicts (outer.filterMap (·.frame)) g) (T0 : KtsTurn (outer.filterMap (·.frame)) g₀ g)
    (ex : nsIn KF mainGlobals x = some (some (.ref 59))) (q : ktsIn KF 59 "BaseException" = true)
    (k : ∀ h' g' oe ws tk, KtsTurn (outer.filterMap (·.frame)) g₀ g' → Fr g' L h' (fun y => if y = n then some (.ref e) else m y) → News g' L h' ((e, oe) :: news) → oe.cls = .ref 59 → oe.dict = some dx → oe.data = .fields ws →
      Below A₀ base outer g' → KF.In g' → Top p loose mean mg mb g' → KtsDicts (outer.filterMap (·.frame)) g' →
      wpAny (model prog w) ((A₀.deeper (envOf name scope L a cd)).mark (some (.ref e))) (execs (b₀ :: suite) (envOf name scope L a cd))
        (fun f s₄ => wpAny (model prog w) (A₀.deeper (envOf name scope L a cd)) (do bindName (envOf name scope L a cd) n .none; unbindBehindTheSuite (envOf name scope L a cd) n pos) (fun _ s₅ => Q f s₅) E s₄)
        (AsSuiteRaised (model prog w) ((A₀.deeper (envOf name scope L a cd)).mark (some (.ref e))) (envOf name scope L a cd) n pos (notedBy (model prog w) ((A₀.deeper (envOf name scope L a cd)).mark (some (.ref e))) (envOf name scope L a cd) (cameBackBy (model prog w) (A₀.deeper (envOf name scope L a cd)) (envOf name scope L a cd) E)))
        { s' with heap := h', toks := tk })
    (hk : scope.kind = .function := by rfl) (hlo : (envOf name scope L a cd).kindOf n = some .local := by rfl) (hx : (envOf name scope L a cd).kindOf x = some .globalImplicit := by rfl) (hd : (x == ("__debug__" : PySem.Str)) = false := by decide) :
    wpAny (model prog w) (A₀.deeper (envOf name scope L a cd)) (noteFrame (.ref e) (envOf name scope L a cd))
      (fun _ s₂ => wpAny (model prog w) (A₀.deeper (envOf name scope L a cd)) (setFlight (.ref e) none) (fun _ s₃ =>
        wpAny (model prog w) (A₀.deeper (envOf name scope L a cd)) (handleBy (.ref e) (envOf name scope L a cd) (.ExceptHandler (some (.Name x np)) (some n) (b₀ :: suite) pos :: rest)) Q E s₃) E s₂) E s' := by
  obtain ⟨B, t, hB, hBG, hl, hfl, o0, ho0, hod0⟩ := R
  have hL : B.get? L = none := by
    obtain ⟨_, ⟨L', _, hf, hn', _⟩, _⟩ := hfl.2.2.1
    obtain rfl : L = L' := Option.some.inj hf
    exact hn'
  refine (dk_note _ _).any (wpAny_looks_onW (Around.frames_deeper K.stack) rfl hfl fun h₄ hheld₄ hsm₄ kd₄ => ?_)
  refine (dk_setFlight _ _).any (wpAny_landsW hheld₄ fun h₅ hheld hsm₅' kd₅ => ?_)
  have hsm₅ := hsm₄.trans hsm₅'
  obtain ⟨g₅, T₅, F₅, K₅⟩ := kts_ground K F hBG hheld.1 (hsm.trans hsm₅)
  obtain ⟨ob, hob, hobc⟩ := hheld.there
  obtain ⟨nm, q', N, bs, bm, hdct, sn, sub, ab, col, dd, k0, k1, k2, k3, k5, newId, hC, hbase, hbT⟩ := kts_cls (XB.keeps K₅.stays) q
  refine wpAny_handleBy_cons (codeAny_handlers_test (name_K F₅ (XB.keeps K₅.stays) (topRead_of (TB.keeps K₅.stays)) ex ?_ hk hx hd)) (by intro q; cases q)
  refine wpAny_excMatches_sub_self (F₅.keep _ _ hC) hob hobc hbase (codeAny_handlers_suite_as ?_)
  refine (dk_setFlight _ _).any (lands_againW hheld fun h₆ hfl₆ hsm₆ kd₆ => ?_)
  obtain ⟨g₆, T₆, F₆, K₆⟩ := kts_ground K F hBG hfl₆.1 ((hsm.trans hsm₅).trans hsm₆)
  obtain ⟨oe, ws, hoe, hoec, hoed, hoe0⟩ := hfl₆.first
  have hdct : oe.dict = some dx := (((kd₄.trans kd₅).trans kd₆).at_ ho0 hoe).trans hod0
  have ne₆ : g₆.get? e = none := T₆.none_ _ (kts_fresh F hBG hfl₆.2.1 fun o ho m => by
    obtain ⟨_, o', ho', hd⟩ := K.frames.mem m
    rw [ho] at ho'
    cases ho'
    obtain ⟨sl, hs⟩ := ((hsm.trans hsm₅).trans hsm₆) _ _ (F.keep _ _ ho) hd
    rw [hoe] at hs
    cases hs
    exact hd _ hoed)
  have Nl : News g₆ L h₆ news := fun q hq => ⟨hfl₆.1 _ _ (hl q hq).1, (fun z => by have := (hl q hq).1; rw [z, hL] at this; cases this), T₆.none_ _ (kts_none F.keep (hl q hq).2.1)⟩
  have N₆ : News g₆ L h₆ ((e, oe) :: news) := News.more F₆ Nl hoe (fun es n q => by rw [hoed] at q; cases q) ne₆
  refine stN F₆ N₆ (fun h₇ F₇ N₇ => ?_) hk hlo
  exact k h₇ g₆ oe ws _ (T0.trans T₆) F₇ N₇ hoec hdct hoed K₆ (XB.keeps K₆.stays) (TB.keeps K₆.stays) (D.turn T₆)
end
end
local macro_rules | `(tactic| walk_at "pad") => `(tactic| skip)
section
theorem rs_MEnterX : True := by w_top off; trivial
section
variable {prog : Program} {A : Around} {env : Env} {mg mb : PySem.Str → Option Value} {K : Frag} {p : Program} {loose : List PySem.Str}
    {R : Result → Shared → Prop} {name qual : PySem.Str} {params : Arguments} {body : List Stmt} {scope : Scope} {dV kV doc pm cdv ct oc : Value} {an od : Option Addr} {osl : Array (Option Value)} {f : Addr} {args : Args} {binds : List (PySem.Str × Value)}
theorem frame_one {b : Addr} (hf : env.frame = some L) (hb : b ∈ [env].filterMap (·.frame)) : b = L := by
  obtain ⟨e, he, hfe⟩ := List.mem_filterMap.mp hb
  obtain rfl := List.mem_singleton.mp he
  exact (Option.some.inj (hf.symm.trans hfe)).symm
/-- a def that catches, called from the outermost frame (with cells or without) -/
theorem code_defX0 (B : Below A₀ base [] h₀) (F : Fr h₀ L s.heap m) (X₀ : K.In h₀) (N : News h₀ L s.heap news) (T : Top p loose mean mg mb h₀) (hA : A.frames = some [env]) (hf : env.frame = some L) (hke : env.scope.kind = .function)
    (ho : K.lookup f = some ⟨oc, od, .func (fnOf name qual params body scope dV kV doc pm an cdv ct), osl⟩) (hcd : codeIn K cdv qual = true) (hroom : A.depth < recursionLimit)
    (hbind : BindsTo s (fnOf name qual params body scope dV kV doc pm an cdv ct) args binds) (hloc : ∀ y ∈ binds, scope.names.lookup y.1 = some .local)
    (h : ∀ g L' h₁, Fr h₀ L g m → Fr g L' h₁ (fun y => binds.reverse.lookup y) → News g L' h₁ news → Below A base [env] g → K.In g → Top p loose mean mg mb g → KtsDicts ([env].filterMap (·.frame)) g →
      wpAny (model prog w) (A.deeper (envOf qual scope L' f cdv)) (execs body (envOf qual scope L' f cdv))
        (fun fl s' => LeaveS0 ([env].filterMap (·.frame)) h₀ L m g R (match fl with | .ret v => v | _ => .none) s')
        (fun e s' => wpAny (model prog w) (A.deeper (envOf qual scope L' f cdv)) (leaving (envOf qual scope L' f cdv) e) (fun _ s'' => R (.error e) s'') (fun e' s'' => R (.error e') s'') s')
        { s with heap := h₁, toks := s.toks + binds.length })
    (hco : scope.isCoroutine = false) (hgen : scope.isGenerator = false) (hk : scope.kind = .function) (hcell : ∀ x ∈ scope.names, x.2 ≠ .cell) : codeAny (model prog w) A (.call (.ref f) args) R s := by
  obtain ⟨FG, BG, st, _⟩ := groundX (R := R) B F N hA hf hke
  obtain ⟨oL, es, ep, hLg, hLd, hLk, hLf⟩ := id FG.ns
  have nL₀ : h₀.get? L = none := kts_self F
  refine codeAny_call_def (fd := fnX name qual params body scope [] dV kV doc pm an cdv ct) (body := body) (binds := binds) hroom ((X₀.keeps F.keep) _ _ ho) rfl (T.nolimit.keeps F.keep) (codeRec_of (X₀.keeps F.keep) hcd) rfl hbind hcell hloc (fun h₁ hns hk₁ => ?_) hco hgen hk
  refine wpAny_mono (h _ s.heap.objs.size h₁ FG ⟨hns, fun b o e => hk₁ b o (of_hideAll _ e), Nat.le_of_eq (hideAll_size _ _)⟩
    (fun p hp => ⟨hk₁ _ _ (N p hp).1, Nat.ne_of_lt (Heap.lt_size (N p hp).1), hideAll_none _ (List.mem_map_of_mem hp)⟩) BG (X₀.keeps st) (T.keeps st)
    (fun b hb => by rw [frame_one hf hb]; exact ⟨oL, es, ep, hLg, hLd⟩)) (fun fl s' hl => ?_) fun _ _ y => y
  obtain ⟨g', L', m', news', T', F', N', k⟩ := hl
  obtain ⟨sl, hs⟩ := T'.up hLg
  refine k ⟨⟨_, es, ep, F'.keep _ _ hs, hLd, hLk, hLf⟩, fun b o e => F'.keep b o (T'.other b o (st b o e) fun q => ?_), F.above⟩ fun p hp => ⟨(N' p hp).1, fun q => ?_, ?_⟩
  · rw [frame_one hf q, nL₀] at e
    cases e
  · have := (N' p hp).2.2
    rw [q, hs] at this
    cases this
  · cases q : h₀.get? p.1 with
    | none => rfl
    | some o =>
      obtain ⟨sl', hs'⟩ := T'.up (st _ _ q)
      have := (N' p hp).2.2
      rw [hs'] at this
      cases this
end
end
local macro_rules | `(tactic| walk_at "pad") => `(tactic| skip)
section
theorem rs_MHeard : True := by w_top off; trivial
open PySem.Builtin PySem.Builtin.ObjectAttr
theorem get_FF {prog : Program} {A : Around} {x dx : Addr} {oe : Obj} {ws : Array Value} {es : List DictEntry} {n : Nat} {name : PySem.Str} {v : Value} {expr : Bool} (F : Fr h₀ L s.heap m) (X : (hd.heap_39 w.params).In h₀) (N : News h₀ L s.heap news)
    (hx : (x, oe) ∈ news) (hc : oe.cls = .ref 59) (hdd : oe.dict = some dx) (hda : oe.data = .fields ws) (hdx : (dx, dictOf es n) ∈ news) (ha : findIn (hd.heap_39 w.params) (.ref 59) name = some none) (hl : getL name es = some (some v)) (hv : handedIn v = true)
    (h : Q v { s with toks := s.toks + 1 }) :
    wpAny (model prog w) A (getAttr (.ref x) name expr) Q E s := by
  have zz0 : (PySem.Challenge.rw_pq0803_01 = PySem.Challenge.rw_pq0803_01) ∧ hd.heap_39 = hd.heap_39 := by k_fill; exact ⟨rfl, rfl⟩
  have FB := PySem.F.attrBase_Exception
  have X' := X.keeps F.keep
  have I : InstAt s.heap x oe 59 (some (dictOf es n)) := ⟨(N _ hx).1, hc, by unfold notCls; rw [hda], by rw [hdd]; exact (N _ hdx).1⟩
  obtain ⟨hh, g, d, t, os⟩ := s
  have L0 := I.type (M := model prog w)
  have L1 : Looks (model prog w) hh (typeLookup (.ref 59) "__getattribute__") (some (.builtin "BaseException.__getattribute__")) := looks_findIn X' (by k_is)
  have L2 : Looks (model prog w) hh (typeLookup (.ref 59) "__getattr__") none := looks_findIn X' (by k_is)
  have L3 := looks_find (M := model prog w) X' I (findObj_own (K := hd.heap_39 w.params) (name := name) (v := v) (by k_is) ha rfl hl)
  have sb : Looks (model prog w) hh (isInstance (.ref x) (.type "BaseException")) true := L0.andThen (looks_subIn X' (by k_is))
  have hk : builtinKind "BaseException.__getattribute__" = some .slot := by decide +kernel
  have hsplit : splitId "BaseException.__getattribute__" = some ("BaseException", "__getattribute__") := by decide +kernel
  have hx2 : (Value.builtin "BaseException.__getattribute__" == Value.builtin "object.__getattribute__") = false := by decide +kernel
  have hx1 : (onTheHeap (Value.ref 59) && Value.builtin "BaseException.__getattribute__" == Value.builtin "object.__getattribute__") = false := by rw [hx2]; rfl
  have hx0 : (expr && onTheHeap (Value.builtin "BaseException.__getattribute__")) = false := by cases expr <;> rfl
  unfold getAttr getAttrBy
  refine wpAny_bind (wpAny_mkText (wpAny_holding (wpAny_bind (L0.at (wpAny_bind (L1.at ?_))))))
  dsimp only
  rw [hx1]
  simp only [Bool.false_eq_true, if_false]
  unfold getAttrByItsOwn hookBefore
  refine wpAny_bind ?_
  show wpAny _ _ (typeLookup (.ref 59) "__getattr__") _ _ _
  refine L2.at ?_
  unfold callGetattribute
  rw [hx0]
  simp only [Bool.false_eq_true, if_false]
  unfold boundAndCalled
  rw [FB.ga.bind]
  refine wpAny_bind (wpAny_attempt (wpAny_holding (wpAny_bind (wpAny_pure (wpAny_call ?_)))))
  show codeAny _ _ (.call (.builtin "BaseException.__getattribute__") ⟨[.ref x, .str name t], []⟩) _ _
  refine codeAny_call_builtin FB.ga.plain PySem.F.entry_bexc_ga (@check_slot (model prog w) _ _ ⟨hh, g, d, t + 1, os⟩ "BaseException.__getattribute__" "BaseException" "__getattribute__" (.ref x) [.str name t] [] _ hk hsplit sb (PySem.F.args_bexc_ga _ _) ?_)
  unfold Builtin.«object.__getattribute__»
  refine wpAny_bind (wpAny_pure (wpAny_bind (wpAny_pure (wpAny_bind (L0.at (wpAny_bind (L3.at ?_)))))))
  refine wpAny_pure ?_
  show wpAny _ _ (handedOut v) _ _ _
  rw [handedOut_of hv]; exact wpAny_pure h
local macro_rules | `(tactic| walk_at "call ref") => `(tactic| (refine mstop ?_))
local macro_rules | `(tactic| walk_at "noteFrame ref") => `(tactic| (k_here; (refine' caught_F (by assumption) (by assumption) (by assumption) (by assumption) (by assumption) (by assumption) (by assumption) (by exact KtsTurn.refl) (by k_is) (by kts_isx) ?_); intros; (try k_sweep)))
local macro_rules | `(tactic| walk_at "getAttr ref") => `(tactic| (k_here; (refine' get_FF (by k_asm) (by k_asm) (by k_asm) (by exact List.Mem.head _) (by assumption) (by assumption) (by assumption) (by exact List.Mem.tail _ (List.Mem.head _)) (by k_is) (by assumption) (by rfl) ?_)))
theorem law_heard_spec {d : List UInt8} {res : Except Nat (List UInt8)} {tb : Tok}
    (B : Below A₀ base [] h₀) (F : Fr h₀ L s.heap m) (X : (hd.heap_39 w.params).In h₀) (N : News h₀ L s.heap news) (T : Top hd.view_39 LO mean mg mb h₀) (XB : (hd.heap_39 w.params).In base) (TB : Top hd.view_39 LO mean mg mb base)
    (hk : cs.kind = .function) (hdp : dp + 10 < recursionLimit) (hun : un + 600 < cLine) (hD : Dec d 0 [] res) (hsz : d.length ≤ 2000)
    (ret1 : ∀ os t h' tk, res = .ok os → Fr h₀ L h' m → News h₀ L h' news → Q (.bytes os.toArray t) { s with heap := h', toks := tk })
    (ret2 : ∀ k D t1 t2 h' tk, res = .error k → Fr h₀ L h' m → News h₀ L h' ((D, tupObj [.str (Str.ofString "fault") t1, .int (k : Int) t2]) :: news) → (∀ p ∈ news, p.1 < D) → Q (.ref D) { s with heap := h', toks := tk }) :
    wpAny (model PG w) (ktrTop dp un gd cn cs L a ccd cl []) (call (.ref 122) [.bytes d.toArray tb]) Q E s := by
  have zz0 : (PySem.Challenge.rw_pq0803_01 = PySem.Challenge.rw_pq0803_01) ∧ hd.heap_39 = hd.heap_39 := by k_fill; exact ⟨rfl, rfl⟩
  refine wpAny_call ?_
  k_dflt (refine' code_defX0 ?k1 ?k2 ?k3 ?k4 ?k5 ?kA ?kF ?kK ?k6 ?k7 ?k8 ?k9 ?kB ?_ ?c2 ?c3 ?c4 ?c5; (case kA => exact rfl); (case kF => exact rfl); (case kK => assumption); (case k2 => k_asm); (case k1 => k_asm); (case k3 => k_asm); (case k4 => k_asm); (case k5 => k_asm); (case k6 => k_is); (case k7 => k_is); (case k8 => ktr_room); (case k9 => exact BindsTo.of_eq rfl); (case kB => exact locs rfl); (case c2 => exact rfl); (case c3 => exact rfl); (case c4 => exact rfl); (case c5 => decide); k_whole; intro g' L' h' FG' F' N' B' X' T' D'; (try dsimp only); (try k_fold))
  k_steps
  refine mgo ?_
  with_unfolding_all refine' run_decoded_spec (by k_asm) (by k_asm) (by k_asm) (by k_asm) (by k_asm) (by rfl) (by ktr_room) (by units_room) (by assumption) (by assumption) ?r ?e
  case' r => (intros; (try dsimp only))
  case' e => (intros; (try dsimp only))
  all_goals k_steps
  · rename_i kF kN _ _
    exact ret2 _ _ _ _ _ _ (by assumption) kF (fun p hp => kN p (by
      rcases List.mem_cons.mp hp with rfl | hp
      · exact .head _
      · exact .tail _ (.tail _ (.tail _ hp)))) (of_allLt (by assumption : _ ∧ _ ∧ AllLt _ news).2.2)
  · rename_i kF kN _ _
    exact ret1 _ _ _ _ (by assumption) kF kN
end
local macro_rules | `(tactic| walk_at "pad") => `(tactic| skip)
local macro_rules | `(tactic| walk_at "pad") => `(tactic| skip)
local macro_rules | `(tactic| walk_at "pad") => `(tactic| skip)
local macro_rules | `(tactic| walk_at "pad") => `(tactic| skip)
section
theorem rs_MDip : True := by w_top off; trivial
theorem pop0_ints {prog : Program} {A : Around} {D : Addr} {news' : List (Addr × Obj)} {vs : List Value} {ns : List Int} {n : Nat} {i : Int} {u : Tok} (F : Fr h₀ L s.heap m) (N : News h₀ L s.heap news) (U : Upd D (listOf vs.toArray n) (listOf vs.tail.toArray (n + 1)) news news') (hi : IntsAre vs ns) (hne : decide (ns = []) = false) (h0 : i = 0)
    (hz : ns.length ≤ 1000)
    (h : ∀ h' t, Fr h₀ L h' m → News h₀ L h' news' → IntsAre vs.tail ns.tail → ns.tail.length + 1 = ns.length → Q (.int (ns.headD 0) t) { s with heap := h' }) :
    wpAny (model prog w) A (call (.builtin "list.pop") [.ref D, .int i u]) Q E s := by
  subst h0
  cases hi with
  | nil => simp at hne
  | cons y t r =>
    refine kl_popAt (n := n) (k := 0) (p := []) F N rfl (by simp [seqIndex?]) rfl U ?_ (fun h' F' N' => h h' _ F' N' r rfl)
    have := r.length
    simp only [List.length_cons] at hz ⊢
    rw [sizeLine_eq]; omega
local macro_rules | `(tactic| walk_at "call builtin:list.pop") => `(tactic| (k_here; (with_reducible refine gBi ?_); k_dflt (refine' pop0_ints (by k_asm) (by k_asm) (by k_upd) (by l_ints) (by assumption) (by rfl) (by omega) ?_); intros))
theorem law_dip_spec {W C : Addr} {vs : List Value} {ns : List Int} {nW nC : Nat} {x b c many : Int} {t1 t2 t3 tm : Tok}
    (B : Below A₀ base outer h₀) (F : Fr h₀ L s.heap m) (X : (hd.heap_39 w.params).In h₀) (N : News h₀ L s.heap ((W, listOf #[.ref C, .int x t1, .int b t2, .int c t3] nW) :: (C, listOf vs.toArray nC) :: news)) (T : Top hd.view_39 LO mean mg mb h₀)
    (hWC : C < W) (hW : ∀ p ∈ news, p.1 ≠ W) (hC : ∀ p ∈ news, p.1 ≠ C)
    (hk : cs.kind = .function) (hdp : dp + 1 < recursionLimit) (hun : un + 200 < cLine) (hi : IntsAre vs ns) (hlen : ns.length ≤ 63) (hb0 : 0 ≤ b) (hb1 : b ≤ 1000) (hc0 : 0 ≤ c) (hc1 : c < 1009) (hm0 : 1 ≤ many) (hm1 : many ≤ 1000)
    (ret : ∀ r t x' t1' t2' vs' ns' nW' nC' h' tk, 0 ≤ r → r < many → IntsAre vs' ns' → ns'.length ≤ 63 → Fr h₀ L h' m → News h₀ L h' ((W, listOf #[.ref C, .int x' t1', .int (b + 1) t2', .int c t3] nW') :: (C, listOf (List.toArray vs') nC') :: news) → Q (.int r t) { s with heap := h', toks := tk }) :
    wpAny (model PG w) (ktrTop dp un gd cn cs L a ccd cl outer) (call (.ref 101) [.ref W, .int many tm]) Q E s := by
  have zz0 : (PySem.Challenge.rw_pq0803_01 = PySem.Challenge.rw_pq0803_01) ∧ hd.heap_39 = hd.heap_39 := by k_fill; exact ⟨rfl, rfl⟩
  replace hWC := ltN hWC
  refine wpAny_call ?_
  k_dflt ktr_enter
  k_steps
  · rename_i kF kN _ _
    exact ret _ _ (x.fdiv many) _ _ vs ns nW nC _ _ (by rw [Int.fmod_eq_emod_of_nonneg _ (by omega)]; exact Int.emod_nonneg _ (by omega)) (by rw [Int.fmod_eq_emod_of_nonneg _ (by omega)]; exact Int.emod_lt_of_pos _ (by omega)) hi hlen kF (fun p hp => kN p (.tail _ hp))
  · rename_i iT lT _ _ _ _ _ _ kF kN _ _
    exact ret _ _ _ _ _ vs.tail ns.tail nW (nC + 1) _ _ (by rw [Int.fmod_eq_emod_of_nonneg _ (by omega)]; exact Int.emod_nonneg _ (by omega)) (by rw [Int.fmod_eq_emod_of_nonneg _ (by omega)]; exact Int.emod_lt_of_pos _ (by omega)) (by assumption) (by omega) kF (fun p hp => kN p (.tail _ hp))
  · rename_i kF kN _ _
    exact ret _ _ (x.fdiv many) _ _ vs ns nW nC _ _ (by rw [Int.fmod_eq_emod_of_nonneg _ (by omega)]; exact Int.emod_nonneg _ (by omega)) (by rw [Int.fmod_eq_emod_of_nonneg _ (by omega)]; exact Int.emod_lt_of_pos _ (by omega)) hi hlen kF (fun p hp => kN p hp)
end
local macro_rules | `(tactic| walk_at "pad") => `(tactic| skip)
local macro_rules | `(tactic| walk_at "pad") => `(tactic| skip)
section
theorem rs_MComp : True := by w_top off; trivial
section
open LCg LCt
variable {prog : Program} {A : Around} {env : Env} {n : Nat}
theorem comp_ind {elt : PySem.Expr} {x : PySem.Str} {scope : Scope} {cl : List (PySem.Str × Addr)} {S : List (Addr × Obj) → Prop} {P : Nat → Value → Prop} {Fin : List Value → List (Addr × Obj) → Prop} (J : Nat → List Value → Prop)
    (hS : S news) (j0 : J 0 [])
    (step : ∀ i ys v I oI C oC D m₂ h tk (E' : Value → Shared → Prop), J i ys → i < n → P i v → NsObj oC m₂ → m₂ x = some v → Fr h₀ L h m → News h₀ L h ((I, oI) :: (C, oC) :: (D, lst ys) :: news) → Off3 I C D news → ((@Ne Nat I C) ∧ (@Ne Nat I D) ∧ (@Ne Nat C D)) →
      wpAny (model prog w) A (eval elt (compEnvC scope cl C env)) (fun y s' => ∃ h' tk', s' = { s with heap := h', toks := tk' } ∧ Fr h₀ L h' m ∧ News h₀ L h' ((I, oI) :: (C, oC) :: (D, lst ys) :: news) ∧ J (i + 1) (ys ++ [y])) E' { s with heap := h, toks := tk })
    (fin : ∀ ys, J n ys → Fin ys news) :
    CompRest prog w A h₀ L m env elt x scope cl s S P Fin n 0 [] news := by
  have all : ∀ k i ys, i + k = n → J i ys → CompRest prog w A h₀ L m env elt x scope cl s S P Fin k i ys news := by
    intro k
    induction k with
    | zero =>
      intro i ys hi hj
      obtain rfl : i = n := hi
      exact fin ys hj
    | succ k ih =>
      intro i ys hi hj
      refine CompRest.succ fun v I oI C oC D m₂ h tk E' hv hC hx F N off ne => ?_
      refine wpAny_mono (step i ys v I oI C oC D m₂ h tk E' hj (by omega) hv hC hx F N off ne) (fun y s' hy => ?_) fun _ _ e => e
      obtain ⟨h', tk', rfl, F', N', hj'⟩ := hy
      exact ⟨h', tk', news, rfl, F', N', off, hS, ih (i + 1) _ (by omega) hj'⟩
  exact all n 0 [] (by omega) j0
theorem compT_ind {ct elt : PySem.Expr} {x : PySem.Str} {scope : Scope} {cl : List (PySem.Str × Addr)} {S : List (Addr × Obj) → Prop} {P : Nat → Value → Prop} {Fin : List Value → List (Addr × Obj) → Prop}
    (hS : S news)
    (step : ∀ i v I oI C oC D m₂ h tk (E' : Value → Shared → Prop), i < n → P i v → NsObj oC m₂ → m₂ x = some v → Fr h₀ L h m → News h₀ L h ((I, oI) :: (C, oC) :: (D, lst []) :: news) → Off3 I C D news → ((@Ne Nat I C) ∧ (@Ne Nat I D) ∧ (@Ne Nat C D)) →
      wpAny (model prog w) A (isTrue ct (compEnvC scope cl C env) (eval ct (compEnvC scope cl C env))) (fun ok s' => ok = false ∧ ∃ h' tk', s' = { s with heap := h', toks := tk' } ∧ Fr h₀ L h' m ∧ News h₀ L h' ((I, oI) :: (C, oC) :: (D, lst []) :: news)) E' { s with heap := h, toks := tk })
    (fin : Fin [] news) :
    CompRestT prog w A h₀ L m env ct elt x scope cl s S P Fin n 0 [] news := by
  have all : ∀ k i, i + k = n → CompRestT prog w A h₀ L m env ct elt x scope cl s S P Fin k i [] news := by
    intro k
    induction k with
    | zero => intro i hi; exact fin
    | succ k ih =>
      intro i hi
      refine CompRestT.succ fun v I oI C oC D m₂ h tk E' hv hC hx F N off ne => ?_
      refine wpAny_mono (step i v I oI C oC D m₂ h tk E' (by omega) hv hC hx F N off ne) (fun y s' hy => ?_) fun _ _ e => e
      obtain ⟨rfl, h', tk', rfl, F', N'⟩ := hy
      rw [if_neg (by decide)]
      exact ⟨h', tk', news, rfl, F', N', off, hS, ih (i + 1) (by omega)⟩
  exact all n 0 (by omega)
end
end
section
theorem rs_MWell : True := by w_top off; trivial
local macro_rules | `(tactic| walk_at "exec Assign cons ListComp") => `(tactic| (k_here; k_dflt (refine LCg.Assign_ListComp_U (F₀ := by k_asm) (by rfl) (by with_unfolding_all rfl) (by rfl) (by decide) (by rfl) (by decide) (by rfl) (by rfl) (by rfl) ?_)))
local macro_rules | `(tactic| walk_at "CompSrc") => `(tactic| (refine mstop ?_))
local macro_rules | `(tactic| walk_at "CompEnd") => `(tactic| (refine mstop ?_))
theorem ints_get : ∀ {vs : List Value} {ns : List Int}, IntsAre vs ns → ∀ {i : Nat} {v : Value}, vs[i]? = some v → ∃ k t, ns[i]? = some k ∧ v = .int k t
  | _, _, .nil, i, v, h => by simp at h
  | _, _, .cons k t r, 0, v, h => ⟨k, t, rfl, by simpa using h.symm⟩
  | _, _, .cons k t r, i + 1, v, h => ints_get r (i := i) (by simpa using h)
theorem off1_ne {D : Addr} : ∀ {l : List (Addr × Obj)}, LCg.Off1 D l → ∀ p ∈ l, p.1 ≠ D
  | [], _, _, hp => nomatch hp
  | q :: r, h, p, hp => by
    rcases List.mem_cons.mp hp with rfl | hp
    · exact h.1
    · exact off1_ne h.2 p hp
theorem law_well_spec {S : Addr} {vs : List Value} {ns : List Int}
    (B : Below A₀ base outer h₀) (F : Fr h₀ L s.heap m) (X : (hd.heap_39 w.params).In h₀) (N : News h₀ L s.heap news) (T : Top hd.view_39 LO mean mg mb h₀)
    (hk : cs.kind = .function) (hdp : dp + 1 < recursionLimit) (hun : un + 200 < cLine) (hS : h₀.IsList S vs.toArray) (hi : IntsAre vs ns) (hlen : ns.length ≤ 63)
    (ret : ∀ W C r t1 t2 t3 vs' ns' nW nC h' tk, 0 ≤ r → r < 1009 → IntsAre vs' ns' → ns'.length ≤ 63 → C < W → (∀ p ∈ news, p.1 ≠ C) → (∀ p ∈ news, p.1 < W) → Fr h₀ L h' m → News h₀ L h' ((W, listOf #[.ref C, .int 0 t1, .int 0 t2, .int r t3] nW) :: (C, listOf (List.toArray vs') nC) :: news) → Q (.ref W) { s with heap := h', toks := tk }) :
    wpAny (model PG w) (ktrTop dp un gd cn cs L a ccd cl outer) (call (.ref 94) [.ref S]) Q E s := by
  have zz0 : (PySem.Challenge.rw_pq0803_01 = PySem.Challenge.rw_pq0803_01) ∧ hd.heap_39 = hd.heap_39 := by k_fill; exact ⟨rfl, rfl⟩
  refine wpAny_call ?_
  k_dflt ktr_enter
  have hS9 : Heap.IsList _ S vs.toArray := hS.at fun o e => Fr.keep (by assumption) S o e
  k_steps
  refine mgo ?_
  rename_i D ws h1 F1 N1 l1 hI hC hL
  have hw := hI.length
  refine LCg.CompSrc.ledger (by rfl) F1 N1 (.head _) (by rw [List.size_toArray, sizeLine_eq]; omega) ?_
  intro g2
  refine comp_ind (fun i ys => IntsAre ys ((ns.take 63).take i)) (.inr ⟨_, .head _, rfl, _, rfl⟩) .nil ?_ ?_
  · intro i ys v I oI C oC D2 m2 h tk E' hJ hi2 hP hO hx F2 N2 off ne
    rw [List.getElem?_toArray] at hP
    obtain ⟨k, t, hk9, rfl⟩ := ints_get hI hP
    k_steps
    all_goals first | exact F2 | exact N2 | (rw [List.take_add_one, hk9]; exact hJ.append (.cons _ _ .nil))
  · intro ys hJ
    k_steps
    rename_i o1 _ _ _ _ _ _ _ l2 kF kN _ _
    rw [List.size_toArray, hw, List.take_length] at hJ
    have fm : ∀ z : Int, 0 ≤ z.fmod 1009 ∧ z.fmod 1009 < 1009 := fun z => by
      rw [Int.fmod_eq_emod_of_nonneg _ (by omega)]
      exact ⟨Int.emod_nonneg _ (by omega), Int.emod_lt_of_pos _ (by omega)⟩
    exact ret _ _ _ _ _ _ ys (ns.take 63) _ _ _ _ (fm _).1 (fm _).2
      hJ (by omega) l2.1 (off1_ne o1.2) (of_allLt l2.2.2) kF (fun p hp => kN p (by
        rcases List.mem_cons.mp hp with rfl | hp
        · exact .head _
        · rcases List.mem_cons.mp hp with rfl | hp
          · exact .tail _ (.head _)
          · exact .tail _ (.tail _ (.tail _ hp))))
end
local macro_rules | `(tactic| walk_at "pad") => `(tactic| skip)
local macro_rules | `(tactic| walk_at "pad") => `(tactic| skip)
local macro_rules | `(tactic| walk_at "pad") => `(tactic| skip)
local macro_rules | `(tactic| walk_at "pad") => `(tactic| skip)
section
theorem rs_MCodes : True := by w_top off; trivial
theorem ints_eq {vs : List Value} {ns ns' : List Int} (h : IntsAre vs ns) (e : ns = ns') : IntsAre vs ns' := e ▸ h
theorem law_codes_spec {t o : Addr} {vs : List Value} {n : Nat} {b : Blk} 
    (B : Below A₀ base outer h₀) (F : Fr h₀ L s.heap m) (X : (hd.heap_39 w.params).In h₀) (N : News h₀ L s.heap news) (T : Top hd.view_39 LO mean mg mb h₀)
    (hk : cs.kind = .function) (hdp : dp + 1 < recursionLimit) (hun : un + 200 < cLine) (ht : (t, (⟨.type "tuple", none, .seq #[.bool b.run, .ref o] 0, #[]⟩ : Obj)) ∈ news) (ho : (o, listOf vs.toArray n) ∈ news) (hi : IntsAre vs (ub b.os)) (h1 : 1 ≤ b.os.length) (h2 : b.os.length ≤ 128) (h3 : b.run = true → 2 ≤ b.os.length)
    (ret : ∀ l vs' n' h' tk, Fr h₀ L h' m → News h₀ L h' ((l, listOf vs'.toArray n') :: news) → (∀ p ∈ news, p.1 < l) → IntsAre vs' (ub (codesOf b)) → Q (.ref l) { s with heap := h', toks := tk }) :
    wpAny (model PG w) (ktrTop dp un gd cn cs L a ccd cl outer) (call (.ref 115) [.ref t]) Q E s := by
  have zz0 : (PySem.Challenge.rw_pq0803_01 = PySem.Challenge.rw_pq0803_01) ∧ hd.heap_39 = hd.heap_39 := by k_fill; exact ⟨rfl, rfl⟩
  refine wpAny_call ?_
  k_dflt ktr_enter
  k_steps
  · rename_i kF kN _ _
    have hr : b.run = true := by assumption
    refine ret _ _ _ _ _ kF kN (by assumption) ?_
    have h4 := h3 hr
    have e : codesOf b = [UInt8.ofNat (257 - b.os.length), b.os.headD 0] := by simp [codesOf, hr]
    rw [e]
    refine ints_eq (IntsAre.cons _ _ (IntsAre.cons _ _ .nil)) ?_
    have hn := u8_small (n := 257 - b.os.length) (by omega)
    cases ho9 : b.os with
    | nil => rw [ho9] at h1; simp at h1
    | cons y q =>
      rw [ho9] at hn h1 h2 h4
      simp only [List.map_cons, List.map_nil, hn, List.headD_cons]
      simp only [List.length_cons, List.length_map] at h1 h2 h4 ⊢
      congr 1
      omega
  · rename_i hI l1 kF kN _ _
    have hr : b.run = false := by assumption
    have e : ub (codesOf b) = [((ub b.os).length : Int) - 1] ++ ub b.os := by
      have hne : b.os ≠ [] := by rintro h; rw [h] at h1; simp at h1
      rw [ub_row hne h2]
      simp [codesOf, rowCodes, hr, hne]
    rw [← e] at hI
    exact ret _ _ _ _ _ kF (fun p hp => kN p (by
      rcases List.mem_cons.mp hp with rfl | hp
      · exact .head _
      · exact .tail _ (.tail _ hp))) (of_allLt l1.2) hI
end
local macro_rules | `(tactic| walk_at "pad") => `(tactic| skip)
section
theorem rs_MFor : True := by w_top off; trivial
section
variable {prog : Program} {A : Around} {env : Env} {x : PySem.Str} {body : List Stmt} {Q : Flow → Shared → Prop} {σ : Type}
noncomputable def ForEnd (h₀ : Heap) (L : Addr) (s₁ : Shared) (Led : σ → List (Addr × Obj)) (ps : σ → List (PySem.Str × Value)) (Facts : σ → Prop) (x : PySem.Str) (stored : List PySem.Str) (m₀ : PySem.Str → Option Value) (P : Nat → σ → Prop) (i : Nat) (I : Addr) (oI : Obj) (s₂ : Shared) : Prop :=
  ∃ (c : σ) (h' : Heap) (tk : Nat) (m' : PySem.Str → Option Value) (news' : List (Addr × Obj)), s₂ = { s₁ with heap := h', toks := tk } ∧ Fr h₀ L h' m' ∧ News h₀ L h' news' ∧ (I, oI) ∈ news' ∧ (∀ p ∈ Led c, p ∈ news') ∧ (∀ p ∈ Led c, p.1 ≠ I) ∧ Facts c ∧
    (∀ p ∈ ps c, m' p.1 = some p.2) ∧ (∀ z, z ≠ x → (∀ p ∈ ps c, z ≠ p.1) → stored.contains z = false → m' z = m₀ z) ∧ P i c
noncomputable def ForPost (h₀ : Heap) (L : Addr) (s₁ : Shared) (Led : σ → List (Addr × Obj)) (ps : σ → List (PySem.Str × Value)) (Facts : σ → Prop) (x : PySem.Str) (stored : List PySem.Str) (m₀ : PySem.Str → Option Value) (P : Nat → σ → Prop) (i : Nat) (I : Addr) (oI : Obj) (Q : Flow → Shared → Prop) (f : Flow) (s₂ : Shared) : Prop :=
  match f with
  | .ret v => Q (.ret v) s₂
  | .brk => Q .next s₂
  | _ => ForEnd h₀ L s₁ Led ps Facts x stored m₀ P i I oI s₂
theorem for_end {h₀ : Heap} {L : Addr} {s₁ : Shared} {Led : σ → List (Addr × Obj)} {ps : σ → List (PySem.Str × Value)} {Facts : σ → Prop} {x : PySem.Str} {stored : List PySem.Str} {m₀ m' : PySem.Str → Option Value} {P : Nat → σ → Prop} {i : Nat} {I : Addr} {oI : Obj} {h' : Heap} {tk : Nat} {news' : List (Addr × Obj)}
    (c : σ) (F : Fr h₀ L h' m') (N : News h₀ L h' news') (hI : (I, oI) ∈ news') (hn : ∀ p ∈ Led c, p ∈ news') (ho : ∀ p ∈ Led c, p.1 ≠ I) (hf : Facts c) (hk : ∀ p ∈ ps c, m' p.1 = some p.2) (hr : ∀ z, z ≠ x → (∀ p ∈ ps c, z ≠ p.1) → stored.contains z = false → m' z = m₀ z) (hp : P i c) :
    ForEnd h₀ L s₁ Led ps Facts x stored m₀ P i I oI { s₁ with heap := h', toks := tk } := ⟨c, h', tk, m', news', rfl, F, N, hI, hn, ho, hf, hk, hr, hp⟩
theorem fpr {h₀ : Heap} {L : Addr} {s₁ s₂ : Shared} {Led : σ → List (Addr × Obj)} {ps : σ → List (PySem.Str × Value)} {Facts : σ → Prop} {x : PySem.Str} {stored : List PySem.Str} {m₀ : PySem.Str → Option Value} {P : Nat → σ → Prop} {i : Nat} {I : Addr} {oI : Obj} {K : Flow → Shared → Prop}
    (hK : K = ForPost h₀ L s₁ Led ps Facts x stored m₀ P i I oI Q) {v : Value} (h : Q (.ret v) s₂) : K (.ret v) s₂ := hK ▸ h
theorem fpb {h₀ : Heap} {L : Addr} {s₁ s₂ : Shared} {Led : σ → List (Addr × Obj)} {ps : σ → List (PySem.Str × Value)} {Facts : σ → Prop} {x : PySem.Str} {stored : List PySem.Str} {m₀ : PySem.Str → Option Value} {P : Nat → σ → Prop} {i : Nat} {I : Addr} {oI : Obj} {K : Flow → Shared → Prop}
    (hK : K = ForPost h₀ L s₁ Led ps Facts x stored m₀ P i I oI Q) (h : Q .next s₂) : K .brk s₂ := hK ▸ h
theorem fpn {h₀ : Heap} {L : Addr} {s₁ s₂ : Shared} {Led : σ → List (Addr × Obj)} {ps : σ → List (PySem.Str × Value)} {Facts : σ → Prop} {x : PySem.Str} {stored : List PySem.Str} {m₀ : PySem.Str → Option Value} {P : Nat → σ → Prop} {i : Nat} {I : Addr} {oI : Obj} {K : Flow → Shared → Prop}
    (hK : K = ForPost h₀ L s₁ Led ps Facts x stored m₀ P i I oI Q) (h : ForEnd h₀ L s₁ Led ps Facts x stored m₀ P i I oI s₂) : K .next s₂ := hK ▸ h
noncomputable def ForInv (Led : σ → List (Addr × Obj)) (ps : σ → List (PySem.Str × Value)) (Facts : σ → Prop) (x : PySem.Str) (stored : List PySem.Str) (m₀ : PySem.Str → Option Value) (P : Nat → σ → Prop) (i : Nat) (m : PySem.Str → Option Value) (nx : List (Addr × Obj)) : Prop :=
  ∃ c : σ, nx = Led c ∧ Facts c ∧ (∀ p ∈ ps c, m p.1 = some p.2) ∧ (∀ z, z ≠ x → (∀ p ∈ ps c, z ≠ p.1) → stored.contains z = false → m z = m₀ z) ∧ P i c
theorem for_list {l : Addr} {vs : List Value} {nn : Nat} {m₀ : PySem.Str → Option Value} (Led : σ → List (Addr × Obj)) (ps : σ → List (PySem.Str × Value)) (Facts : σ → Prop) (stored : List PySem.Str) (P : Nat → σ → Prop) (c₀ : σ)
    (hh : A.handled = none) (hl : ∀ c : σ, (l, listOf vs.toArray nn) ∈ Led c) (F : Fr h₀ env.locals s.heap m₀) (N : News h₀ env.locals s.heap (Led c₀)) (hf : Facts c₀) (hk : ∀ p ∈ ps c₀, m₀ p.1 = some p.2) (hp : P 0 c₀)
    (turn : ∀ (c : σ) i v (u : PySem.Str → Option Value) h tk I oI (K : Flow → Shared → Prop), K = ForPost h₀ env.locals { s with heap := h, toks := tk } Led ps Facts x stored m₀ P (i + 1) I oI Q → vs[i]? = some v → (∀ p ∈ Led c, p.1 ≠ I) → Facts c → P i c →
      Fr h₀ env.locals h (fun y => if y = x then some v else kstB (fun z => if stored.contains z then u z else m₀ z) (ps c) y) → News h₀ env.locals h ((I, oI) :: Led c) →
      wpAny (model prog w) A (execs body env) K E { s with heap := h, toks := tk })
    (done : ∀ (c : σ) (u : PySem.Str → Option Value) h tk, Facts c → P vs.length c → Fr h₀ env.locals h (fun y => if y = x then u y else kstB (fun z => if stored.contains z then u z else m₀ z) (ps c) y) → News h₀ env.locals h (Led c) → Q .next { s with heap := h, toks := tk }) :
    wpAny (model prog w) A (pyIter (.ref l)) (fun it s₂ => LoopAtV prog w A h₀ env x body Q E it s₂) E s := by
  have hol : s.heap.get? l = some (listOf vs.toArray nn) := (N _ (hl c₀)).1
  have hls : s.heap.IsList l vs.toArray := ⟨_, hol, rfl, nn, rfl⟩
  have hne : l ≠ s.heap.objs.size := Nat.ne_of_lt (Heap.lt_size hol)
  refine wpAny_pyIter_list hls ?_
  have W := Walks.list (prog := prog) (w := w) hh s.heap.objs.size l hne vs.toArray
  refine ⟨_, _, _, vs.toArray.size, _, _, m₀, Led c₀, (ForInv Led ps Facts x stored m₀ P), rfl, W, ?_, ?_, ?_,
    ⟨⟨_, Heap.get?_push_size _ rfl, rfl, rfl⟩, hls.at fun o e => Heap.get?_push_of_some _ e⟩, F.push _, (fun p hp => ⟨Heap.get?_push_of_some _ (N p hp).1, (N p hp).2⟩), ⟨c₀, rfl, hf, hk, fun _ _ _ _ => rfl, hp⟩, ?_, ?_⟩
  · intro hm
    rcases List.mem_cons.mp hm with e | hm
    · exact absurd F.ns.lt (e ▸ Nat.lt_irrefl _)
    · exact (N _ (hl c₀)).2.1 ((List.mem_singleton.mp hm).symm)
  · intro b hb
    rw [List.mem_singleton.mp hb]
    exact next_is_new F
  · intro p hp hI
    exact absurd (Heap.lt_size (N p hp).1) ((List.mem_singleton.mp hI) ▸ Nat.lt_irrefl _)
  · rintro i v m₁ news₁ s₁ own ⟨hh', tk', rfl⟩ hin hP ⟨c, rfl, hf', h1, h2, hp'⟩ hoff hown howno hfp hst F₁ N₁
    have hI0 : h₀.get? s.heap.objs.size = none := next_is_new F
    obtain ⟨⟨oI, hoI, _⟩, _⟩ := id hst
    have hIown : (s.heap.objs.size, oI) ∈ own := hfp _ (List.mem_cons.mpr (.inl rfl)) hI0 _ hoI
    have hoff' : ∀ p ∈ Led c, p.1 ≠ s.heap.objs.size := fun p hp e => hoff p hp (List.mem_singleton.mpr e)
    have N₂ : News h₀ env.locals hh' ((s.heap.objs.size, oI) :: Led c) := fun p hp => by
      rcases List.mem_cons.mp hp with rfl | hp
      · exact N₁ _ (List.mem_append_left _ hIown)
      · exact N₁ _ (List.mem_append_right _ hp)
    refine wpAny_mono (turn c i v m₁ hh' tk' _ oI _ rfl (by simpa using hP) hoff' hf' hp' (kst_fr h1 h2 F₁) N₂) (fun f s₂ p => ?_) fun _ _ e => e
    have fin : ForEnd h₀ env.locals { s with heap := hh', toks := tk' } Led ps Facts x stored m₀ P (i + 1) s.heap.objs.size oI s₂ → LoopStepU h₀ env.locals [s.heap.objs.size] own (ForInv Led ps Facts x stored m₀ P (i + 1)) { s with heap := hh', toks := tk' } .next s₂ := by
      rintro ⟨c', h', tk, m', news', e, F', N', hIn, hn, ho, hfc, hk', hr', hpc⟩
      refine ⟨rfl, h', tk, m', Led c', e, F', fun p hp => ?_, fun p hp hq => ho p hp (List.mem_singleton.mp hq), c', rfl, hfc, hk', hr', hpc⟩
      rcases List.mem_append.mp hp with hp | hp
      · have z := howno p hp
        rcases List.mem_cons.mp (hown p hp) with q | q
        · rw [q] at z
          have : p = (s.heap.objs.size, oI) := Prod.ext q (Option.some.inj (z.symm.trans hoI))
          rw [this]
          exact N' _ hIn
        · have q := List.mem_singleton.mp q
          rw [q] at z
          have hlo := (N₁ _ (List.mem_append_right _ (hl c))).1
          have : p = (l, listOf vs.toArray nn) := Prod.ext q (Option.some.inj (z.symm.trans hlo))
          rw [this]
          exact N' _ (hn _ (hl c'))
      · exact N' _ (hn p hp)
    cases f with
    | ret v => exact .ret p
    | brk => exact .brk p
    | next => exact .next (fin p)
    | cont => exact .cont (fin p)
  · rintro h' tk m' news' F' N' _ ⟨c, rfl, hf', h1, h2, hp'⟩
    rw [List.size_toArray] at hp'
    exact done c m' h' tk hf' hp' (kst_frOut h1 h2 F') N'
theorem for_range {r : Addr} {a₀ b₀ : Int} {t₀ u₀ v₀ : Tok} {n : Nat} {m₀ : PySem.Str → Option Value} (Led : σ → List (Addr × Obj)) (ps : σ → List (PySem.Str × Value)) (Facts : σ → Prop) (stored : List PySem.Str) (P : Nat → σ → Prop) (c₀ : σ)
    (hh : A.handled = none) (hr : IsRange s.heap r a₀ b₀ 1 t₀ u₀ v₀) (hsmall : Builtin.Range.small a₀ b₀ 1 = true) (hn : Builtin.Range.rangeSize a₀ b₀ 1 = (n : Int)) (F : Fr h₀ env.locals s.heap m₀) (N : News h₀ env.locals s.heap (Led c₀)) (hf : Facts c₀) (hk : ∀ p ∈ ps c₀, m₀ p.1 = some p.2) (hp : P 0 c₀)
    (turn : ∀ (c : σ) i t (u : PySem.Str → Option Value) h tk I oI (K : Flow → Shared → Prop), K = ForPost h₀ env.locals { s with heap := h, toks := tk } Led ps Facts x stored m₀ P (i + 1) I oI Q → i < n → (∀ p ∈ Led c, p.1 ≠ I) → Facts c → P i c →
      Fr h₀ env.locals h (fun y => if y = x then some (.int (a₀ + (i : Int)) t) else kstB (fun z => if stored.contains z then u z else m₀ z) (ps c) y) → News h₀ env.locals h ((I, oI) :: Led c) →
      wpAny (model prog w) A (execs body env) K E { s with heap := h, toks := tk })
    (done : ∀ (c : σ) (u : PySem.Str → Option Value) h tk, Facts c → P n c → Fr h₀ env.locals h (fun y => if y = x then u y else kstB (fun z => if stored.contains z then u z else m₀ z) (ps c) y) → News h₀ env.locals h (Led c) → Q .next { s with heap := h, toks := tk }) :
    wpAny (model prog w) A (pyIter (.ref r)) (fun it s₂ => LoopAtV prog w A h₀ env x body Q E it s₂) E s := by
  refine wpAny_pyIter_range hr hsmall ?_
  have W : Walks prog w A s.heap.objs.size [s.heap.objs.size] [s.heap.objs.size] n (fun i v => i < n ∧ ∃ t, v = .int (a₀ + i * 1) t)
      (fun i h => IsRangeIter h s.heap.objs.size (a₀ + (i : Nat) * 1) ((n : Int) - (i : Nat)) 1) := (Walks.range hh _ a₀ 1 n).bound
  refine ⟨_, _, _, n, _, _, m₀, Led c₀, (ForInv Led ps Facts x stored m₀ P), rfl, W, ?_, ?_, ?_,
    (by show IsRangeIter _ _ _ _ _; rw [hn]; simpa using Heap.get?_push_size _ rfl), F.push _, (fun p hp => ⟨Heap.get?_push_of_some _ (N p hp).1, (N p hp).2⟩), ⟨c₀, rfl, hf, hk, fun _ _ _ _ => rfl, hp⟩, ?_, ?_⟩
  · intro hm
    exact absurd F.ns.lt ((List.mem_singleton.mp hm) ▸ Nat.lt_irrefl _)
  · intro b hb
    rw [List.mem_singleton.mp hb]
    exact next_is_new F
  · intro p hp hI
    exact absurd (Heap.lt_size (N p hp).1) ((List.mem_singleton.mp hI) ▸ Nat.lt_irrefl _)
  · rintro i v m₁ news₁ s₁ own ⟨hh', tk', rfl⟩ hin ⟨_, t, rfl⟩ ⟨c, rfl, hf', h1, h2, hp'⟩ hoff hown howno hfp hst F₁ N₁
    have hI0 : h₀.get? s.heap.objs.size = none := next_is_new F
    obtain ⟨oI, hst'⟩ : ∃ oI, hh'.get? s.heap.objs.size = some oI := ⟨_, hst⟩
    have hIown : (s.heap.objs.size, oI) ∈ own := hfp _ (List.mem_cons.mpr (.inl rfl)) hI0 _ hst'
    have hoff' : ∀ p ∈ Led c, p.1 ≠ s.heap.objs.size := fun p hp e => hoff p hp (List.mem_singleton.mpr e)
    have N₂ : News h₀ env.locals hh' ((s.heap.objs.size, oI) :: Led c) := fun p hp => by
      rcases List.mem_cons.mp hp with rfl | hp
      · exact N₁ _ (List.mem_append_left _ hIown)
      · exact N₁ _ (List.mem_append_right _ hp)
    rw [show a₀ + (i : Int) * 1 = a₀ + (i : Int) by omega] at F₁
    refine wpAny_mono (turn c i t m₁ hh' tk' _ oI _ rfl hin hoff' hf' hp' (kst_fr h1 h2 F₁) N₂) (fun f s₂ p => ?_) fun _ _ e => e
    have fin : ForEnd h₀ env.locals { s with heap := hh', toks := tk' } Led ps Facts x stored m₀ P (i + 1) s.heap.objs.size oI s₂ → LoopStepU h₀ env.locals [s.heap.objs.size] own (ForInv Led ps Facts x stored m₀ P (i + 1)) { s with heap := hh', toks := tk' } .next s₂ := by
      rintro ⟨c', h', tk, m', news', e, F', N', hIn, hn, ho, hfc, hk', hr', hpc⟩
      refine ⟨rfl, h', tk, m', Led c', e, F', fun p hp => ?_, fun p hp hq => ho p hp (List.mem_singleton.mp hq), c', rfl, hfc, hk', hr', hpc⟩
      rcases List.mem_append.mp hp with hp | hp
      · have z := howno p hp
        have q := List.mem_singleton.mp (hown p hp)
        rw [q] at z
        have : p = (s.heap.objs.size, oI) := Prod.ext q (Option.some.inj (z.symm.trans hst'))
        rw [this]
        exact N' _ hIn
      · exact N' _ (hn p hp)
    cases f with
    | ret v => exact .ret p
    | brk => exact .brk p
    | next => exact .next (fin p)
    | cont => exact .cont (fin p)
  · rintro h' tk m' news' F' N' _ ⟨c, rfl, hf', h1, h2, hp'⟩
    exact done c m' h' tk hf' hp' (kst_frOut h1 h2 F') N'
/-! a cut: what holds behind a statement -/
noncomputable def CutEnd (P : Flow → Shared → Prop) (f : Flow) (s' : Shared) : Prop := P f s'
theorem gCut {M : Model} {A : Around} {t : Sem Flow} {P : Flow → Shared → Prop} {E : Value → Shared → Prop} {s : Shared} (h : wpAny M A t (CutEnd P) E s) : wpAny M A t (CutEnd P) E s := h
theorem gAi {M : Model} {A : Around} {R : Flow → Shared → Prop} {E : Value → Shared → Prop} {s : Shared} {env : Env} {ts : List PySem.Expr} {a b c : PySem.Expr} {p q : Pos} (h : wpAny M A (exec (Stmt.Assign ts (Expr.IfExp a b c p) q) env) R E s) : wpAny M A (exec (Stmt.Assign ts (Expr.IfExp a b c p) q) env) R E s := h
theorem gAb {M : Model} {A : Around} {R : Flow → Shared → Prop} {E : Value → Shared → Prop} {s : Shared} {env : Env} {ts : List PySem.Expr} {o : BoolOp} {l : List PySem.Expr} {p q : Pos} (h : wpAny M A (exec (Stmt.Assign ts (Expr.BoolOp o l p) q) env) R E s) : wpAny M A (exec (Stmt.Assign ts (Expr.BoolOp o l p) q) env) R E s := h
theorem cut {M : Model} {t : Sem Flow} {P K : Flow → Shared → Prop} (h1 : wpAny M A t (CutEnd P) E s) (h2 : ∀ f s', P f s' → K f s') : wpAny M A t K E s := wpAny_mono h1 (fun f s' h => h2 f s' h) fun _ _ e => e
/-- behind the statement: values of a few names, a ledger -/
noncomputable def CutTo (h₀ : Heap) (L : Addr) (s₁ : Shared) (m₀ : PySem.Str → Option Value) (ps : σ → List (PySem.Str × Value)) (J : σ → List (Addr × Obj) → Prop) (f : Flow) (s₂ : Shared) : Prop :=
  f = .next ∧ ∃ (c : σ) (h' : Heap) (tk : Nat) (news' : List (Addr × Obj)), s₂ = { s₁ with heap := h', toks := tk } ∧ Fr h₀ L h' (kstB m₀ (ps c)) ∧ News h₀ L h' news' ∧ J c news'
theorem cut_to {M : Model} {t : Sem Flow} {K : Flow → Shared → Prop} {L : Addr} {m₀ : PySem.Str → Option Value} (ps : σ → List (PySem.Str × Value)) (J : σ → List (Addr × Obj) → Prop) (F : Fr h₀ L s.heap m₀)
    (h1 : ∀ P, P = CutTo h₀ L s m₀ ps J → wpAny M A t (CutEnd P) E s)
    (h2 : ∀ (c : σ) h' tk news', Fr h₀ L h' (kstB m₀ (ps c)) → News h₀ L h' news' → J c news' → K .next { s with heap := h', toks := tk }) : wpAny M A t K E s :=
  cut (h1 _ rfl) fun f s' h => by
    obtain ⟨rfl, c, h', tk, news', rfl, F', N', hj⟩ := h
    exact h2 c h' tk news' F' N' hj
theorem cut_end {L : Addr} {m₀ m' : PySem.Str → Option Value} {ps : σ → List (PySem.Str × Value)} {J : σ → List (Addr × Obj) → Prop} {h' : Heap} {tk : Nat} {news' : List (Addr × Obj)} {P : Flow → Shared → Prop} (hP : P = CutTo h₀ L s m₀ ps J) (c : σ) (nx : List (Addr × Obj)) (F : Fr h₀ L h' m') (N : News h₀ L h' news') (hn : ∀ p ∈ nx, p ∈ news')
    (hk : ∀ p ∈ ps c, m' p.1 = some p.2) (hr : ∀ z, (∀ p ∈ ps c, z ≠ p.1) → m' z = m₀ z) (hj : J c nx) : CutEnd P .next { s with heap := h', toks := tk } := by
  subst hP
  refine ⟨rfl, c, h', tk, nx, rfl, ?_, fun p hp => N p (hn p hp), hj⟩
  have em : kstB m₀ (ps c) = m' := by
    funext y
    exact kstB_eq hk fun hn => (hr y hn).symm
  rw [em]
  exact F
end
end
local macro_rules | `(tactic| walk_at "pad") => `(tactic| skip)
section
theorem rs_MNext : True := by w_top off; trivial
theorem law_dip1 {W C : Addr} {vs : List Value} {ns : List Int} {nW nC : Nat} {x b c many : Int} {t1 t2 t3 tm : Tok} {y : Addr × Obj}
    (B : Below A₀ base outer h₀) (F : Fr h₀ L s.heap m) (X : (hd.heap_39 w.params).In h₀) (N : News h₀ L s.heap (y :: (W, listOf #[.ref C, .int x t1, .int b t2, .int c t3] nW) :: (C, listOf vs.toArray nC) :: news)) (T : Top hd.view_39 LO mean mg mb h₀)
    (hWC : C < W) (hW : ∀ p ∈ news, p.1 ≠ W) (hC : ∀ p ∈ news, p.1 ≠ C) (yW : y.1 ≠ W) (yC : y.1 ≠ C)
    (hk : cs.kind = .function) (hdp : dp + 1 < recursionLimit) (hun : un + 200 < cLine) (hi : IntsAre vs ns) (hlen : ns.length ≤ 63) (hb0 : 0 ≤ b) (hb1 : b ≤ 1000) (hc0 : 0 ≤ c) (hc1 : c < 1009) (hm0 : 1 ≤ many) (hm1 : many ≤ 1000)
    (ret : ∀ r t x' t1' t2' vs' ns' nW' nC' h' tk, 0 ≤ r → r < many → IntsAre vs' ns' → ns'.length ≤ 63 → Fr h₀ L h' m → News h₀ L h' (y :: (W, listOf #[.ref C, .int x' t1', .int (b + 1) t2', .int c t3] nW') :: (C, listOf (List.toArray vs') nC') :: news) → Q (.int r t) { s with heap := h', toks := tk }) :
    wpAny (model PG w) (ktrTop dp un gd cn cs L a ccd cl outer) (call (.ref 101) [.ref W, .int many tm]) Q E s := by
  refine law_dip_spec (vs := vs) (ns := ns) (nW := nW) (nC := nC) (x := x) (t1 := t1) (t2 := t2) (t3 := t3) (news := y :: news) B F X (fun p hp => N p ?_) T hWC ?_ ?_ hk hdp hun hi hlen hb0 hb1 hc0 hc1 hm0 hm1 ?_
  · rcases List.mem_cons.mp hp with rfl | hp
    · exact .tail _ (.head _)
    · rcases List.mem_cons.mp hp with rfl | hp
      · exact .tail _ (.tail _ (.head _))
      · rcases List.mem_cons.mp hp with rfl | hp
        · exact .head _
        · exact .tail _ (.tail _ (.tail _ hp))
  · intro p hp
    rcases List.mem_cons.mp hp with rfl | hp
    · exact yW
    · exact hW p hp
  · intro p hp
    rcases List.mem_cons.mp hp with rfl | hp
    · exact yC
    · exact hC p hp
  · intro r t x' t1' t2' vs' ns' nW' nC' h' tk r0 r1 i l F' N'
    refine ret r t x' t1' t2' vs' ns' nW' nC' h' tk r0 r1 i l F' fun p hp => N' p ?_
    rcases List.mem_cons.mp hp with rfl | hp
    · exact .tail _ (.tail _ (.head _))
    · rcases List.mem_cons.mp hp with rfl | hp
      · exact .head _
      · rcases List.mem_cons.mp hp with rfl | hp
        · exact .tail _ (.head _)
        · exact .tail _ (.tail _ (.tail _ hp))
local macro_rules | `(tactic| walk_at "call ref") => `(tactic| (k_here; (with_reducible refine gC 101 ?_); (first
  | (with_unfolding_all refine' law_dip_spec (by k_asm) (by k_asm) (by k_asm) (by k_asm) (by k_asm) (by assumption) (by assumption) (by assumption) (by rfl) (by ktr_room) (by units_room) (by l_ints) (by omega) (by omega) (by omega) (by omega) (by omega) (by omega) (by omega) ?_)
  | (with_unfolding_all refine' law_dip1 (by k_asm) (by k_asm) (by k_asm) (by k_asm) (by k_asm) (by assumption) (by assumption) (by assumption) (by k_ne) (by k_ne) (by rfl) (by ktr_room) (by units_room) (by l_ints) (by omega) (by omega) (by omega) (by omega) (by omega) (by omega) (by omega) ?_)); intros; (try dsimp only)))
local macro_rules | `(tactic| walk_at "exec If") => `(tactic| ((fail_if_success (with_reducible refine gCut ?_)); refine mstop ?_))
local macro_rules | `(tactic| walk_at "exec Assign") => `(tactic| ((fail_if_success (with_reducible refine gCut ?_)); (with_reducible refine gAi ?_); refine mstop ?_))
local macro_rules | `(tactic| walk_at "exec Assign") => `(tactic| ((fail_if_success (with_reducible refine gCut ?_)); (with_reducible refine gAb ?_); refine mstop ?_))
noncomputable abbrev tupB (b : Blk) (o : Addr) : Obj := ⟨.type "tuple", none, .seq #[.bool b.run, .ref o] 0, #[]⟩
noncomputable def BlkAt (news : List (Addr × Obj)) (t : Addr) (b : Blk) : Prop := ∃ o vs n, (t, tupB b o) ∈ news ∧ (o, listOf (List.toArray vs) n) ∈ news ∧ IntsAre vs (ub b.os)
noncomputable def BlksAt (news : List (Addr × Obj)) : List Addr → List Blk → Prop
  | [], [] => True
  | t :: ts, b :: bs => BlkAt news t b ∧ BlksAt news ts bs
  | _, _ => False
noncomputable def WellAt (W C : Addr) (c : Int) (t3 : Tok) (b : Int) (news nw : List (Addr × Obj)) : Prop :=
  ∃ x t1 t2 vs ns nW nC, nw = (W, listOf #[.ref C, .int x t1, .int b t2, .int c t3] nW) :: (C, listOf (List.toArray vs) nC) :: news ∧ IntsAre vs ns ∧ ns.length ≤ 63
theorem wellAt_mk {W C : Addr} {x b b' c : Int} {t1 t2 t3 : Tok} {vs : List Value} {ns : List Int} {nW nC : Nat} (hi : IntsAre vs ns) (hl : ns.length ≤ 63) (e : b' = b) : WellAt W C c t3 b news ((W, listOf #[.ref C, .int x t1, .int b' t2, .int c t3] nW) :: (C, listOf (List.toArray vs) nC) :: news) := by
  subst e
  exact ⟨_, _, _, _, _, _, _, rfl, hi, hl⟩
inductive WellIs (W C : Addr) (c : Int) (t3 : Tok) (b : Int) (news : List (Addr × Obj)) : List (Addr × Obj) → Prop where
  | mk (x : Int) (t1 t2 : Tok) (vs : List Value) (ns : List Int) (nW nC : Nat) (hi : IntsAre vs ns) (hl : ns.length ≤ 63) : WellIs W C c t3 b news ((W, listOf #[.ref C, .int x t1, .int b t2, .int c t3] nW) :: (C, listOf (List.toArray vs) nC) :: news)
theorem WellAt.is {W C : Addr} {b c : Int} {t3 : Tok} {news nw : List (Addr × Obj)} (h : WellAt W C c t3 b news nw) : WellIs W C c t3 b news nw := by
  obtain ⟨x, t1, t2, vs, ns, nW, nC, rfl, h1, h2⟩ := h
  exact ⟨x, t1, t2, vs, ns, nW, nC, h1, h2⟩
theorem last_ub {aos : List UInt8} {n : Nat} (h : 1 ≤ aos.length) (hn : n = aos.length) : (ub aos).getD ((-1 : Int) + (n : Int)).toNat 0 = ((aos.getLastD 0).toNat : Int) := by
  subst hn
  have hne : aos ≠ [] := by rintro rfl; simp at h
  rw [show ((-1 : Int) + (aos.length : Int)).toNat = aos.length - 1 by omega]
  have e : aos.getLast? = aos[aos.length - 1]? := List.getLast?_eq_getElem? ..
  rw [List.getD_eq_getElem?_getD, List.getElem?_map, ← e, List.getLastD_eq_getLast?, List.getLast?_eq_some_getLast hne]
  rfl
theorem apart_snoc : ∀ {os : List UInt8} {x : UInt8}, Apart os → x ≠ os.getLastD 0 → Apart (os ++ [x])
  | [], _, _, _ => trivial
  | [y], x, _, h => ⟨fun e => h (by simpa using e.symm), trivial⟩
  | y :: z :: r, x, ha, h => ⟨ha.1, apart_snoc (os := z :: r) ha.2 (by simpa [List.getLastD] using h)⟩
theorem step_ints {os : List UInt8} {vs : List Value} {n : Nat} {e : Int} (h : 1 ≤ os.length) (hn : n = os.length) (hi : IntsAre vs (ub os ++ [((ub os).getD ((-1 : Int) + (n : Int)).toNat 0 + 1 + e.fmod 255).fmod 256])) :
    ∃ xb : UInt8, IntsAre vs (ub os ++ [(xb.toNat : Int)]) ∧ xb ≠ os.getLastD 0 := by
  rw [last_ub h hn, Int.fmod_eq_emod_of_nonneg e (by omega), Int.fmod_eq_emod_of_nonneg _ (by omega)] at hi
  have hb := (os.getLastD 0).toNat_lt
  generalize hv : (((os.getLastD 0).toNat : Int) + 1 + e % 255) % 256 = v at hi
  refine ⟨UInt8.ofNat v.toNat, ?_, fun e2 => ?_⟩
  · rw [u8_small (by omega), show ((v.toNat : Nat) : Int) = v by omega]
    exact hi
  · have := congrArg UInt8.toNat e2
    rw [u8_small (by omega)] at this
    omega
theorem small_bd {z : Int} (h0 : 1 ≤ z) (h1 : z ≤ 128) : Builtin.Range.small 1 z 1 = true := by
  unfold Builtin.Range.small Builtin.Range.rangeFitsLong
  rw [rangeSize_nat]
  simp
  omega
theorem range_bd {z : Int} (h0 : 1 ≤ z) (h1 : z ≤ 128) : Builtin.Range.rangeSize 1 z 1 = ((z - 1).toNat : Int) := rangeSize_nat 1 z
theorem good_last : ∀ {l : List Blk} {a : Blk}, Good (l ++ [a]) → a.Ok
  | [], _, h => h
  | _ :: l, _, h => good_last (l := l) (good_tail h)
theorem menu_bd (r : Int) (h0 : 0 ≤ r) (h1 : r < 6) : 1 ≤ ([128, 127, 1, 2, 3, 126] : List Int).getD r.toNat 0 ∧ ([128, 127, 1, 2, 3, 126] : List Int).getD r.toNat 0 ≤ 128 := by
  have : r = 0 ∨ r = 1 ∨ r = 2 ∨ r = 3 ∨ r = 4 ∨ r = 5 := by omega
  rcases this with rfl | rfl | rfl | rfl | rfl | rfl <;> decide
theorem ne_lens {prog : Program} {A : Around} {a b : Addr} {vs us : List Value} {n n2 : Nat} (N : News h₀ L s.heap news) (ha : (a, listOf vs.toArray n) ∈ news) (hb : (b, listOf us.toArray n2) ∈ news) (hl : (vs.length != us.length) = true) (hu : A.units < cLine)
    (h : Q (.bool true) s) : wpAny (model prog w) A (compareOp .NotEq (.ref a) (.ref b)) Q E s :=
  (SeqAt.RcNeAt.lists_lengths (News.isList N ha) (News.isList N hb) (by simpa using hl) hu) prog w E Q h
theorem last_item {prog : Program} {A : Around} {value slice : PySem.Expr} {l : Addr} {vs : List Value} {v : Value} {n : Nat} {u : Tok} {k : Int} (N : News h₀ L s.heap news) (hm : (l, listOf (vs ++ [v]).toArray n) ∈ news) (hk : k = -1) (hz : vs.length ≤ 1000000) (h : Q v s)
    (hs : subscripted slice false (.ref l) (.int k u) = operate [.ref l, .int k u] (getItem (.ref l) (.int k u))) :
    wpAny (model prog w) A (subscriptTail value slice (.ref l) (.int k u)) Q E s := by
  subst hk
  have hl := News.isList N hm
  refine tail_any hl.typeIs slot_list_getitem.lookup (wpAny_getItem_list_neg (x := v) hl (by omega) (by simp; omega) (by omega) ?_ h) hs
  have : ((-1 : Int) + ((vs ++ [v]).toArray.size : Nat)).toNat = vs.length := by simp; omega
  rw [this]
  simp
theorem blks_snoc : ∀ {ts : List Addr} {l : List Blk} {a : Blk}, BlksAt news ts (l ++ [a]) → ∃ ts' t, ts = ts' ++ [t] ∧ BlksAt news ts' l ∧ BlkAt news t a
  | [], [], _, h => h.elim
  | [], _ :: _, _, h => h.elim
  | [t], [], a, h => ⟨[], t, rfl, trivial, h.1⟩
  | t :: t2 :: ts, [], a, h => h.2.elim
  | t :: ts, b :: l, a, h => by
    obtain ⟨ts', t', rfl, h2, h3⟩ := blks_snoc (ts := ts) (l := l) (a := a) h.2
    exact ⟨t :: ts', t', rfl, ⟨h.1, h2⟩, h3⟩
theorem blks_len : ∀ {ts : List Addr} {l : List Blk}, BlksAt news ts l → ts.length = l.length
  | [], [], _ => rfl
  | _ :: _, [], h => h.elim
  | [], _ :: _, h => h.elim
  | _ :: ts, _ :: l, h => by rw [List.length_cons, List.length_cons, blks_len h.2]
noncomputable def AheadOk (l : List Blk) (wr : Bool) (aos : List UInt8) : Prop :=
  1 ≤ aos.length ∧ aos.length ≤ 128 ∧ ∀ bk : Blk, bk.Ok → (wr = false → aos.length < 128 → bk.run = true ∧ 3 ≤ bk.os.length) → (¬ (aos.length = 128 ∧ (wr = true ∨ bk.run = false)) → bk.os.headD 0 ≠ aos.getLastD 0) → Good (l ++ [bk])
local macro_rules | `(tactic| walk_at "pyIter ref") => `(tactic| ((with_reducible refine gIt ?_); refine mstop ?_))
local macro_rules | `(tactic| walk_at "compareOp NotEq ref ref") => `(tactic| (k_here; (with_reducible refine gNe ?_); (refine' ne_lens (by k_asm) (by k_mem) (by k_mem) (by simp) (by units_room) ?_)))
local macro_rules | `(tactic| walk_at "subscriptTail") => `(tactic| (k_here; (with_reducible refine gSi ?_); (with_unfolding_all refine' last_item (by k_asm) (by k_mem) (by rfl) (by omega) ?_ (by with_unfolding_all rfl))))
theorem law_next_spec {W C BL : Addr} {nB : Nat} {b c : Int} {t3 : Tok} {ts : List Addr} {l : List Blk} {nw : List (Addr × Obj)}
    (B : Below A₀ base outer h₀) (F : Fr h₀ L s.heap m) (X : (hd.heap_39 w.params).In h₀) (N : News h₀ L s.heap nw) (T : Top hd.view_39 LO mean mg mb h₀)
    (hw : WellAt W C c t3 b news nw)
    (hWC : C < W) (hW : ∀ p ∈ news, p.1 ≠ W) (hC : ∀ p ∈ news, p.1 ≠ C) (hBL : (BL, listOf (ts.map Value.ref).toArray nB) ∈ news) (hbl : BlksAt news ts l) (hg : Good l) (hl4 : l.length ≤ 4)
    (hk : cs.kind = .function) (hdp : dp + 3 < recursionLimit) (hun : un + 400 < cLine) (hb0 : 0 ≤ b) (hb1 : b ≤ 900) (hc0 : 0 ≤ c) (hc1 : c < 1009)
    (ret : ∀ t o vs' n' bk nwW h' tk, Fr h₀ L h' m → News h₀ L h' ((t, tupB bk o) :: (o, listOf (List.toArray vs') n') :: nwW) → WellAt W C c t3 (b + 7) news nwW → (∀ p ∈ nwW, p.1 ≠ o) → (∀ p ∈ nwW, p.1 ≠ t) → o ≠ t → IntsAre vs' (ub bk.os) → bk.Ok → Good (l ++ [bk]) → Q (.ref t) { s with heap := h', toks := tk }) :
    wpAny (model PG w) (ktrTop dp un gd cn cs L a ccd cl outer) (call (.ref 108) [.ref W, .ref BL]) Q E s := by
  have zz0 : (PySem.Challenge.rw_pq0803_01 = PySem.Challenge.rw_pq0803_01) ∧ hd.heap_39 = hd.heap_39 := by k_fill; exact ⟨rfl, rfl⟩
  replace hWC := ltN hWC
  have hv : WellIs W C c t3 b news nw := hw.is
  clear hw
  revert N
  obtain ⟨x, t1, t2, vs, ns, nW, nC, hi, hlen⟩ := hv
  intro N
  refine wpAny_call ?_
  k_dflt ktr_enter
  k_steps
  refine mgo ?_
  refine cut_to (σ := Int × Tok) (fun z => [(Str.ofString "size", .int z.1 z.2)]) (fun z nw => (1 ≤ z.1 ∧ z.1 ≤ 128) ∧ WellAt W C c t3 (b + 3) news nw) (by assumption) ?_ ?_
  · intro P9 hP9
    k_steps
    · rename_i F9 N9
      have hb9 := menu_bd _ (by assumption) (by assumption)
      refine' cut_end hP9 (_, _) _ F9 N9 (fun p hp => .tail _ hp) ?hk1 ?hr1 ⟨⟨hb9.1, hb9.2⟩, wellAt_mk (by assumption) (by assumption) ?j1x0⟩
      case hk1 =>
        intro p hp
        rw [List.mem_singleton.mp hp]
        rfl
      case hr1 =>
        intro y hy
        simp only [List.forall_mem_cons, List.not_mem_nil, false_implies, implies_true, and_true] at hy
        simp [hy]
      case j1x0 => omega
    · rename_i F9 N9
      refine' cut_end hP9 (_, _) _ F9 N9 (fun p hp => hp) ?hk2 ?hr2 ⟨⟨?j2x0, ?j2x1⟩, wellAt_mk (by assumption) (by assumption) ?j2x2⟩
      case hk2 =>
        intro p hp
        rw [List.mem_singleton.mp hp]
        rfl
      case hr2 =>
        intro y hy
        simp only [List.forall_mem_cons, List.not_mem_nil, false_implies, implies_true, and_true] at hy
        simp [hy]
      case j2x0 => (dsimp only; omega)
      case j2x1 => (dsimp only; omega)
      case j2x2 => omega
  · rintro ⟨z, tz⟩ h2 tk2 nw2 F2 N2 hJ
    have z0 := hJ.1.1
    have z1 := hJ.1.2
    have hv : WellIs W C c t3 (b + 3) news nw2 := hJ.2.is
    clear hJ
    revert N2
    obtain ⟨x2, t12, t22, vs2, ns2, nW2, nC2, hi2, hlen2⟩ := hv
    intro N2
    dsimp only at F2 z0 z1
    k_steps
    refine mgo ?_
    rename_i rA _ _ _ _ _ _ _ _ _ _ rA0 rA1 _ _ rB _ _ _ _ _ _ _ _ _ _ rB0 rB1 _ _ rC _ _ _ _ _ _ _ _ _ _ rC0 rC1 _ _ rD _ _ _ _ _ _ _ _ _ _ rD0 rD1 _ _ _ _ _ _ _ _ _ _ _ _
    refine cut_to (σ := Bool × Addr × List Value × Nat × List UInt8) (fun d => [(Str.ofString "was_run", .bool d.1), (Str.ofString "ahead", .ref d.2.1)])
      (fun d nw => (∃ nwW, WellAt W C c t3 (b + 7) news nwW ∧ ∀ p ∈ nwW, p ∈ nw) ∧ (d.2.1, listOf d.2.2.1.toArray d.2.2.2.1) ∈ nw ∧ IntsAre d.2.2.1 (ub d.2.2.2.2) ∧ AheadOk l d.1 d.2.2.2.2) (by assumption) ?_ ?_
    · intro P9 hP9
      rcases List.eq_nil_or_concat l with rfl | ⟨l', bk, rfl⟩
      · obtain rfl : ts = [] := List.length_eq_zero_iff.mp (blks_len hbl)
        rw [List.map_nil] at hBL
        k_steps
        rename_i F9 N9
        have i1 := (by assumption : IntsAre _ (List.replicate (Int.toNat 128) [(0 : Int)]).flatten)
        refine' cut_end hP9 (true, _, _, 0, List.replicate 128 0) _ F9 N9 (fun p hp => hp) ?hk3 ?hr3 ⟨⟨_, wellAt_mk (b := b + 7) (by assumption) (by assumption) ?j3x0, fun p hp => .tail _ (.tail _ (.tail _ (.tail _ (.tail _ hp))))⟩, .tail _ (.head _), ints_eq i1 (show (List.replicate (Int.toNat 128) [(0 : Int)]).flatten = ub (List.replicate 128 0) by decide +kernel), ?j3x1⟩
        case hk3 =>
          intro p hp
          simp only [List.mem_cons, List.not_mem_nil, or_false] at hp
          rcases hp with rfl | rfl <;> rfl
        case hr3 =>
          intro y hy
          simp only [List.forall_mem_cons, List.not_mem_nil, false_implies, implies_true, and_true] at hy
          simp [hy.1, hy.2]
        case j3x0 => omega
        case j3x1 => exact ⟨by simp, by simp, fun bk h _ _ => h⟩
      · rw [List.concat_eq_append] at *
        obtain ⟨ts', t', rfl, hbl', o', vs', n', hto, hoo, hio⟩ := blks_snoc hbl
        rw [List.map_append, List.map_cons, List.map_nil] at hBL
        have hlt := blks_len hbl'
        have hz1 : (ts'.map Value.ref).length ≤ 4 := by rw [List.length_map, hlt]; rw [List.length_append] at hl4; omega
        k_steps
        rename_i F9 N9
        have hbok := good_last hg
        refine' cut_end hP9 (bk.run, o', vs', n', bk.os) _ F9 N9 (fun p hp => hp) ?hk4 ?hr4 ⟨⟨_, wellAt_mk (b := b + 7) (by assumption) (by assumption) ?j4x0, fun p hp => .tail _ (.tail _ hp)⟩, .tail _ (.tail _ (.tail _ (.tail _ hoo))), hio, hbok.1, hbok.2.1, ?j4x1⟩
        case hk4 =>
          intro p hp
          simp only [List.mem_cons, List.not_mem_nil, or_false] at hp
          rcases hp with rfl | rfl <;> rfl
        case hr4 =>
          intro y hy
          simp only [List.forall_mem_cons, List.not_mem_nil, false_implies, implies_true, and_true] at hy
          simp [hy.1, hy.2]
        case j4x0 => omega
        case j4x1 => 
          intro b2 hb2 hx hy
          rw [List.append_assoc]
          exact Good.snoc hg hb2 ⟨hx, hy⟩
    · refine pr5 fun wr aA vsA nA aos => ?_
      intro h3 tk3 nw3 F3 N3 hJ
      obtain ⟨nwW, hww⟩ := hJ.1
      have hwW := hww.1
      have hsub := hww.2
      have haA := hJ.2.1
      have hiA := hJ.2.2.1
      have hah1 := hJ.2.2.2.1
      have hah2 := hJ.2.2.2.2.1
      have hah3 := hJ.2.2.2.2.2
      clear hJ hww
      dsimp only at F3 haA hiA hah1 hah2 hah3
      k_steps
      refine mgo ?_
      refine cut_to (σ := Bool × Int × Tok) (fun d => [(Str.ofString "is_run", .bool d.1), (Str.ofString "size", .int d.2.1 d.2.2)])
        (fun d nw => (∀ p ∈ nw3, p ∈ nw) ∧ (1 ≤ d.2.1 ∧ d.2.1 ≤ 128) ∧ (wr = false → aos.length < 128 → d.1 = true ∧ 3 ≤ d.2.1)) (by assumption) ?_ ?_
      · intro P9 hP9
        k_steps
        · have hw9 : wr = true := by assumption
          refine' cut_end hP9 (_, z, _) _ (by assumption) (by assumption) (fun p hp => hp) ?hk5 ?hr5 ⟨fun p hp => hp, ⟨z0, z1⟩, fun h => by rw [hw9] at h; cases h⟩
          case hk5 =>
            intro p hp
            simp only [List.mem_cons, List.not_mem_nil, or_false] at hp
            rcases hp with rfl | rfl <;> rfl
          case hr5 =>
            intro y hy
            rfl
        · rename_i F9 N9
          have hl9 : (((ub aos).length : Nat) : Int) < 128 := by assumption
          refine' cut_end hP9 (true, _, _) _ F9 N9 (fun p hp => .tail _ hp) ?hk6 ?hr6 ⟨fun p hp => hp, ⟨?j6x0, ?j6x1⟩, fun _ _ => ⟨rfl, ?j6x2⟩⟩
          case hk6 =>
            intro p hp
            simp only [List.mem_cons, List.not_mem_nil, or_false] at hp
            rcases hp with rfl | rfl <;> rfl
          case hr6 =>
            intro y hy
            simp only [List.forall_mem_cons, List.not_mem_nil, false_implies, implies_true, and_true] at hy
            simp [hy.1, hy.2]
          case j6x0 => (dsimp only; omega)
          case j6x1 => (dsimp only; omega)
          case j6x2 => (dsimp only; omega)
        · have hw9 : ¬ (((ub aos).length : Nat) : Int) < 128 := by assumption
          rw [List.length_map] at hw9
          refine' cut_end hP9 (_, z, _) _ (by assumption) (by assumption) (fun p hp => hp) ?hk7 ?hr7 ⟨fun p hp => hp, ⟨z0, z1⟩, fun _ h => ?j7x0⟩
          case hk7 =>
            intro p hp
            simp only [List.mem_cons, List.not_mem_nil, or_false] at hp
            rcases hp with rfl | rfl <;> rfl
          case hr7 =>
            intro y hy
            rfl
          case j7x0 => omega
      · refine pr3 fun ir z2 tz2 => ?_
        intro h4 tk4 nw4 F4 N4 hJ
        have hs4 := hJ.1
        have z20 := hJ.2.1.1
        have z21 := hJ.2.1.2
        have hwr := hJ.2.2
        clear hJ
        dsimp only at F4 z20 z21 hwr
        replace haA := hs4 _ haA
        k_steps
        refine mgo ?_
        refine cut_to (σ := Int × Tok) (fun d => [(Str.ofString "size", .int d.1 d.2)])
          (fun d nw => (∀ p ∈ nw4, p ∈ nw) ∧ (1 ≤ d.1 ∧ d.1 ≤ 128) ∧ (wr = false → aos.length < 128 → ir = true ∧ 3 ≤ d.1) ∧ (ir = true → 2 ≤ d.1)) (by assumption) ?_ ?_
        · intro P9 hP9
          k_steps
          · rename_i F9 N9
            refine' cut_end hP9 (if z2 < 2 then 2 else z2, _) _ F9 N9 (fun p hp => hp) ?hk8 ?hr8 ⟨fun p hp => hp, ⟨?j8x0, ?j8x1⟩, fun h1 h2 => ⟨(hwr h1 h2).1, ?j8x2⟩, fun _ => ?j8x3⟩
            case hk8 =>
              intro p hp
              rw [List.mem_singleton.mp hp]
              rfl
            case hr8 =>
              intro y hy
              simp only [List.forall_mem_cons, List.not_mem_nil, false_implies, implies_true, and_true] at hy
              simp [hy]
            case j8x0 => (dsimp only; omega)
            case j8x1 => (dsimp only; omega)
            case j8x2 => (have := (hwr h1 h2).2; dsimp only; omega)
            case j8x3 => (dsimp only; omega)
          · have hi9 : ir = false := by assumption
            refine' cut_end hP9 (z2, _) _ (by assumption) (by assumption) (fun p hp => hp) ?hk9 ?hr9 ⟨fun p hp => hp, ⟨z20, z21⟩, fun h1 h2 => hwr h1 h2, fun h => by rw [hi9] at h; cases h⟩
            case hk9 =>
              intro p hp
              rw [List.mem_singleton.mp hp]
              rfl
            case hr9 =>
              intro y hy
              rfl
        · rintro ⟨z3, tz3⟩ h5 tk5 nw5 F5 N5 hJ
          have hs5 := hJ.1
          have z30 := hJ.2.1.1
          have z31 := hJ.2.1.2
          have hwr2 := hJ.2.2.1
          have hir := hJ.2.2.2
          clear hJ
          dsimp only at F5 z30 z31 hwr2 hir
          replace haA := hs5 _ haA
          k_steps
          refine mgo ?_
          refine cut_to (σ := Bool) (fun d => [(Str.ofString "is_free", .bool d)])
            (fun d nw => (∀ p ∈ nw5, p ∈ nw) ∧ (d = true ↔ (aos.length = 128 ∧ (wr = true ∨ ir = false)))) (by assumption) ?_ ?_
          · intro P9 hP9
            k_steps
            · have e1 : (((ub aos).length : Nat) : Int) = 128 := by assumption
              have e2 : wr = true := by assumption
              rw [List.length_map] at e1
              rename_i F9 N9
              refine' cut_end hP9 _ _ F9 N9 (fun p hp => hp) ?hk10 ?hr10 ⟨fun p hp => hp, ?j10x0⟩
              case hk10 =>
                intro p hp
                rw [List.mem_singleton.mp hp]
                rfl
              case hr10 =>
                intro y hy
                simp only [List.forall_mem_cons, List.not_mem_nil, false_implies, implies_true, and_true] at hy
                simp [hy]
              case j10x0 => (constructor <;> intro _ <;> first | exact ⟨by omega, .inl e2⟩ | exact e2 | rfl)
            · have e1 : (((ub aos).length : Nat) : Int) = 128 := by assumption
              have e2 : wr = false := by assumption
              rw [List.length_map] at e1
              rename_i F9 N9
              refine' cut_end hP9 _ _ F9 N9 (fun p hp => hp) ?hk11 ?hr11 ⟨fun p hp => hp, ?j11x0⟩
              case hk11 =>
                intro p hp
                rw [List.mem_singleton.mp hp]
                rfl
              case hr11 =>
                intro y hy
                simp only [List.forall_mem_cons, List.not_mem_nil, false_implies, implies_true, and_true] at hy
                simp [hy]
              case j11x0 => (have e3 : aos.length = 128 := by omega); (rw [e2]; simp [e3])
            · have e1 : (((ub aos).length : Nat) : Int) ≠ 128 := by assumption
              rw [List.length_map] at e1
              rename_i F9 N9
              refine' cut_end hP9 _ _ F9 N9 (fun p hp => hp) ?hk12 ?hr12 ⟨fun p hp => hp, ?j12x0⟩
              case hk12 =>
                intro p hp
                rw [List.mem_singleton.mp hp]
                rfl
              case hr12 =>
                intro y hy
                simp only [List.forall_mem_cons, List.not_mem_nil, false_implies, implies_true, and_true] at hy
                simp [hy]
              case j12x0 => (constructor; (intro h; simp at h; omega); (intro h; omega))
          · intro fr h6 tk6 nw6 F6 N6 hJ
            have hs6 := hJ.1
            have hfr := hJ.2
            clear hJ
            (try dsimp only at F6)
            replace haA := hs6 _ haA
            k_steps
            refine mgo ?_
            refine cut_to (σ := Int × Tok) (fun d => [(Str.ofString "first", .int d.1 d.2)])
              (fun d nw => (∀ p ∈ nw6, p ∈ nw) ∧ (0 ≤ d.1 ∧ d.1 < 256) ∧ (fr = false → d.1 ≠ ((aos.getLastD 0).toNat : Int))) (by assumption) ?_ ?_
            · intro P9 hP9
              k_steps
              · have hq9 : fr = true := by assumption
                refine' cut_end hP9 (_, _) _ (by assumption) (by assumption) (fun p hp => hp) ?hk13 ?hr13 ⟨fun p hp => hp, ⟨?j13x0, ?j13x1⟩, fun h => by rw [hq9] at h; cases h⟩
                case hk13 =>
                  intro p hp
                  rw [List.mem_singleton.mp hp]
                  rfl
                case hr13 =>
                  intro y hy
                  rfl
                case j13x0 => (dsimp only; omega)
                case j13x1 => (dsimp only; omega)
              · rename_i hq9 _ _ F9 N9
                rw [last_ub hah1 (by first | rfl | simp)] at hq9
                have fm : ∀ a : Int, 0 ≤ a → a.fmod 256 = a % 256 := fun a _ => Int.fmod_eq_emod_of_nonneg _ (by omega)
                refine' cut_end hP9 ((rA + 1 + rD).fmod 256, _) _ F9 N9 (fun p hp => hp) ?hk14 ?hr14 ⟨fun p hp => hp, ⟨?j14x0, ?j14x1⟩, fun _ => ?j14x2⟩
                case hk14 =>
                  intro p hp
                  rw [List.mem_singleton.mp hp]
                  rfl
                case hr14 =>
                  intro y hy
                  simp only [List.forall_mem_cons, List.not_mem_nil, false_implies, implies_true, and_true] at hy
                  simp [hy]
                case j14x0 => (dsimp only; rw [fm _ (by omega)]; omega)
                case j14x1 => (dsimp only; rw [fm _ (by omega)]; omega)
                case j14x2 => (dsimp only; rw [fm _ (by omega)]; omega)
              · rename_i hq9
                rw [ne_eq, last_ub hah1 (by first | rfl | simp)] at hq9
                refine' cut_end hP9 (_, _) _ (by assumption) (by assumption) (fun p hp => hp) ?hk15 ?hr15 ⟨fun p hp => hp, ⟨?j15x0, ?j15x1⟩, fun _ => hq9⟩
                case hk15 =>
                  intro p hp
                  rw [List.mem_singleton.mp hp]
                  rfl
                case hr15 =>
                  intro y hy
                  rfl
                case j15x0 => (dsimp only; omega)
                case j15x1 => (dsimp only; omega)
            · rintro ⟨f, tf⟩ h7 tk7 nw7 F7 N7 hJ
              have hs7 := hJ.1
              have f0 := hJ.2.1.1
              have f1 := hJ.2.1.2
              have hf := hJ.2.2
              clear hJ
              dsimp only at F7 f0 f1 hf
              k_steps
              refine mgo ?_
              rename_i oA _ lo _ _ _ _ _ _ _ _ hR F8 N8 _
              obtain ⟨fb, hfb⟩ : ∃ fb : UInt8, f = (fb.toNat : Int) := ⟨UInt8.ofNat f.toNat, by rw [u8_small (by omega)]; omega⟩
              refine' for_range (σ := List Value × Nat × List UInt8) (n := (z3 - 1).toNat) (fun d => (oA, listOf d.1.toArray d.2.1) :: nw7) (fun _ => []) (fun d => IntsAre d.1 (ub d.2.2)) []
                (fun i d => d.2.2.length = i + 1 ∧ d.2.2.headD 0 = fb ∧ (ir = true → d.2.2 = List.replicate (i + 1) fb) ∧ (ir = false → Apart d.2.2)) ([Value.int f tf], 0, [fb]) (by rfl) hR ?q1 ?q2 F8 N8 ?q3 ?q4 ?q5 ?q6 ?q7
              case q1 => exact small_bd z30 z31
              case q2 => exact range_bd z30 z31
              case q3 => exact ints_eq (.cons _ _ .nil) (by simp [hfb])
              case q4 => intro p hp; simp at hp
              case q5 => exact ⟨rfl, rfl, fun _ => rfl, fun _ => trivial⟩
              case q6 =>
                refine pr3 fun vs9 n9 os9 => ?_
                intro i ti u h8 tk8 I oI K9 hK9 hin hoff hi9 hJ F10 N10
                have hl9 := hJ.1
                have hh9 := hJ.2.1
                have hr9 := hJ.2.2.1
                have ha9 := hJ.2.2.2
                clear hJ
                dsimp only at hoff hi9 hl9 hh9 hr9 ha9 F10 N10
                have hIo : @Ne Nat oA I := hoff _ (.head _)
                have hhd : ∀ y, (os9 ++ [y]).headD 0 = fb := fun y => by
                  cases os9 with
                  | nil => simp at hl9
                  | cons x r => exact hh9
                have hn7 : ∀ p ∈ nw7, p.1 ≠ oA := fun p hp => Nat.ne_of_lt (lo p hp)
                k_steps
                · refine fpn hK9 ?_
                  rename_i F11 N11 hI9
                  have hr10 := hr9 (by assumption)
                  have ht9 : ir = true := by assumption
                  refine' for_end (_, _, os9 ++ [fb]) F11 N11 (.head _) (fun p hp => .tail _ hp) (fun p hp => (List.mem_cons.mp hp).elim (fun e => e ▸ hIo) fun hp => hoff p (.tail _ hp)) (ints_eq hI9 (by rw [hfb]; exact ub_snoc _ _)) (fun p hp => by simp at hp) (fun z h1 _ _ => by simp [kstB, h1]) ⟨by simp [hl9], hhd _, (fun _ => by rw [hr10, ← List.replicate_succ']), (fun h => by rw [ht9] at h; cases h)⟩
                · refine fpn hK9 ?_
                  rename_i F11 N11 hI9
                  have ht9 : ir = false := by assumption
                  obtain ⟨xb, hI10, hne⟩ := step_ints (by omega) (by first | rfl | simp) hI9
                  refine' for_end (_, _, os9 ++ [xb]) F11 N11 (.head _) (fun p hp => .tail _ hp) (fun p hp => (List.mem_cons.mp hp).elim (fun e => e ▸ hIo) fun hp => hoff p (.tail _ hp)) (ints_eq hI10 (ub_snoc _ _)) (fun p hp => by simp at hp) (fun z h1 _ _ => by simp [kstB, h1]) ⟨by simp [hl9], hhd _, (fun h => by rw [ht9] at h; cases h), (fun _ => apart_snoc (ha9 ht9) hne)⟩
              case q7 =>
                refine pr3 fun vs9 n9 os9 => ?_
                intro u h8 tk8 hi9 hJ F10 N10
                have hl9 := hJ.1
                have hh9 := hJ.2.1
                have hr9 := hJ.2.2.1
                have ha9 := hJ.2.2.2
                clear hJ
                dsimp only at hi9 hl9 hh9 hr9 ha9 F10 N10
                k_steps
                rename_i kF kN _ _
                have hsub7 : ∀ p ∈ nwW, p ∈ nw7 := fun p hp => hs7 _ (hs6 _ (hs5 _ (hs4 _ (hsub _ hp))))
                have hok : (Blk.mk ir os9).Ok := by
                  refine ⟨by dsimp only; omega, by dsimp only; omega, fun h => ⟨by have := hir h; dsimp only; omega, fb, ?_⟩, fun h => ha9 h⟩
                  dsimp only
                  rw [hl9]
                  exact hr9 h
                refine ret _ oA vs9 n9 ⟨ir, os9⟩ nwW _ _ kF (fun p hp => kN p ?_) hwW (fun p hp => Nat.ne_of_lt (lo p (hsub7 p hp))) (fun p hp => Nat.ne_of_lt (of_allLt (by assumption : _ ∧ AllLt _ nw7).2 p (hsub7 p hp))) (Nat.ne_of_lt (by assumption : oA < _ ∧ AllLt _ nw7).1) hi9 hok (hah3 _ hok (fun h1 h2 => ?_) fun h => ?_)
                · rcases List.mem_cons.mp hp with rfl | hp
                  · exact .head _
                  · rcases List.mem_cons.mp hp with rfl | hp
                    · exact .tail _ (.head _)
                    · exact .tail _ (.tail _ (hsub7 p hp))
                · have := hwr2 h1 h2
                  exact ⟨this.1, by dsimp only; omega⟩
                · have hfr9 : fr = false := by
                    cases hq : fr with
                    | false => rfl
                    | true => exact absurd (hfr.mp hq) h
                  have hz := hf hfr9
                  rw [hfb] at hz
                  dsimp only
                  rw [hh9]
                  intro e
                  rw [e] at hz
                  exact hz rfl
end
local macro_rules | `(tactic| walk_at "dup 3") => `(tactic| (k_here; (with_reducible refine gC 115 ?_); (with_unfolding_all refine' law_codes_spec (by k_asm) (by k_asm) (by k_asm) (by k_asm) (by k_asm) (by rfl) (by ktr_room) (by units_room) (by k_mem) (by k_mem) (by l_ints) (by assumption) (by assumption) (by assumption) ?_); intros; rename_i lt9 i9; (try k_lt lt9); (try dsimp only)))
local macro_rules | `(tactic| walk_at "pad") => `(tactic| skip)
local macro_rules | `(tactic| walk_at "pad") => `(tactic| skip)
local macro_rules | `(tactic| walk_at "pad") => `(tactic| skip)
section
theorem rs_MDue : True := by w_top off; trivial
local macro_rules | `(tactic| walk_at "pyIter ref") => `(tactic| ((with_reducible refine gIt ?_); refine mstop ?_))
local macro_rules | `(tactic| walk_at "call builtin:len") => `(tactic| walk_at "dup 2")
local macro_rules | `(tactic| walk_at "call ref") => `(tactic| walk_at "dup 3")
local macro_rules | `(tactic| walk_at "exec For Name Name cons nil") => `(tactic| (k_here; (rename Fr _ _ _ _ => lF'); (with_unfolding_all refine' For_invVF lF' ?k1 ?k2 ?_; (case k1 | k2 => exact rfl); k_whole)))
theorem blks_get : ∀ {ts : List Addr} {l : List Blk} {i : Nat} {v : Value}, BlksAt news ts l → (ts.map Value.ref)[i]? = some v → ∃ t b, v = .ref t ∧ l[i]? = some b ∧ BlkAt news t b
  | [], [], i, v, _, h => by simp at h
  | [], _ :: _, _, _, h, _ => h.elim
  | _ :: _, [], _, _, h, _ => h.elim
  | t :: ts, b :: l, 0, v, h, hv => ⟨t, b, by simpa using hv.symm, rfl, h.1⟩
  | t :: ts, b :: l, i + 1, v, h, hv => blks_get (i := i) h.2 (by simpa using hv)
theorem good_get : ∀ {l : List Blk} {i : Nat} {b : Blk}, Good l → l[i]? = some b → b.Ok
  | [], _, _, _, h => by simp at h
  | a :: l, 0, b, hg, h => by
    obtain rfl : a = b := by simpa using h
    exact good_one hg
  | a :: l, i + 1, b, hg, h => good_get (i := i) (good_tail hg) (by simpa using h)
theorem codes_len {b : Blk} (h : b.Ok) : (codesOf b).length ≤ 129 := by
  have := h.2.1
  unfold codesOf
  split <;> simp
  omega
inductive BlkIs (news : List (Addr × Obj)) (l : List Blk) (i : Nat) : Value → Prop where
  | mk (t : Addr) (b : Blk) (o : Addr) (vs : List Value) (n : Nat) (h1 : l[i]? = some b) (h2 : (t, tupB b o) ∈ news) (h3 : (o, listOf vs.toArray n) ∈ news) (h4 : IntsAre vs (ub b.os)) : BlkIs news l i (.ref t)
theorem blks_is {news : List (Addr × Obj)} {ts : List Addr} {l : List Blk} {i : Nat} {v : Value} (hb : BlksAt news ts l) (hv : (ts.map Value.ref)[i]? = some v) : BlkIs news l i v := by
  obtain ⟨t, b, rfl, h1, o, vs, n, h2, h3, h4⟩ := blks_get hb hv
  exact ⟨t, b, o, vs, n, h1, h2, h3, h4⟩
noncomputable abbrev DueS := (Nat × Tok) × (Addr × List Value × Nat × List UInt8)
theorem law_due_spec {BL : Addr} {nB : Nat} {ts : List Addr} {l : List Blk} {cut : Nat} {tc : Tok}
    (B : Below A₀ base outer h₀) (F : Fr h₀ L s.heap m) (X : (hd.heap_39 w.params).In h₀) (N : News h₀ L s.heap news) (T : Top hd.view_39 LO mean mg mb h₀)
    (hBL : (BL, listOf (ts.map Value.ref).toArray nB) ∈ news) (hbl : BlksAt news ts l) (hg : Good l) (hl4 : l.length ≤ 4)
    (hk : cs.kind = .function) (hdp : dp + 3 < recursionLimit) (hun : un + 400 < cLine)
    (ret1 : ∀ os t h' tk, due l 0 [] cut = .ok os → Fr h₀ L h' m → News h₀ L h' news → Q (.bytes os.toArray t) { s with heap := h', toks := tk })
    (ret2 : ∀ k D t1 t2 h' tk, due l 0 [] cut = .error k → Fr h₀ L h' m → News h₀ L h' ((D, tupObj [.str (Str.ofString "fault") t1, .int (k : Int) t2]) :: news) → (∀ p ∈ news, p.1 < D) → Q (.ref D) { s with heap := h', toks := tk }) :
    wpAny (model PG w) (ktrTop dp un gd cn cs L a ccd cl outer) (call (.ref 129) [.ref BL, .int (cut : Int) tc]) Q E s := by
  have zz0 : (PySem.Challenge.rw_pq0803_01 = PySem.Challenge.rw_pq0803_01) ∧ hd.heap_39 = hd.heap_39 := by k_fill; exact ⟨rfl, rfl⟩
  refine wpAny_call ?_
  k_dflt ktr_enter
  k_steps
  refine mgo ?_
  rename_i oA _ lo _ _ _ _ _ _ F1 N1
  refine' for_list (σ := DueS) (fun d => (d.2.1, listOf d.2.2.1.toArray d.2.2.2.1) :: news) (fun d => [(Str.ofString "at", .int (d.1.1 : Int) d.1.2), (Str.ofString "octets", .ref d.2.1)])
    (fun d => IntsAre d.2.2.1 (ub d.2.2.2.2) ∧ ∀ p ∈ news, p.1 < d.2.1) [Str.ofString "behind"]
    (fun i d => due (l.drop i) d.1.1 d.2.2.2.2 cut = due l 0 [] cut ∧ d.1.1 ≤ 129 * i ∧ d.2.2.2.2.length ≤ 128 * i) ((0, _), (oA, [], 0, [])) (by rfl) (fun d => .tail _ hBL) F1 (news_drop N1 ?q1) ⟨.nil, lo⟩ ?q2 ⟨rfl, Nat.le_refl _, Nat.le_refl _⟩ ?q3 ?q4
  case q1 =>
    intro p hp
    exact .tail _ hp
  case q2 =>
    intro p hp
    simp only [List.mem_cons, List.not_mem_nil, or_false] at hp
    rcases hp with rfl | rfl <;> rfl
  case q3 =>
    refine pr24 fun k t oA2 vs9 n9 os9 => ?_
    intro i v u h8 tk8 I oI K9 hK9 hv hoff hf9 hp9
    have hvi : BlkIs news l i v := blks_is hbl hv
    clear hv
    obtain ⟨t', b, o', vs', n', hb, hto, hoo, hio⟩ := hvi
    intro F10 N10
    have hi9 := hf9.1
    have hlo9 := hf9.2
    have hd9 := hp9.1
    have hk9 := hp9.2.1
    have hl9 := hp9.2.2
    clear hf9 hp9
    dsimp only at hoff hi9 hlo9 hd9 hk9 hl9 F10 N10
    have hbok := good_get hg hb
    have hb1 := hbok.1
    have hb2 := hbok.2.1
    have hb3 : b.run = true → 2 ≤ b.os.length := fun h => (hbok.2.2.1 h).1
    have hcl := codes_len hbok
    have hil : i < l.length := (List.getElem?_eq_some_iff.mp hb).1
    have hvl : vs9.length = os9.length := by rw [hi9.length, List.length_map]
    have hdr : l.drop i = b :: l.drop (i + 1) := by
      rw [List.drop_eq_getElem_cons hil]
      congr 1
      rw [List.getElem?_eq_getElem hil] at hb
      exact Option.some.inj hb
    rw [hdr, due] at hd9
    k_steps
    all_goals (first | (refine fpr hK9 ?_; k_steps) | (refine fpb hK9 ?_; k_steps) | skip)
    · rename_i c1 c2 _ _ _ _ _ kF kN _ _
      rw [List.length_map] at c2
      rw [if_pos ⟨by omega, by omega⟩] at hd9
      exact ret2 _ _ _ _ _ _ hd9.symm kF (fun p hp => kN p (by
        rcases List.mem_cons.mp hp with rfl | hp
        · exact .head _
        · exact .tail _ (.tail _ (.tail _ (.tail _ hp))))) (of_allLt (by assumption : _ ∧ _ ∧ _ ∧ AllLt _ news).2.2.2)
    · refine fpn hK9 ?_
      rename_i c1 c2 D2 ws _ hI l2 _ _ _ _ _ _ F11 N11
      have c1 : (k : Int) < (cut : Int) := by assumption
      rw [List.length_map] at c2
      rw [if_neg (by rintro ⟨_, h⟩; omega), if_neg (by omega)] at hd9
      refine' for_end ((k + (codesOf b).length, _), (D2, ws, 0, os9 ++ b.os)) F11 N11 (.tail _ (.tail _ (.tail _ (.head _)))) ?e1 ?e2 ⟨ints_eq hI (ub_app _ _), ?e3⟩ ?e4 ?e5 ⟨hd9, ?e6, ?e7⟩
      case e1 =>
        intro p hp
        rcases List.mem_cons.mp hp with rfl | hp
        · exact .tail _ (.head _)
        · exact .tail _ (.tail _ (.tail _ (.tail _ (.tail _ hp))))
      case e2 =>
        intro p hp
        rcases List.mem_cons.mp hp with rfl | hp
        · exact Ne.symm (Nat.ne_of_lt l2.2.1)
        · exact hoff p (.tail _ hp)
      case e3 => exact of_allLt l2.2.2.2
      case e4 =>
        intro p hp
        simp only [List.mem_cons, List.not_mem_nil, or_false] at hp
        rcases hp with rfl | rfl
        · dsimp only
          rw [show (((k + (codesOf b).length : Nat)) : Int) = (k : Int) + (((ub (codesOf b)).length : Nat) : Int) by rw [List.length_map]; omega]
          rfl
        · rfl
      case e5 =>
        intro z z1 z2 z3
        simp only [List.forall_mem_cons, List.not_mem_nil, false_implies, implies_true, and_true] at z2
        have z4 : z ≠ Str.ofString "behind" := by simpa using z3
        simp [kstB, z1, z2.1, z2.2, z4]
      case e6 => dsimp only; omega
      case e7 =>
        dsimp only
        rw [List.length_append]
        omega
    · rename_i c1 _ _ _ _ _ kF kN _ _
      rw [if_neg (by rintro ⟨h, _⟩; omega), if_pos (by omega)] at hd9
      exact ret1 _ _ _ _ hd9.symm kF (fun p hp => kN p (.tail _ (.tail _ (.tail _ hp))))
  case q4 =>
    refine pr24 fun k t oA2 vs9 n9 os9 => ?_
    intro u h8 tk8 hf9 hp9 F10 N10
    have hi9 := hf9.1
    have hlo9 := hf9.2
    have hd9 := hp9.1
    have hk9 := hp9.2.1
    have hl9 := hp9.2.2
    clear hf9 hp9
    dsimp only at hi9 hlo9 hd9 hk9 hl9 F10 N10
    have hvl : vs9.length = os9.length := by rw [hi9.length, List.length_map]
    rw [List.length_map, blks_len hbl] at hd9 hk9 hl9
    rw [List.drop_of_length_le (Nat.le_refl _), due] at hd9
    k_steps
    rename_i kF kN _ _
    exact ret1 _ _ _ _ hd9.symm kF (fun p hp => kN p (.tail _ hp))
end
section
theorem rs_MLawX : True := by w_top off; trivial
local macro_rules | `(tactic| k_ne) => `(tactic| first | assumption | exact Ne.symm (by assumption) | (refine neN ?_; (try dsimp only); omega))
local macro_rules | `(tactic| walk_at "pyIter ref") => `(tactic| ((with_reducible refine gIt ?_); refine mstop ?_))
local macro_rules | `(tactic| walk_at "call builtin:len") => `(tactic| walk_at "dup 2")
local macro_rules | `(tactic| walk_at "call ref") => `(tactic| (refine mstop ?_))
local macro_rules | `(tactic| walk_at "exec For Name Name cons nil") => `(tactic| ((fail_if_success (with_reducible refine gCut ?_)); refine mstop ?_))
local macro_rules | `(tactic| walk_at "exec For Name Call cons nil") => `(tactic| ((fail_if_success (with_reducible refine gCut ?_)); refine mstop ?_))
local macro_rules | `(tactic| walk_at "call type:range") => `(tactic| ((rename Fr _ _ _ _ => F'); (rename News _ _ _ _ => N'); (with_unfolding_all refine range1_rows F' N' ?_); intro _ _ _ _ _ _ _ _ _))
local macro_rules | `(tactic| walk_at "call ref") => `(tactic| walk_at "dup 3")
local macro_rules | `(tactic| walk_at "binaryOp Add bytes bytes") => `(tactic| (k_here; (with_reducible refine gAdd ?_); k_dflt (refine' PySem.W.bytes_add_K ?z rfl ?_; (case z => ((simp only [List.size_toArray, List.length_append, List.length_cons, List.length_nil]); omega)); k_whole); intro _ _))
local macro_rules | `(tactic| walk_at "exec For Name Tuple cons nil") => `(tactic| ((rename Fr _ _ _ _ => F'); (with_reducible apply For_unrF); (case _F => with_unfolding_all exact F'); (case hs => (intro _; with_unfolding_all rfl))))
local macro_rules | `(tactic| walk_at "eval ListComp") => `(tactic| (refine mstop ?_))
local macro_rules | `(tactic| walk_at "CompSrcT") => `(tactic| (refine mstop ?_))
local macro_rules | `(tactic| walk_at "call builtin:list.append") => `(tactic| (k_here; (with_reducible refine gBr ?_); k_dflt (refine' app_ref (by k_asm) (by k_asm) (by k_upd) (by (rw [List.length_map]; omega)) ?_); intros))
theorem ex_eq {α : Type} (x : α) : ∃ y, y = x := ⟨x, rfl⟩
theorem led5 {a b c d e f : Addr × Obj} {h : Heap} (N : News h₀ L h [a, b, c, d, e, f]) : ∃ pc pB : Addr × Obj, pc = e ∧ pB = f ∧ News h₀ L h [b, c, d, pc, pB] := ⟨e, f, rfl, rfl, fun p hp => N p (.tail _ hp)⟩
noncomputable def LawLed (W C BL : Addr) (r : Int) (t3 : Tok) (pc pB : Addr × Obj) (b : Int) (ts : List Addr) (l : List Blk) (nw : List (Addr × Obj)) : Prop :=
  ∃ nB rest, WellAt W C r t3 b (pc :: (BL, listOf (ts.map Value.ref).toArray nB) :: rest) nw ∧ pB ∈ rest ∧ BlksAt rest ts l ∧ ∀ p ∈ rest, p.1 ≠ W ∧ p.1 ≠ C ∧ p.1 ≠ BL ∧ p.1 ≠ pc.1
theorem blkAt_mono {n1 n2 : List (Addr × Obj)} {t : Addr} {b : Blk} (hs : ∀ p ∈ n1, p ∈ n2) (h : BlkAt n1 t b) : BlkAt n2 t b := by
  obtain ⟨o, vs, n, h1, h2, h3⟩ := h
  exact ⟨o, vs, n, hs _ h1, hs _ h2, h3⟩
theorem blksAt_mono {n1 n2 : List (Addr × Obj)} (hs : ∀ p ∈ n1, p ∈ n2) : ∀ {ts : List Addr} {l : List Blk}, BlksAt n1 ts l → BlksAt n2 ts l
  | [], [], _ => trivial
  | _ :: _, [], h => h.elim
  | [], _ :: _, h => h.elim
  | _ :: ts, _ :: l, h => ⟨blkAt_mono hs h.1, blksAt_mono hs h.2⟩
theorem blksAt_snoc {n1 : List (Addr × Obj)} {t : Addr} {b : Blk} : ∀ {ts : List Addr} {l : List Blk}, BlksAt n1 ts l → BlkAt n1 t b → BlksAt n1 (ts ++ [t]) (l ++ [b])
  | [], [], _, h => ⟨h, trivial⟩
  | _ :: _, [], h, _ => h.elim
  | [], _ :: _, h, _ => h.elim
  | _ :: ts, _ :: l, h, h2 => ⟨h.1, blksAt_snoc h.2 h2⟩
section
variable {A : Around}
theorem app_ref {prog : Program} {D x : Addr} {vs : List Value} {n : Nat} {news' : List (Addr × Obj)} (F : Fr h₀ L s.heap m) (N : News h₀ L s.heap news) (U : Upd D (listOf vs.toArray n) (listOf (vs ++ [Value.ref x]).toArray (n + 1)) news news') (hsz : vs.length ≤ 1000000)
    (h : ∀ h', Fr h₀ L h' m → News h₀ L h' news' → Q .none { s with heap := h' }) : wpAny (model prog w) A (call (.builtin "list.append") [.ref D, .ref x]) Q E s := by
  refine append_K (n := n) (its := vs.toArray) F N (news' := news') ?_ (fun h' F' N' => h h' F' N') (by rw [List.size_toArray, sizeLine_eq]; omega)
  rw [List.push_toArray]
  exact U
/-- behind the statement: the ledger; the stored names are forgotten -/
noncomputable def CutF (h₀ : Heap) (L : Addr) (s₁ : Shared) (m₀ : PySem.Str → Option Value) (stored : List PySem.Str) (J : List (Addr × Obj) → Prop) (f : Flow) (s₂ : Shared) : Prop :=
  f = .next ∧ ∃ (u : PySem.Str → Option Value) (h' : Heap) (tk : Nat) (news' : List (Addr × Obj)), s₂ = { s₁ with heap := h', toks := tk } ∧ Fr h₀ L h' (fun z => if stored.contains z then u z else m₀ z) ∧ News h₀ L h' news' ∧ J news'
theorem cut_f {M : Model} {t : Sem Flow} {K : Flow → Shared → Prop} {m₀ : PySem.Str → Option Value} (stored : List PySem.Str) (J : List (Addr × Obj) → Prop) (F : Fr h₀ L s.heap m₀)
    (h1 : ∀ P, P = CutF h₀ L s m₀ stored J → wpAny M A t (CutEnd P) E s)
    (h2 : ∀ (u : PySem.Str → Option Value) h' tk news', Fr h₀ L h' (fun z => if stored.contains z then u z else m₀ z) → News h₀ L h' news' → J news' → K .next { s with heap := h', toks := tk }) : wpAny M A t K E s :=
  cut (h1 _ rfl) fun f s' h => by
    obtain ⟨rfl, u, h', tk, news', rfl, F', N', hj⟩ := h
    exact h2 u h' tk news' F' N' hj
theorem cut_fend {m₀ m' : PySem.Str → Option Value} {stored : List PySem.Str} {J : List (Addr × Obj) → Prop} {h' : Heap} {tk : Nat} {news' : List (Addr × Obj)} {P : Flow → Shared → Prop} (hP : P = CutF h₀ L s m₀ stored J) (nx : List (Addr × Obj)) (F : Fr h₀ L h' m') (N : News h₀ L h' news') (hn : ∀ p ∈ nx, p ∈ news')
    (hr : ∀ z, stored.contains z = false → m' z = m₀ z) (hj : J nx) : CutEnd P .next { s with heap := h', toks := tk } := by
  subst hP
  refine ⟨rfl, m', h', tk, nx, rfl, ?_, fun p hp => N p (hn p hp), hj⟩
  have em : (fun z => if stored.contains z = true then m' z else m₀ z) = m' := by
    funext y
    cases hc : stored.contains y with
    | true => simp
    | false => simp [hr y hc]
  rw [em]
  exact F
end
theorem ne_same {A : Around} {w : World} {prog : Program} {Q : Value → Shared → Prop} {E : Value → Shared → Prop} {s : Shared} {b c : Array UInt8} {t u : Tok} (e : b.toList = c.toList) (h : Q (.bool false) s) : wpAny (model prog w) A (compareOp .NotEq (.bytes b t) (.bytes c u)) Q E s := by
  refine ne_bytes ?_
  rw [e]
  simpa using h
theorem small_bd0 {z : Int} (h0 : 0 ≤ z) (h1 : z ≤ 128) : Builtin.Range.small 0 z 1 = true := by
  unfold Builtin.Range.small Builtin.Range.rangeFitsLong
  rw [rangeSize_nat]
  simp
  omega
noncomputable abbrev LawS := List (Addr × Obj) × (List Addr × List Blk) × (Int × Tok)
theorem flat_snoc (l : List Blk) (b : Blk) : flatOs (l ++ [b]) = flatOs l ++ b.os := by simp [flatOs]
noncomputable abbrev Law2S := (Addr × List Value × Nat × List UInt8) × (Addr × List Value × Nat × List UInt8) × (Addr × List Value × Nat × List Int)
theorem codes_len2 {b : Blk} (h : b.Ok) : 2 ≤ (codesOf b).length := by
  have := h.1
  unfold codesOf
  split <;> simp
  omega
theorem take_flat {l : List Blk} {i : Nat} {b : Blk} (h : l[i]? = some b) : flatOs (l.take (i + 1)) = flatOs (l.take i) ++ b.os ∧ flatCs (l.take (i + 1)) = flatCs (l.take i) ++ codesOf b := by
  rw [List.take_add_one, h]
  simp [flatOs, flatCs]
theorem flat_take_le (l : List Blk) (i : Nat) : (flatOs (l.take i)).length ≤ (flatOs l).length := by
  have : flatOs l = flatOs (l.take i) ++ flatOs (l.drop i) := by
    unfold flatOs
    rw [← List.flatMap_append, List.take_append_drop]
  rw [this, List.length_append]
  omega
theorem flatCs_le : ∀ {l : List Blk}, Good l → (flatCs l).length ≤ 129 * l.length
  | [], _ => by simp [flatCs]
  | b :: l, h => by
    have h1 := flatCs_le (good_tail h)
    have h2 := codes_len (good_one h)
    have : flatCs (b :: l) = codesOf b ++ flatCs l := by simp [flatCs]
    rw [this, List.length_append, List.length_cons]
    omega
theorem good_take : ∀ {l : List Blk} (i : Nat), Good l → Good (l.take i)
  | [], i, _ => by simp [Good]
  | _ :: _, 0, _ => trivial
  | [a], i + 1, h => by simpa using h
  | a :: b :: l, 1, h => h.1
  | a :: b :: l, i + 2, h => ⟨h.1, h.2.1, good_take (l := b :: l) (i + 1) h.2.2⟩
theorem dec0 {l : List Blk} (hg : Good l) : Dec (flatCs l ++ []) 0 [] (.ok (flatOs l)) := by
  have := dec_flat l hg [] 0 [] (.inl rfl)
  simpa using this
theorem dec1 {l : List Blk} (hg : Good l) (r : List UInt8) : Dec (flatCs l ++ 128 :: r) 0 [] (.ok (flatOs l)) := by
  have := dec_flat l hg (128 :: r) 0 [] (.inr ⟨r, rfl⟩)
  simpa using this
theorem dec2 {l : List Blk} (hg : Good l) (r : List UInt8) : Dec (flatCs l ++ ([128] ++ r)) 0 [] (.ok (flatOs l)) := dec1 hg r
theorem flat_ge2 : ∀ {l : List Blk}, Good l → l ≠ [] → 2 ≤ (flatCs l).length
  | [], _, h => absurd rfl h
  | b :: l, hg, _ => by
    have h2 := codes_len2 (good_one hg)
    have : flatCs (b :: l) = codesOf b ++ flatCs l := by simp [flatCs]
    rw [this, List.length_append]
    omega
theorem led_dip {h₀ h : Heap} {L : Addr} {p1 p2 p3 a b : Addr × Obj} {nw : List (Addr × Obj)} (N : News h₀ L h (p1 :: p2 :: p3 :: a :: b :: nw)) : News h₀ L h (a :: b :: p1 :: p2 :: p3 :: nw) := by
  refine news_drop N fun p hp => ?_
  simp only [List.mem_cons] at hp ⊢
  rcases hp with h | h | h | h | h | h
  · exact .inr (.inr (.inr (.inl h)))
  · exact .inr (.inr (.inr (.inr (.inl h))))
  · exact .inl h
  · exact .inr (.inl h)
  · exact .inr (.inr (.inl h))
  · exact .inr (.inr (.inr (.inr (.inr h))))
theorem led_fin {h₀ h : Heap} {L : Addr} {p1 p2 p3 p4 p5 p6 p7 : Addr × Obj} {nw : List (Addr × Obj)} (N : News h₀ L h (p1 :: p2 :: p3 :: p4 :: p5 :: p6 :: p7 :: nw)) : News h₀ L h nw :=
  news_drop N fun _ hp => .tail _ (.tail _ (.tail _ (.tail _ (.tail _ (.tail _ (.tail _ hp))))))
theorem decU {l : List Blk} (hg : Good l) {cc : Nat} (h : cc ≤ (flatCs l).length) : Dec ((flatCs l).take ((cc : Int)).toNat) 0 [] (due l 0 [] cc) := by
  have := dec_due l hg 0 [] cc (Nat.zero_le _) (by omega)
  simpa using this
local macro_rules | `(tactic| walk_at "compareOp NotEq bytes bytes") => `(tactic| (refine ne_same (by first | rfl | (with_unfolding_all rfl)) ?_))
local macro_rules | `(tactic| walk_at "subscriptTail") => `(tactic| (k_here; (with_reducible refine gSb ?_); k_dflt (refine' slice_upto (by k_asm) (by k_asm) (by omega) (by omega) ?_ (by with_unfolding_all rfl) (by (intro _; with_unfolding_all rfl))); intros))
inductive LedIs (W C BL : Addr) (r : Int) (t3 : Tok) (pc pB : Addr × Obj) (b : Int) (ts : List Addr) (l : List Blk) : List (Addr × Obj) → Prop where
  | mk (nB : Nat) (rest : List (Addr × Obj)) (x : Int) (t1 t2 : Tok) (vs : List Value) (ns : List Int) (nW nC : Nat) (h1 : IntsAre vs ns) (h2 : ns.length ≤ 63) (h3 : pB ∈ rest) (h4 : BlksAt rest ts l) (h5 : ∀ p ∈ rest, p.1 ≠ W ∧ p.1 ≠ C ∧ p.1 ≠ BL ∧ p.1 ≠ pc.1) :
    LedIs W C BL r t3 pc pB b ts l ((W, listOf #[.ref C, .int x t1, .int b t2, .int r t3] nW) :: (C, listOf (List.toArray vs) nC) :: pc :: (BL, listOf (ts.map Value.ref).toArray nB) :: rest)
theorem LawLed.is {W C BL : Addr} {r : Int} {t3 : Tok} {pc pB : Addr × Obj} {b : Int} {ts : List Addr} {l : List Blk} {nw : List (Addr × Obj)} (h : LawLed W C BL r t3 pc pB b ts l nw) : LedIs W C BL r t3 pc pB b ts l nw := by
  obtain ⟨nB, rest, ⟨x, t1, t2, vs, ns, nW, nC, rfl, h1, h2⟩, h3, h4, h5⟩ := h
  exact ⟨nB, rest, x, t1, t2, vs, ns, nW, nC, h1, h2, h3, h4, h5⟩
inductive MidIs (W C BL : Addr) (r : Int) (t3 : Tok) (pc pB : Addr × Obj) : List (Addr × Obj) → Prop where
  | mk (b : Int) (ts : List Addr) (l : List Blk) (nB : Nat) (rest : List (Addr × Obj)) (x : Int) (t1 t2 : Tok) (vs : List Value) (ns : List Int) (nW nC : Nat) (h1 : IntsAre vs ns) (h2 : ns.length ≤ 63) (h3 : pB ∈ rest) (h4 : BlksAt rest ts l) (h5 : ∀ p ∈ rest, p.1 ≠ W ∧ p.1 ≠ C ∧ p.1 ≠ BL ∧ p.1 ≠ pc.1)
    (g1 : Good l) (g2 : l ≠ []) (g3 : l.length ≤ 4) (g4 : (flatOs l).length ≤ 330) (g5 : 0 ≤ b) (g6 : b ≤ 40) :
    MidIs W C BL r t3 pc pB ((W, listOf #[.ref C, .int x t1, .int b t2, .int r t3] nW) :: (C, listOf (List.toArray vs) nC) :: pc :: (BL, listOf (ts.map Value.ref).toArray nB) :: rest)
theorem mid_is {W C BL : Addr} {r : Int} {t3 : Tok} {pc pB : Addr × Obj} {nw : List (Addr × Obj)} (h : ∃ b ts l, LawLed W C BL r t3 pc pB b ts l nw ∧ Good l ∧ l ≠ [] ∧ l.length ≤ 4 ∧ (flatOs l).length ≤ 330 ∧ 0 ≤ b ∧ b ≤ 40) : MidIs W C BL r t3 pc pB nw := by
  obtain ⟨b, ts, l, hl, g1, g2, g3, g4, g5, g6⟩ := h
  obtain ⟨nB, rest, x, t1, t2, vs, ns, nW, nC, h1, h2, h3, h4, h5⟩ := hl.is
  exact ⟨b, ts, l, nB, rest, x, t1, t2, vs, ns, nW, nC, h1, h2, h3, h4, h5, g1, g2, g3, g4, g5, g6⟩
theorem law_all {p : LawS → Prop} (h : ∀ nw ts l tot tt, p (nw, (ts, l), (tot, tt))) : ∀ d, p d := fun ⟨nw, ⟨ts, l⟩, ⟨tot, tt⟩⟩ => h nw ts l tot tt
theorem law2_all {p : Law2S → Prop} (h : ∀ oA vo no os cA vc nc cs uA vu nu us, p ((oA, vo, no, os), (cA, vc, nc, cs), (uA, vu, nu, us))) : ∀ d, p d := fun ⟨⟨oA, vo, no, os⟩, ⟨cA, vc, nc, cs⟩, ⟨uA, vu, nu, us⟩⟩ => h oA vo no os cA vc nc cs uA vu nu us
theorem fa {α : Type} {P : α → Prop} {a : α} {l : List α} (h : P a) (t : ∀ p ∈ l, P p) : ∀ p ∈ a :: l, P p := List.forall_mem_cons.mpr ⟨h, t⟩
theorem fz {α : Type} {P : α → Prop} : ∀ p ∈ ([] : List α), P p := fun _ h => nomatch h
theorem law_holds : PySem.Challenge.rw_pq0803_01.Holds := hd (by
  w_strict (
    k_go0
    (all_goals try k_fold)
    k_steps
    refine mgo ?_
    with_unfolding_all refine' law_well_spec ?k1 ?k2 ?k3 ?k4 ?k5 ?k6 ?k7 ?k8 ?m1 ?m2 ?m3 ?_
    case k2 => k_asm
    case k3 => k_asm
    case k4 => k_asm
    case k5 => k_asm
    case k1 => k_asm
    case k6 => exact rfl
    case k7 => ktr_room
    case k8 => units_room
    case m1 => assumption
    case m2 => assumption
    case m3 => omega
    intro W C r t1 t2 t3 vs ns nW nC h1 tk1 r0 r1 hi hl hWC hnC hnW F1 N1
    replace hWC := ltN hWC
    have e1 : @Ne Nat _ C := hnC _ (.head _)
    have e2 : @Ne Nat _ C := hnC _ (.tail _ (.head _))
    have e3 := ltN (hnW _ (.head _))
    have e4 := ltN (hnW _ (.tail _ (.head _)))
    dsimp only at e1 e2 e3 e4
    k_steps
    refine mgo ?_
    rename_i BL _ lB1 DT _ lB2 _ _ oB dB _ F2 N2
    clear lB2
    obtain ⟨lB3, lB4, lB5, lB6⟩ := lB1
    replace lB3 := ltN lB3
    replace lB4 := ltN lB4
    replace lB5 := ltN lB5
    replace lB6 := ltN lB6
    obtain ⟨pc, pB, hpc, hpB, N3⟩ := led5 N2
    have q1 : @Ne Nat pc.1 W := by rw [hpc]; dsimp only; omega
    have q2 : @Ne Nat pc.1 C := by rw [hpc]; dsimp only; omega
    have q3 : @Ne Nat pc.1 BL := by rw [hpc]; dsimp only; omega
    have q4 : @Ne Nat pB.1 W := by rw [hpB]; dsimp only; omega
    have q5 : @Ne Nat pB.1 C := by rw [hpB]; dsimp only; omega
    have q6 : @Ne Nat pB.1 BL := by rw [hpB]; dsimp only; omega
    have q7 : @Ne Nat pB.1 pc.1 := by rw [hpB, hpc]; dsimp only; omega
    have q8 : @Ne Nat BL W := by omega
    have q9 : @Ne Nat BL C := by omega
    refine cut_f [Str.ofString "turn", Str.ofString "block", Str.ofString "total"]
      (fun nw => ∃ b ts l, LawLed W C BL r t3 pc pB b ts l nw ∧ Good l ∧ l ≠ [] ∧ l.length ≤ 4 ∧ (flatOs l).length ≤ 330 ∧ 0 ≤ b ∧ b ≤ 40) F2 ?_ ?_
    · intro P9 hP9
      k_steps
      refine mgo ?_
      with_unfolding_all refine' law_dip_spec (W := W) (C := C) (news := [pc, (BL, listOf (List.map Value.ref []).toArray 0), pB]) ?d1 ?d2 ?d3 (news_drop N3 ?d4) ?d5 hWC ?d6 ?d7 ?d8 ?d9 ?dA hi hl ?dB ?dC r0 r1 ?dD ?dE ?_
      case d1 => k_asm
      case d2 => k_asm
      case d3 => k_asm
      case d5 => k_asm
      case d4 => exact fa (.tail _ (.head _)) (fa (.tail _ (.tail _ (.head _))) (fa (.tail _ (.tail _ (.tail _ (.head _)))) (fa (.head _) (fun _ hp => .tail _ (.tail _ (.tail _ (.tail _ hp)))))))
      case d6 => exact fa (q1) (fa (q8) (fa (q4) fz))
      case d7 => exact fa (q2) (fa (q9) (fa (q5) fz))
      case d8 => exact rfl
      case d9 => ktr_room
      case dA => units_room
      case dB => omega
      case dC => omega
      case dD => omega
      case dE => omega
      intro rd td x1 t11 t21 vs1 ns1 nW1 nC1 h2 tk2 rd0 rd1 hi1 hl1 F3 N4
      k_steps
      refine mgo ?_
      rename_i _ _ _ _ _ hR F5 N5 _
      refine' for_range (σ := LawS) (n := (1 + rd).toNat) (fun d => d.1) (fun d => [(Str.ofString "total", .int d.2.2.1 d.2.2.2)]) (fun _ => True) [Str.ofString "block"]
        (fun i d => LawLed W C BL r t3 pc pB (1 + 7 * (i : Int)) d.2.1.1 d.2.1.2 d.1 ∧ Good d.2.1.2 ∧ d.2.1.2.length = i ∧ d.2.2.1 = ((flatOs d.2.1.2).length : Int) ∧ (flatOs d.2.1.2).length ≤ 330) (_, ([], []), (0, _)) (by rfl) hR ?s1 ?s2 F5 N5 trivial ?s3 ?s4 ?s5 ?s6
      case s1 => exact small_bd0 (by omega) (by omega)
      case s2 => rw [rangeSize_nat]; congr 2; omega
      case s3 =>
        intro p hp
        rw [List.mem_singleton.mp hp]
        rfl
      case s4 =>
        refine ⟨⟨0, [pB], wellAt_mk hi1 hl1 (by omega), .head _, trivial, ?_⟩, trivial, rfl, rfl, by simp [flatOs]⟩
        intro p hp
        rw [List.mem_singleton.mp hp]
        exact ⟨q4, q5, q6, q7⟩
      case s5 =>
        refine law_all fun nw ts l tot tt => ?_
        intro i ti u h3 tk3 I oI K9 hK9 hin hoff hT9 hPi
        clear hT9
        have hLi : LedIs W C BL r t3 pc pB (1 + 7 * (i : Int)) ts l nw := LawLed.is hPi.1
        have hg := hPi.2.1
        have hli := hPi.2.2.1
        have htot := hPi.2.2.2.1
        have hfl := hPi.2.2.2.2
        dsimp only at hli htot hfl hg
        clear hPi
        revert hoff
        obtain ⟨nB, rest, x2, t12, t22, vs2, ns2, nW2, nC2, hi2, hl2, hpBr, hbs, hrest⟩ := hLi
        intro hoff F6 N6
        dsimp only at hoff F6 N6
        have hi4 : i < 4 := by omega
        have i1 : @Ne Nat W I := hoff _ (.head _)
        have i2 : @Ne Nat C I := hoff _ (.tail _ (.head _))
        have i3 : @Ne Nat pc.1 I := hoff _ (.tail _ (.tail _ (.head _)))
        have i4 : @Ne Nat BL I := hoff _ (.tail _ (.tail _ (.tail _ (.head _))))
        have hBr := hpBr
        rw [hpB] at hBr
        k_steps
        refine mgo ?_
        with_unfolding_all refine' law_next_spec (W := W) (C := C) (BL := BL) (nB := nB) (b := 1 + 7 * (i : Int)) (c := r) (t3 := t3) (ts := ts) (l := l) (news := (I, oI) :: pc :: (BL, listOf (ts.map Value.ref).toArray nB) :: rest) ?n1 ?n2 ?n3 (news_drop N6 ?n4) ?n5 ?n6 hWC ?n7 ?n8 ?n9 ?nA hg ?nB ?nC ?nD ?nE ?nF ?nG r0 r1 ?_
        case n6 => exact wellAt_mk (x := x2) (t1 := t12) (t2 := t22) (nW := nW2) (nC := nC2) hi2 hl2 rfl
        case n1 => k_asm
        case n2 => k_asm
        case n3 => k_asm
        case n5 => k_asm
        case n4 => exact fa (.tail _ (.head _)) (fa (.tail _ (.tail _ (.head _))) (fa (.head _) (fun _ hp => .tail _ (.tail _ (.tail _ hp)))))
        case n7 => exact fa (Ne.symm i1) (fa (q1) (fa (q8) fun p hp => (hrest p hp).1))
        case n8 => exact fa (Ne.symm i2) (fa (q2) (fa (q9) fun p hp => (hrest p hp).2.1))
        case n9 => exact .tail _ (.tail _ (.head _))
        case nA => exact blksAt_mono (fun p hp => .tail _ (.tail _ (.tail _ hp))) hbs
        case nB => omega
        case nC => exact rfl
        case nD => ktr_room
        case nE => units_room
        case nF => omega
        case nG => omega
        intro tN oN vN nN bk nwW h4 tk4 F7 N7 hwN
        have hwi : WellIs W C r t3 (1 + 7 * (i : Int) + 7) ((I, oI) :: pc :: (BL, listOf (ts.map Value.ref).toArray nB) :: rest) nwW := hwN.is
        clear hwN
        revert N7
        obtain ⟨x3, t13, t23, vs3, ns3, nW3, nC3, hi3, hl3⟩ := hwi
        intro N7 noN ntN otN hiN hok hg2
        have j1 : @Ne Nat W oN := noN _ (.head _)
        have j2 : @Ne Nat C oN := noN _ (.tail _ (.head _))
        have j3 : @Ne Nat I oN := noN _ (.tail _ (.tail _ (.head _)))
        have j4 : @Ne Nat pc.1 oN := noN _ (.tail _ (.tail _ (.tail _ (.head _))))
        have j5 : @Ne Nat BL oN := noN _ (.tail _ (.tail _ (.tail _ (.tail _ (.head _)))))
        have j6 : @Ne Nat W tN := ntN _ (.head _)
        have j7 : @Ne Nat C tN := ntN _ (.tail _ (.head _))
        have j8 : @Ne Nat I tN := ntN _ (.tail _ (.tail _ (.head _)))
        have j9 : @Ne Nat pc.1 tN := ntN _ (.tail _ (.tail _ (.tail _ (.head _))))
        have jA : @Ne Nat BL tN := ntN _ (.tail _ (.tail _ (.tail _ (.tail _ (.head _)))))
        have jB : @Ne Nat oN tN := otN
        have jC : ∀ p ∈ rest, p.1 ≠ BL := fun p hp => (hrest p hp).2.2.1
        have jD : ∀ p ∈ rest, p.1 ≠ oN := fun p hp => noN p (.tail _ (.tail _ (.tail _ (.tail _ (.tail _ hp)))))
        have jE : ∀ p ∈ rest, p.1 ≠ tN := fun p hp => ntN p (.tail _ (.tail _ (.tail _ (.tail _ (.tail _ hp)))))
        have hk1 := hok.1
        have hk2 := hok.2.1
        have hbl9 := blks_len hbs
        k_steps
        · refine fpn hK9 ?_
          rename_i hle _ _ F8 N8
          rw [List.length_map] at hle
          refine' for_end ((W, listOf #[.ref C, .int x3 t13, .int (1 + 7 * (i : Int) + 7) t23, .int r t3] nW3) :: (C, listOf (List.toArray vs3) nC3) :: pc :: (BL, listOf ((ts ++ [tN]).map Value.ref).toArray (nB + 1)) :: (tN, tupB bk oN) :: (oN, listOf (List.toArray vN) nN) :: rest, (ts ++ [tN], l ++ [bk]), (tot + ((ub bk.os).length : Int), _)) F8 N8 ?z1 ?z2 ?z3 trivial ?z4 ?z5 ⟨?z6, hg2, ?z7, ?z8, ?z9⟩
          case z1 => exact .tail _ (.tail _ (.tail _ (.tail _ (.head _))))
          case z2 => (rw [List.map_append, List.map_cons, List.map_nil]; exact fa (.tail _ (.tail _ (.head _))) (fa (.tail _ (.tail _ (.tail _ (.head _)))) (fa (.tail _ (.tail _ (.tail _ (.tail _ (.tail _ (.head _)))))) (fa (by rw [List.push_toArray]; exact .tail _ (.tail _ (.tail _ (.tail _ (.tail _ (.tail _ (.head _))))))) (fa (.head _) (fa (.tail _ (.head _)) (fun _ hp => .tail _ (.tail _ (.tail _ (.tail _ (.tail _ (.tail _ (.tail _ hp)))))))))))))
          case z3 => exact fa (i1) (fa (i2) (fa (i3) (fa (i4) (fa (Ne.symm j8) (fa (Ne.symm j3) fun p hp => hoff p (.tail _ (.tail _ (.tail _ (.tail _ hp)))))))))
          case z4 =>
            intro p hp
            rw [List.mem_singleton.mp hp]
            rfl
          case z5 =>
            intro z z1 z2 z3
            simp only [List.forall_mem_cons, List.not_mem_nil, false_implies, implies_true, and_true] at z2
            have z4 : z ≠ Str.ofString "block" := by simpa using z3
            simp [kstB, z1, z2, z4]
          case z6 =>
            refine ⟨nB + 1, (tN, tupB bk oN) :: (oN, listOf (List.toArray vN) nN) :: rest, wellAt_mk hi3 hl3 (by omega), .tail _ (.tail _ hpBr), blksAt_snoc (blksAt_mono (fun p hp => .tail _ (.tail _ hp)) hbs) ⟨oN, vN, nN, .head _, .tail _ (.head _), hiN⟩, ?_⟩
            exact fa ⟨Ne.symm j6, Ne.symm j7, Ne.symm jA, Ne.symm j9⟩ (fa ⟨Ne.symm j1, Ne.symm j2, Ne.symm j5, Ne.symm j4⟩ hrest)
          case z7 => dsimp only; rw [List.length_append, hli]; rfl
          case z8 =>
            dsimp only
            rw [htot, flat_snoc, List.length_append, List.length_map]
            omega
          case z9 =>
            dsimp only
            rw [flat_snoc, List.length_append]
            omega
        · refine fpb hK9 ?_
          rename_i F8 N8 _ hgt
          rw [List.length_map] at hgt
          refine' cut_fend hP9 ((W, listOf #[.ref C, .int x3 t13, .int (1 + 7 * (i : Int) + 7) t23, .int r t3] nW3) :: (C, listOf (List.toArray vs3) nC3) :: pc :: (BL, listOf (ts.map Value.ref).toArray nB) :: rest) F8 N8 ?y1 ?y2 ⟨1 + 7 * (i : Int) + 7, ts, l, ⟨nB, rest, wellAt_mk hi3 hl3 rfl, hpBr, hbs, hrest⟩, hg, ?y3, ?y4, hfl, ?y5, ?y6⟩
          case y1 => exact fa (.tail _ (.tail _ (.head _))) (fa (.tail _ (.tail _ (.tail _ (.head _)))) (fa (.tail _ (.tail _ (.tail _ (.tail _ (.tail _ (.head _)))))) (fa (.tail _ (.tail _ (.tail _ (.tail _ (.tail _ (.tail _ (.head _))))))) (fun _ hp => .tail _ (.tail _ (.tail _ (.tail _ (.tail _ (.tail _ (.tail _ hp))))))))))
          case y2 =>
            intro z hz
            have hz3 : z ≠ Str.ofString "turn" ∧ z ≠ Str.ofString "block" ∧ z ≠ Str.ofString "total" := by simpa using hz
            simp [kstB, hz3.1, hz3.2.1, hz3.2.2]
          case y3 =>
            rintro rfl
            have : (flatOs []).length = 0 := rfl
            omega
          case y4 => omega
          case y5 => omega
          case y6 => omega
      case s6 =>
        rintro ⟨nw, ⟨ts, l⟩, ⟨tot, tt⟩⟩ u h3 tk3 _ ⟨hled, hg, hli, htot, hfl⟩ F6 N6
        dsimp only at hled hg hli htot hfl F6 N6
        refine' cut_fend hP9 nw F6 N6 (fun p hp => hp) ?x1 ⟨_, ts, l, hled, hg, ?x2, ?x3, hfl, ?x4, ?x5⟩
        case x1 =>
          intro z hz
          have hz3 : z ≠ Str.ofString "turn" ∧ z ≠ Str.ofString "block" ∧ z ≠ Str.ofString "total" := by simpa using hz
          simp [kstB, hz3.1, hz3.2.1, hz3.2.2]
        case x2 =>
          rintro rfl
          simp only [List.length_nil] at hli
          omega
        case x3 => omega
        case x4 => omega
        case x5 => omega
    · intro u h3 tk3 nw3 F4 N4 hJ
      have hMi : MidIs W C BL r t3 pc pB nw3 := mid_is hJ
      clear hJ
      revert N4
      obtain ⟨b, ts, l, nB, rest, x2, t12, t22, vs2, ns2, nW2, nC2, hi2, hl2, hpBr, hbs, hrest, hg, hne, hl4, hfl, hb0, hb1⟩ := hMi
      intro N4
      have hBr := hpBr
      rw [hpB] at hBr
      k_steps
      refine mgo ?_
      (rename Fr _ _ _ _ => lF')
      with_unfolding_all refine' For_invVF lF' ?f1 ?f2 ?_
      case f1 => exact rfl
      case f2 => exact rfl
      k_whole
      k_steps
      refine mgo ?_
      rename_i oA _ lA cA _ lB uA _ lC DT2 _ lD _ _ _ _ N5
      refine' for_list (σ := Law2S) (vs := ts.map Value.ref) (nn := nB) (fun d => (d.1.1, listOf d.1.2.1.toArray d.1.2.2.1) :: (d.2.1.1, listOf d.2.1.2.1.toArray d.2.1.2.2.1) :: (d.2.2.1, listOf d.2.2.2.1.toArray d.2.2.2.2.1) :: (W, listOf #[.ref C, .int x2 t12, .int b t22, .int r t3] nW2) :: (C, listOf (List.toArray vs2) nC2) :: pc :: (BL, listOf (ts.map Value.ref).toArray nB) :: rest)
        (fun d => [(Str.ofString "octets", .ref d.1.1), (Str.ofString "codes", .ref d.2.1.1), (Str.ofString "cuts", .ref d.2.2.1)])
        (fun d => IntsAre d.1.2.1 (ub d.1.2.2.2) ∧ IntsAre d.2.1.2.1 (ub d.2.1.2.2.2) ∧ IntsAre d.2.2.2.1 d.2.2.2.2.2 ∧ (∀ p ∈ (W, listOf #[.ref C, .int x2 t12, .int b t22, .int r t3] nW2) :: (C, listOf (List.toArray vs2) nC2) :: pc :: (BL, listOf (ts.map Value.ref).toArray nB) :: rest, p.1 < d.1.1 ∧ p.1 < d.2.1.1 ∧ p.1 < d.2.2.1) ∧ @Ne Nat d.1.1 d.2.2.1 ∧ @Ne Nat d.2.1.1 d.2.2.1)
        [Str.ofString "more"]
        (fun i d => d.1.2.2.2 = flatOs (l.take i) ∧ d.2.1.2.2.2 = flatCs (l.take i) ∧ (∀ u ∈ d.2.2.2.2.2, 0 ≤ u ∧ u ≤ (d.2.1.2.2.2.length : Int)) ∧ d.2.2.2.2.2.length ≤ 4 * i)
        ((oA, [], 0, []), (cA, [], 0, []), (uA, [], 0, [])) (by rfl) (fun d => .tail _ (.tail _ (.tail _ (.tail _ (.tail _ (.tail _ (.head _))))))) lF' (news_drop N5 ?g1) ?g2 ?g3 ⟨rfl, rfl, by simp, Nat.le_refl _⟩ ?g4 ?g5
      case g1 => exact fa (.tail _ (.tail _ (.tail _ (.head _)))) (fa (.tail _ (.tail _ (.head _))) (fa (.tail _ (.head _)) (fun _ hp => .tail _ (.tail _ (.tail _ (.tail _ hp))))))
      case g2 => exact ⟨.nil, .nil, .nil, fun p hp => ⟨of_allLt (l := (W, listOf #[.ref C, .int x2 t12, .int b t22, .int r t3] nW2) :: (C, listOf (List.toArray vs2) nC2) :: pc :: (BL, listOf (ts.map Value.ref).toArray nB) :: rest) lA p hp, of_allLt (l := (W, listOf #[.ref C, .int x2 t12, .int b t22, .int r t3] nW2) :: (C, listOf (List.toArray vs2) nC2) :: pc :: (BL, listOf (ts.map Value.ref).toArray nB) :: rest) lB.2 p hp, of_allLt (l := (W, listOf #[.ref C, .int x2 t12, .int b t22, .int r t3] nW2) :: (C, listOf (List.toArray vs2) nC2) :: pc :: (BL, listOf (ts.map Value.ref).toArray nB) :: rest) lC.2.2 p hp⟩, Nat.ne_of_lt lC.2.1, Nat.ne_of_lt lC.1⟩
      case g3 =>
        intro p hp
        simp only [List.mem_cons, List.not_mem_nil, or_false] at hp
        rcases hp with rfl | rfl | rfl <;> rfl
      case g4 =>
        refine law2_all fun oA vo no os cA vc nc cs uA vu nu us => ?_
        intro i v u2 h4 tk4 I oI K9 hK9 hv hoff hf9 hp9
        have hvi : BlkIs rest l i v := blks_is hbs hv
        clear hv
        obtain ⟨t', b, o', vs', n', hb, hto, hoo, hiB⟩ := hvi
        intro F6 N6
        have hio := hf9.1
        have hic := hf9.2.1
        have hiu := hf9.2.2.1
        have hlt := hf9.2.2.2.1
        have hne1 := hf9.2.2.2.2.1
        have hne2 := hf9.2.2.2.2.2
        have hos := hp9.1
        have hcs := hp9.2.1
        have hub := hp9.2.2.1
        have hul := hp9.2.2.2
        clear hf9 hp9
        dsimp only at hoff hio hic hiu hlt hne1 hne2 hos hcs hub hul F6 N6
        have hbok := good_get hg hb
        have hb1 := hbok.1
        have hb2 := hbok.2.1
        have hb3 : b.run = true → 2 ≤ b.os.length := fun h => (hbok.2.2.1 h).1
        have hcl := codes_len hbok
        have hcl2 := codes_len2 hbok
        have hil : i < l.length := (List.getElem?_eq_some_iff.mp hb).1
        have hfo := flat_take_le l i
        have hfc := flatCs_le (good_take i hg)
        rw [← hos] at hfo
        rw [← hcs, List.length_take] at hfc
        have hvo : vo.length = os.length := by rw [hio.length, List.length_map]
        have hvc : vc.length = cs.length := by rw [hic.length, List.length_map]
        have hvu : vu.length = us.length := hiu.length
        k_steps
        refine fpn hK9 ?_
        rename_i D3 ws3 _ hI3 l3 _ _ D2 ws2 _ hI2 l2 D1 ws1 _ hI1 l1 D0 _ l0 _ _ _ F7 N7
        have tf1 := (take_flat hb).1
        have tf2 := (take_flat hb).2
        refine' for_end ((D2, ws2, 0, os ++ b.os), (D1, ws1, 0, cs ++ codesOf b), (D3, ws3, 0, _)) F7 N7 (.tail _ (.tail _ (.tail _ (.tail _ (.tail _ (.tail _ (.head _))))))) ?h1 ?h2 ⟨ints_eq hI2 (ub_app _ _), ints_eq hI1 (ub_app _ _), hI3, ?h3, Ne.symm (Nat.ne_of_lt l2.1), Ne.symm (Nat.ne_of_lt l1.2.1)⟩ ?h4 ?h5 ⟨?h6, ?h7, ?h8, ?h9⟩
        case h1 => exact fa (.tail _ (.tail _ (.head _))) (fa (.tail _ (.head _)) (fa (.tail _ (.tail _ (.tail _ (.head _)))) (fun _ hp => .tail _ (.tail _ (.tail _ (.tail _ (.tail _ (.tail _ (.tail _ (.tail _ (.tail _ (.tail _ hp))))))))))))
        case h2 => exact fa (Ne.symm (Nat.ne_of_lt l2.2.2.2.1)) (fa (Ne.symm (Nat.ne_of_lt l1.2.2.2.2.1)) (fa (Ne.symm (Nat.ne_of_lt l3.2.2.1)) fun p hp => hoff p (.tail _ (.tail _ (.tail _ hp)))))
        case h3 => exact fun p hp => ⟨of_allLt (l := (W, _) :: (C, _) :: pc :: (BL, _) :: rest) l2.2.2.2.2.2.2.2 p hp, of_allLt (l := (W, _) :: (C, _) :: pc :: (BL, _) :: rest) l1.2.2.2.2.2.2.2.2 p hp, of_allLt (l := (W, _) :: (C, _) :: pc :: (BL, _) :: rest) l3.2.2.2.2.2.2 p hp⟩
        case h4 =>
          intro p hp
          simp only [List.mem_cons, List.not_mem_nil, or_false] at hp
          rcases hp with rfl | rfl | rfl <;> rfl
        case h5 =>
          intro z z1 z2 z3
          simp only [List.forall_mem_cons, List.not_mem_nil, false_implies, implies_true, and_true] at z2
          have z4 : z ≠ Str.ofString "more" := by simpa using z3
          simp [kstB, z1, z2.1, z2.2.1, z2.2.2, z4]
        case h6 => dsimp only; rw [hos]; exact tf1.symm
        case h7 => dsimp only; rw [hcs]; exact tf2.symm
        case h8 =>
          intro u hu
          dsimp only at hu ⊢
          rw [List.length_append]
          have fd : ∀ a : Int, a.fdiv 2 = a / 2 := fun a => Int.fdiv_eq_ediv_of_nonneg a (by omega)
          simp only [List.mem_append, List.mem_cons, List.not_mem_nil, or_false, List.length_map, fd] at hu
          rcases hu with hu | hu | hu | hu | hu
          · have := hub u hu
            omega
          all_goals omega
        case h9 => dsimp only; simp only [List.length_append, List.length_cons, List.length_nil]; omega
      case g5 =>
        refine law2_all fun oA vo no os cA vc nc cs uA vu nu us => ?_
        intro u2 h4 tk4 hf9 hp9 F6 N6
        have hio := hf9.1
        have hic := hf9.2.1
        have hiu := hf9.2.2.1
        have hlt := hf9.2.2.2.1
        have hne1 := hf9.2.2.2.2.1
        have hne2 := hf9.2.2.2.2.2
        have hos := hp9.1
        have hcs := hp9.2.1
        have hub := hp9.2.2.1
        have hul := hp9.2.2.2
        clear hf9 hp9
        dsimp only at hio hic hiu hlt hne1 hne2 hos hcs hub hul F6 N6
        rw [List.length_map, blks_len hbs, List.take_length] at hos hcs
        subst hos hcs
        rw [List.length_map, blks_len hbs] at hul
        have hvo : vo.length = (flatOs l).length := by rw [hio.length, List.length_map]
        have hvc : vc.length = (flatCs l).length := by rw [hic.length, List.length_map]
        have hvu : vu.length = us.length := hiu.length
        have hfc := flatCs_le hg
        k_steps
        refine mgo ?_
        rename_i _ _ _ F7 N7
        have o1 := fun p hp => (hlt p hp).1
        have o2 := fun p hp => (hlt p hp).2.1
        have o3 := fun p hp => (hlt p hp).2.2
        have oW1 : @LT.lt Nat _ W oA := o1 _ (.head _)
        have oW2 : @LT.lt Nat _ W cA := o2 _ (.head _)
        have oW3 : @LT.lt Nat _ W uA := o3 _ (.head _)
        have oC1 : @LT.lt Nat _ C oA := o1 _ (.tail _ (.head _))
        have oC2 : @LT.lt Nat _ C cA := o2 _ (.tail _ (.head _))
        have oC3 : @LT.lt Nat _ C uA := o3 _ (.tail _ (.head _))
        with_unfolding_all refine' law_dip_spec (W := W) (C := C) (x := x2) (t1 := t12) (b := b) (t2 := t22) (c := r) (t3 := t3) (nW := nW2) (nC := nC2) (vs := vs2) (news := (oA, listOf vo.toArray no) :: (cA, listOf vc.toArray nc) :: (uA, listOf vu.toArray nu) :: pc :: (BL, listOf (ts.map Value.ref).toArray nB) :: rest) ?d1 ?d2 ?d3 (news_drop N7 ?d4) ?d5 hWC ?d6 ?d7 ?d8 ?d9 ?dA hi2 hl2 ?dB ?dC r0 r1 ?dD ?dE ?_
        case d1 => k_asm
        case d2 => k_asm
        case d3 => k_asm
        case d5 => k_asm
        case d4 => exact fa (.tail _ (.tail _ (.tail _ (.head _)))) (fa (.tail _ (.tail _ (.tail _ (.tail _ (.head _))))) (fa (.head _) (fa (.tail _ (.head _)) (fa (.tail _ (.tail _ (.head _))) (fa (.tail _ (.tail _ (.tail _ (.tail _ (.tail _ (.head _)))))) (fa (.tail _ (.tail _ (.tail _ (.tail _ (.tail _ (.tail _ (.head _))))))) (fun _ hp => .tail _ (.tail _ (.tail _ (.tail _ (.tail _ (.tail _ (.tail _ hp)))))))))))))
        case d6 => exact fa (Ne.symm (Nat.ne_of_lt oW1)) (fa (Ne.symm (Nat.ne_of_lt oW2)) (fa (Ne.symm (Nat.ne_of_lt oW3)) (fa (q1) (fa (q8) fun p hp => (hrest p hp).1))))
        case d7 => exact fa (Ne.symm (Nat.ne_of_lt oC1)) (fa (Ne.symm (Nat.ne_of_lt oC2)) (fa (Ne.symm (Nat.ne_of_lt oC3)) (fa (q2) (fa (q9) fun p hp => (hrest p hp).2.1))))
        case d8 => exact rfl
        case d9 => ktr_room
        case dA => units_room
        case dB => omega
        case dC => omega
        case dD => omega
        case dE => omega
        intro rb tb x3 t13 t23 vs3 ns3 nW3 nC3 h5 tk5 rb0 rb1 hi3 hl3 F8 N8
        obtain ⟨bb, hbb⟩ : ∃ bb : UInt8, rb = (bb.toNat : Int) := ⟨UInt8.ofNat rb.toNat, by rw [u8_small (by omega)]; omega⟩
        subst hbb
        have oP1 : @LT.lt Nat _ pc.1 oA := o1 _ (.tail _ (.tail _ (.head _)))
        have oP2 : @LT.lt Nat _ pc.1 cA := o2 _ (.tail _ (.tail _ (.head _)))
        have oP3 : @LT.lt Nat _ pc.1 uA := o3 _ (.tail _ (.tail _ (.head _)))
        have oB1 : @LT.lt Nat _ BL oA := o1 _ (.tail _ (.tail _ (.tail _ (.head _))))
        have oB2 : @LT.lt Nat _ BL cA := o2 _ (.tail _ (.tail _ (.tail _ (.head _))))
        have oB3 : @LT.lt Nat _ BL uA := o3 _ (.tail _ (.tail _ (.tail _ (.head _))))
        have hrp : ∀ p ∈ rest, p.1 ≠ pc.1 := fun p hp => (hrest p hp).2.2.2
        clear lB5
        subst hpc
        dsimp only at q1 q2 q3 q7 oP1 oP2 oP3 hrp
        k_steps
        refine mgo ?_
        with_unfolding_all refine' run_encoded_spec (by k_asm) (by k_asm) (by k_asm) (by k_asm) (by k_asm) (by rfl) (by ktr_room) (by units_room) (by exact enc_of _ (by assumption)) (by omega) (by omega) ?_
        intros
        (try dsimp only)
        k_steps
        refine mgo ?_
        with_unfolding_all refine' law_heard_spec ?u91 ?u92 ?u93 ?u94 ?u95 ?u9X ?u9T ?u96 ?u97 ?u98 ?u9D ?u9z ?u9r ?u9s
        case u91 => k_asm
        case u92 => k_asm
        case u93 => k_asm
        case u94 => k_asm
        case u95 => k_asm
        case u9X => k_asm
        case u9T => k_asm
        case u96 => exact rfl
        case u97 => ktr_room
        case u98 => units_room
        case u9D => exact dec0 (by assumption)
        case u9z => (simp only [List.length_append, List.length_cons, List.length_nil]); omega
        case u9s => (intro _ _ _ _ _ _ he; cases he)
        intro _ _ _ _ he9
        obtain rfl := Except.ok.inj he9
        clear he9
        intros
        (try dsimp only)
        k_steps
        refine mgo ?_
        with_unfolding_all refine' law_heard_spec ?k1 ?k2 ?k3 ?k4 ?k5 ?kX ?kT ?k6 ?k7 ?k8 ?hD ?hz ?r1 ?r2
        case k1 => k_asm
        case k2 => k_asm
        case k3 => k_asm
        case k4 => k_asm
        case k5 => k_asm
        case kX => k_asm
        case kT => k_asm
        case k6 => exact rfl
        case k7 => ktr_room
        case k8 => units_room
        case hD => exact dec1 (by assumption) _
        case hz => (simp only [List.length_append, List.length_cons, List.length_nil]); omega
        case r2 => (intro _ _ _ _ _ _ he; cases he)
        intro os9 t9 h9 tk9 he9
        obtain rfl := Except.ok.inj he9
        clear he9
        intro F9 N9
        (try dsimp only)
        k_steps
        refine mgo ?_
        with_unfolding_all refine' law_heard_spec ?w1 ?w2 ?w3 ?w4 ?w5 ?wX ?wT ?w6 ?w7 ?w8 ?gD ?gz ?q1 ?q2
        case w1 => k_asm
        case w2 => k_asm
        case w3 => k_asm
        case w4 => k_asm
        case w5 => k_asm
        case wX => k_asm
        case wT => k_asm
        case w6 => exact rfl
        case w7 => ktr_room
        case w8 => units_room
        case gD => exact dec2 (by assumption) _
        case gz => (simp only [List.length_append, List.length_cons, List.length_nil]); omega
        case q2 => (intro _ _ _ _ _ _ he; cases he)
        intro os9 t9 h9 tk9 he9
        obtain rfl := Except.ok.inj he9
        clear he9
        intro F9 N9
        (try dsimp only)
        k_steps
        refine mgo ?_
        rename_i FA NA
        have hf2 := flat_ge2 hg hne
        rename _ ∧ _ ∧ @LT.lt Nat _ W _ ∧ @LT.lt Nat _ C _ ∧ _ => lE
        rename _ ∧ @LT.lt Nat _ W _ ∧ @LT.lt Nat _ C _ ∧ @LT.lt Nat _ oA _ ∧ _ => lG
        rename @LT.lt Nat _ W _ ∧ @LT.lt Nat _ C _ ∧ @LT.lt Nat _ oA _ ∧ _ => lH
        with_unfolding_all refine' law_dip_spec (W := W) (C := C) ?v1 ?v2 ?v3 (led_dip NA) ?v5 hWC ?v6 ?v7 ?v8 ?v9 ?vA hi3 hl3 ?vB ?vC r0 r1 ?vD ?vE ?_
        case v1 => k_asm
        case v2 => k_asm
        case v3 => k_asm
        case v5 => k_asm
        case v6 => exact fa (Ne.symm (Nat.ne_of_lt lE.2.2.1)) (fa (Ne.symm (Nat.ne_of_lt lG.2.1)) (fa (Ne.symm (Nat.ne_of_lt lH.1)) (fa (Ne.symm (Nat.ne_of_lt oW1)) (fa (Ne.symm (Nat.ne_of_lt oW2)) (fa (Ne.symm (Nat.ne_of_lt oW3)) (fa (q1) (fa (q8) fun p hp => (hrest p hp).1)))))))
        case v7 => exact fa (Ne.symm (Nat.ne_of_lt lE.2.2.2.1)) (fa (Ne.symm (Nat.ne_of_lt lG.2.2.1)) (fa (Ne.symm (Nat.ne_of_lt lH.2.1)) (fa (Ne.symm (Nat.ne_of_lt oC1)) (fa (Ne.symm (Nat.ne_of_lt oC2)) (fa (Ne.symm (Nat.ne_of_lt oC3)) (fa (q2) (fa (q9) fun p hp => (hrest p hp).2.1)))))))
        case v8 => exact rfl
        case v9 => ktr_room
        case vA => units_room
        case vB => omega
        case vC => omega
        case vD => ((try simp only [List.length_map]); omega)
        case vE => ((try simp only [List.length_map]); omega)
        intro rz tz x4 t14 t24 vs4 ns4 nW4 nC4 hB tkB rz0 rz1 hi4 hl4' FB NB
        k_steps
        with_unfolding_all refine' append_K (its := vu.toArray) (n := nu) FB (led_fin NB) (Upd.head ?u1) ?u2 ?u3
        case u1 => exact fa (Nat.ne_of_lt oP3) (fa (Nat.ne_of_lt oB3) fun p hp => Nat.ne_of_lt (o3 p (.tail _ (.tail _ (.tail _ (.tail _ hp))))))
        case u3 => rw [List.size_toArray, sizeLine_eq]; omega
        intro hC FC NC
        rw [List.push_toArray] at NC
        clear NA NB FA FB
        k_steps
        refine mgo ?_
        k_dflt (refine LCt.ListComp_T (F₀ := by k_asm) (by with_unfolding_all rfl) (by decide) (by rfl) (by decide) (by rfl) ?_)
        k_steps
        refine mgo ?_
        k_dflt (refine' LCt.CompSrcT.ledger (by rfl) (by k_asm) (by k_asm) (.head _) ?t1 ?t2)
        case t1 => (simp only [PySem.sizeLine_eq, List.size_toArray, List.length_append, List.length_cons, List.length_nil]; omega)
        case t2 =>
          intro g'
          refine' compT_ind ?t3 (fun i v I oI CC oCC D m₂ h tk E' hi hv hCC hx F N off ne => ?t4) ?t5
          case t3 => exact .inr ⟨_, .head _, rfl, _, rfl⟩
          case t4 =>
            have hv' : (vu ++ [Value.int rz tz])[i]? = some v := by simpa using hv
            obtain ⟨cu, tu, hcu, rfl⟩ := ints_get (IntsAre.append hiu (.cons rz tz .nil)) hv'
            have hcb : 0 ≤ cu ∧ cu ≤ ((flatCs l).length : Int) := by
              have hm := List.mem_of_getElem? hcu
              rw [List.length_map] at rz1
              rcases List.mem_append.mp hm with h | h
              · exact hub _ h
              · rw [List.mem_singleton.mp h]
                exact ⟨rz0, by omega⟩
            obtain ⟨cc, rfl⟩ := Int.eq_ofNat_of_zero_le hcb.1
            have hcc : cc ≤ (flatCs l).length := by omega
            clear hv hv' hcu hcb
            k_steps
            refine mgo ?_
            with_unfolding_all refine' law_heard_spec ?ak1 ?ak2 ?ak3 ?ak4 ?ak5 ?akX ?akT ?ak6 ?ak7 ?ak8 ?ahD ?ahz ?ar1 ?ar2
            case ak1 => k_asm
            case ak2 => k_asm
            case ak3 => k_asm
            case ak4 => k_asm
            case ak5 => k_asm
            case akX => k_asm
            case akT => k_asm
            case ak6 => exact rfl
            case ak7 => ktr_room
            case ak8 => units_room
            case ahD => exact decU hg hcc
            case ahz => rw [List.length_take]; omega
            case ar1 =>
              intro os1 ta hh1 tka he1 FF1 NN1
              k_steps
              refine mgo ?_
              with_unfolding_all refine' law_due_spec (cut := cc) ?bk1 ?bk2 ?bk3 ?bk4 ?bk5 ((.tail _ (.tail _ (.tail _ (.tail _ (.tail _ (.head _))))))) (blksAt_mono (fun p hp => (.tail _ (.tail _ (.tail _ (.tail _ (.tail _ (.tail _ hp))))))) hbs) hg hl4 ?bk6 ?bk7 ?bk8 ?br1 ?br2
              case bk1 => k_asm
              case bk2 => k_asm
              case bk3 => k_asm
              case bk4 => k_asm
              case bk5 => k_asm
              case bk6 => exact rfl
              case bk7 => ktr_room
              case bk8 => units_room
              case br2 => intro _ _ _ _ _ _ he2; exact absurd (he1.symm.trans he2) (fun h => nomatch h)
              case br1 =>
                intro os2 tb2 hh2 tkb he2 FF2 NN2
                obtain rfl := Except.ok.inj (he1.symm.trans he2)
                k_steps
                · exact FF2
                · exact NN2
            case ar2 =>
              intro ke D1 ta1 ta2 hh1 tka he1 FF1 NN1 hD1
              k_steps
              refine mgo ?_
              with_unfolding_all refine' law_due_spec (cut := cc) ?ck1 ?ck2 ?ck3 ?ck4 ?ck5 ((.tail _ (.tail _ (.tail _ (.tail _ (.tail _ (.tail _ (.head _)))))))) (blksAt_mono (fun p hp => (.tail _ (.tail _ (.tail _ (.tail _ (.tail _ (.tail _ (.tail _ hp)))))))) hbs) hg hl4 ?ck6 ?ck7 ?ck8 ?cr1 ?cr2
              case ck1 => k_asm
              case ck2 => k_asm
              case ck3 => k_asm
              case ck4 => k_asm
              case ck5 => k_asm
              case ck6 => exact rfl
              case ck7 => ktr_room
              case ck8 => units_room
              case cr1 => intro _ _ _ _ he2; exact absurd (he1.symm.trans he2) (fun h => nomatch h)
              case cr2 =>
                intro ke2 D2 tc1 tc2 hh2 tkb he2 FF2 NN2 hD2
                obtain rfl := Except.error.inj (he1.symm.trans he2)
                k_steps
                · exact FF2
                · exact news_drop NN2 fun _ hp => .tail _ (.tail _ hp)
          case t5 =>
            k_steps
            first | wrow_close | (k_end; wrow_close)))
end
end
end Mine
set_option maxRecDepth 100000 in
set_option maxHeartbeats 8000000 in
theorem PySem.Challenge.cw_pq0803_01_holds : PySem.Challenge.rw_pq0803_01.Holds := by
  exact Mine.law_holds
