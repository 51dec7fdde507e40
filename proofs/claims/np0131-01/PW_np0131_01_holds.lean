import PyProof.Rows.All
import Wide.All
import OpenK.AllK
import Wide.FinOn
import PySem.Challenge.RW_np0131_01
set_option Elab.async false
set_option compiler.extract_closed false

section
namespace Mine
/-! what the project's functions compute, on the codes of a text -/
noncomputable def digitV (k : Nat) : Int := if 48 ≤ k ∧ k ≤ 57 then k - 48 else if 97 ≤ k ∧ k ≤ 122 then k - 87 else if 65 ≤ k ∧ k ≤ 90 then k - 55 else -1
/-- figures of a base: the worth and how many -/
noncomputable def digRun (b lim : Nat) : Nat → Nat → List Nat → Nat × Nat
  | 0, v, _ => (v, 0)
  | _ + 1, v, [] => (v, 0)
  | n + 1, v, k :: r => if v ≤ lim ∧ 0 ≤ digitV k ∧ digitV k < b then ((digRun b lim n (v * b + (digitV k).toNat) r).1, (digRun b lim n (v * b + (digitV k).toNat) r).2 + 1) else (v, 0)
noncomputable def bl (k : Nat) : Bool := k == 32 || k == 9 || k == 10 || k == 11 || k == 12 || k == 13
noncomputable def spaces : List Nat → Nat
  | [] => 0
  | k :: r => if k = 32 ∨ k = 9 then spaces r + 1 else 0
noncomputable def known (k : Nat) : Option Nat := if k = 97 then some 7 else if k = 98 then some 8 else if k = 102 then some 12 else if k = 110 then some 10 else if k = 114 then some 13 else if k = 116 then some 9 else if k = 118 then some 11 else none
noncomputable def hexN (k : Nat) : Nat := if k = 117 then 4 else if k = 85 then 8 else 2
/-- what a backslash stands for: the sign, and how many signs behind the backslash it takes -/
noncomputable def bsl : List Nat → Nat × Nat
  | [] => (92, 0)
  | k :: r => match known k with
    | some v => (v, 1)
    | none =>
      if k = 10 then (32, spaces r + 1)
      else if k = 120 ∨ k = 117 ∨ k = 85 then
        if (digRun 16 69631 (hexN k) 0 r).2 = 0 then (k, 1)
        else ((digRun 16 69631 (hexN k) 0 r).1, (digRun 16 69631 (hexN k) 0 r).2 + 1)
      else if 48 ≤ k ∧ k ≤ 55 then digRun 8 31 3 0 (k :: r)
      else (k, 1)
theorem bsl_known {k v : Nat} {r : List Nat} (h : known k = some v) : bsl (k :: r) = (v, 1) := by simp only [bsl, h]
theorem bsl_nl {r : List Nat} : bsl (10 :: r) = (32, spaces r + 1) := by simp [bsl, known]
theorem bsl_hex {k : Nat} {r : List Nat} (hn : known k = none) (h0 : ¬ k = 10) (h : k = 120 ∨ k = 117 ∨ k = 85) : bsl (k :: r) = if (digRun 16 69631 (hexN k) 0 r).2 = 0 then (k, 1) else ((digRun 16 69631 (hexN k) 0 r).1, (digRun 16 69631 (hexN k) 0 r).2 + 1) := by
  simp only [bsl, hn]
  rw [if_neg h0, if_pos h]
theorem bsl_oct {k : Nat} {r : List Nat} (hn : known k = none) (h0 : ¬ k = 10) (h : ¬ (k = 120 ∨ k = 117 ∨ k = 85)) (h2 : 48 ≤ k ∧ k ≤ 55) : bsl (k :: r) = digRun 8 31 3 0 (k :: r) := by
  simp only [bsl, hn]
  rw [if_neg h0, if_neg h, if_pos h2]
theorem bsl_self {k : Nat} {r : List Nat} (hn : known k = none) (h0 : ¬ k = 10) (h : ¬ (k = 120 ∨ k = 117 ∨ k = 85)) (h2 : ¬ (48 ≤ k ∧ k ≤ 55)) : bsl (k :: r) = (k, 1) := by
  simp only [bsl, hn]
  rw [if_neg h0, if_neg h, if_neg h2]
/-- what stands behind a closing sign: none (fine) or the word -/
noncomputable def chkB : List Nat → Option (List Nat)
  | [] => none
  | k :: r => if bl k = true then none else some (((k :: r).takeWhile fun x => !bl x).take 20)
/-- how many signs stand ahead of the closing brace -/
noncomputable def brc : Nat → Nat → List Nat → Option Nat
  | _, _, [] => none
  | s + 1, d, _ :: r => (brc s d r).map (· + 1)
  | 0, d, k :: r =>
    if k = 92 then (brc 1 d r).map (· + 1)
    else if k = 123 then (brc 0 (d + 1) r).map (· + 1)
    else if k = 125 then (if d = 1 then some 0 else (brc 0 (d - 1) r).map (· + 1))
    else (brc 0 d r).map (· + 1)
noncomputable def quo : Nat → List Nat → Option (List Nat × Nat)
  | _, [] => none
  | s + 1, _ :: r => (quo s r).map fun x => (x.1, x.2 + 1)
  | 0, k :: r =>
    if k = 92 then (quo (bsl r).2 r).map fun x => ((bsl r).1 :: x.1, x.2 + 1)
    else if k = 34 then some ([], 0)
    else (quo 0 r).map fun x => (k :: x.1, x.2 + 1)
noncomputable def bar : Nat → List Nat → List Nat × Nat
  | _, [] => ([], 0)
  | s + 1, _ :: r => ((bar s r).1, (bar s r).2 + 1)
  | 0, k :: r =>
    if bl k = true then ([], 0)
    else if k = 92 then ((bsl r).1 :: (bar (bsl r).2 r).1, (bar (bsl r).2 r).2 + 1)
    else (k :: (bar 0 r).1, (bar 0 r).2 + 1)
inductive Fault where
  | junk (what word : List Nat)
  | open_ (what : List Nat) (code : List Nat)
inductive Found where
  | nothing
  | el (w : List Nat) (n : Nat)
  | bad (f : Fault)
/-- the codes of: braces, quotes, brace, quote, BRACE, QUOTE -/
noncomputable def sBraces : List Nat := [98, 114, 97, 99, 101, 115]
noncomputable def sQuotes : List Nat := [113, 117, 111, 116, 101, 115]
noncomputable def sBrace : List Nat := [98, 114, 97, 99, 101]
noncomputable def sQuote : List Nat := [113, 117, 111, 116, 101]
noncomputable def sBRACE : List Nat := [66, 82, 65, 67, 69]
noncomputable def sQUOTE : List Nat := [81, 85, 79, 84, 69]
noncomputable def braced (r : List Nat) : Found := match brc 0 1 r with
  | none => .bad (.open_ sBrace sBRACE)
  | some n => match chkB (r.drop (n + 1)) with
    | some w => .bad (.junk sBraces w)
    | none => .el (r.take n) (n + 1)
noncomputable def quoted (r : List Nat) : Found := match quo 0 r with
  | none => .bad (.open_ sQuote sQUOTE)
  | some x => match chkB (r.drop (x.2 + 1)) with
    | some w => .bad (.junk sQuotes w)
    | none => .el x.1 (x.2 + 1)
noncomputable def Found.more (k : Nat) : Found → Found
  | .nothing => .nothing
  | .el w n => .el w (n + k)
  | .bad f => .bad f
noncomputable def fnd : List Nat → Found
  | [] => .nothing
  | k :: r => if bl k = true then (fnd r).more 1
    else if k = 123 then (braced r).more 1
    else if k = 34 then (quoted r).more 1
    else .el (bar 0 (k :: r)).1 (bar 0 (k :: r)).2
/-- the elements from a place on, each with the place behind it, and the fault -/
noncomputable def elems : Nat → List Nat → Nat → List (List Nat × Nat) × Option Fault
  | 0, _, _ => ([], none)
  | f + 1, l, at_ => match fnd (l.drop at_) with
    | .nothing => ([], none)
    | .bad x => ([], some x)
    | .el w n => ((w, at_ + n) :: (elems f l (at_ + n)).1, (elems f l (at_ + n)).2)
noncomputable def sIn : List Nat := [108, 105, 115, 116, 32, 101, 108, 101, 109, 101, 110, 116, 32, 105, 110, 32]
noncomputable def sFollowed : List Nat := [32, 102, 111, 108, 108, 111, 119, 101, 100, 32, 98, 121, 32, 34]
noncomputable def sInstead : List Nat := [34, 32, 105, 110, 115, 116, 101, 97, 100, 32, 111, 102, 32, 115, 112, 97, 99, 101]
noncomputable def sUnmatched : List Nat := [117, 110, 109, 97, 116, 99, 104, 101, 100, 32, 111, 112, 101, 110, 32]
noncomputable def sInList : List Nat := [32, 105, 110, 32, 108, 105, 115, 116]
noncomputable def sJUNK : List Nat := [74, 85, 78, 75]
noncomputable def Fault.text : Fault → List Nat
  | .junk what word => (((sIn ++ what) ++ sFollowed) ++ word) ++ sInstead
  | .open_ what _ => (sUnmatched ++ what) ++ sInList
noncomputable def Fault.code : Fault → List Nat
  | .junk _ _ => sJUNK
  | .open_ _ c => c
theorem digRun_le (b lim : Nat) : ∀ (n v : Nat) (r : List Nat), (digRun b lim n v r).2 ≤ r.length
  | 0, v, r => Nat.zero_le _
  | _ + 1, v, [] => Nat.zero_le _
  | n + 1, v, k :: r => by
    rw [digRun]
    split
    · show (digRun b lim n _ r).2 + 1 ≤ r.length + 1
      exact Nat.succ_le_succ (digRun_le b lim n _ r)
    · exact Nat.zero_le _
theorem spaces_le : ∀ r : List Nat, spaces r ≤ r.length
  | [] => Nat.le_refl _
  | k :: r => by
    rw [spaces]
    split
    · exact Nat.succ_le_succ (spaces_le r)
    · exact Nat.zero_le _
theorem bsl_le : ∀ r : List Nat, (bsl r).2 ≤ r.length
  | [] => Nat.le_refl _
  | k :: r => by
    cases hk : known k with
    | some v => rw [bsl_known hk]; exact Nat.succ_le_succ (Nat.zero_le _)
    | none =>
      by_cases h0 : k = 10
      · subst h0; rw [bsl_nl]; exact Nat.succ_le_succ (spaces_le r)
      by_cases h1 : k = 120 ∨ k = 117 ∨ k = 85
      · rw [bsl_hex hk h0 h1]
        split
        · exact Nat.succ_le_succ (Nat.zero_le _)
        · exact Nat.succ_le_succ (digRun_le _ _ _ _ _)
      by_cases h2 : 48 ≤ k ∧ k ≤ 55
      · rw [bsl_oct hk h0 h1 h2]; exact digRun_le _ _ _ _ _
      · rw [bsl_self hk h0 h1 h2]; exact Nat.succ_le_succ (Nat.zero_le _)
theorem quo_skip : ∀ (s : Nat) (r : List Nat), s ≤ r.length → quo s r = (quo 0 (r.drop s)).map fun x => (x.1, x.2 + s)
  | 0, r, _ => by
    rw [List.drop_zero]
    cases quo 0 r <;> rfl
  | s + 1, [], h => by cases h
  | s + 1, k :: r, h => by
    rw [quo, quo_skip s r (Nat.le_of_succ_le_succ h), List.drop_succ_cons]
    cases quo 0 (r.drop s) <;> rfl
theorem bar_skip : ∀ (s : Nat) (r : List Nat), s ≤ r.length → bar s r = ((bar 0 (r.drop s)).1, (bar 0 (r.drop s)).2 + s)
  | 0, r, _ => by rw [List.drop_zero]; rfl
  | s + 1, [], h => by cases h
  | s + 1, k :: r, h => by
    rw [bar, bar_skip s r (Nat.le_of_succ_le_succ h), List.drop_succ_cons]; rfl
end Mine
end

section
namespace Mine
/-! the law's own reading -/
noncomputable def mGap : List Nat := [103, 97, 112]
noncomputable def mBare : List Nat := [98, 97, 114, 101]
noncomputable def mShut : List Nat := [115, 104, 117, 116]
noncomputable def mQuote : List Nat := [113, 117, 111, 116, 101]
noncomputable def mBrace : List Nat := [98, 114, 97, 99, 101]
noncomputable def lblank : List Nat → Bool
  | [] => true
  | [k] => bl k
  | _ => false
noncomputable def goesOn (told c mode : List Nat) : Bool :=
  if c = [] ∨ mode = mBrace ∨ told = [92] then decide (¬ c = [] ∧ told = [92])
  else match told with
    | _ :: t :: _ =>
      if t = 10 then decide (c = [32] ∨ c = [9])
      else if t = 120 then decide ((c = [49] ∨ c = [55] ∨ c = [97] ∨ c = [98]) ∧ told.length < 4)
      else decide ((t = 49 ∨ t = 55) ∧ (c = [49] ∨ c = [55]) ∧ (told.length = 2 ∨ (told.length = 3 ∧ t = 49)))
    | _ => false
noncomputable def fig (k : Nat) : Nat := if k = 49 then 1 else if k = 55 then 7 else if k = 97 then 10 else 11
noncomputable def worth (b : Nat) : Nat → List Nat → Nat
  | w, [] => w
  | w, k :: r => worth b (w * b + fig k) r
noncomputable def meaning (told : List Nat) : List Nat :=
  if (told.drop 1).take 1 = [10] then [32]
  else if (told.drop 1).take 1 = [97] then [7]
  else if (told.drop 1).take 1 = [98] then [8]
  else if (told.drop 1).take 1 = [49] ∨ (told.drop 1).take 1 = [55] then [worth 8 0 (told.drop 1)]
  else if told.drop 2 = [] then [told.getLastD 0]
  else [worth (if (told.drop 1).take 1 = [120] then 16 else 8) 0 (told.drop 2)]
noncomputable def okFig (k : Nat) : Prop := k = 49 ∨ k = 55 ∨ k = 97 ∨ k = 98
/-- what may have been told -/
noncomputable def toldOk (told : List Nat) : Prop := told ≠ [] ∧ ((told.drop 1).take 1 = [10] ∨ (told.length ≤ 4 ∧ ∀ k ∈ told.drop 2, okFig k))
noncomputable def word (r : List Nat) : List Nat := (r.takeWhile fun x => !bl x).take 20
structure Mach where
  found : List (List Nat × Nat)
  mode : List Nat
  shut : List Nat
  depth : Int
  told : List Nat
  out : List Nat
noncomputable def Res := List (List Nat × Nat) × Option Fault
noncomputable def upper (m : List Nat) : List Nat := if m = mQuote then sQUOTE else sBRACE
noncomputable def flush (m : Mach) : Mach := if m.told = [] then m else { m with out := m.out ++ (if m.mode = mBrace then m.told else meaning m.told), told := [] }
noncomputable def dd (c : List Nat) : Int := if c = [123] then 1 else if c = [125] then -1 else 0
noncomputable def act (at_ : Nat) (r : List Nat) (m : Mach) : Mach ⊕ (List (List Nat × Nat) × Option Fault) :=
  if m.mode = mShut ∧ lblank (r.take 1) = false then .inr (m.found, some (.junk (m.shut ++ [115]) (word r)))
  else if (m.mode = mGap ∨ m.mode = mBare ∨ m.mode = mShut) ∧ lblank (r.take 1) = true then
    .inl { m with found := if m.mode = mGap then m.found else m.found ++ [(m.out, at_)], mode := mGap, out := [] }
  else if r.take 1 = [] then .inr (m.found, some (.open_ m.mode (upper m.mode)))
  else if m.mode = mGap ∧ (r.take 1 = [123] ∨ r.take 1 = [34]) then .inl { m with mode := if r.take 1 = [123] then mBrace else mQuote, depth := 1 }
  else if r.take 1 = [92] then .inl { m with mode := if m.mode = mGap then mBare else m.mode, told := r.take 1 }
  else if (m.mode = mQuote ∧ r.take 1 = [34]) ∨ (m.mode = mBrace ∧ r.take 1 = [125] ∧ m.depth = 1) then .inl { m with mode := mShut, shut := m.mode }
  else .inl { m with mode := if m.mode = mGap then mBare else m.mode, out := m.out ++ r.take 1, depth := m.depth + dd (r.take 1) }
noncomputable def step (at_ : Nat) (r : List Nat) (m : Mach) : Mach ⊕ (List (List Nat × Nat) × Option Fault) :=
  if ¬ m.told = [] ∧ goesOn m.told (r.take 1) m.mode = true then .inl { m with told := m.told ++ r.take 1 } else act at_ r (flush m)
noncomputable def run : Nat → List Nat → Mach → List (List Nat × Nat) × Option Fault
  | a, [], m => match step a [] m with
    | .inr x => x
    | .inl m' => (m'.found, none)
  | a, k :: r, m => match step a (k :: r) m with
    | .inr x => x
    | .inl m' => run (a + 1) r m'
noncomputable def mach0 : Mach := ⟨[], mGap, [], 0, [], []⟩
noncomputable def read (l : List Nat) : List (List Nat × Nat) × Option Fault := run 0 l mach0
end Mine
end

section
namespace Mine
section
variable {i k : Nat} {r : List Nat} {fd : List (List Nat × Nat)} {sh ou : List Nat} {de : Int}
theorem act_gap (hx : r.take 1 = [k]) : act i r ⟨fd, [103, 97, 112], sh, de, [], ou⟩ =
    if bl k = true then .inl ⟨fd, [103, 97, 112], sh, de, [], []⟩ else if k = 123 then .inl ⟨fd, [98, 114, 97, 99, 101], sh, 1, [], ou⟩ else if k = 34 then .inl ⟨fd, [113, 117, 111, 116, 101], sh, 1, [], ou⟩
    else if k = 92 then .inl ⟨fd, [98, 97, 114, 101], sh, de, [k], ou⟩ else .inl ⟨fd, [98, 97, 114, 101], sh, de + dd [k], [], ou ++ [k]⟩ := by
  unfold act
  rw [hx]
  by_cases h1 : bl k = true
  · simp [h1, lblank, mGap, mShut, mBare]
  by_cases h2 : k = 123
  · subst h2; simp [lblank, mGap, mShut, mBare, mBrace, bl]
  by_cases h3 : k = 34
  · subst h3; simp [lblank, mGap, mShut, mBare, mQuote, bl]
  by_cases h4 : k = 92
  · subst h4; simp [lblank, mGap, mShut, mBare, bl]
  · simp [h1, h2, h3, h4, lblank, mGap, mShut, mBare, mQuote, mBrace]
theorem act_bare (hx : r.take 1 = [k]) : act i r ⟨fd, [98, 97, 114, 101], sh, de, [], ou⟩ =
    if bl k = true then .inl ⟨fd ++ [(ou, i)], [103, 97, 112], sh, de, [], []⟩
    else if k = 92 then .inl ⟨fd, [98, 97, 114, 101], sh, de, [k], ou⟩ else .inl ⟨fd, [98, 97, 114, 101], sh, de + dd [k], [], ou ++ [k]⟩ := by
  unfold act
  rw [hx]
  by_cases h1 : bl k = true
  · simp [h1, lblank, mGap, mShut, mBare]
  by_cases h4 : k = 92
  · subst h4; simp [lblank, mGap, mShut, mBare, bl]
  · simp [h1, h4, lblank, mGap, mShut, mBare, mQuote, mBrace]
theorem act_shut (hx : r.take 1 = [k]) : act i r ⟨fd, [115, 104, 117, 116], sh, de, [], ou⟩ =
    if bl k = true then .inl ⟨fd ++ [(ou, i)], [103, 97, 112], sh, de, [], []⟩ else .inr (fd, some (.junk (sh ++ [115]) (word r))) := by
  unfold act
  rw [hx]
  by_cases h1 : bl k = true
  · simp [h1, lblank, mGap, mShut, mBare]
  · simp [h1, lblank, mGap, mShut, mBare]
theorem act_quote (hx : r.take 1 = [k]) : act i r ⟨fd, [113, 117, 111, 116, 101], sh, de, [], ou⟩ =
    if k = 92 then .inl ⟨fd, [113, 117, 111, 116, 101], sh, de, [k], ou⟩ else if k = 34 then .inl ⟨fd, [115, 104, 117, 116], [113, 117, 111, 116, 101], de, [], ou⟩
    else .inl ⟨fd, [113, 117, 111, 116, 101], sh, de + dd [k], [], ou ++ [k]⟩ := by
  unfold act
  rw [hx]
  by_cases h4 : k = 92
  · subst h4; simp [lblank, mGap, mShut, mBare, bl, mQuote, mBrace]
  by_cases h3 : k = 34
  · subst h3; simp [lblank, mGap, mShut, mBare, mQuote, mBrace, bl]
  · simp [h3, h4, lblank, mGap, mShut, mBare, mQuote, mBrace]
theorem act_brace (hx : r.take 1 = [k]) : act i r ⟨fd, [98, 114, 97, 99, 101], sh, de, [], ou⟩ =
    if k = 92 then .inl ⟨fd, [98, 114, 97, 99, 101], sh, de, [k], ou⟩ else if k = 125 ∧ de = 1 then .inl ⟨fd, [115, 104, 117, 116], [98, 114, 97, 99, 101], de, [], ou⟩
    else .inl ⟨fd, [98, 114, 97, 99, 101], sh, de + dd [k], [], ou ++ [k]⟩ := by
  unfold act
  rw [hx]
  by_cases h4 : k = 92
  · subst h4; simp [lblank, mGap, mShut, mBare, bl, mQuote, mBrace]
  by_cases h3 : k = 125 ∧ de = 1
  · obtain ⟨rfl, rfl⟩ := h3; simp [lblank, mGap, mShut, mBare, mQuote, mBrace, bl]
  · simp [h3, h4, lblank, mGap, mShut, mBare, mQuote, mBrace]
theorem act_end4 (hx : r.take 1 = []) : act i r ⟨fd, [113, 117, 111, 116, 101], sh, de, [], ou⟩ = .inr (fd, some (.open_ [113, 117, 111, 116, 101] [81, 85, 79, 84, 69])) := by
  unfold act
  rw [hx]
  simp [lblank, mGap, mShut, mBare, bl, mQuote, mBrace, upper, sQUOTE]
theorem act_end5 (hx : r.take 1 = []) : act i r ⟨fd, [98, 114, 97, 99, 101], sh, de, [], ou⟩ = .inr (fd, some (.open_ [98, 114, 97, 99, 101] [66, 82, 65, 67, 69])) := by
  unfold act
  rw [hx]
  simp [lblank, mGap, mShut, mBare, bl, mQuote, mBrace, upper, sBRACE]
theorem told_one (h : k = 92) : [k] = [] ∨ ∃ t, [k] = 92 :: t ∧ toldOk [k] ∧ ∀ j ∈ [k], j < 128 := by
  subst h
  exact .inr ⟨[], rfl, ⟨by simp, .inr ⟨by simp, by simp⟩⟩, by simp⟩
end
end Mine
end

section
set_option linter.unusedVariables false
set_option linter.unusedSimpArgs false
namespace Mine
/-- the signs of the law's texts -/
noncomputable def Sg (k : Nat) : Prop := k = 32 ∨ k = 9 ∨ k = 10 ∨ k = 11 ∨ k = 12 ∨ k = 13 ∨ k = 123 ∨ k = 125 ∨ k = 34 ∨ k = 92 ∨ k = 97 ∨ k = 98 ∨ k = 120 ∨ k = 49 ∨ k = 55
theorem sg_of {k : Nat} (h : decide (k = 32 ∨ k = 9 ∨ k = 10 ∨ k = 11 ∨ k = 12 ∨ k = 13 ∨ k = 123 ∨ k = 125 ∨ k = 34 ∨ k = 92 ∨ k = 97 ∨ k = 98 ∨ k = 120 ∨ k = 49 ∨ k = 55) = true) : Sg k := by unfold Sg; exact of_decide_eq_true h
noncomputable abbrev Gp : List Nat := [103, 97, 112]
noncomputable abbrev Br : List Nat := [98, 97, 114, 101]
noncomputable abbrev Sh : List Nat := [115, 104, 117, 116]
noncomputable abbrev Qu : List Nat := [113, 117, 111, 116, 101]
noncomputable abbrev Bc : List Nat := [98, 114, 97, 99, 101]
section
variable {p k : Nat} {r : List Nat} {fd : List (List Nat × Nat)} {md sh td ou : List Nat} {de : Int}
theorem run_congr {m m' : Mach} (h : step p r m = step p r m') : run p r m = run p r m' := by
  cases r with
  | nil => rw [run, run, h]
  | cons k r => rw [run, run, h]
theorem step_nil : step p r ⟨fd, md, sh, de, [], ou⟩ = act p r ⟨fd, md, sh, de, [], ou⟩ := by
  unfold step
  rw [if_neg (by simp)]
  unfold flush
  rw [if_pos rfl]
theorem run_told (ht : td ≠ []) (h : goesOn td (r.take 1) md = false) : run p r ⟨fd, md, sh, de, td, ou⟩ = run p r ⟨fd, md, sh, de, [], ou ++ (if md = mBrace then td else meaning td)⟩ := by
  refine run_congr ?_
  rw [step_nil]
  unfold step
  rw [if_neg (by rw [h]; simp)]
  unfold flush
  rw [if_neg ht]
theorem run_more (ht : td ≠ []) (h : goesOn td [k] md = true) : run p (k :: r) ⟨fd, md, sh, de, td, ou⟩ = run (p + 1) r ⟨fd, md, sh, de, td ++ [k], ou⟩ := by
  rw [run]
  unfold step
  rw [if_pos ⟨ht, h⟩]
  rfl
theorem run_act : run p (k :: r) ⟨fd, md, sh, de, [], ou⟩ = match act p (k :: r) ⟨fd, md, sh, de, [], ou⟩ with
    | .inr x => x
    | .inl m' => run (p + 1) r m' := by rw [run, step_nil]; try rfl
theorem run_end : run p [] ⟨fd, md, sh, de, [], ou⟩ = match act p [] ⟨fd, md, sh, de, [], ou⟩ with
    | .inr x => x
    | .inl m' => (m'.found, none) := by rw [run, step_nil]; try rfl
/-- behind a closing sign -/
theorem run_shut : run p r ⟨fd, Sh, sh, de, [], ou⟩ = match chkB r with
    | some u => (fd, some (.junk (sh ++ [115]) u))
    | none => run p r ⟨fd ++ [(ou, p)], Gp, sh, de, [], []⟩ := by
  cases r with
  | nil => rw [run_end]; show _ = run p [] _; rw [run_end]; rfl
  | cons k r =>
    rw [run_act, act_shut rfl, chkB]
    by_cases h : bl k = true
    · rw [if_pos h, if_pos h]
      show _ = run p (k :: r) _
      rw [run_act, act_gap rfl, if_pos h]
    · rw [if_neg h, if_neg h]; rfl
theorem run_bare_gap (h : lblank (r.take 1) = true) : run p r ⟨fd, Br, sh, de, [], ou⟩ = run p r ⟨fd ++ [(ou, p)], Gp, sh, de, [], []⟩ := by
  cases r with
  | nil => rw [run_end, run_end]; rfl
  | cons k r =>
    have h' : bl k = true := h
    rw [run_act, run_act, act_bare rfl, act_gap rfl, if_pos h', if_pos h']
end
theorem goes_brace {k : Nat} {c : List Nat} : goesOn [92, k] c Bc = false := by
  unfold goesOn
  rw [if_pos (by simp [mBrace])]
  simp
theorem run_brace {fd : List (List Nat × Nat)} {sh : List Nat} : ∀ (n : Nat) (q : List Nat), q.length ≤ n → ∀ (p d : Nat) (ou : List Nat), run p q ⟨fd, Bc, sh, ((d + 1 : Nat) : Int), [], ou⟩ = match brc 0 (d + 1) q with
    | none => (fd, some (.open_ sBrace sBRACE))
    | some n => run (p + n + 1) (q.drop (n + 1)) ⟨fd, Sh, Bc, 1, [], ou ++ q.take n⟩ := by
  intro n
  induction n with
  | zero =>
    intro q hq p d ou
    have : q = [] := List.length_eq_zero_iff.mp (Nat.le_zero.mp hq)
    subst this
    rw [run_end, act_end5 rfl]; rfl
  | succ n ih =>
    intro q hq p d ou
    match q, hq with
    | [], _ => rw [run_end, act_end5 rfl]; rfl
    | k :: q, hq =>
      have hq : q.length ≤ n := by simpa using hq
      rw [run_act, act_brace rfl, brc]
      by_cases h1 : k = 92
      · rw [if_pos h1, if_pos h1]
        subst h1
        show run (p + 1) q ⟨fd, Bc, sh, _, [92], ou⟩ = _
        match q, hq with
        | [], _ =>
          rw [run_told (by simp) (by simp [goesOn]), run_end, act_end5 rfl]; rfl
        | k2 :: q, hq =>
          have hq : q.length ≤ n := by have := hq; simp at this; omega
          rw [run_more (by simp) (by simp [goesOn, mBrace])]
          show run (p + 1 + 1) q ⟨fd, Bc, sh, _, [92, k2], ou⟩ = _
          rw [run_told (by simp) goes_brace, if_pos (show Bc = mBrace from rfl), brc]
          rw [ih q hq]
          cases brc 0 (d + 1) q with
          | none => rfl
          | some m =>
            show run (p + 1 + 1 + m + 1) _ _ = run (p + (m + 1 + 1) + 1) _ _
            rw [show p + (m + 1 + 1) + 1 = p + 1 + 1 + m + 1 from by omega]
            simp [List.append_assoc]
      · rw [if_neg h1, if_neg h1]
        by_cases h2 : k = 125 ∧ ((d + 1 : Nat) : Int) = 1
        · have hd : d = 0 := by omega
          subst hd
          rw [if_pos h2, if_neg (by omega), if_pos h2.1, if_pos rfl]
          show run (p + 1) q ⟨fd, Sh, Bc, _, [], ou⟩ = run (p + 0 + 1) q ⟨fd, Sh, Bc, 1, [], ou ++ []⟩
          rw [List.append_nil]; rfl
        · rw [if_neg h2]
          show run (p + 1) q ⟨fd, Bc, sh, ((d + 1 : Nat) : Int) + dd [k], [], ou ++ [k]⟩ = _
          have key : ∀ d' : Nat, ((d + 1 : Nat) : Int) + dd [k] = ((d' + 1 : Nat) : Int) → run (p + 1) q ⟨fd, Bc, sh, ((d + 1 : Nat) : Int) + dd [k], [], ou ++ [k]⟩ = match (brc 0 (d' + 1) q).map (· + 1) with
              | none => (fd, some (.open_ sBrace sBRACE))
              | some n => run (p + n + 1) ((k :: q).drop (n + 1)) ⟨fd, Sh, Bc, 1, [], ou ++ (k :: q).take n⟩ := by
            intro d' e
            rw [e, ih q hq]
            cases brc 0 (d' + 1) q with
            | none => rfl
            | some m =>
              show run (p + 1 + m + 1) _ _ = run (p + (m + 1) + 1) _ _
              rw [show p + (m + 1) + 1 = p + 1 + m + 1 from by omega]
              simp [List.append_assoc]
          by_cases h3 : k = 123
          · rw [if_pos h3]
            exact key (d + 1) (by subst h3; show _ + 1 = _; omega)
          · rw [if_neg h3]
            by_cases h4 : k = 125
            · rw [if_pos h4, if_neg (by intro z; exact h2 ⟨h4, by omega⟩)]
              obtain ⟨d', rfl⟩ : ∃ d', d = d' + 1 := ⟨d - 1, by
                have : ¬ d = 0 := fun z => h2 ⟨h4, by omega⟩
                omega⟩
              exact key d' (by subst h4; show _ + (-1) = _; omega)
            · rw [if_neg h4]
              refine key d ?_
              have : dd [k] = 0 := by unfold dd; rw [if_neg (by simpa using h3), if_neg (by simpa using h4)]
              rw [this]; omega

/-! a backslash outside braces -/
theorem goesOn_two {md c : List Nat} {t1 : Nat} {r : List Nat} (hm : ¬ md = Bc) (hc : ¬ c = []) : goesOn (92 :: t1 :: r) c md =
    if t1 = 10 then decide (c = [32] ∨ c = [9]) else if t1 = 120 then decide ((c = [49] ∨ c = [55] ∨ c = [97] ∨ c = [98]) ∧ r.length + 2 < 4)
    else decide ((t1 = 49 ∨ t1 = 55) ∧ (c = [49] ∨ c = [55]) ∧ (r.length + 2 = 2 ∨ (r.length + 2 = 3 ∧ t1 = 49))) := by
  unfold goesOn
  rw [if_neg (by
    rintro (h | h | h)
    · exact hc h
    · exact hm h
    · simp at h)]
  simp only [List.length_cons]
theorem goesOn_nil {md td : List Nat} : goesOn td [] md = false := by
  unfold goesOn
  rw [if_pos (.inl rfl)]
  simp
theorem goesOn_first {md : List Nat} {k : Nat} : goesOn [92] [k] md = true := by
  unfold goesOn
  rw [if_pos (.inr (.inr rfl))]
  simp
section
variable {fd : List (List Nat × Nat)} {md sh ou : List Nat} {de : Int}
theorem esc_spaces (hm : ¬ md = Bc) : ∀ (r : List Nat) (p : Nat) (t : List Nat), run p r ⟨fd, md, sh, de, 92 :: 10 :: t, ou⟩ = run (p + spaces r) (r.drop (spaces r)) ⟨fd, md, sh, de, [], ou ++ [32]⟩
  | [], p, t => by
    rw [run_told (by simp) goesOn_nil, if_neg (show ¬ md = mBrace from hm)]
    rfl
  | k :: r, p, t => by
    rw [spaces]
    by_cases h : k = 32 ∨ k = 9
    · rw [if_pos h, run_more (by simp) (by rw [goesOn_two hm (by simp), if_pos rfl]; simpa using h)]
      show run (p + 1) r ⟨fd, md, sh, de, 92 :: 10 :: (t ++ [k]), ou⟩ = _
      rw [esc_spaces hm r (p + 1) (t ++ [k])]
      rw [show p + 1 + spaces r = p + (spaces r + 1) from by omega]
      rfl
    · rw [if_neg h, run_told (by simp) (by
        show goesOn _ [k] md = false
        rw [goesOn_two hm (by simp), if_pos rfl]; simpa using h), if_neg (show ¬ md = mBrace from hm)]
      rfl
theorem dv {k : Nat} (h : Sg k) : digitV k = if k = 49 then 1 else if k = 55 then 7 else if k = 97 then 10 else if k = 98 then 11 else if k = 120 then 33 else -1 := by
  rcases h with rfl | rfl | rfl | rfl | rfl | rfl | rfl | rfl | rfl | rfl | rfl | rfl | rfl | rfl | rfl <;> rfl
theorem hexfig {k : Nat} (h : Sg k) : (0 ≤ digitV k ∧ digitV k < ((16 : Nat) : Int)) ↔ (k = 49 ∨ k = 55 ∨ k = 97 ∨ k = 98) := by
  rcases h with rfl | rfl | rfl | rfl | rfl | rfl | rfl | rfl | rfl | rfl | rfl | rfl | rfl | rfl | rfl <;> decide
theorem octfig {k : Nat} (h : Sg k) : (0 ≤ digitV k ∧ digitV k < ((8 : Nat) : Int)) ↔ (k = 49 ∨ k = 55) := by
  rcases h with rfl | rfl | rfl | rfl | rfl | rfl | rfl | rfl | rfl | rfl | rfl | rfl | rfl | rfl | rfl <;> decide
theorem figv {k : Nat} (h : k = 49 ∨ k = 55 ∨ k = 97 ∨ k = 98) : (digitV k).toNat = fig k := by
  rcases h with rfl | rfl | rfl | rfl <;> rfl
theorem fig_le' (k : Nat) : fig k ≤ 11 := by
  unfold fig
  split
  · decide
  split
  · decide
  split <;> decide
/-- figures of the base 16 behind an x -/
theorem esc_hex (hm : ¬ md = Bc) : ∀ (n : Nat) (r ds : List Nat) (p v : Nat), (∀ k ∈ r, Sg k) → n + ds.length = 2 → v ≤ 4096 → worth 16 0 ds = v → run p r ⟨fd, md, sh, de, 92 :: 120 :: ds, ou⟩ =
    run (p + (digRun 16 69631 n v r).2) (r.drop (digRun 16 69631 n v r).2) ⟨fd, md, sh, de, [], ou ++ meaning (92 :: 120 :: (ds ++ r.take (digRun 16 69631 n v r).2))⟩
  | n, [], ds, p, v, _, _, _, _ => by
    rw [run_told (by simp) goesOn_nil, if_neg (show ¬ md = mBrace from hm)]
    cases n <;> simp [digRun]
  | 0, k :: r, ds, p, v, hs, hn, hv, hw => by
    rw [run_told (by simp) (by
      show goesOn _ [k] md = false
      rw [goesOn_two hm (by simp), if_neg (by decide), if_pos rfl]
      exact decide_eq_false (by omega)), if_neg (show ¬ md = mBrace from hm)]
    simp [digRun]
  | n + 1, k :: r, ds, p, v, hs, hn, hv, hw => by
    have hk := hs k (.head _)
    rw [digRun]
    by_cases h : k = 49 ∨ k = 55 ∨ k = 97 ∨ k = 98
    · have h' := (hexfig hk).mpr h
      rw [if_pos ⟨by omega, h'⟩, figv h, run_more (by simp) (by
        rw [goesOn_two hm (by simp), if_neg (by decide), if_pos rfl]
        exact decide_eq_true ⟨by simpa using h, by omega⟩)]
      show run (p + 1) r ⟨fd, md, sh, de, 92 :: 120 :: (ds ++ [k]), ou⟩ = _
      have := fig_le' k
      have hv2 : v * 16 + fig k ≤ 4096 := by
        match ds, hn, hw with
        | [], _, hw => simp [worth] at hw; omega
        | [a], _, hw => have := fig_le' a; simp [worth] at hw; omega
        | _ :: _ :: _, hn, _ => simp at hn; omega
      rw [esc_hex hm n r (ds ++ [k]) (p + 1) (v * 16 + fig k) (fun x hx => hs x (.tail _ hx)) (by rw [List.length_append]; simp; omega) hv2 (by
        have worth_app : ∀ (a : List Nat) (w : Nat), worth 16 w (a ++ [k]) = worth 16 w a * 16 + fig k := by
          intro a
          induction a with
          | nil => intro w; rfl
          | cons x a ih => intro w; exact ih _
        rw [worth_app, hw])]
      rw [show p + 1 + (digRun 16 69631 n (v * 16 + fig k) r).2 = p + ((digRun 16 69631 n (v * 16 + fig k) r).2 + 1) from by omega]
      simp [List.append_assoc]
    · rw [if_neg (fun z => h ((hexfig hk).mp z.2)), run_told (by simp) (by
        show goesOn _ [k] md = false
        rw [goesOn_two hm (by simp), if_neg (by decide), if_pos rfl]
        exact decide_eq_false (fun z => h (by simpa using z.1))), if_neg (show ¬ md = mBrace from hm)]
      simp
theorem oc {k : Nat} (h : k = 49 ∨ k = 55) : ¬ k = 10 ∧ ¬ k = 120 ∧ (48 ≤ k ∧ k ≤ 55) ∧ (k = 49 ∨ k = 55 ∨ k = 97 ∨ k = 98) := by
  rcases h with rfl | rfl <;> decide
theorem sg_hex {k : Nat} (h : Sg k) (h1 : ¬ k = 120) : ¬ (k = 120 ∨ k = 117 ∨ k = 85) := by
  rcases h with rfl | rfl | rfl | rfl | rfl | rfl | rfl | rfl | rfl | rfl | rfl | rfl | rfl | rfl | rfl <;> first | decide | exact absurd rfl h1
theorem sg_oct {k : Nat} (h : Sg k) (h1 : ¬ (k = 49 ∨ k = 55)) : ¬ (48 ≤ k ∧ k ≤ 55) := by
  rcases h with rfl | rfl | rfl | rfl | rfl | rfl | rfl | rfl | rfl | rfl | rfl | rfl | rfl | rfl | rfl <;> first | decide | exact absurd (by decide) h1
theorem oct_val {a : Nat} (h : a = 49 ∨ a = 55) : digitV a = fig a ∧ (a = 49 → fig a = 1) ∧ (a = 55 → fig a = 7) := by
  rcases h with rfl | rfl
  · exact ⟨rfl, fun _ => rfl, fun h => by cases h⟩
  · exact ⟨rfl, fun h => (by cases h), fun _ => rfl⟩
/-- octal figures -/
theorem esc_oct (hm : ¬ md = Bc) {a : Nat} (ha : a = 49 ∨ a = 55) : ∀ (n : Nat) (r ds : List Nat) (p v : Nat), (∀ k ∈ r, Sg k) → n + ds.length = 2 → (∀ k ∈ ds, k = 49 ∨ k = 55) → worth 8 0 (a :: ds) = v → (ds.length = 1 → (v ≤ 31 ↔ a = 49)) → (ds.length = 0 → v ≤ 31) → run p r ⟨fd, md, sh, de, 92 :: a :: ds, ou⟩ =
    run (p + (digRun 8 31 n v r).2) (r.drop (digRun 8 31 n v r).2) ⟨fd, md, sh, de, [], ou ++ [(digRun 8 31 n v r).1]⟩
  | n, [], ds, p, v, _, _, _, hw, _, _ => by
    rw [run_told (by simp) goesOn_nil, if_neg (show ¬ md = mBrace from hm)]
    have hmean : meaning (92 :: a :: ds) = [v] := by
      unfold meaning
      simp only [List.drop_succ_cons, List.drop_zero, List.take_succ_cons, List.take_zero]
      rw [if_neg (by rcases ha with rfl | rfl <;> simp), if_neg (by rcases ha with rfl | rfl <;> simp), if_neg (by rcases ha with rfl | rfl <;> simp), if_pos (by simpa using ha), hw]
    rw [hmean]
    cases n <;> simp [digRun]
  | 0, k :: r, ds, p, v, hs, hn, _, hw, _, _ => by
    have hmean : meaning (92 :: a :: ds) = [v] := by
      unfold meaning
      simp only [List.drop_succ_cons, List.drop_zero, List.take_succ_cons, List.take_zero]
      rw [if_neg (by rcases ha with rfl | rfl <;> simp), if_neg (by rcases ha with rfl | rfl <;> simp), if_neg (by rcases ha with rfl | rfl <;> simp), if_pos (by simpa using ha), hw]
    rw [run_told (by simp) (by
      show goesOn _ [k] md = false
      rw [goesOn_two hm (by simp), if_neg (oc ha).1, if_neg (oc ha).2.1]
      exact decide_eq_false (by omega)), if_neg (show ¬ md = mBrace from hm), hmean]
    simp [digRun]
  | n + 1, k :: r, ds, p, v, hs, hn, hd, hw, h1, h0 => by
    have hk := hs k (.head _)
    rw [digRun]
    by_cases h : v ≤ 31 ∧ (k = 49 ∨ k = 55)
    · have h' := (octfig hk).mpr h.2
      have hgo : ds.length = 0 ∨ (ds.length = 1 ∧ a = 49) := by
        by_cases q : ds.length = 0
        · exact .inl q
        · exact .inr ⟨by omega, (h1 (by omega)).mp h.1⟩
      rw [if_pos ⟨h.1, h'⟩, figv (oc h.2).2.2.2, run_more (by simp) (by
        rw [goesOn_two hm (by simp), if_neg (oc ha).1, if_neg (oc ha).2.1]
        exact decide_eq_true ⟨ha, by simpa using h.2, hgo.imp (congrArg (· + 2)) fun z => ⟨congrArg (· + 2) z.1, z.2⟩⟩)]
      show run (p + 1) r ⟨fd, md, sh, de, 92 :: a :: (ds ++ [k]), ou⟩ = _
      have worth_app : ∀ (x : List Nat) (w : Nat), worth 8 w (x ++ [k]) = worth 8 w x * 8 + fig k := by
        intro x
        induction x with
        | nil => intro w; rfl
        | cons y x ih => intro w; exact ih _
      rw [esc_oct hm ha n r (ds ++ [k]) (p + 1) (v * 8 + fig k) (fun x hx => hs x (.tail _ hx)) (by rw [List.length_append]; simp; omega) (fun x hx => by
          rcases List.mem_append.mp hx with z | z
          · exact hd x z
          · rw [List.mem_singleton.mp z]; exact h.2)
        (by rw [← List.cons_append, worth_app, hw]) (fun hl => by
          have hds : ds = [] := by
            rw [List.length_append] at hl
            exact List.length_eq_zero_iff.mp (by simpa using hl)
          subst hds
          have ev : v = fig a := by rw [← hw]; simp [worth]
          obtain ⟨_, o1, o2⟩ := oct_val ha
          have := fig_le' k
          rcases ha with z | z
          · have := o1 z; constructor
            · intro _; exact z
            · intro _; omega
          · have := o2 z; constructor
            · intro q; omega
            · intro q; omega) (fun hl => by rw [List.length_append] at hl; simp at hl)]
      rw [show p + 1 + (digRun 8 31 n (v * 8 + fig k) r).2 = p + ((digRun 8 31 n (v * 8 + fig k) r).2 + 1) from by omega]
      rfl
    · have hmean : meaning (92 :: a :: ds) = [v] := by
        unfold meaning
        simp only [List.drop_succ_cons, List.drop_zero, List.take_succ_cons, List.take_zero]
        rw [if_neg (by rcases ha with rfl | rfl <;> simp), if_neg (by rcases ha with rfl | rfl <;> simp), if_neg (by rcases ha with rfl | rfl <;> simp), if_pos (by simpa using ha), hw]
      rw [if_neg (fun z => h ⟨z.1, (octfig hk).mp z.2⟩), run_told (by simp) (by
        show goesOn _ [k] md = false
        rw [goesOn_two hm (by simp), if_neg (oc ha).1, if_neg (oc ha).2.1]
        refine decide_eq_false (fun z => h ⟨?_, by simpa using z.2.1⟩)
        rcases z.2.2 with y | y
        · exact h0 (by omega)
        · exact (h1 (by omega)).mpr y.2), if_neg (show ¬ md = mBrace from hm), hmean]
      simp
theorem hex_worth (lim : Nat) : ∀ (n v : Nat) (r : List Nat), (∀ k ∈ r, Sg k) → (digRun 16 lim n v r).1 = worth 16 v (r.take (digRun 16 lim n v r).2)
  | 0, v, r, _ => rfl
  | _ + 1, v, [], _ => rfl
  | n + 1, v, k :: r, hs => by
    have hk := hs k (.head _)
    rw [digRun]
    split
    · rename_i h
      rw [figv ((hexfig hk).mp h.2)]
      show (digRun 16 lim n (v * 16 + fig k) r).1 = worth 16 v ((k :: r).take ((digRun 16 lim n (v * 16 + fig k) r).2 + 1))
      rw [hex_worth lim n _ r (fun x hx => hs x (.tail _ hx)), List.take_succ_cons]
      rfl
    · rfl
theorem esc (hm : ¬ md = Bc) {q : List Nat} (hs : ∀ k ∈ q, Sg k) {p : Nat} : run p q ⟨fd, md, sh, de, [92], ou⟩ = run (p + (bsl q).2) (q.drop (bsl q).2) ⟨fd, md, sh, de, [], ou ++ [(bsl q).1]⟩ := by
  match q, hs with
  | [], _ =>
    rw [run_told (by simp) goesOn_nil, if_neg (show ¬ md = mBrace from hm)]; rfl
  | k :: r, hs =>
    have hk := hs k (.head _)
    have hr : ∀ x ∈ r, Sg x := fun x hx => hs x (.tail _ hx)
    rw [run_more (by simp) goesOn_first]
    show run (p + 1) r ⟨fd, md, sh, de, [92, k], ou⟩ = _
    have plain : ¬ k = 10 → ¬ k = 120 → ¬ (k = 49 ∨ k = 55) → run (p + 1) r ⟨fd, md, sh, de, [92, k], ou⟩ = run (p + 1) r ⟨fd, md, sh, de, [], ou ++ meaning [92, k]⟩ := by
      intro h1 h2 h3
      rw [run_told (by simp) (by
        cases r with
        | nil => exact goesOn_nil
        | cons x r =>
          show goesOn _ [x] md = false
          rw [goesOn_two hm (by simp), if_neg h1, if_neg h2]
          exact decide_eq_false (fun z => h3 z.1)), if_neg (show ¬ md = mBrace from hm)]
    by_cases h10 : k = 10
    · subst h10
      rw [bsl_nl, esc_spaces hm r (p + 1) []]
      show run (p + 1 + spaces r) _ _ = run (p + (spaces r + 1)) _ _
      rw [show p + 1 + spaces r = p + (spaces r + 1) from by omega]
      rfl
    by_cases hx : k = 120
    · subst hx
      rw [bsl_hex rfl (by decide) (.inl rfl)]
      show run (p + 1) r ⟨fd, md, sh, de, 92 :: 120 :: [], ou⟩ = _
      rw [esc_hex hm 2 r [] (p + 1) 0 hr rfl (by decide) rfl]
      have hw := hex_worth 69631 2 0 r hr
      show _ = run _ _ ⟨_, _, _, _, _, ou ++ [(if (digRun 16 69631 2 0 r).2 = 0 then (120, 1) else ((digRun 16 69631 2 0 r).1, (digRun 16 69631 2 0 r).2 + 1)).1]⟩
      have hle := digRun_le 16 69631 2 0 r
      have hN : hexN 120 = 2 := rfl
      rw [hN]
      generalize digRun 16 69631 2 0 r = D at *
      by_cases h0 : D.2 = 0
      · rw [if_pos h0, h0]
        rfl
      · rw [if_neg h0]
        have hm2 : meaning (92 :: 120 :: ([] ++ r.take D.2)) = [D.1] := by
          unfold meaning
          simp only [List.nil_append, List.drop_succ_cons, List.drop_zero, List.take_succ_cons, List.take_zero]
          rw [if_neg (by simp), if_neg (by simp), if_neg (by simp), if_neg (by simp), if_neg (by
            intro z
            have := congrArg List.length z
            rw [List.length_take, List.length_nil] at this
            omega), if_pos trivial, hw]
        rw [hm2, show p + 1 + D.2 = p + (D.2 + 1) from by omega]
        rfl
    by_cases ho : k = 49 ∨ k = 55
    · have hn : known k = none := by rcases ho with rfl | rfl <;> rfl
      have hq : 48 ≤ k ∧ k ≤ 55 := (oc ho).2.2.1
      rw [bsl_oct hn h10 (sg_hex hk hx) hq]
      show run (p + 1) r ⟨fd, md, sh, de, 92 :: k :: [], ou⟩ = _
      obtain ⟨o0, o1, o2⟩ := oct_val ho
      rw [esc_oct hm ho 2 r [] (p + 1) (fig k) hr rfl (fun x hx => nomatch hx) (by simp [worth]) (fun z => by simp at z) (fun _ => by
        rcases ho with z | z
        · rw [o1 z]; decide
        · rw [o2 z]; decide)]
      rw [digRun, if_pos ⟨by decide, (octfig hk).mpr ho⟩, figv (oc ho).2.2.2]
      show run (p + 1 + (digRun 8 31 2 (fig k) r).2) _ _ = run (p + ((digRun 8 31 2 (0 * 8 + fig k) r).2 + 1)) _ _
      rw [Nat.zero_mul, Nat.zero_add, show p + 1 + (digRun 8 31 2 (fig k) r).2 = p + ((digRun 8 31 2 (fig k) r).2 + 1) from by omega]
      rfl
    rw [plain h10 hx ho]
    have fin : (bsl (k :: r)).2 = 1 → meaning [92, k] = [(bsl (k :: r)).1] → run (p + 1) r ⟨fd, md, sh, de, [], ou ++ meaning [92, k]⟩ = run (p + (bsl (k :: r)).2) ((k :: r).drop (bsl (k :: r)).2) ⟨fd, md, sh, de, [], ou ++ [(bsl (k :: r)).1]⟩ := by
      intro e1 e2
      rw [e1, e2]; rfl
    have hself : ¬ k = 97 → ¬ k = 98 → bsl (k :: r) = (k, 1) ∧ meaning [92, k] = [k] := by
      intro h1 h2
      refine ⟨bsl_self ?_ h10 ?_ ?_, ?_⟩
      · rcases hk with h | h | h | h | h | h | h | h | h | h | h | h | h | h | h <;> first | (exact absurd h h1) | (exact absurd h h2) | (subst h; rfl)
      · exact sg_hex hk hx
      · exact sg_oct hk ho
      · unfold meaning
        simp only [List.drop_succ_cons, List.drop_zero, List.take_succ_cons, List.take_zero, List.take_nil, List.cons.injEq, and_true]
        rw [if_neg h10, if_neg h1, if_neg h2, if_neg ho, if_pos (by simp)]
        rfl
    by_cases h97 : k = 97
    · subst h97; exact fin rfl rfl
    by_cases h98 : k = 98
    · subst h98; exact fin rfl rfl
    obtain ⟨e1, e2⟩ := hself h97 h98
    exact fin (by rw [e1]) (by rw [e1, e2])
theorem run_quote : ∀ (n : Nat) (q : List Nat), q.length ≤ n → (∀ k ∈ q, Sg k) → ∀ (p : Nat) (ou : List Nat) (de : Int), (quo 0 q = none → run p q ⟨fd, Qu, sh, de, [], ou⟩ = (fd, some (.open_ sQuote sQUOTE))) ∧
    (∀ x, quo 0 q = some x → ∃ de', run p q ⟨fd, Qu, sh, de, [], ou⟩ = run (p + x.2 + 1) (q.drop (x.2 + 1)) ⟨fd, Sh, Qu, de', [], ou ++ x.1⟩) := by
  intro n
  induction n with
  | zero =>
    intro q hq _ p ou de
    have : q = [] := List.length_eq_zero_iff.mp (Nat.le_zero.mp hq)
    subst this
    exact ⟨fun _ => by rw [run_end, act_end4 rfl]; rfl, fun x h => by cases h⟩
  | succ n ih =>
    intro q hq hs p ou de
    match q, hq, hs with
    | [], _, _ => exact ⟨fun _ => by rw [run_end, act_end4 rfl]; rfl, fun x h => by cases h⟩
    | k :: q, hq, hs =>
      have hq : q.length ≤ n := by simpa using hq
      have hs' : ∀ x ∈ q, Sg x := fun x hx => hs x (.tail _ hx)
      rw [run_act, act_quote rfl, quo]
      by_cases h1 : k = 92
      · rw [if_pos h1, if_pos h1]
        subst h1
        have e : run (p + 1) q ⟨fd, Qu, sh, de, [92], ou⟩ = _ := esc (by decide) hs'
        have hb := bsl_le q
        obtain ⟨i1, i2⟩ := ih (q.drop (bsl q).2) (by rw [List.length_drop]; omega) (fun x hx => hs' x (List.mem_of_mem_drop hx)) (p + 1 + (bsl q).2) (ou ++ [(bsl q).1]) de
        rw [quo_skip _ _ hb]
        refine ⟨fun h => ?_, fun x h => ?_⟩
        · show run (p + 1) q ⟨fd, Qu, sh, de, [92], ou⟩ = _
          rw [e]
          refine i1 ?_
          cases z : quo 0 (q.drop (bsl q).2) with
          | none => rfl
          | some y => rw [z] at h; cases h
        · cases z : quo 0 (q.drop (bsl q).2) with
          | none => rw [z] at h; cases h
          | some y =>
            rw [z] at h
            cases h
            obtain ⟨de', i3⟩ := i2 y z
            refine ⟨de', ?_⟩
            show run (p + 1) q ⟨fd, Qu, sh, de, [92], ou⟩ = _
            rw [e, i3, List.drop_drop]
            show run (p + 1 + (bsl q).2 + y.2 + 1) _ _ = run (p + (y.2 + (bsl q).2 + 1) + 1) (q.drop (y.2 + (bsl q).2 + 1)) ⟨_, _, _, _, _, ou ++ ((bsl q).1 :: y.1)⟩
            rw [show p + (y.2 + (bsl q).2 + 1) + 1 = p + 1 + (bsl q).2 + y.2 + 1 from by omega, show y.2 + (bsl q).2 + 1 = (bsl q).2 + (y.2 + 1) from by omega, List.append_assoc]
            rfl
      · rw [if_neg h1, if_neg h1]
        by_cases h2 : k = 34
        · rw [if_pos h2, if_pos h2]
          refine ⟨fun h => (by cases h), fun x h => ?_⟩
          cases h
          refine ⟨de, ?_⟩
          show run (p + 1) q ⟨fd, Sh, Qu, de, [], ou⟩ = run (p + 0 + 1) q ⟨fd, Sh, Qu, de, [], ou ++ []⟩
          rw [List.append_nil]
        · rw [if_neg h2, if_neg h2]
          obtain ⟨i1, i2⟩ := ih q hq hs' (p + 1) (ou ++ [k]) (de + dd [k])
          refine ⟨fun h => ?_, fun x h => ?_⟩
          · refine i1 ?_
            cases z : quo 0 q with
            | none => rfl
            | some y => rw [z] at h; cases h
          · cases z : quo 0 q with
            | none => rw [z] at h; cases h
            | some y =>
              rw [z] at h
              cases h
              obtain ⟨de', i3⟩ := i2 y z
              refine ⟨de', ?_⟩
              show run (p + 1) q ⟨fd, Qu, sh, de + dd [k], [], ou ++ [k]⟩ = _
              rw [i3]
              show run (p + 1 + y.2 + 1) _ _ = run (p + (y.2 + 1) + 1) (q.drop (y.2 + 1)) ⟨_, _, _, _, _, ou ++ (k :: y.1)⟩
              rw [show p + (y.2 + 1) + 1 = p + 1 + y.2 + 1 from by omega, List.append_assoc]
              rfl
theorem run_bare : ∀ (n : Nat) (q : List Nat), q.length ≤ n → (∀ k ∈ q, Sg k) → ∀ (p : Nat) (ou : List Nat) (de : Int), ∃ de', run p q ⟨fd, Br, sh, de, [], ou⟩ =
    run (p + (bar 0 q).2) (q.drop (bar 0 q).2) ⟨fd ++ [(ou ++ (bar 0 q).1, p + (bar 0 q).2)], Gp, sh, de', [], []⟩ := by
  intro n
  induction n with
  | zero =>
    intro q hq _ p ou de
    have : q = [] := List.length_eq_zero_iff.mp (Nat.le_zero.mp hq)
    subst this
    exact ⟨de, by rw [run_bare_gap rfl]; simp [bar]⟩
  | succ n ih =>
    intro q hq hs p ou de
    match q, hq, hs with
    | [], _, _ => exact ⟨de, by rw [run_bare_gap rfl]; simp [bar]⟩
    | k :: q, hq, hs =>
      have hq : q.length ≤ n := by simpa using hq
      have hs' : ∀ x ∈ q, Sg x := fun x hx => hs x (.tail _ hx)
      rw [bar]
      by_cases hb : bl k = true
      · rw [if_pos hb]
        exact ⟨de, by rw [run_bare_gap (r := k :: q) (show lblank [k] = true from hb)]; simp⟩
      · rw [if_neg hb, run_act, act_bare rfl, if_neg hb]
        by_cases h1 : k = 92
        · rw [if_pos h1, if_pos h1]
          subst h1
          have e : run (p + 1) q ⟨fd, Br, sh, de, [92], ou⟩ = _ := esc (by decide) hs'
          have hbl := bsl_le q
          obtain ⟨de', i1⟩ := ih (q.drop (bsl q).2) (by rw [List.length_drop]; omega) (fun x hx => hs' x (List.mem_of_mem_drop hx)) (p + 1 + (bsl q).2) (ou ++ [(bsl q).1]) de
          refine ⟨de', ?_⟩
          show run (p + 1) q ⟨fd, Br, sh, de, [92], ou⟩ = _
          rw [e, i1, bar_skip _ _ hbl, List.drop_drop]
          generalize bar 0 (q.drop (bsl q).2) = y
          show run (p + 1 + (bsl q).2 + y.2) _ _ = run (p + (y.2 + (bsl q).2 + 1)) (q.drop (y.2 + (bsl q).2)) ⟨fd ++ [(ou ++ ((bsl q).1 :: y.1), p + (y.2 + (bsl q).2 + 1))], _, _, _, _, _⟩
          rw [show p + (y.2 + (bsl q).2 + 1) = p + 1 + (bsl q).2 + y.2 from by omega, show y.2 + (bsl q).2 = (bsl q).2 + y.2 from by omega, List.append_assoc]
          rfl
        · rw [if_neg h1, if_neg h1]
          obtain ⟨de', i1⟩ := ih q hq hs' (p + 1) (ou ++ [k]) (de + dd [k])
          refine ⟨de', ?_⟩
          show run (p + 1) q ⟨fd, Br, sh, de + dd [k], [], ou ++ [k]⟩ = _
          rw [i1]
          generalize bar 0 q = y
          show run (p + 1 + y.2) _ _ = run (p + (y.2 + 1)) (q.drop y.2) ⟨fd ++ [(ou ++ (k :: y.1), p + (y.2 + 1))], _, _, _, _, _⟩
          rw [show p + (y.2 + 1) = p + 1 + y.2 from by omega, List.append_assoc]
          rfl
end
/-- the elements of what is left -/
noncomputable def elemsR : Nat → List Nat → Nat → List (List Nat × Nat) × Option Fault
  | 0, _, _ => ([], none)
  | f + 1, r, p => match fnd r with
    | .nothing => ([], none)
    | .bad x => ([], some x)
    | .el w n => ((w, p + n) :: (elemsR f (r.drop n) (p + n)).1, (elemsR f (r.drop n) (p + n)).2)
theorem elems_R : ∀ (f : Nat) (l : List Nat) (a : Nat), elems f l a = elemsR f (l.drop a) a
  | 0, _, _ => rfl
  | f + 1, l, a => by
    rw [elems, elemsR]
    cases fnd (l.drop a) with
    | nothing => rfl
    | bad x => rfl
    | el w n =>
      show (_, _) = (_, _)
      rw [elems_R f l (a + n), List.drop_drop]
theorem bar_pos {k : Nat} {r : List Nat} (h : ¬ bl k = true) : 0 < (bar 0 (k :: r)).2 := by
  rw [bar, if_neg h]
  split <;> exact Nat.succ_pos _
theorem run_gap : ∀ (n : Nat) (q : List Nat), q.length ≤ n → (∀ k ∈ q, Sg k) → ∀ (f p : Nat) (fd : List (List Nat × Nat)) (sh : List Nat) (de : Int), q.length < f →
    run p q ⟨fd, Gp, sh, de, [], []⟩ = (fd ++ (elemsR f q p).1, (elemsR f q p).2) := by
  intro n
  induction n with
  | zero =>
    intro q hq _ f p fd sh de hf
    have : q = [] := List.length_eq_zero_iff.mp (Nat.le_zero.mp hq)
    subst this
    obtain ⟨f, rfl⟩ : ∃ f', f = f' + 1 := ⟨f - 1, by omega⟩
    rw [run_end]
    show (fd, none) = (fd ++ [], none)
    rw [List.append_nil]
  | succ n ih =>
    intro q hq hs f p fd sh de hf
    obtain ⟨f, rfl⟩ : ∃ f', f = f' + 1 := ⟨f - 1, by omega⟩
    match q, hq, hs, hf with
    | [], _, _, _ =>
      rw [run_end]
      show (fd, none) = (fd ++ [], none)
      rw [List.append_nil]
    | k :: q, hq, hs, hf =>
      have hq : q.length ≤ n := by simpa using hq
      have hf' : q.length < f := by simpa using hf
      have hs' : ∀ x ∈ q, Sg x := fun x hx => hs x (.tail _ hx)
      by_cases hb : bl k = true
      · rw [run_act, act_gap rfl, if_pos hb]
        show run (p + 1) q ⟨fd, Gp, sh, de, [], []⟩ = _
        rw [ih q hq hs' (f + 1) (p + 1) fd sh de (by omega)]
        have e : elemsR (f + 1) (k :: q) p = elemsR (f + 1) q (p + 1) := by
          rw [elemsR, elemsR, fnd, if_pos hb]
          cases fnd q with
          | nothing => rfl
          | bad x => rfl
          | el w m =>
            show ((w, p + (m + 1)) :: (elemsR f (q.drop m) (p + (m + 1))).1, (elemsR f (q.drop m) (p + (m + 1))).2) = _
            rw [show p + (m + 1) = p + 1 + m from by omega]
        rw [e]
      · rw [elemsR, fnd, if_neg hb]
        by_cases h1 : k = 123
        · rw [run_act, act_gap rfl, if_neg hb, if_pos h1, if_pos h1]
          show run (p + 1) q ⟨fd, Bc, sh, ((0 + 1 : Nat) : Int), [], []⟩ = _
          rw [run_brace n q hq (p + 1) 0 []]
          unfold braced
          cases hB : brc 0 1 q with
          | none =>
            show (fd, some _) = (fd ++ [], some _)
            rw [List.append_nil]
          | some m =>
            show run (p + 1 + m + 1) (q.drop (m + 1)) ⟨fd, Sh, Bc, 1, [], [] ++ q.take m⟩ = _
            rw [run_shut]
            cases hC : chkB (q.drop (m + 1)) with
            | some u =>
              show (fd, some _) = _
              simp only [hC, Found.more]
              rw [List.append_nil]; rfl
            | none =>
              simp only [hC, Found.more]
              rw [ih (q.drop (m + 1)) (by rw [List.length_drop]; omega) (fun x hx => hs' x (List.mem_of_mem_drop hx)) f _ _ _ _ (by rw [List.length_drop]; omega)]
              rw [List.drop_succ_cons, show p + (m + 1 + 1) = p + 1 + m + 1 from by omega, List.append_assoc]
              rfl
        · rw [if_neg h1]
          by_cases h2 : k = 34
          · rw [run_act, act_gap rfl, if_neg hb, if_neg h1, if_pos h2, if_pos h2]
            show run (p + 1) q ⟨fd, Qu, sh, 1, [], []⟩ = _
            obtain ⟨i1, i2⟩ := run_quote (fd := fd) (sh := sh) n q hq hs' (p + 1) [] 1
            unfold quoted
            cases hB : quo 0 q with
            | none =>
              rw [i1 hB]
              show (fd, some _) = (fd ++ [], some _)
              rw [List.append_nil]
            | some x =>
              obtain ⟨de', i3⟩ := i2 x hB
              rw [i3, run_shut]
              cases hC : chkB (q.drop (x.2 + 1)) with
              | some u =>
                simp only [hC, Found.more]
                rw [List.append_nil]; rfl
              | none =>
                simp only [hC, Found.more]
                rw [ih (q.drop (x.2 + 1)) (by rw [List.length_drop]; omega) (fun y hy => hs' y (List.mem_of_mem_drop hy)) f _ _ _ _ (by rw [List.length_drop]; omega)]
                rw [List.drop_succ_cons, show p + (x.2 + 1 + 1) = p + 1 + x.2 + 1 from by omega, List.append_assoc]
                rfl
          · rw [if_neg h2]
            have e : run p (k :: q) ⟨fd, Gp, sh, de, [], []⟩ = run p (k :: q) ⟨fd, Br, sh, de, [], []⟩ := by
              rw [run_act, run_act, act_gap rfl, act_bare rfl, if_neg hb, if_neg hb, if_neg h1, if_neg h2]
            obtain ⟨de', i1⟩ := run_bare (fd := fd) (sh := sh) (n + 1) (k :: q) (by simpa using hq) hs p [] de
            have hp := bar_pos (r := q) hb
            rw [e, i1]
            show _ = (fd ++ ((bar 0 (k :: q)).1, p + (bar 0 (k :: q)).2) :: (elemsR f ((k :: q).drop (bar 0 (k :: q)).2) (p + (bar 0 (k :: q)).2)).1, (elemsR f ((k :: q).drop (bar 0 (k :: q)).2) (p + (bar 0 (k :: q)).2)).2)
            rw [ih ((k :: q).drop (bar 0 (k :: q)).2) (by rw [List.length_drop, List.length_cons]; omega) (fun y hy => hs y (List.mem_of_mem_drop hy)) f _ _ _ _ (by rw [List.length_drop, List.length_cons]; omega)]
            rw [List.append_assoc]
            rfl
theorem read_elems {l : List Nat} (hs : ∀ k ∈ l, Sg k) : read l = elems (l.length + 1) l 0 := by
  unfold read mach0
  rw [elems_R]
  have := run_gap l.length l (Nat.le_refl _) hs (l.length + 1) 0 [] [] 0 (Nat.lt_succ_self _)
  rw [List.drop_zero]
  exact this
end Mine
end

section
set_option linter.unusedVariables false
set_option linter.unusedSimpArgs false
namespace Mine
noncomputable def Cd (k : Nat) : Prop := k < 1114112
theorem digitV_le (k : Nat) : digitV k ≤ 35 := by
  unfold digitV
  split
  · omega
  split
  · omega
  split <;> omega
theorem digRun_val (b lim : Nat) (h : lim * b + b ≤ 1114112) (hb : 0 < b) : ∀ (n v : Nat) (r : List Nat), v < 1114112 → (digRun b lim n v r).1 < 1114112
  | 0, v, r, hv => hv
  | _ + 1, v, [], hv => hv
  | n + 1, v, k :: r, hv => by
    rw [digRun]
    split
    · rename_i q
      refine digRun_val b lim h hb n _ r ?_
      have h1 : v * b ≤ lim * b := Nat.mul_le_mul_right b q.1
      omega
    · exact hv
theorem bsl_val : ∀ r : List Nat, (∀ k ∈ r, Cd k) → Cd (bsl r).1
  | [], _ => by show 92 < 1114112; omega
  | k :: r, hs => by
    have hk := hs k (.head _)
    cases hn : known k with
    | some v =>
      rw [bsl_known hn]
      show v < 1114112
      unfold known at hn
      repeat' split at hn
      all_goals first | (cases hn; omega) | cases hn
    | none =>
      by_cases h0 : k = 10
      · subst h0; rw [bsl_nl]; show 32 < 1114112; omega
      by_cases h1 : k = 120 ∨ k = 117 ∨ k = 85
      · rw [bsl_hex hn h0 h1]
        split
        · exact hk
        · exact digRun_val 16 69631 (by decide) (by decide) _ _ _ (by omega)
      by_cases h2 : 48 ≤ k ∧ k ≤ 55
      · rw [bsl_oct hn h0 h1 h2]; exact digRun_val 8 31 (by decide) (by decide) _ _ _ (by omega)
      · rw [bsl_self hn h0 h1 h2]; exact hk
theorem quo_val : ∀ (r : List Nat) (s : Nat) (x : List Nat × Nat), (∀ k ∈ r, Cd k) → quo s r = some x → ∀ k ∈ x.1, Cd k
  | [], s, x, _, h => by cases s <;> cases h
  | k :: r, s + 1, x, hs, h => by
    rw [quo] at h
    obtain ⟨m, h1, h2⟩ := Option.map_eq_some_iff.mp h
    rw [← h2]
    exact quo_val r s m (fun y hy => hs y (.tail _ hy)) h1
  | k :: r, 0, x, hs, h => by
    have hs' : ∀ y ∈ r, Cd y := fun y hy => hs y (.tail _ hy)
    rw [quo] at h
    split at h
    · obtain ⟨m, h1, h2⟩ := Option.map_eq_some_iff.mp h
      rw [← h2]
      intro y hy
      rcases List.mem_cons.mp hy with rfl | hy
      · exact bsl_val r hs'
      · exact quo_val r _ m hs' h1 y hy
    split at h
    · cases h; intro y hy; cases hy
    · obtain ⟨m, h1, h2⟩ := Option.map_eq_some_iff.mp h
      rw [← h2]
      intro y hy
      rcases List.mem_cons.mp hy with rfl | hy
      · exact hs _ (.head _)
      · exact quo_val r _ m hs' h1 y hy
theorem bar_val : ∀ (s : Nat) (r : List Nat), (∀ k ∈ r, Cd k) → ∀ k ∈ (bar s r).1, Cd k
  | s, [], _ => by
    intro k hk
    have : (bar s []).1 = [] := by cases s <;> rfl
    rw [this] at hk; cases hk
  | s + 1, k :: r, hs => by
    rw [bar]
    exact bar_val s r fun y hy => hs y (.tail _ hy)
  | 0, k :: r, hs => by
    have hs' : ∀ y ∈ r, Cd y := fun y hy => hs y (.tail _ hy)
    rw [bar]
    split
    · intro y hy; cases hy
    split
    · intro y hy
      rcases List.mem_cons.mp hy with rfl | hy
      · exact bsl_val r hs'
      · exact bar_val _ r hs' y hy
    · intro y hy
      rcases List.mem_cons.mp hy with rfl | hy
      · exact hs _ (.head _)
      · exact bar_val 0 r hs' y hy
noncomputable def Fault.ok (f : Fault) : Prop := (∀ k ∈ f.text, Cd k) ∧ ∀ k ∈ f.code, Cd k
theorem cd_list {l : List Nat} (h : (l.all fun k => decide (k < 1114112)) = true) : ∀ k ∈ l, Cd k := fun k hk => (of_decide_eq_true (List.all_eq_true.mp h k hk) : k < 1114112)
theorem junk_cd {what u : List Nat} (hw : ∀ k ∈ what, Cd k) (hu : ∀ k ∈ u, Cd k) : (Fault.junk what u).ok := by
  refine ⟨fun k hk => ?_, cd_list (l := sJUNK) (by decide)⟩
  rcases List.mem_append.mp hk with hk | hk
  · rcases List.mem_append.mp hk with hk | hk
    · rcases List.mem_append.mp hk with hk | hk
      · rcases List.mem_append.mp hk with hk | hk
        · exact cd_list (l := sIn) (by decide) k hk
        · exact hw k hk
      · exact cd_list (l := sFollowed) (by decide) k hk
    · exact hu k hk
  · exact cd_list (l := sInstead) (by decide) k hk
theorem chkB_cd {r u : List Nat} (hs : ∀ k ∈ r, Cd k) (h : chkB r = some u) : ∀ k ∈ u, Cd k := by
  cases r with
  | nil => cases h
  | cons k r =>
    rw [chkB] at h
    split at h
    · cases h
    · cases h
      intro y hy
      exact hs y ((List.takeWhile_prefix _).subset (List.mem_of_mem_take hy))
noncomputable def Found.ok : Found → Prop
  | .nothing => True
  | .el w _ => ∀ k ∈ w, Cd k
  | .bad f => f.ok
theorem more_ok {F : Found} {k : Nat} (h : F.ok) : (F.more k).ok := by cases F <;> exact h
theorem fnd_ok : ∀ r : List Nat, (∀ k ∈ r, Cd k) → (fnd r).ok
  | [], _ => trivial
  | k :: r, hs => by
    have hs' : ∀ y ∈ r, Cd y := fun y hy => hs y (.tail _ hy)
    rw [fnd]
    split
    · exact more_ok (fnd_ok r hs')
    split
    · refine more_ok ?_
      unfold braced
      split
      · exact ⟨cd_list (by decide), cd_list (by decide)⟩
      · split
        · rename_i u hu
          exact junk_cd (cd_list (by decide)) (chkB_cd (fun y hy => hs' y (List.mem_of_mem_drop hy)) hu)
        · exact fun y hy => hs' y (List.mem_of_mem_take hy)
    split
    · refine more_ok ?_
      unfold quoted
      split
      · exact ⟨cd_list (by decide), cd_list (by decide)⟩
      · rename_i x hx
        split
        · rename_i u hu
          exact junk_cd (cd_list (by decide)) (chkB_cd (fun y hy => hs' y (List.mem_of_mem_drop hy)) hu)
        · exact quo_val r 0 x hs' hx
    · exact bar_val 0 (k :: r) hs
theorem elems_ok : ∀ (f : Nat) (l : List Nat) (a : Nat), (∀ k ∈ l, Cd k) → (∀ e ∈ (elems f l a).1, ∀ k ∈ e.1, Cd k) ∧ ∀ x, (elems f l a).2 = some x → x.ok
  | 0, l, a, _ => ⟨fun e he => (by cases he), fun x hx => (by cases hx)⟩
  | f + 1, l, a, hs => by
    have h0 := fnd_ok (l.drop a) fun y hy => hs y (List.mem_of_mem_drop hy)
    rw [elems]
    cases hF : fnd (l.drop a) with
    | nothing => exact ⟨fun e he => (by cases he), fun x hx => (by cases hx)⟩
    | bad x => rw [hF] at h0; exact ⟨fun e he => (by cases he), fun y hy => (by cases hy; exact h0)⟩
    | el w n =>
      rw [hF] at h0
      obtain ⟨i1, i2⟩ := elems_ok f l (a + n) hs
      refine ⟨fun e he => ?_, i2⟩
      rcases List.mem_cons.mp he with rfl | he
      · exact h0
      · exact i1 e he
end Mine
end

section
set_option maxRecDepth 100000
set_option linter.unusedVariables false
namespace Mine
open PySem PySem.Spec PySem.Calls PyProof.Rows PySem.W

/-! heaps kept up to slots -/
structure Kp (h h' : Heap) : Prop where
  get : ∀ b o, h.get? b = some o → ∃ sl, h'.get? b = some { o with slots := sl }
theorem Kp.refl (h : Heap) : Kp h h := ⟨fun _ o e => ⟨o.slots, e⟩⟩
theorem Kp.trans {h₁ h₂ h₃ : Heap} (x : Kp h₁ h₂) (y : Kp h₂ h₃) : Kp h₁ h₃ :=
  ⟨fun b o e => let ⟨_, e₁⟩ := x.get b o e; let ⟨sl, e₂⟩ := y.get b _ e₁; ⟨sl, e₂⟩⟩
theorem Kp.keep {h h' : Heap} (k : ∀ b o, h.get? b = some o → h'.get? b = some o) : Kp h h' :=
  ⟨fun b o e => ⟨o.slots, k b o e⟩⟩
theorem Kp.push (h : Heap) (o : Obj) : Kp h (h.push o) :=
  .keep fun _ _ e => Heap.get?_push_of_some _ e
theorem Kp.some' {h h' : Heap} (k : Kp h h') {b : Addr} {o : Obj} (e : h.get? b = some o) : ∃ o', h'.get? b = some o' ∧ o'.cls = o.cls ∧ o'.data = o.data ∧ o'.dict = o.dict :=
  let ⟨_, e'⟩ := k.get b o e; ⟨_, e', rfl, rfl, rfl⟩
theorem Kp.none {h h' : Heap} (k : Kp h h') {b : Addr} (e : h'.get? b = none) : h.get? b = none := by
  cases q : h.get? b with
  | none => rfl
  | some o => obtain ⟨_, e', _⟩ := k.some' q; rw [e] at e'; cases e'
theorem Kp.ns {h h' : Heap} {L : Addr} {m : Str → Option Value} (k : Kp h h') (n : h.Ns L m) : h'.Ns L m := by
  obtain ⟨o, es, ep, ho, hd, r⟩ := n
  obtain ⟨o', ho', _, hd', _⟩ := k.some' ho
  exact ⟨o', es, ep, ho', hd'.trans hd, r⟩
theorem Kp.funFrames {h h' base : Heap} {l : List Env} (k : Kp h h') (f : h.FunFrames base l) : h'.FunFrames base l :=
  f.of_keeps fun b o e _ => let ⟨o', e', _, hd, _⟩ := k.some' e; ⟨o', e', hd⟩
theorem reads_both {h : Heap} {P : Value → PyData → List Addr → Prop} {R : List Value → List PyData → List Addr → Prop}
    (k0 : P .none .none []) (kb : ∀ b, P (.bool b) (.bool b) []) (ki : ∀ i t, P (.int i t) (.int i) []) (ks : ∀ x t, P (.str x t) (.str x) [])
    (kl : ∀ {a o vs n xs as}, h.get? a = some o → o.cls = .type "list" → o.data = .seq vs n → R vs.toList xs as → P (.ref a) (.list xs) (a :: as))
    (kt : ∀ {a o vs n xs as}, h.get? a = some o → o.cls = .type "tuple" → o.data = .seq vs n → R vs.toList xs as → P (.ref a) (.tuple xs) as)
    (kd : ∀ {a o es n kvs as bs}, h.get? a = some o → o.cls = .type "dict" → o.data = .dict es n → R (es.toList.map (·.key)) (kvs.map (·.1)) as → R (es.toList.map (·.val)) (kvs.map (·.2)) bs → P (.ref a) (.dict kvs) (a :: as ++ bs))
    (kn : R [] [] []) (kc : ∀ {v vs d ds as bs}, P v d as → R vs ds bs → R (v :: vs) (d :: ds) (as ++ bs)) :
    (∀ {v d as}, Reads h v d as → P v d as) ∧ (∀ {vs ds as}, ReadsAll h vs ds as → R vs ds as) :=
  ⟨Reads.rec (motive_1 := fun v d as _ => P v d as) (motive_2 := fun v d as _ => R v d as) k0 kb ki ks (fun a b c _ => kl a b c) (fun a b c _ => kt a b c) (fun a b c _ _ => kd a b c) kn (fun _ _ => kc),
    ReadsAll.rec (motive_1 := fun v d as _ => P v d as) (motive_2 := fun v d as _ => R v d as) k0 kb ki ks (fun a b c _ => kl a b c) (fun a b c _ => kt a b c) (fun a b c _ _ => kd a b c) kn (fun _ _ => kc)⟩
theorem reads_gen {h h' : Heap} {C : PyData → List Addr → Prop} {D : List PyData → List Addr → Prop}
    (kl : ∀ {a o vs n xs as}, C (.list xs) (a :: as) → h.get? a = some o → o.cls = .type "list" → o.data = .seq vs n → (∃ sl, h'.get? a = some { o with slots := sl }) ∧ D xs as)
    (kt : ∀ {a o vs n xs as}, C (.tuple xs) as → h.get? a = some o → o.cls = .type "tuple" → o.data = .seq vs n → (∃ sl, h'.get? a = some { o with slots := sl }) ∧ D xs as)
    (kd : ∀ {a o es n kvs as bs}, C (.dict kvs) (a :: as ++ bs) → h.get? a = some o → o.cls = .type "dict" → o.data = .dict es n → (∃ sl, h'.get? a = some { o with slots := sl }) ∧ D (kvs.map (·.1)) as ∧ D (kvs.map (·.2)) bs)
    (kc : ∀ {d ds as bs}, D (d :: ds) (as ++ bs) → C d as ∧ D ds bs) :
    (∀ {v d as}, Reads h v d as → C d as → Reads h' v d as) ∧ (∀ {vs ds as}, ReadsAll h vs ds as → D ds as → ReadsAll h' vs ds as) :=
  reads_both (P := fun v d as => C d as → Reads h' v d as) (R := fun vs ds as => D ds as → ReadsAll h' vs ds as) (fun _ => .none) (fun b _ => .bool b) (fun i t _ => .int i t) (fun x t _ => .str x t)
    (fun a b c r q => let ⟨⟨_, e⟩, w⟩ := kl q a b c; .list e b c (r w)) (fun a b c r q => let ⟨⟨_, e⟩, w⟩ := kt q a b c; .tuple e b c (r w))
    (fun a b c r t q => let ⟨⟨_, e⟩, w, z⟩ := kd q a b c; .dict e b c (r w) (t z)) (fun _ => .nil) (fun a b q => let ⟨w, z⟩ := kc q; .cons (a w) (b z))
theorem reads_kpB {h h' : Heap} (k : Kp h h') : (∀ {v d as}, Reads h v d as → True → Reads h' v d as) ∧ (∀ {vs ds as}, ReadsAll h vs ds as → True → ReadsAll h' vs ds as) :=
  reads_gen (C := fun _ _ => True) (D := fun _ _ => True) (fun _ e _ _ => ⟨k.get _ _ e, trivial⟩) (fun _ e _ _ => ⟨k.get _ _ e, trivial⟩) (fun _ e _ _ => ⟨k.get _ _ e, trivial, trivial⟩) (fun _ => ⟨trivial, trivial⟩)
theorem reads_kp {h h' : Heap} (k : Kp h h') {v : Value} {d : PyData} {as : List Addr} (r : Reads h v d as) : Reads h' v d as := (reads_kpB k).1 r trivial
theorem readsAll_kp {h h' : Heap} (k : Kp h h') {vs : List Value} {ds : List PyData} {as : List Addr} (r : ReadsAll h vs ds as) : ReadsAll h' vs ds as := (reads_kpB k).2 r trivial

/-- no list, no dict within -/
noncomputable def flat : PyData → Bool
  | .list _ => false
  | .dict _ => false
  | .tuple xs => flats xs
  | _ => true
where flats : List PyData → Bool
  | [] => true
  | x :: r => flat x && flats r
/-- no dict within -/
noncomputable def nodict : PyData → Bool
  | .list xs => nodicts xs
  | .dict _ => false
  | .tuple xs => nodicts xs
  | _ => true
where nodicts : List PyData → Bool
  | [] => true
  | x :: r => nodict x && nodicts r
theorem and_of {a b : Bool} (h : (a && b) = true) : a = true ∧ b = true := Bool.and_eq_true_iff.mp h
theorem reads_ndB {h h' : Heap} (k : ∀ b o vs n, o.data = .seq vs n → h.get? b = some o → ∃ sl, h'.get? b = some { o with slots := sl }) :
    (∀ {v d as}, Reads h v d as → nodict d = true → Reads h' v d as) ∧ (∀ {vs ds as}, ReadsAll h vs ds as → nodict.nodicts ds = true → ReadsAll h' vs ds as) :=
  reads_gen (C := fun d _ => nodict d = true) (D := fun ds _ => nodict.nodicts ds = true) (fun q e _ w => ⟨k _ _ _ _ w e, q⟩) (fun q e _ w => ⟨k _ _ _ _ w e, q⟩) (fun q _ _ _ => nomatch (show false = true from q)) (fun q => and_of q)
theorem reads_nd {h h' : Heap} (k : ∀ b o vs n, o.data = .seq vs n → h.get? b = some o → ∃ sl, h'.get? b = some { o with slots := sl }) {v : Value} {d : PyData} {as : List Addr} (r : Reads h v d as) (n : nodict d = true) : Reads h' v d as := (reads_ndB k).1 r n
theorem readsAll_nd {h h' : Heap} (k : ∀ b o vs n, o.data = .seq vs n → h.get? b = some o → ∃ sl, h'.get? b = some { o with slots := sl }) {vs : List Value} {ds : List PyData} {as : List Addr} (r : ReadsAll h vs ds as) (n : nodict.nodicts ds = true) : ReadsAll h' vs ds as := (reads_ndB k).2 r n
mutual
theorem nodict_of_flat : ∀ {d : PyData}, flat d = true → nodict d = true
  | .none, _ => rfl
  | .bool _, _ => rfl
  | .int _, _ => rfl
  | .str _, _ => rfl
  | .list _, e => by cases e
  | .tuple xs, e => nodicts_of_flat (ds := xs) e
  | .dict _, e => by cases e
theorem nodicts_of_flat : ∀ {ds : List PyData}, flat.flats ds = true → nodict.nodicts ds = true
  | [], _ => rfl
  | x :: r, e => by
    obtain ⟨e1, e2⟩ := Bool.and_eq_true_iff.mp (show (flat x && flat.flats r) = true from e)
    show (nodict x && nodict.nodicts r) = true
    rw [nodict_of_flat e1, nodicts_of_flat e2]; rfl
end
theorem reads_flatB {h : Heap} : (∀ {v d as}, Reads h v d as → flat d = true → as = []) ∧ (∀ {vs ds as}, ReadsAll h vs ds as → flat.flats ds = true → as = []) :=
  reads_both (P := fun _ d as => flat d = true → as = []) (R := fun _ ds as => flat.flats ds = true → as = []) (fun _ => rfl) (fun _ _ => rfl) (fun _ _ _ => rfl) (fun _ _ _ => rfl)
    (fun _ _ _ _ q => nomatch (show false = true from q)) (fun _ _ _ r q => r q) (fun _ _ _ _ _ q => nomatch (show false = true from q)) (fun _ => rfl)
    (fun a b q => by rw [a (and_of q).1, b (and_of q).2]; rfl)
theorem reads_flat {h : Heap} {v : Value} {d : PyData} {as : List Addr} (r : Reads h v d as) (n : flat d = true) : as = [] := reads_flatB.1 r n
theorem readsAll_flat {h : Heap} {vs : List Value} {ds : List PyData} {as : List Addr} (r : ReadsAll h vs ds as) (n : flat.flats ds = true) : as = [] := reads_flatB.2 r n
theorem reads_thereB {h : Heap} : (∀ {v d as}, Reads h v d as → ∀ a ∈ as, h.get? a ≠ none) ∧ (∀ {vs ds as}, ReadsAll h vs ds as → ∀ a ∈ as, h.get? a ≠ none) :=
  reads_both (P := fun _ _ as => ∀ a ∈ as, h.get? a ≠ none) (R := fun _ _ as => ∀ a ∈ as, h.get? a ≠ none) (fun _ q => nomatch q) (fun _ _ q => nomatch q) (fun _ _ _ q => nomatch q) (fun _ _ _ q => nomatch q)
    (fun e _ _ r b q => (List.mem_cons.mp q).elim (fun z => by rw [z, e]; exact Option.some_ne_none _) (r b)) (fun _ _ _ r => r)
    (fun e _ _ r t b q => (List.mem_append.mp q).elim (fun q => (List.mem_cons.mp q).elim (fun z => by rw [z, e]; exact Option.some_ne_none _) (r b)) (t b)) (fun _ q => nomatch q)
    (fun r t b q => (List.mem_append.mp q).elim (r b) (t b))
theorem reads_there {h : Heap} {v : Value} {d : PyData} {as : List Addr} (r : Reads h v d as) : ∀ a ∈ as, h.get? a ≠ none := reads_thereB.1 r
theorem readsAll_there {h : Heap} {vs : List Value} {ds : List PyData} {as : List Addr} (r : ReadsAll h vs ds as) : ∀ a ∈ as, h.get? a ≠ none := reads_thereB.2 r

theorem reads_butB {h h' : Heap} {a₀ : Addr} (k : ∀ b o, b ≠ a₀ → h.get? b = some o → ∃ sl, h'.get? b = some { o with slots := sl }) (hl : ∃ o, h.get? a₀ = some o ∧ o.cls ≠ .type "tuple") :
    (∀ {v d as}, Reads h v d as → a₀ ∉ as → Reads h' v d as) ∧ (∀ {vs ds as}, ReadsAll h vs ds as → a₀ ∉ as → ReadsAll h' vs ds as) :=
  reads_gen (C := fun _ as => a₀ ∉ as) (D := fun _ as => a₀ ∉ as) (fun n e _ _ => ⟨k _ _ (fun q => n (q ▸ .head _)) e, fun q => n (.tail _ q)⟩)
    (fun n e c _ => ⟨k _ _ (fun q => by obtain ⟨o, e1, e2⟩ := hl; subst q; rw [e] at e1; cases e1; exact e2 c) e, n⟩)
    (fun n e _ _ => ⟨k _ _ (fun q => n (q ▸ List.mem_append_left _ (.head _))) e, fun q => n (List.mem_append_left _ (.tail _ q)), fun q => n (List.mem_append_right _ q)⟩)
    (fun n => ⟨fun q => n (List.mem_append_left _ q), fun q => n (List.mem_append_right _ q)⟩)
theorem reads_but {h h' : Heap} {a₀ : Addr} (k : ∀ b o, b ≠ a₀ → h.get? b = some o → ∃ sl, h'.get? b = some { o with slots := sl }) (hl : ∃ o, h.get? a₀ = some o ∧ o.cls ≠ .type "tuple")
    {v : Value} {d : PyData} {as : List Addr} (r : Reads h v d as) (n : a₀ ∉ as) : Reads h' v d as := (reads_butB k hl).1 r n
theorem readsAll_but {h h' : Heap} {a₀ : Addr} (k : ∀ b o, b ≠ a₀ → h.get? b = some o → ∃ sl, h'.get? b = some { o with slots := sl }) (hl : ∃ o, h.get? a₀ = some o ∧ o.cls ≠ .type "tuple")
    {vs : List Value} {ds : List PyData} {as : List Addr} (r : ReadsAll h vs ds as) (n : a₀ ∉ as) : ReadsAll h' vs ds as := (reads_butB k hl).2 r n
theorem readsAll_ind {h : Heap} {R : List Value → List PyData → List Addr → Prop} (kn : R [] [] []) (kc : ∀ {v vs d ds as bs}, Reads h v d as → R vs ds bs → R (v :: vs) (d :: ds) (as ++ bs))
    {vs : List Value} {ds : List PyData} {as : List Addr} (r : ReadsAll h vs ds as) : R vs ds as :=
  ReadsAll.rec (h := h) (motive_1 := fun _ _ _ _ => True) (motive_2 := fun v d as _ => R v d as) trivial (fun _ => trivial) (fun _ _ => trivial) (fun _ _ => trivial) (fun _ _ _ _ _ => trivial) (fun _ _ _ _ _ => trivial) (fun _ _ _ _ _ _ _ => trivial) kn (fun a _ _ => kc a) r
theorem readsAll_length {h : Heap} {vs : List Value} {ds : List PyData} {as : List Addr} (r : ReadsAll h vs ds as) : vs.length = ds.length :=
  readsAll_ind (R := fun vs ds _ => vs.length = ds.length) rfl (fun _ b => congrArg (· + 1) b) r

/-! the frame at hand -/
structure Cx where
  prog : Program
  w : World
  K : Frag
  base : Heap
  s0 : Shared
  name : Str
  scope : Scope
  L : Addr
  fa : Addr
  cd : Value
  outer : List Env
  dp : Nat
  un : Nat
  lv : Nat
  gd : Option (List Code)
@[reducible] def Cx.env (c : Cx) : Env := envOf c.name c.scope c.L c.fa c.cd
@[reducible] def Cx.A (c : Cx) : Around := { handled := none, depth := c.dp, frames := some (c.env :: c.outer), guards := c.gd, units := c.un }
@[reducible] def Cx.M (c : Cx) : Model := model c.prog c.w

structure Gb (K : Frag) (base : Heap) : Prop where
  kin : K.In base
  top : ∃ p loose mg mb, TopRead p loose mg mb base
  nolimit : base.NoLimit

structure CxOk (c : Cx) : Prop where
  gb : Gb c.K c.base
  kind : c.scope.kind = .function
  low : c.base.objs.size ≤ c.L
  new : c.s0.heap.get? c.L = none
  below : Kp c.base c.s0.heap
  dp : c.dp + c.lv ≤ 900
  un : c.un + 8 * c.lv ≤ 9000

structure Rest (s s' : Shared) : Prop where
  gens : s'.gens = s.gens
  drawn : s'.drawn = s.drawn
  os : s'.os = s.os
theorem Rest.refl (s : Shared) : Rest s s := ⟨rfl, rfl, rfl⟩
theorem Rest.trans {s₁ s₂ s₃ : Shared} (x : Rest s₁ s₂) (y : Rest s₂ s₃) : Rest s₁ s₃ := ⟨y.gens.trans x.gens, y.drawn.trans x.drawn, y.os.trans x.os⟩

structure Ok0 (c : Cx) (s : Shared) : Prop where
  rest : Rest c.s0 s
  stays : c.base.StaysIn s.heap
  kp : Kp c.s0.heap s.heap
  frames : s.heap.FunFrames c.base (c.env :: c.outer)
  ns : ∃ m, s.heap.Ns c.L m

/-- the one list that a frame fills: its name (the empty name: not bound yet), its place, its items -/
structure Own where
  name : Str
  at_ : Addr
  items : List PyData
structure St where
  vars : List (Str × PyData)
  own : Option Own := none
  more : List (Addr × Value × Data) := []
  gh : List (Value × PyData) := []
@[reducible] def St.set (σ : St) (x : Str) (d : PyData) : St := { σ with vars := (x, d) :: σ.vars }

/-- the frame's map and its own list -/
structure Ms (c : Cx) (σ : St) (h : Heap) (m : Str → Option Value) : Prop where
  ns : h.Ns c.L m
  vars : ∀ x d, σ.vars.lookup x = some d → ∃ v as, m x = some v ∧ Reads h v d as ∧ nodict d = true ∧ ∀ w, σ.own = some w → w.at_ ∉ as
  own : ∀ w, σ.own = some w → (w.name = Str.empty ∨ m w.name = some (.ref w.at_)) ∧ c.s0.heap.get? w.at_ = none ∧ w.at_ ≠ c.L ∧ ∃ o vs n, h.get? w.at_ = some o ∧ o.cls = .type "list" ∧ o.dict = none ∧ o.data = .seq vs n ∧ ReadsAll h vs.toList w.items [] ∧ flat.flats w.items = true
  more : ∀ p ∈ σ.more, (∃ o, h.get? p.1 = some o ∧ o.cls = p.2.1 ∧ o.data = p.2.2) ∧ p.1 ≠ c.L ∧ ∀ w, σ.own = some w → p.1 ≠ w.at_
  gh : ∀ p ∈ σ.gh, ∃ as, Reads h p.1 p.2 as ∧ nodict p.2 = true ∧ ∀ w, σ.own = some w → w.at_ ∉ as
structure Ok (c : Cx) (σ : St) (s : Shared) : Prop where
  zero : Ok0 c s
  ms : ∃ m, Ms c σ s.heap m

theorem Ok0.step {c : Cx} {s s' : Shared} (o : Ok0 c s) (r : Rest s s') (k : Kp s.heap s'.heap) (st : c.base.StaysIn s'.heap) : Ok0 c s' :=
  ⟨o.rest.trans r, st, o.kp.trans k, k.funFrames o.frames, let ⟨m, hm⟩ := o.ns; ⟨m, k.ns hm⟩⟩
theorem Ms.kp {c : Cx} {σ : St} {h h' : Heap} {m : Str → Option Value} (x : Ms c σ h m) (k : Kp h h') : Ms c σ h' m where
  ns := k.ns x.ns
  vars := fun y d e => let ⟨v, as, h1, h2, h3⟩ := x.vars y d e; ⟨v, as, h1, reads_kp k h2, h3⟩
  own := fun w e => let ⟨h1, h2, h3, o, vs, n, ho, hc, hdi, hd, h5, h7⟩ := x.own w e
    let ⟨o', ho', hc', hd', hdi'⟩ := k.some' ho
    ⟨h1, h2, h3, o', vs, n, ho', hc'.trans hc, hdi'.trans hdi, hd'.trans hd, readsAll_kp k h5, h7⟩
  more := fun p hp => by
    obtain ⟨⟨o, h1, h3, h4⟩, h2⟩ := x.more p hp
    obtain ⟨o', e1, e2, e3, _⟩ := k.some' h1
    exact ⟨⟨o', e1, e2.trans h3, e3.trans h4⟩, h2⟩
  gh := fun p hp => let ⟨as, h1, h2⟩ := x.gh p hp; ⟨as, reads_kp k h1, h2⟩
theorem Ok.step {c : Cx} {σ : St} {s s' : Shared} (o : Ok c σ s) (r : Rest s s') (k : Kp s.heap s'.heap) (st : c.base.StaysIn s'.heap) : Ok c σ s' :=
  ⟨o.zero.step r k st, let ⟨m, x⟩ := o.ms; ⟨m, x.kp k⟩⟩
theorem Ok.tok {c : Cx} {σ : St} {s : Shared} (o : Ok c σ s) (t : Nat) : Ok c σ { s with toks := t } := o.step ⟨rfl, rfl, rfl⟩ (.refl _) o.zero.stays
theorem Ok.push {c : Cx} {σ : St} {s : Shared} (o : Ok c σ s) (x : Obj) (t : Nat) : Ok c σ { s with heap := s.heap.push x, toks := t } :=
  o.step ⟨rfl, rfl, rfl⟩ (.push _ _) fun b y e => Heap.get?_push_of_some _ (o.zero.stays b y e)

/-- the library's frame fact over the base -/
theorem Ok.fr {c : Cx} {σ : St} {s : Shared} (hc : CxOk c) (o : Ok c σ s) : ∃ m, Ms c σ s.heap m ∧ Fr c.base c.L s.heap m :=
  let ⟨m, x⟩ := o.ms; ⟨m, x, ⟨x.ns, o.zero.stays, hc.low⟩⟩

structure Exc where
  code : PyData
  val : PyData
  ec : PyData

/-- how far the exception's traceback is: none, or a head whose flight field holds a value -/
noncomputable def TbAt (N : Addr → Prop) (h : Heap) (e : Addr) (vs : Array Value) : Option Value → Prop
  | none => vs[1]? = some .none
  | some f => ∃ T oT ts, vs[1]? = some (.ref T) ∧ T ≠ e ∧ N T ∧ h.get? T = some oT ∧ oT.data = .fields ts ∧ ts[3]? = some f

/-- the class Raised stands at 33 (the top's own number) -/
structure Flies (C : Addr) (N : Addr → Prop) (h : Heap) (tb : Option Value) (v : Value) (x : Exc) : Prop where
  it : ∃ e de oe vs mA, v = .ref e ∧ N e ∧ h.get? e = some oe ∧ oe.cls = .ref C ∧ oe.dict = some de ∧ oe.data = .fields vs ∧ 1 < vs.size ∧ TbAt N h e vs tb ∧
    h.Ns1 de mA ∧ (de ≠ e ∧ N de) ∧
    (∃ v1 a1, mA "code" = some v1 ∧ Reads h v1 x.code a1) ∧ (∃ v1 a1, mA "value" = some v1 ∧ Reads h v1 x.val a1) ∧ (∃ v1 a1, mA "errorcode" = some v1 ∧ Reads h v1 x.ec a1)

noncomputable def raisedAt : Addr := 33
noncomputable def Cx.fresh (c : Cx) (a : Addr) : Prop := c.s0.heap.get? a = none ∧ a ≠ c.L
noncomputable def TbIn (c : Cx) (tb : Option Value) : Prop := tb = none ∨ tb = some .none ∨ tb = some (rawInt c.L)
noncomputable def Xp (c : Cx) (E : Value → Shared → Prop) (X : Exc → Prop) : Prop :=
  ∀ x v s' tb, X x → Ok0 c s' → Flies raisedAt c.fresh s'.heap tb v x → TbIn c tb → E v s'
noncomputable def Sp (c : Cx) (σ : St) (s : Shared) (Q : Value → Shared → Prop) (Φ : PyData → Prop) : Prop :=
  ∀ v d as s', Φ d → Ok c σ s' → Kp s.heap s'.heap → Reads s'.heap v d as → Q v s'

/-- an expression -/
structure We (c : Cx) (σ : St) (e : Expr) (Φ : PyData → Prop) (X : Exc → Prop) : Prop where
  go : ∀ s Q E, Ok c σ s → Sp c σ s Q Φ → Xp c E X → wpAny c.M c.A (eval e c.env) Q E s
/-- a test -/
structure Wt (c : Cx) (σ : St) (e : Expr) (Φ : Bool → Prop) (X : Exc → Prop) : Prop where
  go : ∀ s (Q : Bool → Shared → Prop) E, Ok c σ s → (∀ b s', Φ b → Ok c σ s' → Kp s.heap s'.heap → Q b s') → Xp c E X → wpAny c.M c.A (PySem.isTrue e c.env (eval e c.env)) Q E s
/-- arguments -/
structure Was (c : Cx) (σ : St) (es : List Expr) (Φ : List PyData → Prop) (X : Exc → Prop) : Prop where
  go : ∀ pos s (Q : List Value → Shared → Prop) E, Ok c σ s → (∀ vs ds as s', Φ ds → Ok c σ s' → Kp s.heap s'.heap → ReadsAll s'.heap vs ds as → Q vs s') → Xp c E X →
    wpAny c.M c.A (spliced (backTo pos (starEach es c.env))) Q E s
structure Po where
  next : St → Prop := fun _ => False
  brk : St → Prop := fun _ => False
  cont : St → Prop := fun _ => False
  ret : PyData → Prop := fun _ => False
noncomputable def Po.Of (P : Po) (c : Cx) (f : Flow) (s : Shared) : Prop := match f with
  | .next => ∃ σ, P.next σ ∧ Ok c σ s
  | .brk => ∃ σ, P.brk σ ∧ Ok c σ s
  | .cont => ∃ σ, P.cont σ ∧ Ok c σ s
  | .ret v => ∃ d as, P.ret d ∧ Ok0 c s ∧ Reads s.heap v d as
/-- statements -/
structure Ws (c : Cx) (σ : St) (ss : List Stmt) (P : Po) (X : Exc → Prop) : Prop where
  go : ∀ s (Q : Flow → Shared → Prop) E, Ok c σ s → (∀ f s', P.Of c f s' → Q f s') → Xp c E X → wpAny c.M c.A (execs ss c.env) Q E s
/-- one statement -/
structure W1 (c : Cx) (σ : St) (st : Stmt) (P : Po) (X : Exc → Prop) : Prop where
  go : ∀ s (Q : Flow → Shared → Prop) E, Ok c σ s → (∀ f s', P.Of c f s' → Q f s') → Xp c E X → wpAny c.M c.A (exec st c.env) Q E s
/-- a call -/
noncomputable def Room (A : Around) (fr : List Env) (n : Nat) : Prop := A.handled = none ∧ A.frames = some fr ∧ A.depth + n ≤ 900 ∧ A.units + 8 * n ≤ 9000
structure Wf (prog : Program) (w : World) (base : Heap) (f : Addr) (n : Nat) (ds : List PyData) (Φ : PyData → Prop) (X : Exc → Prop) : Prop where
  go : ∀ (s : Shared) (A : Around) (fr : List Env) (vs : List Value) (as : List Addr) (R : Result → Shared → Prop),
    Room A fr n → base.StaysIn s.heap → base.objs.size ≤ s.heap.objs.size → s.heap.FunFrames base fr → ReadsAll s.heap vs ds as →
    (∀ v d bs s', Φ d → Rest s s' → base.StaysIn s'.heap → Kp s.heap s'.heap → Reads s'.heap v d bs → R (.ok (.ret v)) s') →
    (∀ x v s', X x → Rest s s' → base.StaysIn s'.heap → Kp s.heap s'.heap → Flies raisedAt (fun a => s.heap.get? a = none) s'.heap (some .none) v x → R (.error v) s') →
    codeAny (model prog w) A (.call (.ref f) ⟨vs, []⟩) R s
end Mine
end

section
set_option maxRecDepth 100000
set_option linter.unusedVariables false
namespace Mine
open PySem PySem.Spec PySem.Calls PyProof.Rows PySem.W


noncomputable def allStr : List PyData → Bool
  | [] => true
  | .str _ :: r => allStr r
  | _ => false
noncomputable def anyEq (x : Str) : List PyData → Bool
  | [] => false
  | .str y :: r => (y == x) || anyEq x r
  | _ :: r => anyEq x r
theorem allStr_of : ∀ {ds : List PyData}, allStr ds = true → ∀ x, ∃ ys : List Str, ds = ys.map .str ∧ anyEq x ds = ys.any (· == x)
  | [], _, x => ⟨[], rfl, rfl⟩
  | .str y :: r, h, x => by
    obtain ⟨ys, h1, h2⟩ := allStr_of (ds := r) h x
    exact ⟨y :: ys, by rw [h1]; rfl, by rw [anyEq, h2]; rfl⟩
  | .none :: _, h, _ => by cases h
  | .bool _ :: _, h, _ => by cases h
  | .int _ :: _, h, _ => by cases h
  | .list _ :: _, h, _ => by cases h
  | .tuple _ :: _, h, _ => by cases h
  | .dict _ :: _, h, _ => by cases h
noncomputable def catS (x y : Str) : Str := ⟨(x.cps.toList ++ y.cps.toList).toArray⟩
theorem str_app (x y : Str) : x ++ y = catS x y := by
  apply Str.ext'
  show x.cps ++ y.cps = _
  apply Array.ext'
  simp [catS]


noncomputable def TwoP (a b : PyData) (I : Int → Int → Prop) (T : Str → Str → Prop) : Prop := match a with
  | .int x => (match b with | .int y => I x y | _ => False)
  | .str x => (match b with | .str y => T x y | _ => False)
  | _ => False
noncomputable def ListP (a b : PyData) (I : Int → Int → Prop) (T : Str → Str → Prop) (L : List PyData → List PyData → Prop) : Prop := match a with
  | .list x => (match b with | .list y => L x y | _ => False)
  | _ => TwoP a b I T
noncomputable def BinP (op : Operator) (a b : PyData) (Φ : PyData → Prop) : Prop := match op with
  | .Add => ListP a b (fun x y => Φ (.int (x + y))) (fun x y => x.cps.size + y.cps.size ≤ 2000000 ∧ Φ (.str (catS x y))) (fun xs ys => xs.length + ys.length ≤ sizeLine ∧ Φ (.list (xs ++ ys)))
  | .Sub => TwoP a b (fun x y => Φ (.int (x - y))) (fun _ _ => False)
  | .Mult => TwoP a b (fun x y => IntMulOk x y ∧ Φ (.int (x * y))) (fun _ _ => False)
  | .Mod => TwoP a b (fun x y => y ≠ 0 ∧ Φ (.int (x.fmod y))) (fun _ _ => False)
  | .FloorDiv => TwoP a b (fun x y => (y ≠ 0 ∧ Builtin.divisionGoesByPylong x y = false) ∧ Φ (.int (x.fdiv y))) (fun _ _ => False)
  | _ => False
noncomputable def InP (a b : PyData) (Φ : Bool → Prop) : Prop := match a with
  | .str y => (match b with
    | .str x => Φ (!(Builtin.Str.occurrences x y 0 x.length 1).isEmpty)
    | .tuple ds => allStr ds = true ∧ Φ (anyEq y ds)
    | _ => False)
  | _ => False
noncomputable def CmpP (op : CmpOp) (a b : PyData) (Φ : Bool → Prop) : Prop := match op with
  | .Eq => TwoP a b (fun x y => Φ (x == y)) (fun x y => Φ (x == y))
  | .NotEq => TwoP a b (fun x y => Φ (x != y)) (fun x y => Φ (x != y))
  | .Lt => TwoP a b (fun x y => Φ (decide (x < y))) (fun _ _ => False)
  | .LtE => TwoP a b (fun x y => Φ (decide (x ≤ y))) (fun _ _ => False)
  | .Gt => TwoP a b (fun x y => Φ (decide (y < x))) (fun _ _ => False)
  | .GtE => TwoP a b (fun x y => Φ (decide (y ≤ x))) (fun _ _ => False)
  | .In => InP a b Φ
  | _ => False
theorem rd_int {h : Heap} {v : Value} {x : Int} {as : List Addr} : Reads h v (.int x) as → ∃ t, v = .int x t
  | .int _ t => ⟨t, rfl⟩
theorem rd_str {h : Heap} {v : Value} {x : Str} {as : List Addr} : Reads h v (.str x) as → ∃ t, v = .str x t
  | .str _ t => ⟨t, rfl⟩
theorem TwoP.go {da db : PyData} {I : Int → Int → Prop} {T : Str → Str → Prop} {R : Value → Value → Prop} (h : TwoP da db I T) (hi : ∀ x y t u, I x y → R (.int x t) (.int y u)) (ht : ∀ x y t u, T x y → R (.str x t) (.str y u))
    {hp : Heap} {a b : Value} {as bs : List Addr} (ra : Reads hp a da as) (rb : Reads hp b db bs) : R a b := by
  cases da with
  | int x =>
    cases db with
    | int y => obtain ⟨t, rfl⟩ := rd_int ra; obtain ⟨u, rfl⟩ := rd_int rb; exact hi _ _ _ _ h
    | _ => exact h.elim
  | str x =>
    cases db with
    | str y => obtain ⟨t, rfl⟩ := rd_str ra; obtain ⟨u, rfl⟩ := rd_str rb; exact ht _ _ _ _ h
    | _ => exact h.elim
  | _ => exact h.elim
theorem ListP.or {da db : PyData} {I : Int → Int → Prop} {T : Str → Str → Prop} {L : List PyData → List PyData → Prop} (h : ListP da db I T L) : TwoP da db I T ∨ ∃ x y, da = .list x ∧ db = .list y ∧ L x y := by
  cases da with
  | list x =>
    cases db with
    | list y => exact .inr ⟨x, y, rfl, rfl, h⟩
    | _ => exact h.elim
  | _ => exact .inl h

theorem readsAll_append {h : Heap} {vs ws : List Value} {ds es : List PyData} {as bs : List Addr} (a : ReadsAll h vs ds as) (r : ReadsAll h ws es bs) : ∃ cs, ReadsAll h (vs ++ ws) (ds ++ es) cs :=
  readsAll_ind (R := fun vs ds _ => ∃ cs, ReadsAll h (vs ++ ws) (ds ++ es) cs) ⟨bs, r⟩ (fun a ⟨_, q⟩ => ⟨_, .cons a q⟩) a
theorem strsAre_of {h : Heap} {ys : List Str} : ∀ {vs : List Value} {as : List Addr}, ReadsAll h vs (ys.map PyData.str) as → StrsAre vs ys := by
  induction ys with
  | nil => intro vs as h; cases h; exact .nil
  | cons y ys ih =>
    intro vs as h
    cases h with
    | cons a b => obtain ⟨t, rfl⟩ := rd_str a; exact .cons _ t (ih b)

section
variable {c : Cx} {σ : St} {s : Shared} {Q : Value → Shared → Prop} {E : Value → Shared → Prop} {Φ : PyData → Prop}
theorem Sp.tok {v : Value} {d : PyData} (sp : Sp c σ s Q Φ) (ok : Ok c σ s) (h : Φ d) (t : Nat) (r : Reads s.heap v d []) : Q v { s with toks := t } := sp _ _ _ _ h (ok.tok t) (.refl _) r
theorem Sp.now {v : Value} {d : PyData} {as : List Addr} (sp : Sp c σ s Q Φ) (ok : Ok c σ s) (h : Φ d) (r : Reads s.heap v d as) : Q v s := sp _ _ _ _ h ok (.refl _) r
theorem Sp.of {s₁ : Shared} (sp : Sp c σ s Q Φ) (k : Kp s.heap s₁.heap) : Sp c σ s₁ Q Φ := fun v d as s' h o k' r => sp v d as s' h o (k.trans k') r

theorem concat_ok {a b : Value} {xs ys : List PyData} {as bs : List Addr} (hz0 : xs.length + ys.length ≤ sizeLine) (h : Φ (.list (xs ++ ys))) (ra : Reads s.heap a (.list xs) as) (rb : Reads s.heap b (.list ys) bs) (ok : Ok c σ s) (sp : Sp c σ s Q Φ) :
    wpAny c.M c.A (binaryOp .Add a b) Q E s := by
  cases ra with
  | list ho hc hd r =>
    cases rb with
    | list ho2 hc2 hd2 r2 =>
      rename_i l o vs n as' l2 o2 vs2 n2 as2
      obtain ⟨cls, dd, data, sl⟩ := o
      obtain ⟨cls2, dd2, data2, sl2⟩ := o2
      simp only at hc hd hc2 hd2
      subst hc hd hc2 hd2
      have hz : vs.size + vs2.size ≤ sizeLine := by
        rw [← Array.length_toList, ← Array.length_toList, readsAll_length r, readsAll_length r2]; exact hz0
      refine concat_meets ⟨_, ho, rfl⟩ ⟨_, ho2, rfl⟩ noFill_list_add seq_list_add PySem.F.slot_list_add PySem.F.entry_list_add (PySem.F.args_list_add_2 _ _) (list_addW l l2 vs vs2 n n2 dd dd2 sl sl2 hz) ⟨ho, ho2, ?_⟩
      obtain ⟨cs, rr⟩ := readsAll_append (readsAll_kp (Kp.push s.heap { cls := .type "list", data := .seq (vs ++ vs2) }) r) (readsAll_kp (Kp.push s.heap { cls := .type "list", data := .seq (vs ++ vs2) }) r2)
      exact sp _ _ _ _ h (ok.push _ _) (Kp.push _ _) (.list (Heap.get?_push_size _ rfl) rfl rfl (by rw [Array.toList_append]; exact rr))
theorem sz_line {x y : Str} (h : x.cps.size + y.cps.size ≤ 2000000) : x.length + y.length ≤ sizeLine := by
  rw [sizeLine_eq]; exact Nat.le_trans h (by decide)
theorem binary {op : Operator} {a b : Value} {da db : PyData} {as bs : List Addr} (h : BinP op da db Φ) (ra : Reads s.heap a da as) (rb : Reads s.heap b db bs) (ok : Ok c σ s) (sp : Sp c σ s Q Φ) :
    wpAny c.M c.A (binaryOp op a b) Q E s := by
  cases op with
  | Add =>
    rcases ListP.or h with h | ⟨x, y, rfl, rfl, hz, h⟩
    · exact h.go (R := fun a b => wpAny c.M c.A (binaryOp .Add a b) Q E s) (fun x y t u h => PyProof.Rows.add_int (sp.tok ok h _ (.int _ _)))
        (fun x y t u h => PyProof.Rows.add_str (fun t' tk => by rw [str_app]; exact sp.tok ok h.2 _ (.str _ _)) (sz_line h.1)) ra rb
    · exact concat_ok hz h ra rb ok sp
  | Sub => exact TwoP.go (R := fun a b => wpAny c.M c.A (binaryOp .Sub a b) Q E s) h (fun x y t u h => PyProof.Rows.sub_int (sp.tok ok h _ (.int _ _))) (fun _ _ _ _ h => h.elim) ra rb
  | Mult => exact TwoP.go (R := fun a b => wpAny c.M c.A (binaryOp .Mult a b) Q E s) h (fun x y t u h => PyProof.Rows.mul_int (sp.tok ok h.2 _ (.int _ _)) h.1) (fun _ _ _ _ h => h.elim) ra rb
  | Mod => exact TwoP.go (R := fun a b => wpAny c.M c.A (binaryOp .Mod a b) Q E s) h (fun x y t u h => mod_int' h.1 (sp.tok ok h.2 _ (.int _ _))) (fun _ _ _ _ h => h.elim) ra rb
  | FloorDiv => exact TwoP.go (R := fun a b => wpAny c.M c.A (binaryOp .FloorDiv a b) Q E s) h (fun x y t u h => floordiv_int h.1.1 (sp.tok ok h.2 _ (.int _ _)) (.inl h.1.2)) (fun _ _ _ _ h => h.elim) ra rb
  | _ => exact h.elim
theorem inplace {op : Operator} {a b : Value} {da db : PyData} {as bs : List Addr} (h : BinP op da db Φ) (hop : op = .Add ∨ op = .Sub) (hl : ∀ l, da ≠ .list l) (ra : Reads s.heap a da as) (rb : Reads s.heap b db bs) (ok : Ok c σ s) (sp : Sp c σ s Q Φ) :
    wpAny c.M c.A (inplaceOp op a b) Q E s := by
  rcases hop with rfl | rfl
  · rcases ListP.or h with h | ⟨x, y, rfl, rfl, _⟩
    · exact h.go (R := fun a b => wpAny c.M c.A (inplaceOp .Add a b) Q E s) (fun x y t u h => PyProof.Rows.iadd_int (sp.tok ok h _ (.int _ _)))
        (fun x y t u h => PyProof.Rows.iadd_str (fun t' tk => by rw [str_app]; exact sp.tok ok h.2 _ (.str _ _)) (sz_line h.1)) ra rb
    · exact absurd rfl (hl _)
  · exact TwoP.go (R := fun a b => wpAny c.M c.A (inplaceOp .Sub a b) Q E s) h (fun x y t u h => PyProof.Rows.isub_int (sp.tok ok h _ (.int _ _))) (fun _ _ _ _ h => h.elim) ra rb

theorem compare {op : CmpOp} {a b : Value} {da db : PyData} {as bs : List Addr} {Φ : Bool → Prop} (h : CmpP op da db Φ) (ra : Reads s.heap a da as) (rb : Reads s.heap b db bs) (hq : ∀ b, Φ b → Q (.bool b) s) :
    wpAny c.M c.A (compareOp op a b) Q E s := by
  cases op with
  | Eq => exact TwoP.go (R := fun a b => wpAny c.M c.A (compareOp .Eq a b) Q E s) h (fun x y t u h => PyProof.Rows.eq_int (hq _ h)) (fun x y t u h => eq_str (hq _ h)) ra rb
  | NotEq => exact TwoP.go (R := fun a b => wpAny c.M c.A (compareOp .NotEq a b) Q E s) h (fun x y t u h => PyProof.Rows.ne_int (hq _ h)) (fun x y t u h => ne_str (hq _ h)) ra rb
  | Lt => exact TwoP.go (R := fun a b => wpAny c.M c.A (compareOp .Lt a b) Q E s) h (fun x y t u h => PyProof.Rows.lt_int (hq _ h)) (fun _ _ _ _ h => h.elim) ra rb
  | LtE => exact TwoP.go (R := fun a b => wpAny c.M c.A (compareOp .LtE a b) Q E s) h (fun x y t u h => PyProof.Rows.le_int (hq _ h)) (fun _ _ _ _ h => h.elim) ra rb
  | Gt => exact TwoP.go (R := fun a b => wpAny c.M c.A (compareOp .Gt a b) Q E s) h (fun x y t u h => PyProof.Rows.gt_int (hq _ h)) (fun _ _ _ _ h => h.elim) ra rb
  | GtE => exact TwoP.go (R := fun a b => wpAny c.M c.A (compareOp .GtE a b) Q E s) h (fun x y t u h => PyProof.Rows.ge_int (hq _ h)) (fun _ _ _ _ h => h.elim) ra rb
  | In =>
    cases da with
    | str y =>
      obtain ⟨t, rfl⟩ := rd_str ra
      cases db with
      | str x => obtain ⟨u, rfl⟩ := rd_str rb; exact in_str (hq _ h)
      | tuple ds =>
        obtain ⟨h1, h⟩ := h
        obtain ⟨ys, rfl, h2⟩ := allStr_of h1 y
        rw [h2] at h
        cases rb with
        | tuple ho hc hd r => exact in_tuple_strs ⟨_, ho, hc, _, hd⟩ (strsAre_of r) (hq _ h)
      | _ => exact h.elim
    | _ => exact h.elim
  | _ => exact h.elim
end

section
variable {c : Cx} {σ : St} {Φ : PyData → Prop} {X : Exc → Prop}

theorem We.cint {n k p} (h : Φ (.int n)) : We c σ (.Constant (.int n) k p) Φ X := ⟨fun s Q E ok sp _ => wpAny_Constant_int (sp.tok ok h _ (.int _ _))⟩
theorem We.cstr {n k p} (h : Φ (.str n)) : We c σ (.Constant (.str n) k p) Φ X := ⟨fun s Q E ok sp _ => wpAny_Constant_str (sp.tok ok h _ (.str _ _))⟩
theorem We.cbool {n k p} (h : Φ (.bool n)) : We c σ (.Constant (.bool n) k p) Φ X := ⟨fun s Q E ok sp _ => wpAny_Constant_bool (sp.now ok h (.bool _))⟩
theorem We.cnone {k p} (h : Φ .none) : We c σ (.Constant .none k p) Φ X := ⟨fun s Q E ok sp _ => wpAny_Constant_none (sp.now ok h .none)⟩
theorem We.name (hc : CxOk c) {x p d} (hl : σ.vars.lookup x = some d) (h : Φ d) (hk : c.env.kindOf x = some .local := by rfl) (hd : (x == ("__debug__" : Str)) = false := by rfl) : We c σ (.Name x p) Φ X := ⟨fun s Q E ok sp _ => by
  obtain ⟨m, ms⟩ := ok.ms
  obtain ⟨v, as, hm, hr, _⟩ := ms.vars x d hl
  exact wpAny_Name (wpAny_loadName_local hc.kind hk ms.ns hm (sp.now ok h hr)) hd⟩
theorem We.own (hc : CxOk c) {x p a l} (ho : σ.own = some ⟨x, a, l⟩) (h : Φ (.list l)) (hx : x ≠ Str.empty := by decide) (hk : c.env.kindOf x = some .local := by rfl) (hd : (x == ("__debug__" : Str)) = false := by rfl) : We c σ (.Name x p) Φ X := ⟨fun s Q E ok sp _ => by
  obtain ⟨m, ms⟩ := ok.ms
  obtain ⟨h1, _, _, o, vs, n, ho', hcl, _, hd', hr, _⟩ := ms.own _ ho
  exact wpAny_Name (wpAny_loadName_local hc.kind hk ms.ns (h1.resolve_left hx) (sp.now ok h (.list ho' hcl hd' hr))) hd⟩
/-- a value of the top -/
theorem We.glob (hc : CxOk c) {x p v d} (hn : nsIn c.K mainGlobals x = some (some v)) (hr : ∀ h, c.base.StaysIn h → ∃ as, Reads h v d as) (h : Φ d) (hk : c.env.kindOf x = some .globalImplicit := by rfl) (hd : (x == ("__debug__" : Str)) = false := by rfl) :
    We c σ (.Name x p) Φ X := ⟨fun s Q E ok sp _ => by
  obtain ⟨m, ms, F⟩ := ok.fr hc
  obtain ⟨p', loose, mg, mb, T⟩ := hc.gb.top
  obtain ⟨as, r⟩ := hr s.heap ok.zero.stays
  exact name_K F hc.gb.kin T hn (sp.now ok h r) hc.kind hk hd⟩
theorem We.gstr (hc : CxOk c) {x p y t} (hn : nsIn c.K mainGlobals x = some (some (.str y t))) (h : Φ (.str y)) (hk : c.env.kindOf x = some .globalImplicit := by rfl) (hd : (x == ("__debug__" : Str)) = false := by rfl) :
    We c σ (.Name x p) Φ X := We.glob hc hn (fun _ _ => ⟨_, .str _ _⟩) h hk hd

theorem We.bin {a b op p} (h : We c σ a (fun da => We c σ b (fun db => BinP op da db Φ) X) X) : We c σ (.BinOp a op b p) Φ X := ⟨fun s Q E ok sp xp =>
  wpAny_BinOp (h.go s _ E ok (fun va da as s₁ h₁ ok₁ k₁ r₁ => h₁.go s₁ _ E ok₁ (fun vb db bs s₂ h₂ ok₂ k₂ r₂ => binary h₂ (reads_kp k₂ r₁) r₂ ok₂ (sp.of (k₁.trans k₂))) xp) xp)⟩
theorem We.neg {n k p p'} (h : Φ (.int (-n))) : We c σ (.UnaryOp .USub (.Constant (.int n) k p) p') Φ X := ⟨fun s Q E ok sp xp =>
  wpAny_UnaryOp (wpAny_Constant_int (PyProof.Rows.neg_int (sp.tok ok h _ (.int _ _))))⟩
theorem We.cmp {a b op p} (h : We c σ a (fun da => We c σ b (fun db => CmpP op da db (fun x => Φ (.bool x))) X) X) (hm : behindInMarks op b = false := by rfl) : We c σ (.Compare a [op] [b] p) Φ X := ⟨fun s Q E ok sp xp =>
  wpAny_Compare1 (h.go s _ E ok (fun va da as s₁ h₁ ok₁ k₁ r₁ => h₁.go s₁ _ E ok₁ (fun vb db bs s₂ h₂ ok₂ k₂ r₂ => compare h₂ (reads_kp k₂ r₁) r₂ fun x hx => sp _ _ _ _ hx ok₂ (k₁.trans k₂) (.bool _)) xp) xp) hm⟩
theorem We.ite {t a b p} (h : Wt c σ t (fun x => if x = true then We c σ a Φ X else We c σ b Φ X) X) : We c σ (.IfExp t a b p) Φ X := ⟨fun s Q E ok sp xp =>
  wpAny_IfExp (h.go s _ E ok (fun x s₁ h₁ ok₁ k₁ => by
    cases x with
    | true => exact h₁.go s₁ Q E ok₁ (sp.of k₁) xp
    | false => exact h₁.go s₁ Q E ok₁ (sp.of k₁) xp) xp)⟩
theorem Was.nil {Φ : List PyData → Prop} (h : Φ []) : Was c σ [] Φ X := ⟨fun pos s Q E ok hq _ => spliced_nil (hq _ _ _ _ h ok (.refl _) .nil)⟩
theorem Was.cons {Φ : List PyData → Prop} {e es} (h : We c σ e (fun d => Was c σ es (fun ds => Φ (d :: ds)) X) X) (hs : starEach (e :: es) c.env = (false, eval e c.env) :: starEach es c.env := by rfl) : Was c σ (e :: es) Φ X := ⟨fun pos s Q E ok hq xp => by
  rw [hs]
  refine spliced_cons ?_
  refine h.go s _ E ok (fun v d as s₁ h₁ ok₁ k₁ r₁ => ?_) xp
  exact h₁.go pos s₁ _ E ok₁ (fun vs ds bs s₂ h₂ ok₂ k₂ r₂ => hq _ _ _ _ h₂ ok₂ (k₁.trans k₂) (.cons (reads_kp k₂ r₁) r₂)) xp⟩
theorem size_of_ds {h : Heap} {vs : List Value} {ds : List PyData} {as : List Addr} (r : ReadsAll h vs ds as) (hz : ds.length ≤ 100) : vs.length ≤ sizeLine := by
  rw [readsAll_length r, sizeLine_eq]; omega
theorem We.tuple {es k p} (h : Was c σ es (fun ds => ds.length ≤ 100 ∧ Φ (.tuple ds)) X) : We c σ (.Tuple es k p) Φ X := ⟨fun s Q E ok sp xp =>
  wpAny_Tuple (h.go p s _ E ok (fun vs ds as s₁ h₁ ok₁ k₁ r₁ => ⟨size_of_ds r₁ h₁.1, sp _ _ _ _ h₁.2 (ok₁.push _ _) (k₁.trans (.push _ _)) (.tuple (Heap.get?_push_size _ rfl) rfl rfl (by
    exact readsAll_kp (.push _ _) r₁))⟩) xp)⟩
theorem We.list {es p} (h : Was c σ es (fun ds => ds.length ≤ 100 ∧ Φ (.list ds)) X) : We c σ (.List es p) Φ X := ⟨fun s Q E ok sp xp =>
  wpAny_List (h.go p s _ E ok (fun vs ds as s₁ h₁ ok₁ k₁ r₁ => ⟨size_of_ds r₁ h₁.1, sp _ _ _ _ h₁.2 (ok₁.push _ _) (k₁.trans (.push _ _)) (.list (Heap.get?_push_size _ rfl) rfl rfl (by
    exact readsAll_kp (.push _ _) r₁))⟩) xp)⟩
/-! tests -/
theorem Wt.not {e p} {Φ : Bool → Prop} (h : Wt c σ e (fun b => Φ (!b)) X) : Wt c σ (.UnaryOp .Not e p) Φ X := ⟨fun s Q E ok hq xp =>
  wpAny_isTrue_Not (h.go s _ E ok (fun b s' hb o k => hq _ s' hb o k) xp)⟩
theorem Wt.and1 {e p} {Φ : Bool → Prop} (h : Wt c σ e Φ X) : Wt c σ (.BoolOp .And [e] p) Φ X := ⟨fun s Q E ok hq xp =>
  wpAny_isTrue_BoolOp (wpAny_allTrue_And_cons (h.go s _ E ok (fun b s' hb o k => by
    cases b with
    | true => exact wpAny_allTrue_And_nil (hq _ _ hb o k)
    | false => exact hq _ _ hb o k) xp))⟩
theorem Wt.and {e e' es p} {Φ : Bool → Prop} (h : Wt c σ e (fun b => if b = true then Wt c σ (.BoolOp .And (e' :: es) p) Φ X else Φ false) X) : Wt c σ (.BoolOp .And (e :: e' :: es) p) Φ X := ⟨fun s Q E ok hq xp =>
  wpAny_isTrue_BoolOp (wpAny_allTrue_And_cons (h.go s _ E ok (fun b s' hb o k => by
    cases b with
    | true => exact (hb : Wt c σ (.BoolOp .And (e' :: es) p) Φ X).go s' Q E o (fun b s'' hb' o' k' => hq _ _ hb' o' (k.trans k')) xp
    | false => exact hq _ _ hb o k) xp))⟩
theorem Wt.or1 {e p} {Φ : Bool → Prop} (h : Wt c σ e Φ X) : Wt c σ (.BoolOp .Or [e] p) Φ X := ⟨fun s Q E ok hq xp =>
  wpAny_isTrue_BoolOp (wpAny_allTrue_Or_cons (h.go s _ E ok (fun b s' hb o k => by
    cases b with
    | true => exact hq _ _ hb o k
    | false => exact wpAny_allTrue_Or_nil (hq _ _ hb o k)) xp))⟩
theorem Wt.or {e e' es p} {Φ : Bool → Prop} (h : Wt c σ e (fun b => if b = true then Φ true else Wt c σ (.BoolOp .Or (e' :: es) p) Φ X) X) : Wt c σ (.BoolOp .Or (e :: e' :: es) p) Φ X := ⟨fun s Q E ok hq xp =>
  wpAny_isTrue_BoolOp (wpAny_allTrue_Or_cons (h.go s _ E ok (fun b s' hb o k => by
    cases b with
    | true => exact hq _ _ hb o k
    | false => exact (hb : Wt c σ (.BoolOp .Or (e' :: es) p) Φ X).go s' Q E o (fun b s'' hb' o' k' => hq _ _ hb' o' (k.trans k')) xp) xp))⟩
theorem Wt.cmp {a b op p} {Φ : Bool → Prop} (h : We c σ a (fun da => We c σ b (fun db => CmpP op da db Φ) X) X) (hm : behindInMarks op b = false := by rfl) : Wt c σ (.Compare a [op] [b] p) Φ X := ⟨fun s Q E ok hq xp =>
  wpAny_isTrue_Compare1 (h.go s _ E ok (fun va da as s₁ h₁ ok₁ k₁ r₁ => h₁.go s₁ _ E ok₁ (fun vb db bs s₂ h₂ ok₂ k₂ r₂ => compare h₂ (reads_kp k₂ r₁) r₂ fun x hx => wpAny_truthy_bool (hq _ _ hx ok₂ (k₁.trans k₂))) xp) xp) hm⟩
/-- an expression that gives a bool, as a test -/
theorem Wt.val {e} {Φ : Bool → Prop} (h : We c σ e (fun d => ∃ b, d = .bool b ∧ Φ b) X) (hi : ∀ s Q E, wpAny c.M c.A (eval e c.env) (fun v s₁ => wpAny c.M c.A (truthy v) Q E s₁) E s → wpAny c.M c.A (PySem.isTrue e c.env (eval e c.env)) Q E s := by exact fun _ _ _ h => wpAny_isTrue_value h) :
    Wt c σ e Φ X := ⟨fun s Q E ok hq xp => hi s Q E (h.go s _ E ok (fun v d as s₁ h₁ ok₁ k₁ r₁ => by
  obtain ⟨b, rfl, hb⟩ := h₁
  cases r₁
  exact wpAny_truthy_bool (hq _ _ hb ok₁ k₁)) xp)⟩
end
end Mine
end

section
set_option maxRecDepth 100000
set_option linter.unusedVariables false
set_option linter.unusedSimpArgs false
namespace Mine
open PySem PySem.Spec PySem.Calls PyProof.Rows PySem.W

/-- the text with these codes -/
@[reducible] def S (l : List Nat) : Str := ⟨l.toArray⟩
theorem S_append (a b : List Nat) : S a ++ S b = S (a ++ b) := by
  apply Str.ext'
  show (S a).cps ++ (S b).cps = _
  simp [S]
theorem S_len (a : List Nat) : (S a).length = a.length := by simp [S, Str.length]
theorem S_inj {a b : List Nat} (h : S a = S b) : a = b := by
  have := congrArg (fun x : Str => x.cps.toList) h
  simpa [S] using this
theorem S_beq (a b : List Nat) : (S a == S b) = decide (a = b) := by
  by_cases h : a = b
  · subst h; simp
  · rw [decide_eq_false h]
    exact beq_eq_false_iff_ne.mpr fun q => h (S_inj q)

theorem map_range_get (l : List Nat) : ∀ (a k : Nat), ((List.range k).map fun j => a + j).filterMap (l[·]?) = (l.drop a).take k := by
  intro a k
  induction k generalizing a with
  | zero => simp
  | succ k ih =>
    rw [List.range_succ_eq_map, List.map_cons, List.filterMap_cons, List.map_map]
    have e : ((fun j => a + j) ∘ Nat.succ) = fun j => (a + 1) + j := by funext j; simp [Function.comp]; omega
    rw [e, ih (a + 1)]
    cases h : l[a]? with
    | none =>
      have hl : l.length ≤ a := by simpa using h
      simp only [Nat.add_zero, h]
      rw [List.drop_eq_nil_of_le hl, List.drop_eq_nil_of_le (by omega)]; simp
    | some x =>
      have hl : a < l.length := by
        cases Nat.lt_or_ge a l.length with
        | inl q => exact q
        | inr q => rw [List.getElem?_eq_none q] at h; cases h
      have hx : l[a] = x := by rw [List.getElem?_eq_getElem hl] at h; exact Option.some.inj h
      simp only [Nat.add_zero, h]
      rw [List.drop_eq_getElem_cons hl, List.take_succ_cons, hx]
theorem range_one (a b : Nat) : sliceRange (a : Int) (b : Int) 1 = (List.range (b - a)).map fun j => a + j := by
  unfold sliceRange
  have e : ((if (1 : Int) > 0 then (if (a : Int) < b then ((b : Int) - a + 1 - 1) / 1 else 0) else (if (a : Int) > b then ((a : Int) - b - 1 - 1) / (-1) else 0))).toNat = b - a := by
    rw [if_pos (by decide)]
    split
    · rw [Int.add_sub_cancel, Int.ediv_one, Int.toNat_sub]
    · rename_i h
      rw [Nat.sub_eq_zero_of_le (Int.ofNat_le.mp (Int.not_lt.mp h))]; rfl
  simp only [e]
  apply List.map_congr_left
  intro k _
  rw [Int.one_mul]; exact Int.toNat_natCast (a + k)
theorem clip (a n : Nat) : max 0 (min (a : Int) (n : Int)) = ((min a n : Nat) : Int) := by
  rw [Int.max_eq_right (Int.le_min.mpr ⟨Int.natCast_nonneg _, Int.natCast_nonneg _⟩)]; rcases Nat.le_total a n with h | h
  · rw [Int.min_eq_left (Int.ofNat_le.mpr h), Nat.min_eq_left h]
  · rw [Int.min_eq_right (Int.ofNat_le.mpr h), Nat.min_eq_right h]
theorem slice_nn (l : List Nat) (i j : Nat) : Txt.slice (S l) (some (i : Int)) (some (j : Int)) = S ((l.drop i).take (j - i)) := by
  have hidx : Builtin.Str.strSliceIndices (some (i : Int)) (some (j : Int)) 1 l.length = (List.range (min j l.length - min i l.length)).map fun k => min i l.length + k := by
    unfold Builtin.Str.strSliceIndices
    simp only [if_neg (Int.not_lt.mpr (Int.natCast_nonneg i)), if_neg (Int.not_lt.mpr (Int.natCast_nonneg j)), show (1 : Int) > 0 from by decide, if_true]
    rw [clip, clip]
    exact range_one _ _
  have hcut : ((List.range (min j l.length - min i l.length)).map fun k => min i l.length + k).filterMap (l[·]?) = (l.drop i).take (j - i) := by
    rw [map_range_get]
    rcases Nat.lt_or_ge i l.length with h | h
    · rw [Nat.min_eq_left (Nat.le_of_lt h)]
      rcases Nat.lt_or_ge j l.length with h2 | h2
      · rw [Nat.min_eq_left (Nat.le_of_lt h2)]
      · rw [Nat.min_eq_right h2, List.take_of_length_le (Nat.le_of_eq List.length_drop), List.take_of_length_le (Nat.le_trans (Nat.le_of_eq List.length_drop) (Nat.sub_le_sub_right h2 i))]
    · rw [Nat.min_eq_right h, List.drop_eq_nil_of_le (Nat.le_refl _), List.drop_eq_nil_of_le h]; simp
  have e : (fun x : Nat => (S l).cps[x]?) = fun x => l[x]? := by funext x; simp [S]
  unfold Txt.slice
  rw [S_len, hidx]
  split
  · rename_i h
    simp only [beq_self_eq_true, Bool.true_and, beq_iff_eq, List.length_map, List.length_range] at h
    have h0 : i = 0 ∨ l = [] := by
      rcases Nat.eq_zero_or_pos i with q | q
      · exact .inl q
      · refine .inr (List.length_eq_zero_iff.mp (Nat.eq_zero_of_not_pos fun w => ?_))
        have q2 : min j l.length - min i l.length ≤ l.length - min i l.length := Nat.sub_le_sub_right (Nat.min_le_right _ _) _
        rw [h] at q2
        exact absurd q2 (Nat.not_le_of_lt (Nat.sub_lt w (Nat.lt_min.mpr ⟨q, w⟩)))
    rcases h0 with rfl | rfl
    · rw [Nat.zero_min, Nat.sub_zero] at h
      rw [List.drop_zero, List.take_of_length_le (h ▸ Nat.min_le_left _ _)]
    · simp
  · rw [e, hcut]
theorem slice_ss (l : List Nat) (i j : Int) (hi : 0 ≤ i) (hj : 0 ≤ j) : Txt.slice (S l) (some i) (some j) = S ((l.drop i.toNat).take (j.toNat - i.toNat)) := by
  obtain ⟨i, rfl⟩ := Int.eq_ofNat_of_zero_le hi
  obtain ⟨j, rfl⟩ := Int.eq_ofNat_of_zero_le hj
  exact slice_nn l i j
theorem slice_sn (l : List Nat) (i : Int) (hi : 0 ≤ i) : Txt.slice (S l) (some i) none = S (l.drop i.toNat) := by
  rcases Int.lt_or_le (l.length : Int) i with h | h
  · rw [slice_beyond (by rw [S_len]; omega), List.drop_eq_nil_of_le (by omega)]; rfl
  · rw [slice_from_eq hi (b := (l.length : Int)) (by rw [S_len]; omega) (by rw [S_len])]
    rw [List.take_of_length_le (by simp [S]; omega)]
theorem slice_ns (l : List Nat) (j : Int) (hj : 0 ≤ j) : Txt.slice (S l) none (some j) = S (l.take j.toNat) := by
  have := slice_ss l 0 j (by omega) hj
  have e : Txt.slice (S l) none (some j) = Txt.slice (S l) (some 0) (some j) := by
    unfold Txt.slice
    have : Builtin.Str.strSliceIndices none (some j) 1 (S l).length = Builtin.Str.strSliceIndices (some 0) (some j) 1 (S l).length := by
      unfold Builtin.Str.strSliceIndices
      have e0 : max (0 : Int) (min 0 ((S l).length : Int)) = 0 := by omega
      simp [e0]
    rw [this]
  rw [e, this]; simp

theorem readsAll_get {h : Heap} : ∀ {vs : List Value} {ds : List PyData} {as : List Addr} {i : Nat} {d : PyData}, ReadsAll h vs ds as → ds[i]? = some d → ∃ v bs, vs[i]? = some v ∧ Reads h v d bs
  | _, _, _, _, _, .nil, e => by simp at e
  | v :: _, d' :: _, _, 0, d, .cons (as := as') a b, e => ⟨v, as', rfl, (Option.some.inj (show some d' = some d from e)) ▸ a⟩
  | _, _, _, i + 1, d, .cons a b, e => let ⟨v, bs, h1, h2⟩ := readsAll_get (i := i) b (by simpa using e); ⟨v, bs, by simpa using h1, h2⟩

noncomputable def SubP (a b : PyData) (Φ : PyData → Prop) : Prop := match a, b with
  | .str x, .int i => (-2 ^ 63 ≤ i ∧ i < 2 ^ 63) ∧ ∃ k, ((seqIndex? i x.length).bind fun j => x.cps[j]?) = some k ∧ Φ (.str ⟨#[k]⟩)
  | .tuple ds, .int i => (-2 ^ 63 ≤ i ∧ i < 2 ^ 63) ∧ ∃ j d, seqIndex? i ds.length = some j ∧ ds[j]? = some d ∧ Φ d
  | .list ds, .int i => (0 ≤ i ∧ i < 2 ^ 63) ∧ ∃ d, ds[i.toNat]? = some d ∧ Φ d
  | _, _ => False
theorem SubP.at {l : List Nat} {n : Nat} {Φ : PyData → Prop} (hn : n < l.length) (hz : n < 2 ^ 62) (h : Φ (.str (S [l[n]]))) : SubP (.str (S l)) (.int n) Φ := by
  refine ⟨⟨by omega, by omega⟩, l[n], ?_, h⟩
  have : seqIndex? (n : Int) (S l).length = some n := by
    unfold seqIndex?
    rw [S_len]
    simp; omega
  rw [this]
  simp [S, hn]

section
variable {c : Cx} {σ : St} {Φ : PyData → Prop} {X : Exc → Prop}
theorem We.sub {a b p} (h : We c σ a (fun da => We c σ b (fun db => SubP da db Φ) X) X) (hs : ∀ o i, subscripted b false o i = operate [o, i] (getItem o i) := by intro _ _; rfl) : We c σ (.Subscript a b p) Φ X := ⟨fun s Q E ok sp xp =>
  Subscript_ (h.go s _ E ok (fun va da as s₁ h₁ ok₁ k₁ r₁ => h₁.go s₁ _ E ok₁ (fun vb db bs s₂ h₂ ok₂ k₂ r₂ => by
    have r₁' := reads_kp k₂ r₁
    have sp₂ := sp.of (k₁.trans k₂)
    have h₂ : SubP da db Φ := h₂
    unfold SubP at h₂
    split at h₂
    · cases r₁'; cases r₂
      obtain ⟨⟨b1, b2⟩, k, hk, hΦ⟩ := h₂
      refine tail_any (typeIs_str _ _ _) PySem.F.slot_str_getitem.lookup (getItem_str ?_ hk (sp₂.tok ok₂ hΦ _ (.str _ _))) (hs _ _)
      simp; omega
    · cases r₂
      cases r₁' with
      | tuple ho hc hd r =>
        obtain ⟨⟨b1, b2⟩, j, d, hj, hd', hΦ⟩ := h₂
        obtain ⟨v, bs', hv, hr⟩ := readsAll_get r hd'
        refine item_tupleT (l := Array.toList _) (by rw [Array.toArray_toList]; exact ⟨_, ho, hc, _, hd⟩) b1 b2 (by rw [readsAll_length r]; exact hj) hv (sp₂.now ok₂ hΦ hr) (hs _ _)
    · cases r₂
      cases r₁' with
      | list ho hc hd r =>
        obtain ⟨⟨b1, b2⟩, d, hd', hΦ⟩ := h₂
        obtain ⟨v, bs', hv, hr⟩ := readsAll_get r hd'
        have hl : s₂.heap.IsList _ _ := ⟨_, ho, hc, _, hd⟩
        exact tail_any hl.typeIs slot_list_getitem.lookup (wpAny_getItem_list hl b1 b2 (by simpa using hv) (sp₂.now ok₂ hΦ hr)) (hs _ _)
    · exact h₂.elim) xp) xp)⟩
theorem keptP (h : Heap) (base : Heap) : KeptH (fun h' => Kp h h' ∧ base.StaysIn h') := fun h' ob p => ⟨p.1.trans (.push _ _), fun b o e => Heap.get?_push_of_some _ (p.2 b o e)⟩
theorem Ok.pushP {s : Shared} (o : Ok c σ s) (x : Obj) : Kp s.heap (s.heap.push x) ∧ c.base.StaysIn (s.heap.push x) := ⟨.push _ _, fun b y e => Heap.get?_push_of_some _ (o.zero.stays b y e)⟩

theorem We.sliceFrom {a b p p'} (h : We c σ a (fun da => We c σ b (fun db => ∃ l i, da = .str (S l) ∧ db = .int i ∧ 0 ≤ i ∧ l.length ≤ 1000000 ∧ Φ (.str (S (l.drop i.toNat)))) X) X) (ht : ∀ o r, letTemporaryGo a o r = pure () := by intro _ _; rfl) :
    We c σ (.Subscript a (.Slice (some b) none none p') p) Φ X := ⟨fun s Q E ok sp xp =>
  Subscript_Slice (h.go s _ E ok (fun va da as s₁ h₁ ok₁ k₁ r₁ => by
    show wpAny c.M c.A (do let l ← eval b c.env; let u ← holding [l] (pure Value.none); let st ← holding [l, u] (pure Value.none); newFields "slice" [l, u, st]) _ E s₁
    refine wpAny_bind (h₁.go s₁ _ E ok₁ (fun vb db bs s₂ h₂ ok₂ k₂ r₂ => ?_) xp)
    obtain ⟨l, i, rfl, rfl, hi, hz, hΦ⟩ := h₂
    cases r₁; cases r₂
    refine wpAny_bind (wpAny_holding (wpAny_pure (wpAny_bind (wpAny_holding (wpAny_pure ?_)))))
    refine wpAny_newObj_type ?_
    refine SBH.sliceItem_sn (P := fun h' => Kp s₂.heap h' ∧ c.base.StaysIn h') (keptP _ _) ⟨.refl _, ok₂.zero.stays⟩ (fun h' t' k hp => ?_) (by rw [S_len, sizeLine_eq]; omega)
    rw [slice_sn l i hi]
    exact sp _ _ _ _ hΦ (ok₂.step ⟨rfl, rfl, rfl⟩ hp.1 hp.2) ((k₁.trans k₂).trans hp.1) (.str _ _)) xp) ht⟩
theorem We.sliceTo {a b p p'} (h : We c σ a (fun da => We c σ b (fun db => ∃ l i, da = .str (S l) ∧ db = .int i ∧ 0 ≤ i ∧ l.length ≤ 1000000 ∧ Φ (.str (S (l.take i.toNat)))) X) X) (ht : ∀ o r, letTemporaryGo a o r = pure () := by intro _ _; rfl) :
    We c σ (.Subscript a (.Slice none (some b) none p') p) Φ X := ⟨fun s Q E ok sp xp =>
  Subscript_Slice (h.go s _ E ok (fun va da as s₁ h₁ ok₁ k₁ r₁ => by
    show wpAny c.M c.A (do let l ← pure Value.none; let u ← holding [l] (eval b c.env); let st ← holding [l, u] (pure Value.none); newFields "slice" [l, u, st]) _ E s₁
    refine wpAny_bind (wpAny_pure (wpAny_bind (wpAny_holding (h₁.go s₁ _ E ok₁ (fun vb db bs s₂ h₂ ok₂ k₂ r₂ => ?_) xp))))
    obtain ⟨l, i, rfl, rfl, hi, hz, hΦ⟩ := h₂
    cases r₁; cases r₂
    refine wpAny_bind (wpAny_holding (wpAny_pure ?_))
    refine wpAny_newObj_type ?_
    refine SBH.sliceItem_ns (P := fun h' => Kp s₂.heap h' ∧ c.base.StaysIn h') (keptP _ _) ⟨.refl _, ok₂.zero.stays⟩ (fun h' t' k hp => ?_) (by rw [S_len, sizeLine_eq]; omega)
    rw [slice_ns l i hi]
    exact sp _ _ _ _ hΦ (ok₂.step ⟨rfl, rfl, rfl⟩ hp.1 hp.2) ((k₁.trans k₂).trans hp.1) (.str _ _)) xp) ht⟩
theorem We.slice {a b b2 p p'} (h : We c σ a (fun da => We c σ b (fun db => We c σ b2 (fun db2 => ∃ l i j, da = .str (S l) ∧ db = .int i ∧ db2 = .int j ∧ 0 ≤ i ∧ 0 ≤ j ∧ l.length ≤ 1000000 ∧ Φ (.str (S ((l.drop i.toNat).take (j.toNat - i.toNat))))) X) X) X) (ht : ∀ o r, letTemporaryGo a o r = pure () := by intro _ _; rfl) :
    We c σ (.Subscript a (.Slice (some b) (some b2) none p') p) Φ X := ⟨fun s Q E ok sp xp =>
  Subscript_Slice (h.go s _ E ok (fun va da as s₁ h₁ ok₁ k₁ r₁ => by
    show wpAny c.M c.A (do let l ← eval b c.env; let u ← holding [l] (eval b2 c.env); let st ← holding [l, u] (pure Value.none); newFields "slice" [l, u, st]) _ E s₁
    refine wpAny_bind (h₁.go s₁ _ E ok₁ (fun vb db bs s₂ h₂ ok₂ k₂ r₂ => ?_) xp)
    refine wpAny_bind (wpAny_holding (h₂.go s₂ _ E ok₂ (fun vc db2 cs s₃ h₃ ok₃ k₃ r₃ => ?_) xp))
    obtain ⟨l, i, j, rfl, rfl, rfl, hi, hj, hz, hΦ⟩ := h₃
    cases r₁; cases r₂; cases r₃
    refine wpAny_bind (wpAny_holding (wpAny_pure ?_))
    refine wpAny_newObj_type ?_
    refine SBH.sliceItem_ss (P := fun h' => Kp s₃.heap h' ∧ c.base.StaysIn h') (keptP _ _) ⟨.refl _, ok₃.zero.stays⟩ (fun h' t' k hp => ?_) (by rw [S_len, sizeLine_eq]; omega)
    rw [slice_ss l i j hi hj]
    exact sp _ _ _ _ hΦ (ok₃.step ⟨rfl, rfl, rfl⟩ hp.1 hp.2) (((k₁.trans k₂).trans k₃).trans hp.1) (.str _ _)) xp) ht⟩
end
end Mine
end

section
set_option maxRecDepth 100000
set_option linter.unusedVariables false
set_option linter.unusedSimpArgs false
namespace Mine
open PySem PySem.Spec PySem.Calls PyProof.Rows PySem.W

/-! what holds no fields is kept up to slots -/
noncomputable def Kn (h h' : Heap) : Prop := ∀ b o, (∀ vs, o.data ≠ .fields vs) → h.get? b = some o → ∃ sl, h'.get? b = some { o with slots := sl }
theorem Kn.of (h h' : Heap) (k : Kp h h') : Kn h h' := fun b o _ e => k.get b o e
theorem Kn.trans {h₁ h₂ h₃ : Heap} (x : Kn h₁ h₂) (y : Kn h₂ h₃) : Kn h₁ h₃ := fun b o n e => let ⟨sl₁, e₁⟩ := x b o n e; let ⟨sl, e₂⟩ := y b { o with slots := sl₁ } n e₁; ⟨sl, e₂⟩
theorem Kn.seq {h h' : Heap} (k : Kn h h') {b : Addr} {o : Obj} {vs : Array Value} {n : Nat} (e : h.get? b = some o) (d : o.data = .seq vs n) : ∃ o', h'.get? b = some o' ∧ o'.cls = o.cls ∧ o'.data = o.data ∧ o'.dict = o.dict :=
  let ⟨_, e'⟩ := k b o (fun _ q => by rw [d] at q; cases q) e; ⟨_, e', rfl, rfl, rfl⟩
theorem Kn.dict {h h' : Heap} (k : Kn h h') {b : Addr} {o : Obj} {vs : Array DictEntry} {n : Nat} (e : h.get? b = some o) (d : o.data = .dict vs n) : ∃ o', h'.get? b = some o' ∧ o'.cls = o.cls ∧ o'.data = o.data ∧ o'.dict = o.dict :=
  let ⟨_, e'⟩ := k b o (fun _ q => by rw [d] at q; cases q) e; ⟨_, e', rfl, rfl, rfl⟩
theorem reads_knB {h h' : Heap} (k : Kn h h') : (∀ {v d as}, Reads h v d as → True → Reads h' v d as) ∧ (∀ {vs ds as}, ReadsAll h vs ds as → True → ReadsAll h' vs ds as) :=
  reads_gen (h := h) (h' := h') (C := fun _ _ => True) (D := fun _ _ => True) (fun _ e _ d => ⟨k _ _ (fun _ q => by rw [d] at q; cases q) e, trivial⟩) (fun _ e _ d => ⟨k _ _ (fun _ q => by rw [d] at q; cases q) e, trivial⟩) (fun _ e _ d => ⟨k _ _ (fun _ q => by rw [d] at q; cases q) e, trivial, trivial⟩) (fun _ => ⟨trivial, trivial⟩)
theorem reads_kn {h h' : Heap} (k : Kn h h') {v : Value} {d : PyData} {as : List Addr} (r : Reads h v d as) : Reads h' v d as := (reads_knB k).1 r trivial
theorem readsAll_kn {h h' : Heap} (k : Kn h h') {vs : List Value} {ds : List PyData} {as : List Addr} (r : ReadsAll h vs ds as) : ReadsAll h' vs ds as := (reads_knB k).2 r trivial
theorem Kn.ns {h h' : Heap} {L : Addr} {m : Str → Option Value} (k : Kn h h') (n : h.Ns L m) : h'.Ns L m := by
  obtain ⟨o, es, ep, ho, hd, r⟩ := n
  obtain ⟨o', ho', _, hd', _⟩ := k.dict ho hd
  exact ⟨o', es, ep, ho', hd'.trans hd, r⟩
theorem Kn.ns1 {h h' : Heap} {L : Addr} {m : Str → Option Value} (k : Kn h h') (n : h.Ns1 L m) : h'.Ns1 L m := by
  obtain ⟨o, es, ep, ho, hd, r⟩ := n
  obtain ⟨o', ho', _, hd', _⟩ := k.dict ho hd
  exact ⟨o', es, ep, ho', hd'.trans hd, r⟩
theorem Kn.funFrames {h h' base : Heap} {l : List Env} (k : Kn h h') (f : h.FunFrames base l) : h'.FunFrames base l :=
  f.of_keeps fun b o e n => let ⟨_, e'⟩ := k b o n e; ⟨_, e', rfl⟩

theorem Flies.weaken {C : Addr} {N N' : Addr → Prop} {h : Heap} {tb : Option Value} {v : Value} {x : Exc} (k : ∀ a, N a → N' a) (f : Flies C N h tb v x) : Flies C N' h tb v x := by
  obtain ⟨e, de, oe, vs, mA, h1, h2, h3, h4, h5, h6, h7, h8, r1, ⟨r2, r3⟩, r⟩ := f.it
  refine ⟨e, de, oe, vs, mA, h1, k _ h2, h3, h4, h5, h6, h7, ?_, r1, ⟨r2, k _ r3⟩, r⟩
  cases tb with
  | none => exact h8
  | some y => obtain ⟨T, oT, ts, a1, a2, a3, a4⟩ := h8; exact ⟨T, oT, ts, a1, a2, k _ a3, a4⟩

/-- the heap changed only at records that the call made -/
structure Chg (c : Cx) (h h' : Heap) : Prop where
  kn : Kn h h'
  kp : Kp c.s0.heap h'
  st : c.base.StaysIn h'
theorem Ok0.chg {c : Cx} {s : Shared} {h' : Heap} (o : Ok0 c s) (k : Chg c s.heap h') : Ok0 c { s with heap := h' } :=
  ⟨⟨o.rest.gens, o.rest.drawn, o.rest.os⟩, k.st, k.kp, k.kn.funFrames o.frames, let ⟨m, hm⟩ := o.ns; ⟨m, k.kn.ns hm⟩⟩

theorem stays_at {c : Cx} (hc : CxOk c) {b : Addr} (h : c.s0.heap.get? b = none) : c.base.get? b = none := hc.below.none h

/-- a record of the call's own is changed -/
theorem Chg.upd {c : Cx} (hc : CxOk c) {s : Shared} (o : Ok0 c s) {a : Addr} {oa : Obj} {vs : Array Value} (ha : s.heap.get? a = some oa) (hd : oa.data = .fields vs) (hn : c.s0.heap.get? a = none) (f : Array Value → Array Value) :
    Chg c s.heap (s.heap.update a (Obj.mapFields f)) := by
  have ne : ∀ b, b ≠ a → (s.heap.update a (Obj.mapFields f)).get? b = s.heap.get? b := fun b q => Heap.get?_update_ne _ _ _ _ q
  refine ⟨fun b ob n e => ?_, ⟨fun b ob e => ?_⟩, fun b ob e => ?_⟩
  · have q : b ≠ a := fun q => by subst q; rw [ha] at e; cases e; exact n _ hd
    exact ⟨ob.slots, (ne b q).trans e⟩
  · have q : b ≠ a := fun q => by subst q; rw [hn] at e; cases e
    obtain ⟨sl, e'⟩ := o.kp.get b ob e
    exact ⟨sl, (ne b q).trans e'⟩
  · have q : b ≠ a := fun q => by subst q; rw [stays_at hc hn] at e; cases e
    exact (ne b q).trans (o.stays b ob e)

section
variable {c : Cx} {s : Shared} {E : Value → Shared → Prop} {Q : Unit → Shared → Prop}
/-- a traceback entry for this frame -/
theorem entry_ok (hc : CxOk c) (o : Ok0 c s) {e : Addr} {oe : Obj} {vs : Array Value} {head : Value} {hadNext : Bool} (he : s.heap.get? e = some oe) (hd : oe.data = .fields vs) (hsz : 1 < vs.size) (hg : c.fresh e)
    (h : ∀ h' oe' T oT ts, Chg c s.heap h' → h'.get? e = some oe' → oe'.cls = oe.cls → oe'.dict = oe.dict → oe'.data = .fields (vs.setIfInBounds 1 (.ref T)) → T ≠ e → c.fresh T → h'.get? T = some oT → oT.data = .fields ts → ts[3]? = some (rawInt c.L) → Q () { s with heap := h' }) :
    wpAny c.M c.A (do let a ← frameOf c.env; let pl ← entryPlaceOf c.L hadNext; let b ← EntryCells.newEntry head a .none (rawInt c.L) .none pl; setField (.ref e) 1 b) Q E s := by
  refine wpAny_bind (wpAny_frameOf_fun (base := c.base) rfl o.frames rfl fun h₁ hs₁ => ?_)
  refine wpAny_bind (wpAny_entryPlaceOf fun pl hpl => ?_)
  unfold EntryCells.newEntry newFields
  refine wpAny_bind (wpAny_newObj_type ?_ (hpl.sizeOk5 _ _ _ _ _))
  generalize hT : ({ cls := .type "traceback", dict := none, data := .fields ([head, .ref c.L, .none, rawInt c.L, .none] ++ (if pl.isEmpty then List.replicate 6 Value.none else pl)).toArray } : Obj) = TO
  obtain ⟨sl, he₁⟩ := hs₁.2.2 e oe he
  have he₂ : (h₁.push TO).get? e = some { oe with slots := sl } := Heap.get?_push_of_some _ he₁
  refine wpAny_setField he₂ hd hsz ?_
  have hTe : h₁.objs.size ≠ e := Nat.ne_of_gt (Heap.lt_size he₁)
  have k₁ : Kp s.heap h₁ := ⟨fun b ob q => hs₁.2.2 b ob q⟩
  have st₁ : c.base.StaysIn h₁ := fun b ob q => (hs₁.2.1 b fun hm => by rw [(o.frames.mem hm).1] at q; cases q).trans (o.stays b ob q)
  have o₁ : Ok0 c { s with heap := h₁.push TO } := o.step ⟨rfl, rfl, rfl⟩ (k₁.trans (.push _ _)) fun b ob q => Heap.get?_push_of_some _ (st₁ b ob q)
  have C := Chg.upd hc o₁ he₂ hd hg.1 (·.setIfInBounds 1 (Value.ref h₁.objs.size))
  have hd₃ := Obj.data_mapFields (o := { oe with slots := sl }) hd (·.setIfInBounds 1 (Value.ref h₁.objs.size))
  have hfree : TO.isFreed = false := by subst hT; rfl
  have hs0 : c.fresh h₁.objs.size := by
    constructor
    · cases q : c.s0.heap.get? h₁.objs.size with
      | none => rfl
      | some x => obtain ⟨_, q'⟩ := (o.kp.trans k₁).get _ _ q; exact absurd (Heap.lt_size q') (Nat.lt_irrefl _)
    · intro q
      obtain ⟨_, oL, _, _, hL, _⟩ := o.ns
      obtain ⟨_, q'⟩ := k₁.get _ _ hL
      rw [← q] at q'
      exact absurd (Heap.lt_size q') (Nat.lt_irrefl _)
  refine h _ _ h₁.objs.size TO ([head, .ref c.L, .none, rawInt c.L, .none] ++ (if pl.isEmpty then List.replicate 6 Value.none else pl)).toArray ⟨(Kn.of _ _ (k₁.trans (.push _ _))).trans C.kn, C.kp, C.st⟩ (Heap.get?_update_self _ he₂ (Obj.isFreed_of_fields hd₃)) (Obj.cls_mapFields _ _) ?_ hd₃ hTe hs0
    ((Heap.get?_update_other _ _ (Ne.symm hTe)).trans (Heap.get?_push_size _ hfree)) (by subst hT; rfl) ?_
  · obtain ⟨a, b, d, f⟩ := oe; cases d <;> rfl
  · simp

theorem Flies.entry {C : Addr} {h' : Heap} {oe oe' : Obj} {vs : Array Value} {e de : Addr} {T : Addr} {oT : Obj} {ts : Array Value} {mA : Str → Option Value} {x : Exc} (k : Kn s.heap h')
    (hcl : oe.cls = .ref C) (hdi : oe.dict = some de) (hsz : 1 < vs.size) (hg : c.fresh e) (hod : s.heap.Ns1 de mA) (hne : de ≠ e ∧ c.fresh de)
    (r1 : ∃ v1 a1, mA "code" = some v1 ∧ Reads s.heap v1 x.code a1) (r2 : ∃ v1 a1, mA "value" = some v1 ∧ Reads s.heap v1 x.val a1) (r3 : ∃ v1 a1, mA "errorcode" = some v1 ∧ Reads s.heap v1 x.ec a1)
    (he' : h'.get? e = some oe') (hc' : oe'.cls = oe.cls) (hd' : oe'.dict = oe.dict) (hf' : oe'.data = .fields (vs.setIfInBounds 1 (.ref T))) (hTe : T ≠ e) (hT0 : c.fresh T) (hT : h'.get? T = some oT) (hTd : oT.data = .fields ts) {f : Value} (h3 : ts[3]? = some f) :
    Flies C c.fresh h' (some f) (.ref e) x := by
  refine ⟨e, de, oe', vs.setIfInBounds 1 (.ref T), mA, rfl, hg, he', hc'.trans hcl, hd'.trans hdi, hf', by simpa using hsz, ⟨T, oT, ts, by simp [hsz], hTe, hT0, hT, hTd, h3⟩, k.ns1 hod, hne, ?_, ?_, ?_⟩
  · obtain ⟨v1, a1, q1, q2⟩ := r1; exact ⟨v1, a1, q1, reads_kn k q2⟩
  · obtain ⟨v1, a1, q1, q2⟩ := r2; exact ⟨v1, a1, q1, reads_kn k q2⟩
  · obtain ⟨v1, a1, q1, q2⟩ := r3; exact ⟨v1, a1, q1, reads_kn k q2⟩

theorem noteFrame_ok (hc : CxOk c) (o : Ok0 c s) {C : Addr} {tb : Option Value} {v : Value} {x : Exc} (fl : Flies C c.fresh s.heap tb v x) (ht : TbIn c tb)
    (h : ∀ h', Ok0 c { s with heap := h' } → Flies C c.fresh h' (some (rawInt c.L)) v x → Q () { s with heap := h' }) : wpAny c.M c.A (noteFrame v c.env) Q E s := by
  obtain ⟨e, de, oe, vs, mA, rfl, hg, he, hcl, hdi, hd, hsz, htb, hod, hne, r1, r2, r3⟩ := fl.it
  unfold noteFrame
  show wpAny c.M c.A (do
    let head ← field (.ref e) 1
    if head != .none then
      if (← field head 3) == rawInt c.L then return
      setField head 3 .none
    setField (.ref e) 1 (← EntryCells.newEntry head (← frameOf c.env) .none (rawInt c.L) .none (← entryPlaceOf c.L (head != .none)))) Q E s
  cases tb with
  | none =>
    refine wpAny_bind (wpAny_field he hd htb ?_)
    rw [if_neg (by decide)]
    exact entry_ok hc o he hd hsz hg fun h' oe' T oT ts C1 a1 a2 a3 a4 a5 a6 a7 a8 a9 => h h' (o.chg C1) (Flies.entry C1.kn hcl hdi hsz hg hod hne r1 r2 r3 a1 a2 a3 a4 a5 a6 a7 a8 a9)
  | some f =>
    obtain ⟨T, oT, ts, b1, b2, b3, b4, b5, b6⟩ := htb
    refine wpAny_bind (wpAny_field he hd b1 ?_)
    rw [if_pos (show (Value.ref T != Value.none) = true from by simp)]
    refine wpAny_bind (wpAny_field b4 b5 b6 ?_)
    rcases ht with q | q | q
    · cases q
    · cases q
      rw [if_neg (show ¬ ((Value.none == rawInt c.L) = true) from by simp [rawInt])]
      refine wpAny_bind (wpAny_setField b4 b5 (Array.getElem?_eq_some_iff.mp b6).1 ?_)
      have C0 := Chg.upd hc o b4 b5 b3.1 (·.setIfInBounds 3 Value.none)
      have he2 : (s.heap.update T (Obj.mapFields (·.setIfInBounds 3 Value.none))).get? e = some oe := (Heap.get?_update_ne _ _ _ _ (Ne.symm b2)).trans he
      have o2 : Ok0 c { s with heap := s.heap.update T (Obj.mapFields (·.setIfInBounds 3 Value.none)) } := o.chg C0
      refine entry_ok hc o2 he2 hd hsz hg fun h' oe' T oT ts C1 a1 a2 a3 a4 a5 a6 a7 a8 a9 => ?_
      exact h h' (o2.chg C1) (Flies.entry (C0.kn.trans C1.kn) hcl hdi hsz hg hod hne r1 r2 r3 a1 a2 a3 a4 a5 a6 a7 a8 a9)
    · cases q
      rw [if_pos (by simp)]
      exact wpAny_pure (h s.heap o fl)

theorem setFlight_ok {A : Around} (hc : CxOk c) (o : Ok0 c s) {C : Addr} {f₀ : Value} {v : Value} {x : Exc} (fl : Flies C c.fresh s.heap (some f₀) v x) (fr : Option Addr)
    (h : ∀ h', Ok0 c { s with heap := h' } → Flies C c.fresh h' (some (fr.elim .none fun f => rawInt f)) v x → Q () { s with heap := h' }) : wpAny c.M A (setFlight v fr) Q E s := by
  obtain ⟨e, de, oe, vs, mA, rfl, hg, he, hcl, hdi, hd, hsz, ⟨T, oT, ts, b1, b2, b3, b4, b5, b6⟩, hod, hne, r1, r2, r3⟩ := fl.it
  unfold setFlight
  refine wpAny_bind (wpAny_field he hd b1 ?_)
  rw [if_pos (show (Value.ref T != Value.none) = true from by simp)]
  have hz := (Array.getElem?_eq_some_iff.mp b6).1
  refine wpAny_setField b4 b5 hz ?_
  have C0 := Chg.upd hc o b4 b5 b3.1 (·.setIfInBounds 3 (fr.elim .none fun f => rawInt f))
  have hd₃ := Obj.data_mapFields b5 (·.setIfInBounds 3 (fr.elim .none fun f => rawInt f))
  have he2 : (s.heap.update T (Obj.mapFields (·.setIfInBounds 3 (fr.elim .none fun f => rawInt f)))).get? e = some oe := (Heap.get?_update_ne _ _ _ _ (Ne.symm b2)).trans he
  refine h _ (o.chg C0) ⟨e, de, oe, vs, mA, rfl, hg, he2, hcl, hdi, hd, hsz, ⟨T, _, _, b1, b2, b3, Heap.get?_update_self _ b4 (Obj.isFreed_of_fields hd₃), hd₃, by simp [hz]⟩, C0.kn.ns1 hod, hne, ?_, ?_, ?_⟩
  · obtain ⟨v1, a1, q1, q2⟩ := r1; exact ⟨v1, a1, q1, reads_kn C0.kn q2⟩
  · obtain ⟨v1, a1, q1, q2⟩ := r2; exact ⟨v1, a1, q1, reads_kn C0.kn q2⟩
  · obtain ⟨v1, a1, q1, q2⟩ := r3; exact ⟨v1, a1, q1, reads_kn C0.kn q2⟩

theorem leaving_ok (hc : CxOk c) (o : Ok0 c s) {C : Addr} {tb : Option Value} {v : Value} {x : Exc} (fl : Flies C c.fresh s.heap tb v x) (ht : TbIn c tb)
    (h : ∀ h', Ok0 c { s with heap := h' } → Flies C c.fresh h' (some .none) v x → Q () { s with heap := h' }) : wpAny c.M c.A (leaving c.env v) Q E s := by
  unfold leaving
  exact wpAny_bind (noteFrame_ok hc o fl ht fun h' o' f' => setFlight_ok (s := { s with heap := h' }) hc o' f' none fun h'' o'' f'' => h h'' o'' f'')

/-- the way out of a loop's own activation -/
theorem noted_ok (hc : CxOk c) {X : Exc → Prop} {E : Value → Shared → Prop} (xp : Xp c E X) {x v s' tb} (hx : X x) (o : Ok0 c s') (fl : Flies raisedAt c.fresh s'.heap tb v x) (ht : TbIn c tb) :
    notedBy c.M c.A c.env (cameBackBy c.M c.A c.env E) v s' := by
  unfold notedBy
  refine noteFrame_ok hc o fl ht fun h' o' f' => ?_
  unfold cameBackBy
  obtain ⟨e, de, oe, vs, mA, rfl, hg, he, hcl, hdi, hd, hsz, ⟨T, oT, ts, b1, b2⟩, r⟩ := f'.it
  refine wpAny_bind (wpAny_field he hd b1 ?_)
  rw [if_neg (by simp)]
  refine setFlight_ok (s := { s' with heap := h' }) hc o' f' _ fun h'' o'' f'' => xp x _ _ _ hx o'' f'' (.inr (.inr rfl))
end
end Mine
end

section
set_option maxRecDepth 100000
set_option linter.unusedVariables false
set_option linter.unusedSimpArgs false
namespace Mine
open PySem PySem.Spec PySem.Calls PyProof.Rows PySem.W

/-! the call's binds -/
inductive Par (h : Heap) : List (Str × PyData) → List (Str × Value) → Prop
  | nil : Par h [] []
  | cons {x v d as l l'} : Reads h v d as → Par h l l' → Par h ((x, d) :: l) ((x, v) :: l')
theorem Par.append {h : Heap} {a b : List (Str × PyData)} {a' b' : List (Str × Value)} (p : Par h a a') (q : Par h b b') : Par h (a ++ b) (a' ++ b') := by
  induction p with
  | nil => exact q
  | cons r _ ih => exact .cons r ih
theorem Par.reverse {h : Heap} {a : List (Str × PyData)} {a' : List (Str × Value)} (p : Par h a a') : Par h a.reverse a'.reverse := by
  induction p with
  | nil => exact .nil
  | cons r _ ih => rw [List.reverse_cons, List.reverse_cons]; exact ih.append (.cons r .nil)
theorem Par.zip {h : Heap} : ∀ {names : List Str} {ds : List PyData} {vs : List Value} {as : List Addr}, ReadsAll h vs ds as → Par h (names.zip ds) (names.zip vs)
  | [], _, _, _, _ => by simpa using .nil
  | _ :: _, _, _, _, .nil => .nil
  | _ :: _, _, _, _, .cons a b => .cons a (Par.zip b)
theorem Par.look {h : Heap} {a : List (Str × PyData)} {a' : List (Str × Value)} {x : Str} {d : PyData} (p : Par h a a') (e : a.lookup x = some d) : ∃ v as, a'.lookup x = some v ∧ Reads h v d as := by
  induction p with
  | nil => cases e
  | @cons y v d' as l l' r _ ih =>
    rw [List.lookup_cons] at e ⊢
    cases q : x == y with
    | true => rw [q] at e; cases e; exact ⟨v, as, rfl, r⟩
    | false => rw [q] at e; exact ih e
theorem Par.kp {h h' : Heap} {a : List (Str × PyData)} {a' : List (Str × Value)} (k : Kp h h') (p : Par h a a') : Par h' a a' := by
  induction p with
  | nil => exact .nil
  | cons r _ ih => exact .cons (reads_kp k r) ih

theorem mem_of_lookup {x : Str} {d : PyData} : ∀ {l : List (Str × PyData)}, l.lookup x = some d → (x, d) ∈ l
  | (y, d') :: l, e => by
    rw [List.lookup_cons] at e
    cases q : x == y with
    | true => rw [q] at e; cases e; rw [beq_iff_eq.mp q]; exact .head _
    | false => rw [q] at e; exact .tail _ (mem_of_lookup e)
@[reducible] def cxOf (prog : Program) (w : World) (K : Frag) (base : Heap) (name : Str) (scope : Scope) (f : Addr) (cd : Value) (n : Nat) (s0 : Shared) (L : Addr) (outer : List Env) (dp un : Nat) (gd : Option (List Code)) : Cx :=
  { prog, w, K, base, s0, name, scope, L, fa := f, cd, outer, dp, un, lv := n, gd }
/-- a def's body does what is said -/
noncomputable def Body (prog : Program) (w : World) (K : Frag) (base : Heap) (name : Str) (scope : Scope) (f : Addr) (cd : Value) (n : Nat) (names : List Str) (ds : List PyData) (body : List Stmt) (Φ : PyData → Prop) (X : Exc → Prop) : Prop :=
  ∀ s0 L outer dp un gd, CxOk (cxOf prog w K base name scope f cd n s0 L outer dp un gd) →
    Ws (cxOf prog w K base name scope f cd n s0 L outer dp un gd) { vars := (names.zip ds).reverse } body { next := fun _ => Φ .none, ret := Φ } X

theorem Wf.intro {prog : Program} {w : World} {K : Frag} {base : Heap} (gb : Gb K base) {f : Addr} {oc od name qual params body scope dV kV doc pm an cdv ct osl}
    (ho : K.lookup f = some ⟨oc, od, .func (fnOf name qual params body scope dV kV doc pm an cdv ct), osl⟩) (hcd : codeIn K cdv qual = true) {ds : List PyData} {n : Nat} {Φ : PyData → Prop} {X : Exc → Prop} (names : List Str)
    (hbind : ∀ vs : List Value, vs.length = ds.length → bindArgs (fnOf name qual params body scope dV kV doc pm an cdv ct) ⟨vs, []⟩ = pure (names.zip vs)) (hnd : ∀ d ∈ ds, nodict d = true)
    (hloc : ∀ y ∈ names, scope.names.lookup y = some .local)
    (h : Body prog w K base qual scope f cdv n names ds body Φ X)
    (hco : scope.isCoroutine = false := by rfl) (hgen : scope.isGenerator = false := by rfl) (hk : scope.kind = .function := by rfl) (hcell : ∀ x ∈ scope.names, x.2 ≠ .cell := by decide) :
    Wf prog w base f (n + 1) ds Φ X := by
  refine ⟨fun s A fr vs as R ⟨r1, r2, r3, r4⟩ st kb ff rs hok herr => ?_⟩
  have X₀ : K.In s.heap := gb.kin.keeps st
  refine codeAny_call_def (fd := fnOf name qual params body scope dV kV doc pm an cdv ct) (body := body) (binds := names.zip vs) (Nat.lt_of_lt_of_le (by omega) (show 900 ≤ recursionLimit from by decide)) (X₀ _ _ ho) rfl (gb.nolimit.keeps st) (codeRec_of X₀ hcd) rfl
    (BindsTo.of_eq (hbind vs (readsAll_length rs))) hcell (fun y hy => hloc _ (List.of_mem_zip hy).1) (fun h₁ hns hk₁ => ?_) hco hgen hk
  show wpAny (model prog w) (A.deeper (envOf qual scope s.heap.objs.size f cdv)) (execs body (envOf qual scope s.heap.objs.size f cdv)) _ (fun e s' => wpAny (model prog w) (A.deeper (envOf qual scope s.heap.objs.size f cdv)) (leaving (envOf qual scope s.heap.objs.size f cdv) e) _ _ s') _
  have hA : A.deeper (envOf qual scope s.heap.objs.size f cdv) = (cxOf prog w K base qual scope f cdv n s s.heap.objs.size fr (A.depth + 1) (A.units + 3) A.guards).A := by
    obtain ⟨hd, d, frs, g, u⟩ := A
    simp only at r1 r2
    subst r1 r2
    rfl
  rw [hA]
  have hL0 : s.heap.get? s.heap.objs.size = none := Heap.get?_none_of_le (Nat.le_refl _)
  have hc : CxOk (cxOf prog w K base qual scope f cdv n s s.heap.objs.size fr (A.depth + 1) (A.units + 3) A.guards) :=
    ⟨gb, hk, kb, hL0, .keep st, by show A.depth + 1 + n ≤ 900; omega, by show A.units + 3 + 8 * n ≤ 9000; omega⟩
  have kp : Kp s.heap h₁ := .keep hk₁
  have o0 : Ok0 (cxOf prog w K base qual scope f cdv n s s.heap.objs.size fr (A.depth + 1) (A.units + 3) A.guards) { s with heap := h₁, toks := s.toks + (names.zip vs).length } :=
    ⟨⟨rfl, rfl, rfl⟩, fun b o e => hk₁ b o (st b o e), kp, Heap.FunFrames.cons (by show scope.kind ≠ .module; rw [hk]; decide) rfl hns ((Kp.keep st).none hL0) (kp.funFrames ff), ⟨_, hns⟩⟩
  refine (h s s.heap.objs.size fr _ _ _ hc).go _ _ _ ⟨o0, ⟨_, ⟨hns, fun x d e => ?_, (fun w e => by cases e), (fun p hp => nomatch hp), fun p hp => nomatch hp⟩⟩⟩ (fun fl s' hp => ?_) fun x v s' tb hx o fl ht => ?_
  · obtain ⟨v, bs, q1, q2⟩ := ((Par.zip (names := names) rs).reverse).look e
    have hmem : (x, d) ∈ (names.zip ds).reverse := mem_of_lookup e
    exact ⟨v, bs, q1, reads_kp kp q2, hnd d (List.of_mem_zip (List.mem_reverse.mp hmem)).2, fun w z => nomatch z⟩
  · have fin : ∀ (o : Ok0 (cxOf prog w K base qual scope f cdv n s s.heap.objs.size fr (A.depth + 1) (A.units + 3) A.guards) s') (v : Value) (d : PyData) (bs : List Addr), Φ d → Reads s'.heap v d bs → R (.ok (.ret v)) s' := fun o v d bs hd r =>
      hok v d bs s' hd ⟨o.rest.gens, o.rest.drawn, o.rest.os⟩ o.stays o.kp r
    cases fl with
    | next => obtain ⟨σ, hn, o⟩ := hp; exact fin o.zero _ _ _ hn .none
    | brk => obtain ⟨σ, hn, _⟩ := hp; exact hn.elim
    | cont => obtain ⟨σ, hn, _⟩ := hp; exact hn.elim
    | ret v => obtain ⟨d, bs, hd, o, r⟩ := hp; exact fin o v d bs hd r
  · exact leaving_ok hc o fl ht fun h' o' f' => herr x v _ hx ⟨o'.rest.gens, o'.rest.drawn, o'.rest.os⟩ o'.stays o'.kp (f'.weaken fun _ q => q.1)

theorem Wf.imp {prog : Program} {w : World} {base : Heap} {f : Addr} {n n' : Nat} {ds : List PyData} {Φ Φ' : PyData → Prop} {X X' : Exc → Prop} (h : Wf prog w base f n ds Φ X) (hn : n ≤ n') (h1 : ∀ d, Φ d → Φ' d) (h2 : ∀ x, X x → X' x) :
    Wf prog w base f n' ds Φ' X' := ⟨fun s A fr vs as R ⟨r1, r2, r3, r4⟩ st kb ff rs hok herr =>
  h.go s A fr vs as R ⟨r1, r2, by omega, by omega⟩ st kb ff rs (fun v d bs s' q => hok v d bs s' (h1 _ q)) fun x v s' q => herr x v s' (h2 _ q)⟩

theorem Ok0.fresh {c : Cx} {s : Shared} (o : Ok0 c s) {a : Addr} (h : s.heap.get? a = none) : c.fresh a := by
  refine ⟨o.kp.none h, fun q => ?_⟩
  obtain ⟨_, oL, _, _, hL, _⟩ := o.ns
  rw [← q, h] at hL; cases hL
theorem Ok0.big {c : Cx} {s : Shared} (hc : CxOk c) (o : Ok0 c s) : c.base.objs.size ≤ s.heap.objs.size := by
  obtain ⟨_, _, _, _, hL, _⟩ := o.ns
  exact Nat.le_trans hc.low (Nat.le_of_lt (Heap.lt_size hL))
section
variable {c : Cx} {σ : St} {Φ : PyData → Prop} {X : Exc → Prop}
theorem We.call (hc : CxOk c) {f np e es p a} (hn : nsIn c.K mainGlobals f = some (some (.ref a))) (hkp : keepIn c.K (.ref a) = true)
    (h : Was c σ (e :: es) (fun ds => Wf c.prog c.w c.base a c.lv ds Φ X) X) (hk : c.env.kindOf f = some .globalImplicit := by rfl) (hd : (f == ("__debug__" : Str)) = false := by rfl)
    (hs : starEach (e :: es) c.env = (false, eval e c.env) :: starEach es c.env := by rfl) (hpl : ((backTo p (starEach es c.env)).any fun x => x.1) = false := by rfl) :
    We c σ (.Call (.Name f np) (e :: es) [] p) Φ X := ⟨fun s Q E ok sp xp => by
  obtain ⟨m, ms, F⟩ := ok.fr hc
  obtain ⟨p', loose, mg, mb, T⟩ := hc.gb.top
  refine wpAny_Call_ofName (name_K F hc.gb.kin T hn ?_ hc.kind hk hd)
  refine callWith_K hc.gb.kin hkp ?_ hs hpl
  refine h.go p s _ E ok (fun vs ds as s₁ h₁ ok₁ k₁ r₁ => ⟨hc.gb.kin.keeps ok₁.zero.stays, wpAny_call ?_⟩) xp
  refine h₁.go s₁ c.A (c.env :: c.outer) vs as _ ⟨rfl, rfl, hc.dp, hc.un⟩ ok₁.zero.stays (Ok0.big hc ok₁.zero) ok₁.zero.frames r₁ (fun v d bs s' hd' rr st kp rd => ?_) fun x v s' hx rr st kp fl => ?_
  · exact sp v d bs s' hd' (ok₁.step rr kp st) (k₁.trans kp) rd
  · exact xp x v s' _ hx (ok₁.zero.step rr kp st) (fl.weaken fun _ q => ok₁.zero.fresh q) (.inr (.inl rfl))⟩
end

/-! statements -/
section
variable {c : Cx} {σ : St} {P : Po} {X : Exc → Prop}
theorem Po.Of.mono {P P' : Po} {f : Flow} {s : Shared} (h : P.Of c f s) (h1 : ∀ σ, P.next σ → P'.next σ) (h2 : ∀ σ, P.brk σ → P'.brk σ) (h3 : ∀ σ, P.cont σ → P'.cont σ) (h4 : ∀ d, P.ret d → P'.ret d) : P'.Of c f s := by
  cases f with
  | next => obtain ⟨σ, a, b⟩ := h; exact ⟨σ, h1 _ a, b⟩
  | brk => obtain ⟨σ, a, b⟩ := h; exact ⟨σ, h2 _ a, b⟩
  | cont => obtain ⟨σ, a, b⟩ := h; exact ⟨σ, h3 _ a, b⟩
  | ret v => obtain ⟨d, as, a, b⟩ := h; exact ⟨d, as, h4 _ a, b⟩
theorem Ws.nil (h : P.next σ) : Ws c σ [] P X := ⟨fun s Q E ok hq _ => wpAny_execs_nil (hq _ _ ⟨σ, h, ok⟩)⟩
theorem Ws.cons {st : Stmt} {ss : List Stmt} (h : W1 c σ st { P with next := fun σ' => Ws c σ' ss P X } X) : Ws c σ (st :: ss) P X := ⟨fun s Q E ok hq xp => by
  refine wpAny_execs_cons (h.go s _ E ok (fun f s' hp => ?_) xp)
  cases f with
  | next => obtain ⟨σ', a, b⟩ := hp; exact a.go s' Q E b hq xp
  | brk => obtain ⟨σ', a, b⟩ := hp; exact hq _ _ ⟨σ', a, b⟩
  | cont => obtain ⟨σ', a, b⟩ := hp; exact hq _ _ ⟨σ', a, b⟩
  | ret v => exact hq _ _ hp⟩
theorem W1.ret {e p} (h : We c σ e P.ret X) : W1 c σ (.Return (some e) p) P X := ⟨fun s Q E ok hq xp =>
  wpAny_Return_some (h.go s _ E ok (fun v d as s' hd o k r => hq _ _ ⟨d, as, hd, o.zero, r⟩) xp)⟩
theorem W1.ret0 {p} (h : P.ret .none) : W1 c σ (.Return none p) P X := ⟨fun s Q E ok hq xp => wpAny_Return_none (hq _ _ ⟨_, _, h, ok.zero, .none⟩)⟩
theorem W1.brk {p} (h : P.brk σ) : W1 c σ (.Break p) P X := ⟨fun s Q E ok hq xp => wpAny_Break (hq _ _ ⟨σ, h, ok⟩)⟩
theorem W1.cont {p} (h : P.cont σ) : W1 c σ (.Continue p) P X := ⟨fun s Q E ok hq xp => wpAny_Continue (hq _ _ ⟨σ, h, ok⟩)⟩
theorem W1.ite {t a b p} (h : Wt c σ t (fun x => if x = true then Ws c σ a P X else Ws c σ b P X) X) : W1 c σ (.If t a b p) P X := ⟨fun s Q E ok hq xp =>
  wpAny_If (h.go s _ E ok (fun x s₁ h₁ o k => by
    cases x with
    | true => exact (h₁ : Ws c σ a P X).go s₁ Q E o hq xp
    | false => exact (h₁ : Ws c σ b P X).go s₁ Q E o hq xp) xp)⟩
theorem funFrames_of {h h' base : Heap} (k : ∀ b o, h.get? b = some o → (∀ vs, o.data ≠ .fields vs) → ∃ o', h'.get? b = some o' ∧ ∀ vs, o'.data ≠ .fields vs) : ∀ {l : List Env}, h.FunFrames base l → h'.FunFrames base l
  | [], _ => trivial
  | env :: rest, ⟨hk, ⟨L, o, hf, hn, ho, hd⟩, hr⟩ => let ⟨o', ho', hd'⟩ := k L o ho hd; ⟨hk, ⟨L, o', hf, hn, ho', hd'⟩, funFrames_of k hr⟩
theorem hp_of (hc : CxOk c) : (c.env.scope.kind == .class || (c.env.scope.kind == .module && c.env.locals != c.env.globals)) = false := by
  show (c.scope.kind == .class || (c.scope.kind == .module && c.L != mainGlobals)) = false
  rw [hc.kind]; rfl

/-- the frame's own dict has another map -/
theorem Ok0.rebound (hc : CxOk c) {s : Shared} (o : Ok0 c s) {h' : Heap} {m' : Str → Option Value} (hn : h'.Ns c.L m') (hs : Heap.SameBut c.L s.heap h') (t : Nat) : Ok0 c { s with heap := h', toks := t } := by
  have bk : ∀ b, b ≠ c.L → h'.get? b = s.heap.get? b := fun b q => hs.2 b q
  refine ⟨⟨o.rest.gens, o.rest.drawn, o.rest.os⟩, fun b ob e => ?_, ⟨fun b ob e => ?_⟩, funFrames_of (fun b ob e n => ?_) o.frames, ⟨_, hn⟩⟩
  · refine (bk b fun q => ?_).trans (o.stays b ob e)
    subst q
    rw [hc.below.none hc.new] at e; cases e
  · obtain ⟨sl, e'⟩ := o.kp.get b ob e
    exact ⟨sl, (bk b fun q => by subst q; rw [hc.new] at e; cases e).trans e'⟩
  · by_cases q : b = c.L
    · subst q
      obtain ⟨oL, es, ep, hL, hLd, _⟩ := hn
      exact ⟨oL, hL, fun vs z => by rw [hLd] at z; cases z⟩
    · exact ⟨ob, (bk b q).trans e, n⟩
theorem seq_keeps {s : Shared} {h' : Heap} {L : Addr} {m : Str → Option Value} (hm : s.heap.Ns L m) (hs : Heap.SameBut L s.heap h') : ∀ b o vs n, o.data = Data.seq vs n → s.heap.get? b = some o → ∃ sl, h'.get? b = some { o with slots := sl } := by
  intro b o vs n hd e
  obtain ⟨oL, es, ep, hL, hLd, _⟩ := hm
  exact ⟨o.slots, (hs.2 b fun q => by subst q; rw [hL] at e; cases e; rw [hLd] at hd; cases hd).trans e⟩

/-- a name is bound -/
theorem store_ok (hc : CxOk c) {s : Shared} {E : Value → Shared → Prop} {Q : Unit → Shared → Prop} {x : Str} {v : Value} {d : PyData} {as : List Addr} (o : Ok c σ s) (r : Reads s.heap v d as) (hfl : (σ.own = none ∧ nodict d = true) ∨ flat d = true) (hx : ∀ w, σ.own = some w → w.name ≠ x)
    (hk : c.env.kindOf x = some .local) (h : ∀ s', Rest s s' → Kn s.heap s'.heap ∨ True → (∀ v d as, Reads s.heap v d as → nodict d = true → Reads s'.heap v d as) → Ok c (σ.set x d) s' → Q () s') : wpAny c.M c.A (storeName c.env x v) Q E s := by
  obtain ⟨m, ms⟩ := o.ms
  refine wpAny_storeName_local hk ms.ns (fun h' hn hs => h _ ⟨rfl, rfl, rfl⟩ (.inr trivial) (fun v d as r n => reads_nd (seq_keeps ms.ns hs) r n) ⟨o.zero.rebound hc hn hs _, ⟨_, hn, fun y d' e => ?_, fun w e => ?_, fun p hp => ?_, fun p hp => ?_⟩⟩) (hp_of hc)
  · have nd : nodict d = true := hfl.elim (·.2) nodict_of_flat
    by_cases q : y = x
    · subst q
      have e' : ((y, d) :: σ.vars).lookup y = some d' := e
      simp only [List.lookup_cons, beq_self_eq_true] at e'
      cases e'
      refine ⟨v, as, by simp, reads_nd (seq_keeps ms.ns hs) r nd, nd, fun w z => ?_⟩
      rcases hfl with ⟨z', _⟩ | z'
      · have z2 : σ.own = some w := z
        rw [z'] at z2; cases z2
      · rw [reads_flat r z']; exact fun w => nomatch w
    · have e' : ((x, d) :: σ.vars).lookup y = some d' := e
      rw [List.lookup_cons, beq_eq_false_iff_ne.mpr q] at e'
      obtain ⟨v', as', q1, q2, q3, q4⟩ := ms.vars y d' e'
      exact ⟨v', as', by simp [q, q1], reads_nd (seq_keeps ms.ns hs) q2 q3, q3, q4⟩
  · obtain ⟨q1, q2, q3, oo, vs, n, ho, hcl, hdi, hd, q5, q6⟩ := ms.own w e
    obtain ⟨sl, ho'⟩ := seq_keeps ms.ns hs _ _ _ _ hd ho
    exact ⟨q1.imp id fun q1 => by simp [hx w e, q1], q2, q3, _, vs, n, ho', hcl, hdi, hd, readsAll_nd (seq_keeps ms.ns hs) q5 (nodicts_of_flat q6), q6⟩
  · obtain ⟨⟨oo, q1, q4⟩, q2, q3⟩ := ms.more p hp
    exact ⟨⟨oo, (hs.2 _ q2).trans q1, q4⟩, q2, q3⟩
  · obtain ⟨as', q1, q2, q3⟩ := ms.gh p hp
    exact ⟨as', reads_nd (seq_keeps ms.ns hs) q1 q2, q2, q3⟩

theorem W1.assign (hc : CxOk c) {x p' e p} (h : We c σ e (fun d => ((σ.own = none ∧ nodict d = true) ∨ flat d = true) ∧ P.next (σ.set x d)) X) (hx : ∀ w, σ.own = some w → w.name ≠ x)
    (hk : c.env.kindOf x = some .local := by rfl) (hs : swapsWith e (some (.Name x p')) p.line c.env = pure false := by rfl) : W1 c σ (.Assign [.Name x p'] e p) P X := ⟨fun s Q E ok hq xp =>
  wpAny_Assign_Name (h.go s _ E ok (fun v d as s₁ h₁ o₁ k₁ r₁ => store_ok hc o₁ r₁ h₁.1 hx hk fun s' _ _ _ o' => hq _ _ ⟨_, h₁.2, o'⟩) xp) hs⟩
theorem W1.aug (hc : CxOk c) {x p' op e p d₀} (hl : σ.vars.lookup x = some d₀) (hop : op = .Add ∨ op = .Sub) (hnl : ∀ l, d₀ ≠ .list l) (h : We c σ e (fun d => BinP op d₀ d (fun d' => flat d' = true ∧ P.next (σ.set x d'))) X) (hx : ∀ w, σ.own = some w → w.name ≠ x)
    (hk : c.env.kindOf x = some .local := by rfl) : W1 c σ (.AugAssign (.Name x p') op e p) P X := ⟨fun s Q E ok hq xp => by
  obtain ⟨m, ms⟩ := ok.ms
  obtain ⟨v, as, hm, hr, _⟩ := ms.vars x d₀ hl
  refine wpAny_AugAssign_Name (wpAny_loadName_local hc.kind hk ms.ns hm ?_)
  refine h.go s _ E ok (fun v₁ d as s₁ h₁ o₁ k₁ r₁ => ?_) xp
  refine inplace (σ := σ) h₁ hop hnl (reads_kp k₁ hr) r₁ o₁ fun v₂ d₂ bs s₂ h₂ o₂ k₂ r₂ => ?_
  exact store_ok hc o₂ r₂ (.inr h₂.1) hx hk fun s' _ _ _ o' => hq _ _ ⟨_, h₂.2, o'⟩⟩
/-- fewer facts -/
noncomputable def Sub (σ₀ σ : St) : Prop := (∀ x d, σ₀.vars.lookup x = some d → σ.vars.lookup x = some d) ∧ (σ₀.own = none ∨ σ₀.own = σ.own) ∧ (∀ p ∈ σ₀.more, p ∈ σ.more) ∧ ∀ p ∈ σ₀.gh, p ∈ σ.gh
theorem Ok.sub {σ₀ : St} {s : Shared} (h : Sub σ₀ σ) (o : Ok c σ s) : Ok c σ₀ s := by
  obtain ⟨m, ms⟩ := o.ms
  have up : ∀ w, σ₀.own = some w → σ.own = some w := fun w e => by
    rcases h.2.1 with q | q
    · rw [q] at e; cases e
    · rw [← q]; exact e
  refine ⟨o.zero, m, ms.ns, fun x d e => ?_, fun w e => ms.own w (up w e), fun p hp => let ⟨a, b, d⟩ := ms.more p (h.2.2.1 p hp); ⟨a, b, fun w e => d w (up w e)⟩, fun p hp => let ⟨as, a, b, d⟩ := ms.gh p (h.2.2.2 p hp); ⟨as, a, b, fun w e => d w (up w e)⟩⟩
  obtain ⟨v, as, q1, q2, q3, q4⟩ := ms.vars x d (h.1 x d e)
  exact ⟨v, as, q1, q2, q3, fun w z => q4 w (up w z)⟩
theorem Ws.sub {σ₀ : St} {ss : List Stmt} (h : Sub σ₀ σ) (w : Ws c σ₀ ss P X) : Ws c σ ss P X := ⟨fun s Q E ok hq xp => w.go s Q E (ok.sub h) hq xp⟩
/-- a while, by what stands at its head (a: the letters) -/
theorem W1.while (hc : CxOk c) {α : Type} {t : Expr} {body : List Stmt} {p : Pos} (I : α → Prop) (τ : α → St) (μ : α → Nat) (a : α) (h0 : I a) (hs : Sub (τ a) σ)
    (turn : ∀ a, I a → Wt c (τ a) t (fun b => if b = true
      then Ws c (τ a) body { next := fun σ' => ∃ a', I a' ∧ μ a' < μ a ∧ Sub (τ a') σ', cont := fun σ' => ∃ a', I a' ∧ μ a' < μ a ∧ Sub (τ a') σ', brk := P.next, ret := P.ret } X
      else P.next (τ a)) X) : W1 c σ (.While t body [] p) P X := ⟨fun s Q E ok hq xp => by
  refine wpAny_While (codeAny_whileLoop (fun n s => ∃ a, I a ∧ μ a = n ∧ Ok c (τ a) s) (fun n s₁ ⟨a₁, i₁, hn, o₁⟩ => ?_) (μ a) ⟨a, h0, rfl, ok.sub hs⟩)
  have xp' : Xp c (notedBy c.M c.A c.env fun e s' => cameBackBy c.M c.A c.env E e s') X := fun x v s' tb hx o fl ht => noted_ok hc xp hx o fl ht
  refine (turn a₁ i₁).go s₁ _ _ o₁ (fun b s₂ h₂ o₂ k₂ => ?_) xp'
  cases b with
  | false => exact wpAny_execs_nil (hq _ _ ⟨_, h₂, o₂⟩)
  | true =>
    refine (h₂ : Ws c (τ a₁) body _ X).go s₂ _ _ o₂ (fun f s' hp => ?_) xp'
    cases f with
    | next => obtain ⟨σ', ⟨a', i', m', sb⟩, o'⟩ := hp; exact ⟨μ a', hn ▸ m', a', i', rfl, o'.sub sb⟩
    | cont => obtain ⟨σ', ⟨a', i', m', sb⟩, o'⟩ := hp; exact ⟨μ a', hn ▸ m', a', i', rfl, o'.sub sb⟩
    | brk => obtain ⟨σ', a', o'⟩ := hp; exact hq _ _ ⟨σ', a', o'⟩
    | ret v => exact hq _ _ hp⟩
end
end Mine
end

section
set_option maxRecDepth 100000
set_option linter.unusedVariables false
set_option linter.unusedSimpArgs false
namespace Mine
open PySem PySem.Spec PySem.Calls PyProof.Rows PySem.W

section
variable {c : Cx} {σ : St} {Φ : PyData → Prop} {X : Exc → Prop}
/-! built-in functions by their names -/
theorem We.callB (hc : CxOk c) {f id : _} {np e es p} (hb : bootBuiltins f = some (.builtin id)) (hn : nsIn c.K mainGlobals f = some none) (hf : f ≠ "__name__")
    (h : Was c σ (e :: es) (fun ds => ∀ s vs as Q E, Ok c σ s → ReadsAll s.heap vs ds as → Sp c σ s Q Φ → wpAny c.M c.A (PySem.call (.builtin id) vs) Q E s) X) (hk : c.env.kindOf f = some .globalImplicit := by rfl) (hd : (f == ("__debug__" : Str)) = false := by rfl)
    (hs : starEach (e :: es) c.env = (false, eval e c.env) :: starEach es c.env := by rfl) (hpl : ((backTo p (starEach (e :: es) c.env)).any fun x => x.1) = false := by rfl) :
    We c σ (.Call (.Name f np) (e :: es) [] p) Φ X := ⟨fun s Q E ok sp xp => by
  obtain ⟨m, ms, F⟩ := ok.fr hc
  obtain ⟨p', loose, mg, mb, T⟩ := hc.gb.top
  refine wpAny_Call_ofName (name_B F hc.gb.kin T hn hb hf ?_ hc.kind hk hd)
  refine callWith_builtin hpl ?_
  have hs' : backTo p (starEach (e :: es) c.env) = (false, eval e c.env) :: backTo p (starEach es c.env) := by rw [hs]; rfl
  have go : wpAny c.M c.A (spliced (backTo p (starEach (e :: es) c.env))) (fun vs s' => wpAny c.M c.A (PySem.call (.builtin id) ([] ++ vs) []) Q E s') E s :=
    h.go p s _ E ok (fun vs ds as s₁ h₁ ok₁ k₁ r₁ => h₁ s₁ vs as Q E ok₁ r₁ (sp.of k₁)) xp
  rw [hs'] at go ⊢
  exact evalArgs_plain go⟩
theorem boot_len' : bootBuiltins "len" = some (.builtin "len") := by kernel_rfl
theorem boot_ord' : bootBuiltins "ord" = some (.builtin "ord") := by kernel_rfl
theorem boot_chr' : bootBuiltins "chr" = some (.builtin "chr") := by kernel_rfl
theorem boot_abs' : bootBuiltins "abs" = some (.builtin "abs") := by kernel_rfl
theorem We.len (hc : CxOk c) {np e p} (h : We c σ e (fun d => (∃ x, d = .str x ∧ x.length < 2 ^ 62 ∧ Φ (.int x.length)) ∨ (∃ l, d = .list l ∧ l.length < 2 ^ 62 ∧ Φ (.int l.length))) X) (hn : nsIn c.K mainGlobals "len" = some none := by kernel_rfl)
    (hk : c.env.kindOf "len" = some .globalImplicit := by rfl) (hs : starEach [e] c.env = [(false, eval e c.env)] := by rfl) (hpl : ((backTo p (starEach [e] c.env)).any fun x => x.1) = false := by rfl) : We c σ (.Call (.Name "len" np) [e] [] p) Φ X := by
  refine We.callB hc boot_len' hn (by decide) ?_ hk rfl hs hpl
  refine Was.cons ⟨fun s Q E ok sp xp => h.go s Q E ok (fun v d as s' hd o k r => sp v d as s' ?_ o k r) xp⟩ hs
  refine Was.nil fun s vs as Q E ok rs sp => ?_
  cases rs with
  | cons r rr =>
    cases rr
    rcases hd with ⟨x, rfl, hz, hΦ⟩ | ⟨l, rfl, hz, hΦ⟩
    · cases r
      exact len_str (by omega) (sp.tok ok hΦ _ (.int _ _))
    · cases r with
      | list ho hcl hd' r =>
        rename_i vs' _ _
        have e1 := readsAll_length r
        rw [Array.length_toList] at e1
        refine PyProof.Rows.len_list ⟨_, ho, hcl, _, hd'⟩ (by rw [e1]; omega) ?_
        rw [e1]
        exact sp.tok ok hΦ _ (.int _ _)
theorem We.ord (hc : CxOk c) {np e p} (h : We c σ e (fun d => ∃ x : Str, d = .str x ∧ x.length = 1 ∧ Φ (.int (x.cps.getD 0 0 : Nat))) X) (hn : nsIn c.K mainGlobals "ord" = some none := by kernel_rfl)
    (hk : c.env.kindOf "ord" = some .globalImplicit := by rfl) (hs : starEach [e] c.env = [(false, eval e c.env)] := by rfl) (hpl : ((backTo p (starEach [e] c.env)).any fun x => x.1) = false := by rfl) : We c σ (.Call (.Name "ord" np) [e] [] p) Φ X := by
  refine We.callB hc boot_ord' hn (by decide) ?_ hk rfl hs hpl
  refine Was.cons ⟨fun s Q E ok sp xp => h.go s Q E ok (fun v d as s' hd o k r => sp v d as s' ?_ o k r) xp⟩ hs
  refine Was.nil fun s vs as Q E ok rs sp => ?_
  cases rs with
  | cons r rr =>
    cases rr
    obtain ⟨x, rfl, hz, hΦ⟩ := hd
    cases r
    exact ord_of_one hz (sp.tok ok hΦ _ (.int _ _))
theorem We.chr (hc : CxOk c) {np e p} (h : We c σ e (fun d => ∃ i : Int, d = .int i ∧ (0 ≤ i ∧ i ≤ 1114111) ∧ Φ (.str (S [i.toNat]))) X) (hn : nsIn c.K mainGlobals "chr" = some none := by kernel_rfl)
    (hk : c.env.kindOf "chr" = some .globalImplicit := by rfl) (hs : starEach [e] c.env = [(false, eval e c.env)] := by rfl) (hpl : ((backTo p (starEach [e] c.env)).any fun x => x.1) = false := by rfl) : We c σ (.Call (.Name "chr" np) [e] [] p) Φ X := by
  refine We.callB hc boot_chr' hn (by decide) ?_ hk rfl hs hpl
  refine Was.cons ⟨fun s Q E ok sp xp => h.go s Q E ok (fun v d as s' hd o k r => sp v d as s' ?_ o k r) xp⟩ hs
  refine Was.nil fun s vs as Q E ok rs sp => ?_
  cases rs with
  | cons r rr =>
    cases rr
    obtain ⟨i, rfl, ⟨h1, h2⟩, hΦ⟩ := hd
    cases r
    exact chr_of_range h1 h2 (sp.tok ok hΦ _ (.str _ _))
theorem We.abs (hc : CxOk c) {np e p} (h : We c σ e (fun d => ∃ i : Int, d = .int i ∧ Φ (.int (if i < 0 then -i else i))) X) (hn : nsIn c.K mainGlobals "abs" = some none := by kernel_rfl)
    (hk : c.env.kindOf "abs" = some .globalImplicit := by rfl) (hs : starEach [e] c.env = [(false, eval e c.env)] := by rfl) (hpl : ((backTo p (starEach [e] c.env)).any fun x => x.1) = false := by rfl) : We c σ (.Call (.Name "abs" np) [e] [] p) Φ X := by
  refine We.callB hc boot_abs' hn (by decide) ?_ hk rfl hs hpl
  refine Was.cons ⟨fun s Q E ok sp xp => h.go s Q E ok (fun v d as s' hd o k r => sp v d as s' ?_ o k r) xp⟩ hs
  refine Was.nil fun s vs as Q E ok rs sp => ?_
  cases rs with
  | cons r rr =>
    cases rr
    obtain ⟨i, rfl, hΦ⟩ := hd
    cases r
    exact call_abs_int fun u tk => sp.tok ok hΦ _ (.int _ _)

/-! methods of texts -/
theorem We.meth {o name ap e p} {id : String} (h : We c σ o (fun d => ∃ x : Str, d = .str x ∧ We c σ e (fun d' => ∀ s t v as Q E, Ok c σ s → Reads s.heap v d' as → Sp c σ s Q Φ → wpAny c.M c.A (PySem.call (.builtin id) [.str x t, v]) Q E s) X) X)
    (hg : ∀ (s : Shared) (x : Str) (t : Tok) (pl : Sem Bool) (Q : Value × List Value → Shared → Prop) E, Q (.builtin id, [.str x t]) s → wpAny c.M c.A (getMethod (.str x t) name pl) Q E s) {pl : Sem Bool}
    (he : eval (.Call (.Attribute o name ap) [e] [] p) c.env = (do
        let ov ← eval o c.env
        standAt ap.atName
        let fx ← holding [ov] (getMethod ov name pl)
        match fx with
          | (f, first) => callWith p f first (backTo p (starEach [e] c.env)) []))
    (hs : starEach [e] c.env = [(false, eval e c.env)]) : We c σ (.Call (.Attribute o name ap) [e] [] p) Φ X := ⟨fun s Q E ok sp xp => by
  refine MethodCall_ (pl := pl) ?_ he
  refine h.go s _ E ok (fun v d as s₁ h₁ ok₁ k₁ r₁ => ?_) xp
  obtain ⟨x, rfl, h₁⟩ := h₁
  cases r₁ with
  | str x t =>
    refine hg _ _ _ _ _ _ ?_
    have hs' : backTo p (starEach [e] c.env) = [(false, eval e c.env)] := by rw [hs]; rfl
    rw [hs']
    refine callWith_builtin rfl (evalArgs_plain (spliced_cons ?_))
    exact h₁.go s₁ _ E ok₁ (fun v' d' as' s₂ h₂ ok₂ k₂ r₂ => spliced_nil (h₂ s₂ t v' as' Q E ok₂ r₂ (sp.of (k₁.trans k₂)))) xp⟩
theorem We.find {o ap e p} (h : We c σ o (fun d => ∃ x : Str, d = .str x ∧ We c σ e (fun d' => ∃ y : Str, d' = .str y ∧ Φ (.int (Txt.find x y))) X) X) {pl : Sem Bool}
    (he : eval (.Call (.Attribute o "find" ap) [e] [] p) c.env = (do
        let ov ← eval o c.env
        standAt ap.atName
        let fx ← holding [ov] (getMethod ov "find" pl)
        match fx with
          | (f, first) => callWith p f first (backTo p (starEach [e] c.env)) []) := by rfl)
    (hs : starEach [e] c.env = [(false, eval e c.env)] := by rfl) : We c σ (.Call (.Attribute o "find" ap) [e] [] p) Φ X := by
  refine We.meth (id := "str.find") ⟨fun s Q E ok sp xp => h.go s Q E ok (fun v d as s' hd o k r => sp v d as s' ?_ o k r) xp⟩ (fun s x t pl Q E hq => GM.find hq) he hs
  obtain ⟨x, rfl, hd⟩ := hd
  refine ⟨x, rfl, ⟨fun s Q E ok sp xp => hd.go s Q E ok (fun v d as s' hd o k r => sp v d as s' ?_ o k r) xp⟩⟩
  obtain ⟨y, rfl, hΦ⟩ := hd
  intro s t v as Q E ok r sp
  cases r
  exact SC.find (sp.tok ok hΦ _ (.int _ _))
theorem We.index {o ap e p} (h : We c σ o (fun d => ∃ x : Str, d = .str x ∧ We c σ e (fun d' => ∃ (y : Str) (i : Nat) (rest : List Nat), d' = .str y ∧ Builtin.Str.occurrences x y 0 x.length 1 = i :: rest ∧ Φ (.int i)) X) X) {pl : Sem Bool}
    (he : eval (.Call (.Attribute o "index" ap) [e] [] p) c.env = (do
        let ov ← eval o c.env
        standAt ap.atName
        let fx ← holding [ov] (getMethod ov "index" pl)
        match fx with
          | (f, first) => callWith p f first (backTo p (starEach [e] c.env)) []) := by rfl)
    (hs : starEach [e] c.env = [(false, eval e c.env)] := by rfl) : We c σ (.Call (.Attribute o "index" ap) [e] [] p) Φ X := by
  refine We.meth (id := "str.index") ⟨fun s Q E ok sp xp => h.go s Q E ok (fun v d as s' hd o k r => sp v d as s' ?_ o k r) xp⟩ (fun s x t pl Q E hq => GM.index hq) he hs
  obtain ⟨x, rfl, hd⟩ := hd
  refine ⟨x, rfl, ⟨fun s Q E ok sp xp => hd.go s Q E ok (fun v d as s' hd o k r => sp v d as s' ?_ o k r) xp⟩⟩
  obtain ⟨y, i, rest, rfl, hocc, hΦ⟩ := hd
  intro s t v as Q E ok r sp
  cases r
  exact SC.index hocc (sp.tok ok hΦ _ (.int _ _))
theorem strs_values {h : Heap} {ys : List Str} : ∀ {vs : List Value} {as : List Addr}, ReadsAll h vs (ys.map PyData.str) as → ∃ l : List (Str × Tok), vs = strValues l ∧ l.map (·.1) = ys := by
  induction ys with
  | nil => intro vs as r; cases r; exact ⟨[], rfl, rfl⟩
  | cons y ys ih =>
    intro vs as r
    cases r with
    | cons a b =>
      obtain ⟨t, rfl⟩ := rd_str a
      obtain ⟨l, rfl, rfl⟩ := ih b
      exact ⟨(y, t) :: l, rfl, rfl⟩
theorem We.join {o ap e p} (h : We c σ o (fun d => ∃ x : Str, d = .str x ∧ We c σ e (fun d' => ∃ ys : List Str, d' = .list (ys.map .str) ∧ JoinOk x ys = true ∧ Φ (.str (Txt.join x ys))) X) X) {pl : Sem Bool}
    (he : eval (.Call (.Attribute o "join" ap) [e] [] p) c.env = (do
        let ov ← eval o c.env
        standAt ap.atName
        let fx ← holding [ov] (getMethod ov "join" pl)
        match fx with
          | (f, first) => callWith p f first (backTo p (starEach [e] c.env)) []) := by rfl)
    (hs : starEach [e] c.env = [(false, eval e c.env)] := by rfl) : We c σ (.Call (.Attribute o "join" ap) [e] [] p) Φ X := by
  refine We.meth (id := "str.join") ⟨fun s Q E ok sp xp => h.go s Q E ok (fun v d as s' hd o k r => sp v d as s' ?_ o k r) xp⟩ (fun s x t pl Q E hq => GM.join hq) he hs
  obtain ⟨x, rfl, hd⟩ := hd
  refine ⟨x, rfl, ⟨fun s Q E ok sp xp => hd.go s Q E ok (fun v d as s' hd o k r => sp v d as s' ?_ o k r) xp⟩⟩
  obtain ⟨ys, rfl, hj, hΦ⟩ := hd
  intro s t v as Q E ok r sp
  cases r with
  | list ho hc hd r =>
    rename_i l o vs n as'
    obtain ⟨l', h1, h2⟩ := strs_values r
    refine SC.join (l := l') (texts := ys) ⟨o, ho, hc, n, ?_⟩ h2 hj fun t' k => sp.tok ok hΦ _ (.str _ _)
    rw [hd, ← h1, Array.toArray_toList]
theorem We.upper {o ap p} (h : We c σ o (fun d => ∃ x : Str, d = .str x ∧ Builtin.Str.tooLong (Txt.upper x).length = false ∧ Φ (.str (Txt.upper x))) X) {pl : Sem Bool}
    (he : eval (.Call (.Attribute o "upper" ap) [] [] p) c.env = (do
        let ov ← eval o c.env
        standAt ap.atName
        let fx ← holding [ov] (getMethod ov "upper" pl)
        match fx with
          | (f, first) => callWith p f first (backTo p (starEach [] c.env)) []) := by rfl) : We c σ (.Call (.Attribute o "upper" ap) [] [] p) Φ X := ⟨fun s Q E ok sp xp => by
  refine MethodCall_ (pl := pl) ?_ he
  refine h.go s _ E ok (fun v d as s₁ h₁ ok₁ k₁ r₁ => ?_) xp
  obtain ⟨x, rfl, hz, h₁⟩ := h₁
  cases r₁ with
  | str x t =>
    refine GM.upper ?_
    exact callWith_builtin rfl (evalArgs_nil3 (SC.upper hz ((sp.of k₁).tok ok₁ h₁ _ (.str _ _))))⟩

/-! None -/
noncomputable def isN : PyData → Bool
  | .none => true
  | _ => false
theorem isN_of {h : Heap} {v : Value} {d : PyData} {as : List Addr} (r : Reads h v d as) : (v == Value.none) = isN d := by
  cases r <;> first | rfl | (simp [isN])
theorem Wt.isNone {e k p p'} {Φ : Bool → Prop} (h : We c σ e (fun d => Φ (isN d)) X) : Wt c σ (.Compare e [.Is] [.Constant .none k p] p') Φ X := ⟨fun s Q E ok hq xp =>
  wpAny_isTrue_Compare1 (h.go s _ E ok (fun v d as s₁ h₁ ok₁ k₁ r₁ => wpAny_Constant_none (is_none (by rw [isN_of r₁]; exact wpAny_truthy_bool (hq _ _ h₁ ok₁ k₁)))) xp) rfl⟩
theorem Wt.isNotNone {e k p p'} {Φ : Bool → Prop} (h : We c σ e (fun d => Φ (!isN d)) X) : Wt c σ (.Compare e [.IsNot] [.Constant .none k p] p') Φ X := ⟨fun s Q E ok hq xp =>
  wpAny_isTrue_Compare1 (h.go s _ E ok (fun v d as s₁ h₁ ok₁ k₁ r₁ => wpAny_Constant_none (isNot_none (by rw [isN_of r₁]; exact wpAny_truthy_bool (hq _ _ h₁ ok₁ k₁)))) xp) rfl⟩

/-! == of data -/
theorem Wt.eqD (hc : CxOk c) {a b p} {Φ : Bool → Prop} (h : We c σ a (fun da => We c σ b (fun db => SeqAt.shaped da = true ∧ SeqAt.shaped db = true ∧ Φ (da.eqv db)) X) X) (hm : behindInMarks .Eq b = false := by rfl) : Wt c σ (.Compare a [.Eq] [b] p) Φ X := ⟨fun s Q E ok hq xp =>
  wpAny_isTrue_Compare1 (h.go s _ E ok (fun va da as s₁ h₁ ok₁ k₁ r₁ => h₁.go s₁ _ E ok₁ (fun vb db bs s₂ h₂ ok₂ k₂ r₂ => eq_dataH (reads_kp k₂ r₁) r₂ h₂.1 h₂.2.1 (by have := hc.un; show c.un + 64 < 9900; omega) (wpAny_truthy_bool (hq _ _ h₂.2.2 ok₂ (k₁.trans k₂)))) xp) xp) hm⟩
theorem Wt.neD (hc : CxOk c) {a b p} {Φ : Bool → Prop} (h : We c σ a (fun da => We c σ b (fun db => SeqAt.shaped da = true ∧ SeqAt.shaped db = true ∧ Φ (!da.eqv db)) X) X) (hm : behindInMarks .NotEq b = false := by rfl) : Wt c σ (.Compare a [.NotEq] [b] p) Φ X := ⟨fun s Q E ok hq xp =>
  wpAny_isTrue_Compare1 (h.go s _ E ok (fun va da as s₁ h₁ ok₁ k₁ r₁ => h₁.go s₁ _ E ok₁ (fun vb db bs s₂ h₂ ok₂ k₂ r₂ => ne_dataH (reads_kp k₂ r₁) r₂ h₂.1 h₂.2.1 (by have := hc.un; show c.un + 64 < 9900; omega) (wpAny_truthy_bool (hq _ _ h₂.2.2 ok₂ (k₁.trans k₂)))) xp) xp) hm⟩
theorem We.eqD (hc : CxOk c) {a b p} (h : We c σ a (fun da => We c σ b (fun db => SeqAt.shaped da = true ∧ SeqAt.shaped db = true ∧ Φ (.bool (da.eqv db))) X) X) (hm : behindInMarks .Eq b = false := by rfl) : We c σ (.Compare a [.Eq] [b] p) Φ X := ⟨fun s Q E ok sp xp =>
  wpAny_Compare1 (h.go s _ E ok (fun va da as s₁ h₁ ok₁ k₁ r₁ => h₁.go s₁ _ E ok₁ (fun vb db bs s₂ h₂ ok₂ k₂ r₂ => eq_dataH (reads_kp k₂ r₁) r₂ h₂.1 h₂.2.1 (by have := hc.un; show c.un + 64 < 9900; omega) (sp _ _ _ _ h₂.2.2 ok₂ (k₁.trans k₂) (.bool _))) xp) xp) hm⟩

/-! chains of two -/
theorem testChain2 {s : Shared} {Q : Bool → Shared → Prop} {E : Value → Shared → Prop} {pos : Pos} {left : Value} {op₁ op₂ : CmpOp} {r₁ r₂ : Sem Value}
    (h : wpAny c.M c.A r₁ (fun v s₁ => wpAny c.M c.A (compareOp op₁ left v) (fun b s₂ => ∃ x, b = .bool x ∧ if x = true then wpAny c.M c.A r₂ (fun v₂ s₃ => wpAny c.M c.A (compareOp op₂ v v₂) (fun b₂ s₄ => ∃ y, b₂ = .bool y ∧ Q y s₄) E s₃) E s₂ else Q false s₂) E s₁) E s) :
    wpAny c.M c.A (testChain pos left [op₁, op₂] [r₁, r₂]) Q E s := by
  unfold testChain
  refine wpAny_bind (wpAny_holding (wpAny_mono h (fun v s₁ h₁ => ?_) fun _ _ x => x))
  refine wpAny_bind (wpAny_standAt (wpAny_bind (wpAny_holding (wpAny_mono h₁ (fun b s₂ h₂ => ?_) fun _ _ x => x))))
  obtain ⟨x, rfl, h₂⟩ := h₂
  refine wpAny_bind (wpAny_release ?_)
  refine wpAny_bind (wpAny_holding (wpAny_truthy_bool ?_))
  cases x with
  | false => exact wpAny_pure h₂
  | true =>
    have h₂' : wpAny c.M c.A r₂ _ E s₂ := h₂
    show wpAny c.M c.A (testChain pos v [op₂] [r₂]) Q E s₂
    unfold testChain
    refine wpAny_bind (wpAny_holding (wpAny_mono h₂' (fun v₂ s₃ h₃ => ?_) fun _ _ x => x))
    refine wpAny_bind (wpAny_standAt (wpAny_bind (wpAny_operating (wpAny_mono h₃ (fun b₂ s₄ h₄ => ?_) fun _ _ x => x))))
    obtain ⟨y, rfl, h₄⟩ := h₄
    exact wpAny_holding (wpAny_truthy_bool h₄)
theorem Wt.chain {l op₁ op₂ r₁ r₂ p} {Φ : Bool → Prop} (h : We c σ l (fun d => We c σ r₁ (fun d₁ => CmpP op₁ d d₁ fun x => if x = true then We c σ r₂ (fun d₂ => CmpP op₂ d₁ d₂ Φ) X else Φ false) X) X) (hm : lastMarks [op₁, op₂] [r₁, r₂] = false := by rfl) : Wt c σ (.Compare l [op₁, op₂] [r₁, r₂] p) Φ X := ⟨fun s Q E ok hq xp => by
  refine isTrue_chain (rs := []) (ops := []) ?_ hm
  refine h.go s _ E ok (fun v d as s₁ h₁ ok₁ k₁ q₁ => testChain2 ?_) xp
  refine h₁.go s₁ _ E ok₁ (fun v₁ d₁ bs s₂ h₂ ok₂ k₂ q₂ => ?_) xp
  refine compare h₂ (reads_kp k₂ q₁) q₂ fun x hx => ⟨x, rfl, ?_⟩
  cases x with
  | false => exact hq _ _ hx ok₂ (k₁.trans k₂)
  | true =>
    refine (hx : We c σ r₂ _ X).go s₂ _ E ok₂ (fun v₂ d₂ cs s₃ h₃ ok₃ k₃ q₃ => ?_) xp
    exact compare h₃ (reads_kp k₃ q₂) q₃ fun y hy => ⟨y, rfl, hq _ _ hy ok₃ ((k₁.trans k₂).trans k₃)⟩⟩

/-! and, or as values (of bools) -/
theorem boolOp_one {e p op} (h : We c σ e Φ X) : We c σ (.BoolOp op [e] p) Φ X := ⟨fun s Q E ok sp xp => h.go s Q E ok sp xp⟩
theorem We.and {e e' es p} (h : We c σ e (fun d => ∃ b, d = .bool b ∧ if b = true then We c σ (.BoolOp .And (e' :: es) p) Φ X else Φ (.bool false)) X) : We c σ (.BoolOp .And (e :: e' :: es) p) Φ X := ⟨fun s Q E ok sp xp => by
  show wpAny c.M c.A (do
    let v ← eval e c.env
    standAt p
    let t ← holding [v] (truthy v)
    match (BoolOp.And), t with
    | .And, false | .Or, true => pure v
    | _, _ => boolOp p .And (eval e' c.env :: evalEach es c.env)) Q E s
  refine wpAny_bind (h.go s _ E ok (fun v d as s₁ h₁ ok₁ k₁ r₁ => ?_) xp)
  obtain ⟨b, rfl, h₁⟩ := h₁
  cases r₁
  refine wpAny_bind (wpAny_standAt (wpAny_bind (wpAny_holding (wpAny_truthy_bool ?_))))
  cases b with
  | false => exact wpAny_pure (sp _ _ _ _ h₁ ok₁ k₁ (.bool _))
  | true => exact (h₁ : We c σ (.BoolOp .And (e' :: es) p) Φ X).go s₁ Q E ok₁ (sp.of k₁) xp⟩
theorem We.or {e e' es p} (h : We c σ e (fun d => ∃ b, d = .bool b ∧ if b = true then Φ (.bool true) else We c σ (.BoolOp .Or (e' :: es) p) Φ X) X) : We c σ (.BoolOp .Or (e :: e' :: es) p) Φ X := ⟨fun s Q E ok sp xp => by
  show wpAny c.M c.A (do
    let v ← eval e c.env
    standAt p
    let t ← holding [v] (truthy v)
    match (BoolOp.Or), t with
    | .And, false | .Or, true => pure v
    | _, _ => boolOp p .Or (eval e' c.env :: evalEach es c.env)) Q E s
  refine wpAny_bind (h.go s _ E ok (fun v d as s₁ h₁ ok₁ k₁ r₁ => ?_) xp)
  obtain ⟨b, rfl, h₁⟩ := h₁
  cases r₁
  refine wpAny_bind (wpAny_standAt (wpAny_bind (wpAny_holding (wpAny_truthy_bool ?_))))
  cases b with
  | true => exact wpAny_pure (sp _ _ _ _ h₁ ok₁ k₁ (.bool _))
  | false => exact (h₁ : We c σ (.BoolOp .Or (e' :: es) p) Φ X).go s₁ Q E ok₁ (sp.of k₁) xp⟩
end
end Mine
end

section
set_option maxRecDepth 100000
set_option linter.unusedVariables false
set_option linter.unusedSimpArgs false
namespace Mine
open PySem PySem.Spec PySem.Calls PyProof.Rows PySem.W

section
variable {c : Cx} {σ : St} {P : Po} {X : Exc → Prop}

/-! the own list -/
theorem alloc_own {s : Shared} (o : Ok c σ s) (hn : σ.own = none) : Ok c { σ with own := some ⟨Str.empty, s.heap.objs.size, []⟩ } { s with heap := s.heap.push { cls := .type "list", data := .seq #[] } } := by
  have hz : s.heap.get? s.heap.objs.size = none := Heap.get?_none_of_le (Nat.le_refl _)
  obtain ⟨m, ms⟩ := o.ms
  have k := Kp.push s.heap { cls := .type "list", data := .seq #[] }
  refine ⟨o.zero.step ⟨rfl, rfl, rfl⟩ k fun b y e => Heap.get?_push_of_some _ (o.zero.stays b y e), m, k.ns ms.ns, fun x d e => ?_, fun w e => ?_, fun p hp => ?_, fun p hp => ?_⟩
  · obtain ⟨v, as, h1, h2, h3, _⟩ := ms.vars x d e
    refine ⟨v, as, h1, reads_kp k h2, h3, fun w e hm => ?_⟩
    cases e
    exact reads_there h2 _ hm hz
  · cases e
    refine ⟨.inl rfl, o.zero.kp.none hz, fun q => ?_, _, #[], 0, Heap.get?_push_size _ rfl, rfl, rfl, rfl, .nil, rfl⟩
    obtain ⟨_, _, _, hL, _⟩ := ms.ns
    rw [← (q : s.heap.objs.size = c.L), hz] at hL; cases hL
  · obtain ⟨⟨oo, q1, q4⟩, q2, _⟩ := ms.more p hp
    refine ⟨⟨oo, Heap.get?_push_of_some _ q1, q4⟩, q2, fun w e => ?_⟩
    cases e
    intro q
    rw [(q : p.1 = s.heap.objs.size), hz] at q1; cases q1
  · obtain ⟨as, h2, h3, _⟩ := ms.gh p hp
    refine ⟨as, reads_kp k h2, h3, fun w e hm => ?_⟩
    cases e
    exact reads_there h2 _ hm hz

theorem store_own (hc : CxOk c) {s : Shared} {E : Value → Shared → Prop} {Q : Unit → Shared → Prop} {x : Str} {a : Addr} {l : List PyData} (o : Ok c σ s) (hw : σ.own = some ⟨Str.empty, a, l⟩) (hx : σ.vars.lookup x = none)
    (hk : c.env.kindOf x = some .local) (h : ∀ s', (∀ v d as, Reads s.heap v d as → nodict d = true → Reads s'.heap v d as) → Ok c { σ with own := some ⟨x, a, l⟩ } s' → Q () s') : wpAny c.M c.A (storeName c.env x (.ref a)) Q E s := by
  obtain ⟨m, ms⟩ := o.ms
  refine wpAny_storeName_local hk ms.ns (fun h' hn hs => h _ (fun v d as r n => reads_nd (seq_keeps ms.ns hs) r n) ⟨o.zero.rebound hc hn hs _, ⟨_, hn, fun y d' e => ?_, fun w e => ?_, fun p hp => ?_, fun p hp => ?_⟩⟩) (hp_of hc)
  · have q : y ≠ x := fun q => by subst q; rw [(e : σ.vars.lookup y = some d')] at hx; cases hx
    obtain ⟨v', as', q1, q2, q3, q4⟩ := ms.vars y d' e
    exact ⟨v', as', by simp [q, q1], reads_nd (seq_keeps ms.ns hs) q2 q3, q3, fun w e => by cases e; have z := q4 _ hw; exact z⟩
  · cases e
    obtain ⟨q1, q2, q3, oo, vs, n, ho, hcl, hdi, hd, q5, q6⟩ := ms.own _ hw
    obtain ⟨sl, ho'⟩ := seq_keeps ms.ns hs _ _ _ _ hd ho
    exact ⟨.inr (by simp), q2, q3, _, vs, n, ho', hcl, hdi, hd, readsAll_nd (seq_keeps ms.ns hs) q5 (nodicts_of_flat q6), q6⟩
  · obtain ⟨⟨oo, q1, q4⟩, q2, q3⟩ := ms.more p hp
    exact ⟨⟨oo, (hs.2 _ q2).trans q1, q4⟩, q2, fun w e => by cases e; have z := q3 _ hw; exact z⟩
  · obtain ⟨as', q2, q3, q4⟩ := ms.gh p hp
    exact ⟨as', reads_nd (seq_keeps ms.ns hs) q2 q3, q3, fun w e => by cases e; have z := q4 _ hw; exact z⟩

theorem W1.newList (hc : CxOk c) {x p' p1 p} (hn : σ.own = none) (hx : σ.vars.lookup x = none) (h : ∀ a, P.next { σ with own := some ⟨x, a, []⟩ })
    (hk : c.env.kindOf x = some .local := by rfl) (hs : swapsWith (.List [] p1) (some (.Name x p')) p.line c.env = pure false := by rfl) : W1 c σ (.Assign [.Name x p'] (.List [] p1) p) P X := ⟨fun s Q E ok hq xp => by
  refine wpAny_Assign_Name (wpAny_List (spliced_nil ⟨by simp, ?_⟩)) hs
  exact store_own hc (alloc_own ok hn) rfl hx hk fun s' _ o' => hq _ _ ⟨_, h _, o'⟩⟩

theorem flats_append : ∀ {a b : List PyData}, flat.flats (a ++ b) = (flat.flats a && flat.flats b)
  | [], b => by simp [flat.flats]
  | x :: r, b => by
    show (flat x && flat.flats (r ++ b)) = ((flat x && flat.flats r) && flat.flats b)
    rw [flats_append, Bool.and_assoc]
theorem readsAll_app0 {h : Heap} : ∀ {vs ws : List Value} {ds es : List PyData}, ReadsAll h vs ds [] → ReadsAll h ws es [] → ReadsAll h (vs ++ ws) (ds ++ es) [] := by
  intro vs ws ds es r r2
  generalize hz : ([] : List Addr) = as at r
  induction vs generalizing ds as with
  | nil => cases r; exact r2
  | cons v vs ih =>
    cases r with
    | @cons _ _ d ds' as' bs' a b =>
      have h1 : as' = [] ∧ bs' = [] := by simpa using hz.symm
      obtain ⟨rfl, rfl⟩ := h1
      exact ReadsAll.cons a (ih _ rfl b)
theorem append_gen {prog : Program} {w : World} {A : Around} {E : Value → Shared → Prop} {s : Shared} {D : Addr} {o : Obj} {its : Array Value} {n : Nat} {x : Value} {Q : Value → Shared → Prop} (ho : s.heap.get? D = some o) (hcl : o.cls = .type "list") (hd : o.data = .seq its n)
    (h : ∀ h', Heap.SameBut D s.heap h' → (∃ o', h'.get? D = some o' ∧ o'.cls = o.cls ∧ o'.dict = o.dict ∧ o'.data = .seq (its.push x) (n + 1)) → Q .none { s with heap := h' })
    (hsz : its.size ≤ sizeLine) : wpAny (model prog w) A (PySem.call (.builtin "list.append") [.ref D, x]) Q E s := by
  obtain ⟨cl, dd, dt, sl⟩ := o
  simp only at hcl hd
  subst hcl hd
  refine wpAny_call_entry slot_list_append ⟨_, ho, rfl⟩ entry_list_append ?_ (args_list_append _ _)
  show wpAny _ _ (updateSeq D (·.push x) >>= fun _ => PySem.ret .none) _ _ s
  refine wpAny_bind ?_
  refine wpAny_updateSeq ho rfl (wpAny_pure ⟨.none, rfl, h _ (Heap.SameBut.update ..) ⟨_, Heap.get?_update_self _ ho (by rw [mapSeq_push]; rfl), ?_⟩⟩) hsz (by simp; omega)
  rw [mapSeq_push]
  exact ⟨rfl, rfl, rfl⟩

theorem W1.append (hc : CxOk c) {x px ap e p' p a l} (hw : σ.own = some ⟨x, a, l⟩) (h : We c σ e (fun d => (flat d = true ∧ l.length ≤ 1000000) ∧ P.next { σ with own := some ⟨x, a, l ++ [d]⟩ }) X) (hx : x ≠ Str.empty := by decide) (hk : c.env.kindOf x = some .local := by rfl) (hdb : (x == ("__debug__" : Str)) = false := by rfl)
    {pl : Sem Bool} (he : eval (.Call (.Attribute (.Name x px) "append" ap) [e] [] p') c.env = (do
        let ov ← eval (.Name x px) c.env
        standAt ap.atName
        let fx ← holding [ov] (getMethod ov "append" pl)
        match fx with
          | (f, first) => callWith p' f first (backTo p' (starEach [e] c.env)) []) := by rfl)
    (hs : starEach [e] c.env = [(false, eval e c.env)] := by rfl) (hi : interactive c.env = false := by rfl) (hsw : swapsWith (.Call (.Attribute (.Name x px) "append" ap) [e] [] p') none p.line c.env = pure false := by rfl) :
    W1 c σ (.Expr (.Call (.Attribute (.Name x px) "append" ap) [e] [] p') p) P X := ⟨fun s Q E ok hq xp => by
  refine wpAny_Expr_any ?_ hi hsw
  refine MethodCall_ (pl := pl) ?_ he
  obtain ⟨m, ms⟩ := ok.ms
  obtain ⟨h1, h2, h3, oo, vs, n, ho, hcl, hdi, hd, hr, hf⟩ := ms.own _ hw
  refine wpAny_Name (wpAny_loadName_local hc.kind hk ms.ns (h1.resolve_left hx) ?_) hdb
  refine getMethod_list_append ho hcl hdi ?_
  have hs' : backTo p' (starEach [e] c.env) = [(false, eval e c.env)] := by rw [hs]; rfl
  rw [hs']
  refine callWith_builtin rfl (evalArgs_plain (spliced_cons ?_))
  refine h.go s _ E ok (fun v d as s₁ ⟨⟨hfl, hlen⟩, hP⟩ ok₁ k₁ r₁ => spliced_nil ?_) xp
  obtain ⟨m₁, ms₁⟩ := ok₁.ms
  obtain ⟨g1, g2, g3, oo₁, vs₁, n₁, go, gcl, gdi, gd, gr, gf⟩ := ms₁.own _ hw
  have hlen₁ : vs₁.size = l.length := by have := readsAll_length gr; rwa [Array.length_toList] at this
  refine append_gen go gcl gd (fun h' hsb ⟨o', q1, q2, q3, q4⟩ => hq _ _ ⟨_, hP, ?_⟩) (by rw [hlen₁, sizeLine_eq]; omega)
  have hne : ∀ b, b ≠ a → h'.get? b = s₁.heap.get? b := fun b q => hsb.2 b q
  have kk : ∀ b ob, b ≠ a → s₁.heap.get? b = some ob → ∃ sl, h'.get? b = some { ob with slots := sl } := fun b ob q e => ⟨ob.slots, (hne b q).trans e⟩
  have hl : ∃ ob, s₁.heap.get? a = some ob ∧ ob.cls ≠ .type "tuple" := ⟨oo₁, go, by rw [gcl]; decide⟩
  refine ⟨⟨⟨ok₁.zero.rest.gens, ok₁.zero.rest.drawn, ok₁.zero.rest.os⟩, fun b ob e => ?_, ⟨fun b ob e => ?_⟩, funFrames_of (fun b ob e n => ?_) ok₁.zero.frames, ?_⟩, m₁, ?_, fun y d' e => ?_, fun w e => ?_, fun p hp => ?_, fun p hp => ?_⟩
  · refine (hne b fun q => ?_).trans (ok₁.zero.stays b ob e)
    subst q
    rw [hc.below.none g2] at e; cases e
  · obtain ⟨sl, e'⟩ := ok₁.zero.kp.get b ob e
    exact ⟨sl, (hne b fun q => by subst q; rw [(g2 : c.s0.heap.get? _ = none)] at e; cases e).trans e'⟩
  · by_cases q : b = a
    · subst q; exact ⟨o', q1, fun vs z => by rw [q4] at z; cases z⟩
    · exact ⟨ob, (hne b q).trans e, n⟩
  · obtain ⟨mm, oL, es, ep, hL, r⟩ := ok₁.zero.ns
    exact ⟨mm, oL, es, ep, (hne _ (Ne.symm g3)).trans hL, r⟩
  · obtain ⟨oL, es, ep, hL, r⟩ := ms₁.ns
    exact ⟨oL, es, ep, (hne _ (Ne.symm g3)).trans hL, r⟩
  · obtain ⟨v', as', z1, z2, z3, z4⟩ := ms₁.vars y d' e
    exact ⟨v', as', z1, reads_but kk hl z2 (z4 _ hw), z3, fun w e => by cases e; have z := z4 _ hw; exact z⟩
  · cases e
    refine ⟨g1, g2, g3, o', vs₁.push v, n₁ + 1, q1, q2.trans gcl, q3.trans gdi, q4, ?_, ?_⟩
    · have r1 := readsAll_but kk hl gr (fun z => nomatch z)
      have r2 := reads_but kk hl r₁ (by rw [reads_flat r₁ hfl]; exact fun z => nomatch z)
      rw [Array.toList_push]
      have e0 := reads_flat r₁ hfl
      subst e0
      exact readsAll_app0 r1 (.cons r2 .nil)
    · rw [flats_append, gf]
      show (true && (flat d && true)) = true
      rw [hfl]; rfl
  · obtain ⟨⟨oo, z1, z4⟩, z2, z3⟩ := ms₁.more p hp
    exact ⟨⟨oo, (hne _ (z3 _ hw)).trans z1, z4⟩, z2, fun w e => by cases e; have z := z3 _ hw; exact z⟩
  · obtain ⟨as', z2, z3, z4⟩ := ms₁.gh p hp
    exact ⟨as', reads_but kk hl z2 (z4 _ hw), z3, fun w e => by cases e; have z := z4 _ hw; exact z⟩⟩
end
end Mine
end

section
set_option maxRecDepth 100000
set_option linter.unusedVariables false
set_option linter.unusedSimpArgs false
namespace Mine
open PySem PySem.Spec PySem.Calls PyProof.Rows PySem.W

@[reducible] def St.setAll : St → List Str → List PyData → St
  | σ, n :: ns, d :: ds => (σ.set n d).setAll ns ds
  | σ, _, _ => σ
noncomputable def namesOf : List Expr → Option (List Str)
  | [] => some []
  | .Name x _ :: r => (namesOf r).map (x :: ·)
  | _ :: _ => none

section
variable {c : Cx} {σ : St} {P : Po} {X : Exc → Prop}

noncomputable def BindsAs (c : Cx) (E : Value → Shared → Prop) (t : Value → Sem Unit) (n : Str) : Prop := ∀ v s Q, wpAny c.M c.A (storeName c.env n v) Q E s → wpAny c.M c.A (t v) Q E s
inductive BindsAll (c : Cx) (E : Value → Shared → Prop) : List (Value → Sem Unit) → List Str → Prop
  | nil : BindsAll c E [] []
  | cons {t ts n ns} : BindsAs c E t n → BindsAll c E ts ns → BindsAll c E (t :: ts) (n :: ns)
theorem BindsAll.append {E : Value → Shared → Prop} {ts ts' ns ns'} (a : BindsAll c E ts ns) (b : BindsAll c E ts' ns') : BindsAll c E (ts ++ ts') (ns ++ ns') := by
  induction a with
  | nil => exact b
  | cons h _ ih => exact .cons h ih
theorem BindsAll.names (c : Cx) (E : Value → Shared → Prop) : ∀ ns : List Str, BindsAll c E (ns.map fun n => bindName c.env n) ns
  | [] => .nil
  | n :: ns => .cons (fun v s Q h => wpAny_bindName h) (BindsAll.names c E ns)
theorem BindsAll.targets (c : Cx) (E : Value → Shared → Prop) : ∀ (es : List Expr) (ns : List Str), namesOf es = some ns → BindsAll c E ((assignEach es c.env).map (·.2)) ns
  | [], _, e => by cases e; exact .nil
  | e :: es, ns, h => by
    cases e with
    | Name x p =>
      have h' : (namesOf es).map (x :: ·) = some ns := h
      obtain ⟨ns', h1, rfl⟩ := Option.map_eq_some_iff.mp h'
      refine .cons (fun v s Q hq => ?_) (BindsAll.targets c E es ns' h1)
      show wpAny c.M c.A (assign (.Name x p) c.env v) Q E s
      show wpAny c.M c.A (do standAt p; bindName c.env x v) Q E s
      exact wpAny_bind (wpAny_standAt (wpAny_bindName hq))
    | _ => cases h
theorem assignEach_plain (c : Cx) : ∀ (es : List Expr) (ns : List Str), namesOf es = some ns → (assignEach es c.env).length = ns.length ∧ (assignEach es c.env).findIdx? (·.1) = none
  | [], _, e => by cases e; exact ⟨rfl, rfl⟩
  | e :: es, ns, h => by
    cases e with
    | Name x p =>
      have h' : (namesOf es).map (x :: ·) = some ns := h
      obtain ⟨ns', h1, rfl⟩ := Option.map_eq_some_iff.mp h'
      obtain ⟨a, b⟩ := assignEach_plain c es ns' h1
      have e' : assignEach (.Name x p :: es) c.env = (false, assign (.Name x p) c.env) :: assignEach es c.env := rfl
      rw [e']
      refine ⟨by simp [a], ?_⟩
      rw [List.findIdx?_cons]
      simp only [Bool.false_eq_true, if_false, b]; rfl
    | _ => cases h

theorem keepAll {s s₁ : Shared} (keep : ∀ v d as, Reads s.heap v d as → nodict d = true → Reads s₁.heap v d as) {vs : List Value} {ds : List PyData} {bs : List Addr} (r : ReadsAll s.heap vs ds bs) (n : nodict.nodicts ds = true) : ReadsAll s₁.heap vs ds bs :=
  readsAll_ind (R := fun vs ds bs => nodict.nodicts ds = true → ReadsAll s₁.heap vs ds bs) (fun _ => .nil) (fun a b e => .cons (keep _ _ _ a (and_of e).1) (b (and_of e).2)) r n
theorem bindAll (hc : CxOk c) {E : Value → Shared → Prop} : ∀ {ns : List Str} {ts : List (Value → Sem Unit)} {vs : List Value} {ds : List PyData} {as : List Addr} {σ : St} {s : Shared} {Q : Unit → Shared → Prop}, BindsAll c E ts ns → Ok c σ s → ReadsAll s.heap vs ds as → ds.length = ns.length →
    ((σ.own = none ∧ nodict.nodicts ds = true) ∨ flat.flats ds = true) → (∀ w, σ.own = some w → w.name ∉ ns) → (∀ n ∈ ns, c.env.kindOf n = some .local) → (∀ s', (∀ v d as, Reads s.heap v d as → nodict d = true → Reads s'.heap v d as) → Ok c (σ.setAll ns ds) s' → Q () s') → wpAny c.M c.A (assignInOrder ts vs) Q E s
  | [], _, _, _, _, _, s, Q, .nil, o, rs, hl, _, _, _, h => by
    cases rs with
    | nil => exact wpAny_pure (h s (fun _ _ _ r _ => r) o)
    | cons => cases hl
  | n :: ns, _, _, _, _, σ, s, Q, .cons ht hts, o, rs, hl, hf, hx, hk, h => by
    cases rs with
    | nil => cases hl
    | @cons v vs d ds as bs r rs =>
      have h1 : (σ.own = none ∧ nodict d = true) ∨ flat d = true := hf.imp (fun ⟨a, b⟩ => ⟨a, (and_of b).1⟩) fun b => (and_of b).1
      have h2 : (σ.own = none ∧ nodict.nodicts ds = true) ∨ flat.flats ds = true := hf.imp (fun ⟨a, b⟩ => ⟨a, (and_of b).2⟩) fun b => (and_of b).2
      have hnd : nodict.nodicts ds = true := h2.elim (·.2) nodicts_of_flat
      show wpAny c.M c.A (holding vs (_) >>= fun _ => assignInOrder _ vs) Q E s
      refine wpAny_bind (wpAny_holding (ht _ _ _ ?_))
      refine store_ok hc o r h1 (fun w e q => hx w e (q ▸ .head _)) (hk n (.head _)) fun s₁ _ _ keep o₁ => ?_
      have rs₁ : ReadsAll s₁.heap vs ds bs := keepAll keep rs hnd
      exact bindAll hc hts o₁ rs₁ (by simpa using hl) h2 (fun w e q => hx w e (.tail _ q)) (fun n hn => hk n (.tail _ hn)) fun s' keep' o' => h s' (fun v d as r n => keep' v d as (keep v d as r n) n) o'
theorem ext_kp {s : Shared} {h' : Heap} (hx : Heap.ExtBut s.heap.objs.size s.heap h') : ∀ b o, s.heap.get? b = some o → h'.get? b = some o :=
  fun b o e => hx b o (Nat.ne_of_lt (Heap.lt_size e)) e
theorem Ok.ext {s : Shared} {h' : Heap} (o : Ok c σ s) (hx : Heap.ExtBut s.heap.objs.size s.heap h') : Ok c σ { s with heap := h' } :=
  o.step ⟨rfl, rfl, rfl⟩ (.keep (ext_kp hx)) fun b y e => ext_kp hx b y (o.zero.stays b y e)

theorem W1.tuple (hc : CxOk c) {ts k tp e p} (ns : List Str) (hts : namesOf ts = some ns) (h : We c σ e (fun d => ∃ ds, d = .tuple ds ∧ ds.length = ns.length ∧ ((σ.own = none ∧ nodict.nodicts ds = true) ∨ flat.flats ds = true) ∧ P.next (σ.setAll ns ds)) X)
    (hx : ∀ w, σ.own = some w → w.name ∉ ns) (hk : ∀ n ∈ ns, c.env.kindOf n = some .local) (hs : swapsWithSole [.Tuple ts k tp] e p.line c.env = pure false := by rfl) (hw : swappedStores [.Tuple ts k tp] e c.env = pure none := by rfl) :
    W1 c σ (.Assign [.Tuple ts k tp] e p) P X := ⟨fun s Q E ok hq xp => by
  refine Assign_Tuple ?_ hs hw
  refine h.go s _ E ok (fun v d as s₁ ⟨ds, e', hlen, hf, hP⟩ ok₁ k₁ r₁ => ?_) xp
  subst e'
  cases r₁ with
  | tuple ho hcl hd r =>
    rename_i t oo vs n
    have hn : vs.size = ns.length := by have := readsAll_length r; rw [Array.length_toList] at this; omega
    obtain ⟨pl1, pl2⟩ := assignEach_plain c ts ns hts
    refine wpAny_assign_Tuple (items := vs) rfl ⟨oo, ho, hcl, n, hd⟩ (by rw [pl1, hn]) pl2 fun h' hext => ?_
    have k := Kp.keep (ext_kp hext)
    exact bindAll hc (BindsAll.targets c E ts ns hts) (ok₁.ext hext) (readsAll_kp k r) hlen hf hx hk fun s' _ o' => hq _ _ ⟨_, hP, o'⟩⟩
theorem W1.tupleSw (hc : CxOk c) {ts k tp e p} (ns : List Str) (h : We c σ e (fun d => ∃ ds, d = .tuple ds ∧ ds.length = ns.length ∧ ((σ.own = none ∧ nodict.nodicts ds.reverse = true) ∨ flat.flats ds.reverse = true) ∧ P.next (σ.setAll ns.reverse ds.reverse)) X)
    (hx : ∀ w, σ.own = some w → w.name ∉ ns) (hk : ∀ n ∈ ns, c.env.kindOf n = some .local) (hs : swapsWithSole [.Tuple ts k tp] e p.line c.env = pure false := by rfl) (hw : swappedStores [.Tuple ts k tp] e c.env = pure (some ns) := by rfl) :
    W1 c σ (.Assign [.Tuple ts k tp] e p) P X := ⟨fun s Q E ok hq xp => by
  refine Assign_Tuple_swapped ?_ hs hw
  refine h.go s _ E ok (fun v d as s₁ ⟨ds, e', hlen, hf, hP⟩ ok₁ k₁ r₁ => ?_) xp
  subst e'
  cases r₁ with
  | tuple ho hcl hd r =>
    rename_i t oo vs n
    have hn : vs.size = ns.length := by have := readsAll_length r; rw [Array.length_toList] at this; omega
    rw [← hn]
    refine unpackItems_tuple rfl ⟨oo, ho, hcl, n, hd⟩ fun h' hext => ?_
    have k := Kp.keep (ext_kp hext)
    obtain ⟨bs, rr⟩ := readsAll_rev (readsAll_kp k r)
    exact bindAll hc (BindsAll.names c E ns.reverse) (ok₁.ext hext) rr (by simp [hlen]) hf (fun w e q => hx w e (List.mem_reverse.mp q)) (fun n hn => hk n (List.mem_reverse.mp hn)) fun s' _ o' => hq _ _ ⟨_, hP, o'⟩⟩
where
  readsAll_rev {h : Heap} : ∀ {vs : List Value} {ds : List PyData} {as : List Addr}, ReadsAll h vs ds as → ∃ bs, ReadsAll h vs.reverse ds.reverse bs
    | _, _, _, .nil => ⟨_, .nil⟩
    | _, _, _, .cons a b => by
      obtain ⟨bs, r⟩ := readsAll_rev b
      rw [List.reverse_cons, List.reverse_cons]
      exact readsAll_append r (.cons a .nil)

/-! an own list made within a tuple -/
theorem ownTuple {s : Shared} {E : Value → Shared → Prop} {Q : Value → Shared → Prop} {p1 p es k} (ok : Ok c σ s) (hn : σ.own = none) (hs : starEach (.List [] p1 :: es) c.env = (false, eval (.List [] p1) c.env) :: starEach es c.env)
    {Ψ : Addr → List PyData → Prop} (h : ∀ a, Was c { σ with own := some ⟨Str.empty, a, []⟩ } es (Ψ a) X) (xp : Xp c E X)
    (hq : ∀ t a vs ds as s' oo n, Ψ a ds → ds.length ≤ 99 → Ok c { σ with own := some ⟨Str.empty, a, []⟩ } s' → ReadsAll s'.heap vs ds as → s'.heap.get? t = some oo → oo.cls = .type "tuple" → oo.data = .seq (Value.ref a :: vs).toArray n → Q (.ref t) s') (hlen : ∀ a ds, Ψ a ds → ds.length ≤ 99) :
    wpAny c.M c.A (eval (.Tuple (.List [] p1 :: es) k p) c.env) Q E s := by
  refine wpAny_Tuple ?_
  have hs' : backTo p (starEach (.List [] p1 :: es) c.env) = (false, eval (.List [] p1) c.env) :: backTo p (starEach es c.env) := by rw [hs]; rfl
  rw [hs']
  refine spliced_cons (wpAny_List (spliced_nil ⟨by simp, ?_⟩))
  refine (h s.heap.objs.size).go p _ _ E (alloc_own ok hn) (fun vs ds as s₂ h₂ ok₂ k₂ r₂ => ⟨?_, ?_⟩) xp
  · have := readsAll_length r₂
    have := hlen _ _ h₂
    rw [List.length_cons, sizeLine_eq]; omega
  · exact hq _ s.heap.objs.size vs ds as _ _ _ h₂ (hlen _ _ h₂) (ok₂.push _ _) (readsAll_kp (.push _ _) r₂) (Heap.get?_push_size _ rfl) rfl rfl
theorem W1.ownTuple (hc : CxOk c) {n0 p0 ts k tp p1 es k2 p2 p} (ns : List Str) (hn : σ.own = none) (hts : namesOf ts = some ns) (h : ∀ a, Was c { σ with own := some ⟨Str.empty, a, []⟩ } es (fun ds => ds.length ≤ 99 ∧ ds.length = ns.length ∧ flat.flats ds = true ∧ P.next (({ σ with own := some ⟨n0, a, []⟩ } : St).setAll ns ds)) X)
    (h0 : σ.vars.lookup n0 = none) (hx : n0 ∉ ns) (hk0 : c.env.kindOf n0 = some .local) (hk : ∀ n ∈ ns, c.env.kindOf n = some .local) (hse : starEach (.List [] p1 :: es) c.env = (false, eval (.List [] p1) c.env) :: starEach es c.env := by rfl)
    (hs : swapsWithSole [.Tuple (.Name n0 p0 :: ts) k tp] (.Tuple (.List [] p1 :: es) k2 p2) p.line c.env = pure false := by rfl) (hw : swappedStores [.Tuple (.Name n0 p0 :: ts) k tp] (.Tuple (.List [] p1 :: es) k2 p2) c.env = pure none := by rfl) :
    W1 c σ (.Assign [.Tuple (.Name n0 p0 :: ts) k tp] (.Tuple (.List [] p1 :: es) k2 p2) p) P X := ⟨fun s Q E ok hq xp => by
  refine Assign_Tuple ?_ hs hw
  refine Mine.ownTuple ok hn hse h xp (fun t a vs ds as s' oo n ⟨_, hlen, hf, hP⟩ _ o' r ht hcl hd => ?_) (fun _ _ q => q.1)
  have hts' : namesOf (.Name n0 p0 :: ts) = some (n0 :: ns) := by show (namesOf ts).map _ = _; rw [hts]; rfl
  obtain ⟨pl1, pl2⟩ := assignEach_plain c _ _ hts'
  refine wpAny_assign_Tuple rfl ⟨oo, ht, hcl, n, hd⟩ (by rw [pl1]; simp [readsAll_length r, hlen]) pl2 fun h' hext => ?_
  have B := BindsAll.targets c E _ _ hts'
  cases B with
  | cons b bs =>
    rename_i t0 tr
    have k := Kp.keep (ext_kp hext)
    show wpAny c.M c.A (holding vs _ >>= fun _ => assignInOrder _ vs) _ E _
    refine wpAny_bind (wpAny_holding (b _ _ _ ?_))
    refine store_own hc (o'.ext hext) rfl h0 hk0 fun s₁ keep o₁ => ?_
    refine bindAll hc bs o₁ (keepAll keep (readsAll_kp k r) (nodicts_of_flat hf)) hlen (.inr hf) (fun w e q => ?_) hk fun s₂ _ o₂ => hq _ _ ⟨_, hP, o₂⟩
    cases e; exact hx q⟩
theorem W1.ownTupleSw (hc : CxOk c) {n0 p0 n1 p1' k tp p1 e k2 p2 p} (hn : σ.own = none) (h : ∀ a, We c { σ with own := some ⟨Str.empty, a, []⟩ } e (fun d => flat d = true ∧ P.next { vars := (n1, d) :: σ.vars, own := some ⟨n0, a, []⟩, more := σ.more, gh := σ.gh }) X)
    (h0 : σ.vars.lookup n0 = none) (hx : n0 ≠ n1) (hn1 : Str.empty ≠ n1) (hk0 : c.env.kindOf n0 = some .local) (hk : c.env.kindOf n1 = some .local) (hse : starEach [.List [] p1, e] c.env = [(false, eval (.List [] p1) c.env), (false, eval e c.env)] := by rfl)
    (hs : swapsWithSole [.Tuple [.Name n0 p0, .Name n1 p1'] k tp] (.Tuple [.List [] p1, e] k2 p2) p.line c.env = pure false := by rfl) (hw : swappedStores [.Tuple [.Name n0 p0, .Name n1 p1'] k tp] (.Tuple [.List [] p1, e] k2 p2) c.env = pure (some [n0, n1]) := by rfl) :
    W1 c σ (.Assign [.Tuple [.Name n0 p0, .Name n1 p1'] k tp] (.Tuple [.List [] p1, e] k2 p2) p) P X := ⟨fun s Q E ok hq xp => by
  refine Assign_Tuple_swapped ?_ hs hw
  have hse1 : starEach [e] c.env = [(false, eval e c.env)] := by
    have : starEach [.List [] p1, e] c.env = (false, eval (.List [] p1) c.env) :: starEach [e] c.env := rfl
    rw [this] at hse; exact (List.cons.inj hse).2
  have hw' : ∀ a, Was c { σ with own := some ⟨Str.empty, a, []⟩ } [e] (fun ds => ∃ d, ds = [d] ∧ flat d = true ∧ P.next { vars := (n1, d) :: σ.vars, own := some ⟨n0, a, []⟩, more := σ.more, gh := σ.gh }) X := fun a =>
    Was.cons ⟨fun s Q E ok sp xp => (h a).go s Q E ok (fun v d as s' hd o k r => sp v d as s' (Was.nil ⟨d, rfl, hd⟩) o k r) xp⟩ (by rw [hse1]; rfl)
  refine Mine.ownTuple ok hn (by rw [hse, hse1]) hw' xp (fun t a vs ds as s' oo n ⟨d, e1, hf, hP⟩ _ o' r ht hcl hd => ?_) (fun _ _ ⟨d, q, _⟩ => by rw [q]; simp)
  subst e1
  cases r with
  | @cons v vs d ds as bs r rr =>
    cases rr
    show wpAny c.M c.A (unpackItems (.ref t) 2 none) _ E s'
    refine unpackItems_tuple (items := #[.ref a, v]) rfl ⟨oo, ht, hcl, n, hd⟩ fun h' hext => ?_
    have k := Kp.keep (ext_kp hext)
    show wpAny c.M c.A (holding [.ref a] (bindName c.env n1 v) >>= fun _ => holding [] (bindName c.env n0 (.ref a)) >>= fun _ => pure ()) _ E _
    refine wpAny_bind (wpAny_holding (wpAny_bindName ?_))
    refine store_ok hc (o'.ext hext) (reads_kp k r) (.inr hf) (fun w e => by cases e; exact hn1) hk fun s₁ _ _ keep o₁ => ?_
    refine wpAny_bind (wpAny_holding (wpAny_bindName ?_))
    refine store_own hc o₁ rfl ?_ hk0 fun s₂ _ o₂ => wpAny_pure (hq _ _ ⟨_, hP, o₂⟩)
    show ((n1, d) :: σ.vars).lookup n0 = none
    rw [List.lookup_cons, beq_eq_false_iff_ne.mpr hx]; exact h0⟩
end
end Mine
end

section
set_option maxRecDepth 100000
set_option linter.unusedVariables false
set_option linter.unusedSimpArgs false
namespace Mine
open PySem PySem.Spec PySem.Calls PyProof.Rows PySem.W

section
variable {c : Cx} {σ : St} {P : Po} {X : Exc → Prop}

@[reducible] def St.with (σ : St) (m : List (Addr × Value × Data)) (g : List (Value × PyData)) : St := { σ with more := m, gh := g }

/-- a record of the call's own that is changed or dropped -/
theorem Ok.drop (hc : CxOk c) {s : Shared} (o : Ok c σ s) {it : Addr} {cl : Value} {fs : Array Value} (hm : (it, cl, Data.fields fs) ∈ σ.more) (h0 : c.s0.heap.get? it = none) {h' : Heap} (hx : ∀ b ob, b ≠ it → s.heap.get? b = some ob → h'.get? b = some ob)
    (m' : List (Addr × Value × Data)) (hm' : ∀ p ∈ m', (p ∈ σ.more ∧ p.1 ≠ it) ∨ (p.1 = it ∧ ∃ ob, h'.get? it = some ob ∧ ob.cls = p.2.1 ∧ ob.data = p.2.2)) (t : Nat) : Ok c (σ.with m' σ.gh) { s with heap := h', toks := t } := by
  obtain ⟨m, ms⟩ := o.ms
  obtain ⟨⟨oi, hi, hic, hid⟩, hiL, hiO⟩ := ms.more _ hm
  have hid : oi.data = .fields fs := hid
  have nf : ∀ b ob, (∀ vs, ob.data ≠ .fields vs) → s.heap.get? b = some ob → h'.get? b = some ob := fun b ob n e => hx b ob (fun q => by
    subst q; rw [(hi : s.heap.get? _ = _)] at e; cases e; exact n _ hid) e
  have rd : ∀ {v d as}, Reads s.heap v d as → Reads h' v d as := fun r => reads_kn (fun b ob n e => ⟨ob.slots, nf b ob n e⟩) r
  have rds : ∀ {v d as}, ReadsAll s.heap v d as → ReadsAll h' v d as := fun r => readsAll_kn (fun b ob n e => ⟨ob.slots, nf b ob n e⟩) r
  have hns : h'.Ns c.L m := by
    obtain ⟨oL, es, ep, hL, r⟩ := ms.ns
    exact ⟨oL, es, ep, hx _ _ (Ne.symm hiL) hL, r⟩
  refine ⟨⟨⟨o.zero.rest.gens, o.zero.rest.drawn, o.zero.rest.os⟩, fun b ob e => ?_, ⟨fun b ob e => ?_⟩, Kn.funFrames (fun b ob n e => ⟨ob.slots, nf b ob n e⟩) o.zero.frames, ⟨m, hns⟩⟩, m, hns, fun x d e => ?_, fun w e => ?_, fun p hp => ?_, fun p hp => ?_⟩
  · exact hx b ob (fun q => by subst q; rw [hc.below.none h0] at e; cases e) (o.zero.stays b ob e)
  · obtain ⟨sl, e'⟩ := o.zero.kp.get b ob e
    exact ⟨sl, hx b _ (fun q => by subst q; rw [h0] at e; cases e) e'⟩
  · obtain ⟨v, as, h1, h2, h3, h4⟩ := ms.vars x d e
    exact ⟨v, as, h1, rd h2, h3, h4⟩
  · obtain ⟨h1, h2, h3, ow, vs, n, ho, hcl, hdi, hd, hr, hf⟩ := ms.own w e
    exact ⟨h1, h2, h3, ow, vs, n, nf _ _ (fun z q => by rw [hd] at q; cases q) ho, hcl, hdi, hd, rds hr, hf⟩
  · rcases hm' p hp with ⟨q, qn⟩ | ⟨q, ob, q1, q2, q3⟩
    · obtain ⟨⟨ob, z1, z2⟩, z3, z4⟩ := ms.more p q
      exact ⟨⟨ob, hx _ _ qn z1, z2⟩, z3, z4⟩
    · obtain ⟨p1, p2⟩ := p
      have q' : p1 = it := q
      subst q'
      exact ⟨⟨ob, q1, q2, q3⟩, hiL, hiO⟩
  · obtain ⟨as, q1, q2⟩ := ms.gh p hp
    exact ⟨as, rd q1, q2⟩

/-- a for, its iterator given by what a step does -/
theorem for_core (hc : CxOk c) {it : Addr} {x : Str} {px : Pos} {body : List Stmt} {n : Nat} (obj : Nat → Value × Data) (g0 : List (Value × PyData)) (elt : Nat → PyData) (hobj : ∀ i, ∃ cl fs, obj i = (cl, Data.fields fs)) (hit0 : c.s0.heap.get? it = none)
    (step : ∀ i, i < n → ∀ (s : Shared) (Q : Option Value → Shared → Prop) E, (∃ o, s.heap.get? it = some o ∧ o.cls = (obj i).1 ∧ o.data = (obj i).2) → (∀ p ∈ g0, ∃ as, Reads s.heap p.1 p.2 as) →
      (∀ h' v t as, (∃ o, h'.get? it = some o ∧ o.cls = (obj (i + 1)).1 ∧ o.data = (obj (i + 1)).2) → Heap.SameBut it s.heap h' → Reads s.heap v (elt i) as → Q (some v) { s with heap := h', toks := t }) → wpAny c.M c.A (pyNext (.ref it)) Q E s)
    (stop : ∀ (s : Shared) (Q : Option Value → Shared → Prop) E, (∃ o, s.heap.get? it = some o ∧ o.cls = (obj n).1 ∧ o.data = (obj n).2) → (∀ p ∈ g0, ∃ as, Reads s.heap p.1 p.2 as) →
      (∀ h', Heap.ExtBut it s.heap h' → Q none { s with heap := h' }) → wpAny c.M c.A (pyNext (.ref it)) Q E s)
    {α : Type} (I : Nat → α → Prop) (τ : α → St) (hel : ∀ i, i < n → flat (elt i) = true) (hk : c.env.kindOf x = some .local) (hxo : ∀ a w, (τ a).own = some w → w.name ≠ x)
    (turn : ∀ its gs i a, i < n → I i a → Ws c (((τ a).with its gs).set x (elt i)) body { next := fun σ' => ∃ a', I (i + 1) a' ∧ Sub ((τ a').with its gs) σ', cont := fun σ' => ∃ a', I (i + 1) a' ∧ Sub ((τ a').with its gs) σ', brk := P.next, ret := P.ret } X)
    (fin : ∀ a, I n a → P.next ((τ a).with [] [])) (a0 : α) (i0 : I 0 a0) {s : Shared} (ok : Ok c ((τ a0).with [(it, obj 0)] g0) s) {Q : Flow → Shared → Prop} {E : Value → Shared → Prop} (hq : ∀ f s', P.Of c f s' → Q f s') (xp : Xp c E X) :
    codeAny c.M c.A (.forLoop (.Name x px) (.ref it) body [] c.env) (fun r s' => match r with | .ok f => Q f s' | .error e => cameBackBy c.M c.A c.env E e s') s := by
  refine codeAny_forLoop_any (fun k s => ∃ i a, k + i = n ∧ I i a ∧ Ok c ((τ a).with [(it, obj i)] g0) s) (fun k s₁ ⟨i, a, hi, ia, o₁⟩ => ?_) n ⟨0, a0, by omega, i0, ok⟩
  have xp' : Xp c (notedBy c.M c.A c.env fun e s' => cameBackBy c.M c.A c.env E e s') X := fun x v s' tb hx o fl ht => noted_ok hc xp hx o fl ht
  obtain ⟨m, ms⟩ := o₁.ms
  obtain ⟨cl, fs, hfs⟩ := hobj i
  have hin : (it, cl, Data.fields fs) ∈ ((τ a).with [(it, obj i)] g0).more := by rw [← hfs]; exact .head _
  have hobj1 : ∃ o, s₁.heap.get? it = some o ∧ o.cls = (obj i).1 ∧ o.data = (obj i).2 := (ms.more (it, obj i) (.head _)).1
  have hg1 : ∀ p ∈ g0, ∃ as, Reads s₁.heap p.1 p.2 as := fun p hp => let ⟨as, h1, _⟩ := ms.gh p hp; ⟨as, h1⟩
  by_cases hn : i < n
  · refine step i hn s₁ _ _ hobj1 hg1 fun h' v t as ho' hs r => ?_
    have r' : Reads h' v (elt i) as := reads_kn (fun b ob nfb e => ⟨ob.slots, by
      refine (hs.2 b fun q => ?_).trans e
      subst q
      obtain ⟨oo, q1, _, q2⟩ := hobj1
      rw [q1] at e; cases e
      rw [hfs] at q2; exact nfb _ q2⟩) r
    have o₂ : Ok c ((τ a).with [(it, obj (i + 1))] g0) { s₁ with heap := h', toks := t } := by
      refine o₁.drop hc hin hit0 (fun b ob q e => (hs.2 b q).trans e) [(it, obj (i + 1))] (fun p hp => ?_) t
      rcases List.mem_cons.mp hp with rfl | hp
      · exact .inr ⟨rfl, ho'⟩
      · cases hp
    show wpAny c.M c.A (letOwnedTupleGo (.Name x px) (.ref it) v) _ _ _
    refine wpAny_pure ?_
    show wpAny c.M c.A (do standAt px; bindName c.env x v) _ _ _
    refine wpAny_bind (wpAny_standAt (wpAny_bindName ?_))
    refine store_ok hc o₂ r' (.inr (hel i hn)) (fun w e => hxo a w e) hk fun s₃ _ _ _ o₃ => ?_
    refine (turn [(it, obj (i + 1))] g0 i a hn ia).go s₃ _ _ o₃ (fun f s' hp => ?_) xp'
    cases f with
    | next => obtain ⟨σ', ⟨a', i', sb⟩, o'⟩ := hp; exact ⟨k - 1, by omega, i + 1, a', by omega, i', o'.sub sb⟩
    | cont => obtain ⟨σ', ⟨a', i', sb⟩, o'⟩ := hp; exact ⟨k - 1, by omega, i + 1, a', by omega, i', o'.sub sb⟩
    | brk => obtain ⟨σ', a', o'⟩ := hp; exact hq _ _ ⟨σ', a', o'⟩
    | ret v => exact hq _ _ hp
  · have hi' : i = n := by omega
    subst hi'
    refine stop s₁ _ _ hobj1 hg1 fun h' hs => ?_
    refine wpAny_execs_nil (hq _ _ ⟨_, fin a ia, ?_⟩)
    have o₂ := o₁.drop hc hin hit0 (fun b ob q e => hs b ob q e) [] (fun p hp => nomatch hp) s₁.toks
    exact Ok.sub (σ := ((τ a).with [(it, obj i)] g0).with [] g0) (σ₀ := (τ a).with [] []) ⟨fun _ _ e => e, .inr rfl, (fun p hp => nomatch hp), fun p hp => nomatch hp⟩ o₂

theorem exec_for (hc : CxOk c) {t e body p} {s : Shared} {Q : Flow → Shared → Prop} {E : Value → Shared → Prop} (hf : ∀ v, foldedSetIterable e c.env v = pure v)
    (h : wpAny c.M c.A (eval e c.env) (fun v s₁ => wpAny c.M c.A (pyIter v) (fun it s₂ => codeAny c.M c.A (.forLoop t it body [] c.env) (fun r s' => match r with | .ok f => Q f s' | .error e => cameBackBy c.M c.A c.env E e s') s₂) E s₁) E s) :
    wpAny c.M c.A (exec (.For t e body [] p) c.env) Q E s := by
  rw [exec_For]
  refine wpAny_bind (wpAny_standAt (wpAny_bind (wpAny_mono h (fun v s₁ h₁ => ?_) fun _ _ x => x)))
  rw [hf]
  refine wpAny_bind (wpAny_pure (wpAny_bind (wpAny_standAt (wpAny_bind (wpAny_holding (wpAny_mono h₁ (fun it s₂ h₂ => ?_) fun _ _ x => x))))))
  exact wpAny_runOwn h₂

/-- the iterator's own record stands, the frame's facts besides -/
theorem Ok.iter {s : Shared} (o : Ok c (σ.with [] []) s) {cl : Value} {fs : Array Value} {g : List (Value × PyData)} (hg : ∀ p ∈ g, ∃ as, Reads s.heap p.1 p.2 as ∧ nodict p.2 = true ∧ ∀ w, σ.own = some w → w.at_ ∉ as) :
    Ok c (σ.with [(s.heap.objs.size, cl, .fields fs)] g) { s with heap := s.heap.push { cls := cl, data := .fields fs } } := by
  have o' := o.push { cls := cl, data := .fields fs } s.toks
  have hz : s.heap.get? s.heap.objs.size = none := Heap.get?_none_of_le (Nat.le_refl _)
  obtain ⟨m, ms⟩ := o'.ms
  obtain ⟨m1, ms1⟩ := o.ms
  refine ⟨o'.zero, m, ms.ns, ms.vars, ms.own, fun p hp => ?_, fun p hp => ?_⟩
  · rcases List.mem_cons.mp hp with rfl | hp
    · refine ⟨⟨_, Heap.get?_push_size _ rfl, rfl, rfl⟩, fun q => ?_, fun w e q => ?_⟩
      · obtain ⟨oL, _, _, hL, _⟩ := ms1.ns
        rw [← (q : s.heap.objs.size = c.L), hz] at hL; cases hL
      · obtain ⟨_, _, _, ow, vs, n, ho, _⟩ := ms1.own w e
        rw [← (q : s.heap.objs.size = w.at_), hz] at ho; cases ho
    · cases hp
  · obtain ⟨as, h1, h2⟩ := hg p hp
    exact ⟨as, reads_kp (.push _ _) h1, h2⟩
theorem flats_mem : ∀ {ds : List PyData} {d : PyData}, flat.flats ds = true → d ∈ ds → flat d = true
  | x :: r, d, h, hm => by
    obtain ⟨a, b⟩ := Bool.and_eq_true_iff.mp (show (flat x && flat.flats r) = true from h)
    rcases List.mem_cons.mp hm with rfl | hm
    · exact a
    · exact flats_mem b hm

theorem forList_core (hc : CxOk c) {x : Str} {px : Pos} {body : List Stmt} {ds : List PyData} {v : Value} {as : List Addr} {α : Type} (I : Nat → α → Prop) (τ : α → St) {s : Shared} {Q : Flow → Shared → Prop} {E : Value → Shared → Prop} (a0 : α) (ok : Ok c ((τ a0).with [] []) s) (r : Reads s.heap v (.list ds) as)
    (hown : ∀ w, (τ a0).own = some w → w.at_ ∉ as) (hfl : flat.flats ds = true) (ia : I 0 a0) (hk : c.env.kindOf x = some .local) (hxo : ∀ a w, (τ a).own = some w → w.name ≠ x)
    (turn : ∀ its gs i a d, ds[i]? = some d → I i a → Ws c (((τ a).with its gs).set x d) body { next := fun σ' => ∃ a', I (i + 1) a' ∧ Sub ((τ a').with its gs) σ', cont := fun σ' => ∃ a', I (i + 1) a' ∧ Sub ((τ a').with its gs) σ', brk := P.next, ret := P.ret } X)
    (fin : ∀ a, I ds.length a → P.next ((τ a).with [] [])) (hq : ∀ f s', P.Of c f s' → Q f s') (xp : Xp c E X) :
    wpAny c.M c.A (pyIter v) (fun it s₂ => codeAny c.M c.A (.forLoop (.Name x px) it body [] c.env) (fun r s' => match r with | .ok f => Q f s' | .error e => cameBackBy c.M c.A c.env E e s') s₂) E s := by
  have r0 := r
  cases r with
  | list ho hcl hd r =>
    rename_i l oo vs n as
    have hz : s.heap.get? s.heap.objs.size = none := Heap.get?_none_of_le (Nat.le_refl _)
    refine wpAny_pyIter_list ⟨oo, ho, hcl, n, hd⟩ ?_
    refine for_core hc (n := ds.length) (fun i => (.type "list_iterator", .fields #[.ref l, .int (i : Nat) 0])) [(.ref l, .list ds)] (fun i => ds.getD i .none) (fun i => ⟨_, _, rfl⟩) (ok.zero.kp.none hz)
      (fun i hi s Q E ho' hg hh => ?_) (fun s Q E ho' hg hh => ?_) I τ (fun i hi => ?_) hk hxo (fun its gs i a hi ia => ?_) fin a0 ia (ok.iter fun p hp => ?_) hq xp
    · obtain ⟨as', r'⟩ := hg _ (.head _)
      have hd' : ds[i]? = some ds[i] := List.getElem?_eq_getElem hi
      have he : ds.getD i .none = ds[i] := by simp [List.getD, hd']
      cases r' with
      | list go gcl gd gr =>
        rename_i oo' vs' n' as''
        obtain ⟨v', bs, q1, q2⟩ := readsAll_get gr hd'
        refine wpAny_pyNext_list_item ho' ⟨oo', go, gcl, n', gd⟩ (by simpa using q1) fun h' hit' hs => hh h' v' _ bs hit' hs (by rw [he]; exact q2)
    · obtain ⟨as', r'⟩ := hg _ (.head _)
      cases r' with
      | list go gcl gd gr =>
        rename_i oo' vs' n' as''
        have hvl : vs'.size = ds.length := by have := readsAll_length gr; rwa [Array.length_toList] at this
        exact wpAny_pyNext_list_end rfl ho' ⟨oo', go, gcl, n', gd⟩ (by simp [hvl]) hh
    · have hd' : ds[i]? = some ds[i] := List.getElem?_eq_getElem hi
      have : ds.getD i .none = ds[i] := by simp [List.getD, hd']
      rw [this]; exact flats_mem hfl (List.getElem_mem hi)
    · have hd' : ds[i]? = some ds[i] := List.getElem?_eq_getElem hi
      have : ds.getD i .none = ds[i] := by simp [List.getD, hd']
      rw [this]; exact turn its gs i a _ hd' ia
    · rcases List.mem_cons.mp hp with rfl | hp
      · exact ⟨_, r0, nodicts_of_flat hfl, hown⟩
      · cases hp

/-- for over a list (no own list in this frame) -/
theorem W1.forList (hc : CxOk c) {x px e body p} {α : Type} (I : List PyData → Nat → α → Prop) (τ : α → St) (hno : ∀ a, (τ a).own = none)
    (h : We c σ e (fun d => ∃ ds, d = .list ds ∧ flat.flats ds = true ∧ (∃ a0, I ds 0 a0 ∧ Sub ((τ a0).with [] []) σ) ∧
      (∀ its gs i a d, ds[i]? = some d → I ds i a → Ws c (((τ a).with its gs).set x d) body { next := fun σ' => ∃ a', I ds (i + 1) a' ∧ Sub ((τ a').with its gs) σ', cont := fun σ' => ∃ a', I ds (i + 1) a' ∧ Sub ((τ a').with its gs) σ', brk := P.next, ret := P.ret } X) ∧
      (∀ a, I ds ds.length a → P.next ((τ a).with [] []))) X) (hk : c.env.kindOf x = some .local := by rfl) (hf : ∀ v, foldedSetIterable e c.env v = pure v := by intro _; rfl) : W1 c σ (.For (.Name x px) e body [] p) P X := ⟨fun s Q E ok hq xp => by
  refine exec_for hc hf (h.go s _ E ok (fun v d as s₁ ⟨ds, e', hfl, ⟨a0, ia, hsub⟩, turn, fin⟩ ok₁ k₁ r₁ => ?_) xp)
  subst e'
  exact forList_core hc (I ds) τ a0 (ok₁.sub hsub) r₁ (fun w e => by rw [hno a0] at e; cases e) hfl ia hk (fun a w e => by rw [hno a] at e; cases e) turn fin hq xp⟩
/-- for over a name's list -/
theorem W1.forName (hc : CxOk c) {x px y py body p ds} (hl : σ.vars.lookup y = some (.list ds)) {α : Type} (I : Nat → α → Prop) (τ : α → St) (hfl : flat.flats ds = true) (a0 : α) (ia : I 0 a0) (hsub : Sub ((τ a0).with [] []) σ) (hoe : (τ a0).own = σ.own)
    (turn : ∀ its gs i a d, ds[i]? = some d → I i a → Ws c (((τ a).with its gs).set x d) body { next := fun σ' => ∃ a', I (i + 1) a' ∧ Sub ((τ a').with its gs) σ', cont := fun σ' => ∃ a', I (i + 1) a' ∧ Sub ((τ a').with its gs) σ', brk := P.next, ret := P.ret } X)
    (fin : ∀ a, I ds.length a → P.next ((τ a).with [] [])) (hxo : ∀ a w, (τ a).own = some w → w.name ≠ x) (hk : c.env.kindOf x = some .local := by rfl) (hky : c.env.kindOf y = some .local := by rfl) (hd : (y == ("__debug__" : Str)) = false := by rfl) (hf : ∀ v, foldedSetIterable (.Name y py) c.env v = pure v := by intro _; rfl) :
    W1 c σ (.For (.Name x px) (.Name y py) body [] p) P X := ⟨fun s Q E ok hq xp => by
  obtain ⟨m, ms⟩ := ok.ms
  obtain ⟨v, as, hm, hr, _, hown⟩ := ms.vars y _ hl
  refine exec_for hc hf (wpAny_Name (wpAny_loadName_local hc.kind hky ms.ns hm ?_) hd)
  exact forList_core hc I τ a0 (ok.sub hsub) hr (fun w e => hown w (hoe ▸ e)) hfl ia hk hxo turn fin hq xp⟩
end
end Mine
end

section
set_option maxRecDepth 100000
set_option linter.unusedVariables false
set_option linter.unusedSimpArgs false
namespace Mine
open PySem PySem.Spec PySem.Calls PyProof.Rows PySem.W

section
variable {prog : Program} {w : World} {A : Around} {E : Value → Shared → Prop} {s : Shared}
theorem rangeNext_item {it : Addr} {x left step : Int} {o : Obj} {Q : Option Value → Shared → Prop} (ho : s.heap.get? it = some o) (hcl : o.cls = .type "range_iterator") (hd : o.data = .fields #[rawInt x, rawInt left, rawInt step]) (hleft : 0 < left)
    (hQ : ∀ h', (∃ o', h'.get? it = some o' ∧ o'.cls = .type "range_iterator" ∧ o'.data = .fields #[rawInt (x + step), rawInt (left - 1), rawInt step]) → Heap.SameBut it s.heap h' → Q (some (.int x s.toks)) { s with heap := h', toks := s.toks + 1 }) :
    wpAny (model prog w) A (pyNext (.ref it)) Q E s := by
  have hT : s.TypeIs (.ref it) "range_iterator" := ⟨_, ho, hcl⟩
  unfold pyNext
  refine wpAny_bind (wpAny_attempt (wpAny_callSpecial?_slot (name := Str.ofString "__next__") hT PySem.F.slot_range_iterator_next
    (wpAny_call_entry PySem.F.slot_range_iterator_next hT PySem.F.entry_range_iterator_next ?_ (PySem.F.args_range_iterator_next_1 _))))
  show wpAny _ _ (field (.ref it) 0 >>= _) _ _ s
  refine wpAny_bind (wpAny_field ho hd (x := rawInt x) rfl ?_)
  show wpAny _ _ (field (.ref it) 1 >>= _) _ _ s
  refine wpAny_bind (wpAny_field ho hd (x := rawInt left) rfl ?_)
  show wpAny _ _ (field (.ref it) 2 >>= _) _ _ s
  refine wpAny_bind (wpAny_field ho hd (x := rawInt step) rfl ?_)
  show wpAny _ _ (if left ≤ 0 then _ else _) _ _ s
  rw [if_neg (by omega)]
  refine wpAny_bind (wpAny_setField ho hd (by simp) ?_)
  have hd1 := Obj.data_mapFields hd (·.setIfInBounds 0 (rawInt (x + step)))
  have ho1 := Heap.get?_update_self (Obj.mapFields (·.setIfInBounds 0 (rawInt (x + step)))) ho (Obj.isFreed_of_fields hd1)
  refine wpAny_bind (wpAny_setField ho1 hd1 (by simp) ?_)
  have hd2 := Obj.data_mapFields hd1 (·.setIfInBounds 1 (rawInt (left - 1)))
  have ho2 := Heap.get?_update_self (Obj.mapFields (·.setIfInBounds 1 (rawInt (left - 1)))) ho1 (Obj.isFreed_of_fields hd2)
  show wpAny _ _ (retInt x) _ _ _
  refine wpAny_ret_mkInt ?_
  exact wpAny_pure (hQ _ ⟨_, ho2, (Obj.cls_mapFields _ _).trans ((Obj.cls_mapFields _ _).trans hcl), hd2⟩ ((Heap.SameBut.update ..).trans (Heap.SameBut.update ..)))
theorem rangeNext_end {it : Addr} {x left step : Int} {o : Obj} {Q : Option Value → Shared → Prop} (hh : A.handled = none) (ho : s.heap.get? it = some o) (hcl : o.cls = .type "range_iterator") (hd : o.data = .fields #[rawInt x, rawInt left, rawInt step]) (hleft : left ≤ 0)
    (hQ : ∀ h', Heap.ExtBut it s.heap h' → Q none { s with heap := h' }) : wpAny (model prog w) A (pyNext (.ref it)) Q E s := by
  have hT : s.TypeIs (.ref it) "range_iterator" := ⟨_, ho, hcl⟩
  unfold pyNext
  refine wpAny_bind (wpAny_attempt (wpAny_callSpecial?_slot (name := Str.ofString "__next__") hT PySem.F.slot_range_iterator_next
    (wpAny_call_entry PySem.F.slot_range_iterator_next hT PySem.F.entry_range_iterator_next ?_ (PySem.F.args_range_iterator_next_1 _))))
  show wpAny _ _ (field (.ref it) 0 >>= _) _ _ s
  refine wpAny_bind (wpAny_field ho hd (x := rawInt x) rfl ?_)
  show wpAny _ _ (field (.ref it) 1 >>= _) _ _ s
  refine wpAny_bind (wpAny_field ho hd (x := rawInt left) rfl ?_)
  show wpAny _ _ (field (.ref it) 2 >>= _) _ _ s
  refine wpAny_bind (wpAny_field ho hd (x := rawInt step) rfl ?_)
  show wpAny _ _ (if left ≤ 0 then _ else _) _ _ s
  rw [if_pos hleft]
  refine wpAny_bind (wpAny_rule ?_)
  refine wpAny_bind ?_
  show wpAny _ _ (newExc (.type "StopIteration") [] >>= _) _ _ _
  refine wpAny_bind ?_
  simp only [newExc, newTuple]
  refine wpAny_bind (wpAny_newObj_type ?_ (by size_fits))
  refine wpAny_bind (m := firstArgMember _ _) (wpAny_of_eq (a := Value.none) (by first | rfl | (simp only [firstArgMember]; rfl)) ?_)
  refine wpAny_newObj_type ?_ (by size_fits)
  simp only [raiseNew]
  refine wpAny_bind (wpAny_handled ?_)
  first | rw [show A.in1.handled = none from hh] | rw [hh]
  refine wpAny_bind (wpAny_pure (wpAny_throw ?_))
  refine wpAny_bind (wpAny_isInstance (T := "StopIteration") (b := true) ⟨_, Heap.get?_push_size _ rfl, rfl⟩ isSubtype_stop ?_)
  exact wpAny_pure (hQ _ (((Heap.ExtBut.refl it s.heap).push _).push _))
end

section
variable {c : Cx} {σ : St} {P : Po} {X : Exc → Prop}
theorem range_small {n : Nat} (h : n < 2 ^ 62) : Builtin.Range.small 0 n 1 = true ∧ Builtin.Range.rangeSize 0 n 1 = n := by
  have h1 : Builtin.Range.rangeSize 0 (n : Int) 1 = n := by
    rw [rangeSize_one]
    split <;> omega
  exact ⟨small_one (by decide) (by decide) (by omega) (by omega), h1⟩

/-- for over range(e) -/
theorem W1.forRange (hc : CxOk c) {x px e np rp body p} {α : Type} (I : Nat → Nat → α → Prop) (τ : α → St) (hxo : ∀ a w, (τ a).own = some w → w.name ≠ x)
    (h : We c σ e (fun d => ∃ n : Nat, d = .int n ∧ n < 2 ^ 62 ∧ (∃ a0, I n 0 a0 ∧ Sub ((τ a0).with [] []) σ) ∧
      (∀ its gs i a, i < n → I n i a → Ws c (((τ a).with its gs).set x (.int i)) body { next := fun σ' => ∃ a', I n (i + 1) a' ∧ Sub ((τ a').with its gs) σ', cont := fun σ' => ∃ a', I n (i + 1) a' ∧ Sub ((τ a').with its gs) σ', brk := P.next, ret := P.ret } X) ∧
      (∀ a, I n n a → P.next ((τ a).with [] []))) X) (hn : nsIn c.K mainGlobals "range" = some none := by kernel_rfl) (hkr : c.env.kindOf "range" = some .globalImplicit := by rfl)
    (hs : starEach [e] c.env = [(false, eval e c.env)] := by rfl) (hk : c.env.kindOf x = some .local := by rfl) (hf : ∀ v, foldedSetIterable (.Call (.Name "range" np) [e] [] rp) c.env v = pure v := by intro _; rfl) : W1 c σ (.For (.Name x px) (.Call (.Name "range" np) [e] [] rp) body [] p) P X := ⟨fun s Q E ok hq xp => by
  refine exec_for hc hf ?_
  obtain ⟨m, ms, F⟩ := ok.fr hc
  obtain ⟨p', loose, mg, mb, T⟩ := hc.gb.top
  have hb : bootBuiltins "range" = some (.type "range") := by kernel_rfl
  refine wpAny_Call_ofName (name_B F hc.gb.kin T hn hb (by decide) ?_ hc.kind hkr rfl)
  have hs' : backTo rp (starEach [e] c.env) = [(false, eval e c.env)] := by rw [hs]; rfl
  rw [hs']
  refine PyProof.Rows.callWith_type rfl (evalArgs_plain (spliced_cons ?_))
  refine h.go s _ E ok (fun v d as s₁ ⟨n, e', hz, ⟨a0, ia, hsub⟩, turn, fin⟩ ok₁ k₁ r₁ => spliced_nil ?_) xp
  subst e'
  obtain ⟨tt, rfl⟩ : ∃ tt, v = .int n tt := by cases r₁; exact ⟨_, rfl⟩
  refine call_range_1 ?_
  obtain ⟨sm, sz⟩ := range_small hz
  have o₂ : Ok c ((τ a0).with [] []) { s₁ with heap := s₁.heap.push { cls := .type "range", data := .fields #[.int 0 s₁.toks, .int n tt, .int 1 (s₁.toks + 1)] }, toks := s₁.toks + 1 + 1 } := (ok₁.sub hsub).push _ _
  refine wpAny_pyIter_range (Heap.get?_push_size _ rfl) sm ?_
  rw [sz]
  have hz2 : (s₁.heap.push { cls := .type "range", data := .fields #[.int 0 s₁.toks, .int n tt, .int 1 (s₁.toks + 1)] }).get? (s₁.heap.push { cls := .type "range", data := .fields #[.int 0 s₁.toks, .int n tt, .int 1 (s₁.toks + 1)] }).objs.size = none := Heap.get?_none_of_le (Nat.le_refl _)
  refine for_core hc (n := n) (fun i => (.type "range_iterator", .fields #[rawInt i, rawInt (n - i : Int), rawInt 1])) [] (fun i => .int i) (fun i => ⟨_, _, rfl⟩) (o₂.zero.kp.none hz2)
    (fun i hi s Q E ⟨o, q1, q2, q3⟩ hg hh => ?_) (fun s Q E ⟨o, q1, q2, q3⟩ hg hh => ?_) (I n) τ (fun i hi => rfl) hk hxo turn fin a0 ia ?_ hq xp
  · refine rangeNext_item q1 q2 q3 (by omega) fun h' ⟨o', z1, z2, z3⟩ hs => hh h' _ _ [] ⟨o', z1, z2, ?_⟩ hs (.int _ _)
    rw [z3]
    have e1 : (n : Int) - (i : Nat) - 1 = n - ((i + 1 : Nat) : Int) := by omega
    have e2 : ((i : Nat) : Int) + 1 = ((i + 1 : Nat) : Int) := by omega
    rw [e1, e2]
  · exact rangeNext_end rfl q1 q2 q3 (by omega) hh
  · have e0 : ((n : Int) - ((0 : Nat) : Int)) = n := by omega
    have e1 : (((0 : Nat) : Int)) = 0 := rfl
    rw [e0, e1]
    exact o₂.iter (fun p hp => nomatch hp)⟩

/-- for over the signs of a name's text (below 128) -/
theorem W1.forText (hc : CxOk c) {x px y py body p l} (hl : σ.vars.lookup y = some (.str (S l))) (hasc : ∀ k ∈ l, k < 128) {α : Type} (I : Nat → α → Prop) (τ : α → St) (a0 : α) (ia : I 0 a0) (hsub : Sub ((τ a0).with [] []) σ)
    (turn : ∀ its gs i a k, l[i]? = some k → I i a → Ws c (((τ a).with its gs).set x (.str (S [k]))) body { next := fun σ' => ∃ a', I (i + 1) a' ∧ Sub ((τ a').with its gs) σ', cont := fun σ' => ∃ a', I (i + 1) a' ∧ Sub ((τ a').with its gs) σ', brk := P.next, ret := P.ret } X)
    (fin : ∀ a, I l.length a → P.next ((τ a).with [] [])) (hxo : ∀ a w, (τ a).own = some w → w.name ≠ x) (hk : c.env.kindOf x = some .local := by rfl) (hky : c.env.kindOf y = some .local := by rfl) (hd : (y == ("__debug__" : Str)) = false := by rfl) (hf : ∀ v, foldedSetIterable (.Name y py) c.env v = pure v := by intro _; rfl) :
    W1 c σ (.For (.Name x px) (.Name y py) body [] p) P X := ⟨fun s Q E ok hq xp => by
  obtain ⟨m, ms⟩ := ok.ms
  obtain ⟨v, as, hm, hr, _, hown⟩ := ms.vars y _ hl
  refine exec_for hc hf (wpAny_Name (wpAny_loadName_local hc.kind hky ms.ns hm ?_) hd)
  cases hr with
  | str _ t =>
    refine wpAny_pyIter_ascii (by simpa [S] using hasc) ?_
    have hz : s.heap.get? s.heap.objs.size = none := Heap.get?_none_of_le (Nat.le_refl _)
    refine for_core hc (n := l.length) (fun i => (.type "str_ascii_iterator", .fields #[.str (S l) t, .int (i : Nat) 0])) [] (fun i => .str (S [l.getD i 0])) (fun i => ⟨_, _, rfl⟩) (ok.zero.kp.none hz)
      (fun i hi s Q E ho' hg hh => ?_) (fun s Q E ho' hg hh => ?_) I τ (fun i hi => rfl) hk hxo (fun its gs i a hi ia => ?_) fin a0 ia ((ok.sub hsub).iter (fun p hp => nomatch hp)) hq xp
    · have hd' : l[i]? = some l[i] := List.getElem?_eq_getElem hi
      refine wpAny_pyNext_ascii_item (x := S l) (t := t) (i := i) (c := l[i]) ho' (by simp [S, hi]) fun h' hit' hs => hh h' _ _ [] hit' hs ?_
      have he : l.getD i 0 = l[i] := by simp [List.getD, hd']
      rw [he]; exact .str _ _
    · exact wpAny_pyNext_ascii_end (x := S l) (t := t) rfl ho' (by simp [S]) hh
    · have hd' : l[i]? = some l[i] := List.getElem?_eq_getElem hi
      have he : l.getD i 0 = l[i] := by simp [List.getD, hd']
      rw [he]; exact turn its gs i a _ hd' ia⟩
end
end Mine
end

section
set_option maxRecDepth 100000
set_option linter.unusedVariables false
set_option linter.unusedSimpArgs false
namespace Mine
open PySem PySem.Spec PySem.Calls PyProof.Rows PySem.W PySem.Builtin.ObjectAttr

/-- an exception object and its dict -/
structure ExI (h : Heap) (C e de : Addr) (fs : Array Value) (mA : Str → Option Value) : Prop where
  obj : ∃ oe, h.get? e = some oe ∧ oe.cls = .ref C ∧ oe.dict = some de ∧ oe.data = .fields fs
  ns : h.Ns1 de mA
  ne : de ≠ e

section
variable {prog : Program} {w : World} {A : Around} {E : Value → Shared → Prop} {h : Heap} {g : Array GenState} {d : Drawn} {t : Nat} {os : OsState}
variable {nm q : Str} {C N x : Addr} {bs bm : List Value} {sn : List Str} {sub : List Value} {ab : Bool} {col : Option Bool} {dd : Option Addr} {k0 k1 k2 k3 k5 : Option Value} {B newId sa owner : String}
  {mN : Str → Option Value} {name : Str} {v : Value}

theorem osa_first {tk : Tok} {Q : Fin → Shared → Prop} (SF : StoreFacts B bm sa owner)
    (hC : h.get? C = some (excClassObj nm q C N bs bm true sn sub ab col dd k0 k1 k2 k3 k5 newId)) (hn : h.Ns N mN) (hna : mN name = none)
    (hB : typeLookup (.type B) name = pure none) {o : Obj} {fs : Array Value} (hx : h.get? x = some o) (hc : o.cls = .ref C) (hdn : o.dict = none) (hf : o.data = .fields fs)
    (hq : ∀ h' tk', ExI h' C x h.objs.size fs (fun y => if y = name then some v else none) → (∀ b ob, b ≠ x → h.get? b = some ob → h'.get? b = some ob) → Q (.done (.ret .none)) ⟨h', g, d, tk', os⟩) :
    wpAny (model prog w) A (Builtin.«object.__setattr__» ⟨[.ref x, .str name tk, v], []⟩) Q E ⟨h, g, d, t, os⟩ := by
  have hpass := SF.passes (.ref x)
  unfold Builtin.«object.__setattr__»
  repeat (first | rw [refuse_eq] | (rw [refuseLoop_ref, hpass]) | (with_reducible refine wpAny_loadPart_at hx ?_; rw [hc]) | with_reducible refine wpAny_mroOf_exc hC ?_ | (with_reducible refine wpAny_typeLookup_exc hC hn SF.mro hB ?_; rw [hna]) | wp_step)
  rw [hdn, if_neg (by simp [typeHasDict])]
  split
  · rename_i hcd
    cases hcd
  split
  · rename_i c hcd
    rw [hf] at hcd; cases hcd
  · have hx₁ : (h.push { cls := .type "dict", data := .dict #[] }).get? x = some o := Heap.get?_push_of_some _ hx
    have hxs : x ≠ h.objs.size := Nat.ne_of_lt (Heap.lt_size hx)
    refine wpAny_bind (wpAny_alloc' ?_)
    refine wpAny_bind (wpAny_update' hx₁ ?_)
    refine wpAny_pure ?_
    have hgd : ((h.push { cls := .type "dict", data := .dict #[] }).update x fun o => { cls := o.cls, dict := some h.objs.size, data := o.data, slots := o.slots }).get? h.objs.size
        = some { cls := .type "dict", data := .dict #[] } :=
      (Heap.get?_update_ne _ _ _ _ hxs.symm).trans (Heap.get?_push_at rfl rfl)
    have hnd : ((h.push { cls := .type "dict", data := .dict #[] }).update x fun o => { cls := o.cls, dict := some h.objs.size, data := o.data, slots := o.slots }).Ns h.objs.size (fun _ => none) :=
      ⟨_, #[], _, hgd, rfl, fun e he => absurd he (by simp), fun _ => rfl⟩
    show wpAny _ _ (storeInDict h.objs.size (.str name tk) name v) _ _ _
    unfold storeInDict newKeyGuard
    refine wpAny_bind (wpAny_pure (wpAny_bind (wpAny_nsSet1 (Heap.Ns1.of_empty hnd) fun h' hn' hs => ?_)))
    obtain ⟨oD, esD, epD, hoD, hdD, hcD⟩ := hn'.count (Within.cons name v Within.nil)
    refine wpAny_bind (wpAny_lookBehind hoD (by rw [hdD]; exact pastItsLine_dict (Nat.le_trans hcD (by rw [List.length_cons, List.length_nil, sizeLine_eq]; omega))) ?_)
    wp_walk
    have hx' : h'.get? x = some { cls := o.cls, dict := some h.objs.size, data := o.data, slots := o.slots } := by
      refine (hs.2 x hxs).trans (Heap.get?_update_self _ hx₁ ?_)
      have hfr := (Heap.get?_some_iff.mp hx).2
      obtain ⟨oc, od, odt, osl⟩ := o
      cases odt <;> first | rfl | exact hfr
    exact hq h' _ ⟨⟨_, hx', hc, rfl, hf⟩, hn', hxs.symm⟩ fun b ob hbx hb => (hs.2 b (Nat.ne_of_lt (Heap.lt_size hb))).trans ((Heap.get?_update_ne _ _ _ _ hbx).trans (Heap.get?_push_of_some _ hb))

theorem osa_next {tk : Tok} {Q : Fin → Shared → Prop} {ns : List Str} {mA : Str → Option Value} {dx : Addr} {fs : Array Value} (SF : StoreFacts B bm sa owner)
    (hC : h.get? C = some (excClassObj nm q C N bs bm true sn sub ab col dd k0 k1 k2 k3 k5 newId)) (hn : h.Ns N mN) (hna : mN name = none)
    (hB : typeLookup (.type B) name = pure none) (I : ExI h C x dx fs mA) (hw : Within mA ns) (hsz : ns.length ≤ 1000)
    (hq : ∀ h' tk', ExI h' C x dx fs (fun y => if y = name then some v else mA y) → (∀ b ob, b ≠ dx → h.get? b = some ob → h'.get? b = some ob) → Q (.done (.ret .none)) ⟨h', g, d, tk', os⟩) :
    wpAny (model prog w) A (Builtin.«object.__setattr__» ⟨[.ref x, .str name tk, v], []⟩) Q E ⟨h, g, d, t, os⟩ := by
  have hpass := SF.passes (.ref x)
  obtain ⟨⟨o, hx, hc, hdx, hf⟩, hns, hne⟩ := I
  unfold Builtin.«object.__setattr__»
  repeat (first | rw [refuse_eq] | (rw [refuseLoop_ref, hpass]) | (with_reducible refine wpAny_loadPart_at hx ?_; rw [hc]) | with_reducible refine wpAny_mroOf_exc hC ?_ | (with_reducible refine wpAny_typeLookup_exc hC hn SF.mro hB ?_; rw [hna]) | wp_step)
  rw [hdx]
  refine wpAny_pure ?_
  show wpAny _ _ (storeInDict dx (.str name tk) name v) _ _ _
  unfold storeInDict newKeyGuard
  refine wpAny_bind (wpAny_pure (wpAny_bind (wpAny_nsSet1 hns fun h' hn' hs => ?_)))
  obtain ⟨oD, esD, epD, hoD, hdD, hcD⟩ := hn'.count (Within.cons name v hw)
  refine wpAny_bind (wpAny_lookBehind hoD (by rw [hdD]; exact pastItsLine_dict (Nat.le_trans hcD (by rw [List.length_cons, sizeLine_eq]; omega))) ?_)
  wp_walk
  exact hq h' _ ⟨⟨o, (hs.2 x hne.symm).trans hx, hc, hdx, hf⟩, hn', hne⟩ fun b ob hbd hb => (hs.2 b hbd).trans hb

theorem set_wrap {Post : Heap → Prop} {Q : Unit → Shared → Prop} (SF : StoreFacts B bm sa owner) (hC : h.get? C = some (excClassObj nm q C N bs bm true sn sub ab col dd k0 k1 k2 k3 k5 newId)) (hn : h.Ns N mN) (hns : mN "__setattr__" = none)
    {o : Obj} (hx : h.get? x = some o) (hc : o.cls = .ref C)
    (hbody : ∀ (A : Around) (t tk : Nat) (Q : Fin → Shared → Prop) E, (∀ h' tk', Post h' → Q (.done (.ret .none)) ⟨h', g, d, tk', os⟩) → wpAny (model prog w) A (Builtin.«object.__setattr__» ⟨[.ref x, .str name tk, v], []⟩) Q E ⟨h, g, d, t, os⟩)
    (hq : ∀ h' tk', Post h' → Q () ⟨h', g, d, tk', os⟩) : wpAny (model prog w) A (setAttr (.ref x) name v) Q E ⟨h, g, d, t, os⟩ := by
  have f3 := SF.slot.bind (.ref x)
  unfold setAttr callSpecial? specialOf
  repeat (any_goals (first | assumption | (with_reducible refine wpAny_loadPart_at hx ?_; rw [hc]) | (with_reducible refine wpAny_typeLookup_exc hC hn SF.mro SF.slot.lookup ?_; rw [hns]) | wp_step))
  refine codeAny_call_builtin SF.slot.plain SF.entry (wpAny_check_sa SF hC hx hc (hbody _ _ _ _ _ fun h' tk' hp => ?_))
  repeat (any_goals (first | assumption | wp_step))
  exact hq h' tk' hp

theorem load_exc {bm : List Value} {sub : List Value} {fs : Array Value} {mA : Str → Option Value} {de : Addr} {Q : Value → Shared → Prop} (FB : ExcAttrBase B bm)
    (hC : h.get? C = some (excClassObj nm q C N bs bm true sn sub ab col dd k0 k1 k2 k3 k5 newId)) (hn : h.Ns N mN) (hga : mN "__getattribute__" = none) (hgt : mN "__getattr__" = none) (hna : mN name = none)
    (hB : typeLookup (.type B) name = pure none) (I : ExI h C x de fs mA) (hv : mA name = some v) (hh : handedOut v = pure v) (hq : Q v ⟨h, g, d, t + 1, os⟩) :
    wpAny (model prog w) A (getAttr (.ref x) name true) Q E ⟨h, g, d, t, os⟩ := by
  obtain ⟨⟨o, hx, hc, hdx, hf⟩, hns, hne⟩ := I
  have hcB : (Value.ref C :: bm).contains (.type "BaseException") = true := by rw [List.contains_cons, FB.hasBase, Bool.or_true]
  have hck : ∀ {M : Model} {A : Around} {nameV : Value} {Q : Unit → Shared → Prop} {E : Value → Shared → Prop} {t : Nat}, Q () ⟨h, g, d, t, os⟩ → wpAny M A (checkBuiltinCall "BaseException.__getattribute__" ⟨[.ref x, nameV], []⟩) Q E ⟨h, g, d, t, os⟩ := by
    intro M A nameV Q E t hq
    have hk : builtinKind "BaseException.__getattribute__" = some .slot := by decide +kernel
    have hsplit : splitId "BaseException.__getattribute__" = some ("BaseException", "__getattribute__") := by decide +kernel
    have ha := PySem.F.args_bexc_ga (.ref x) nameV
    simp only [checkBuiltinCall, hk, hsplit]
    refine wpAny_bind ?_
    unfold isInstance
    repeat (first | (with_reducible refine wpAny_loadPart_at hx ?_; rw [hc]) | (with_reducible refine wpAny_isSubtype_exc hC ?_; rw [hcB]) | wp_step)
    exact hq
  have body : ∀ {A : Around} {tk t : Nat} {Q : Fin → Shared → Prop} {E : Value → Shared → Prop}, Q (.done (.ret v)) ⟨h, g, d, t, os⟩ → wpAny (model prog w) A (Builtin.«object.__getattribute__» ⟨[.ref x, .str name tk], []⟩) Q E ⟨h, g, d, t, os⟩ := by
    intro A tk t Q E hq
    show wpAny _ _ (typeOf (.ref x) >>= fun tp => find (.ref x) tp name >>= _) _ _ _
    unfold find getOf
    repeat (any_goals (first | assumption | (with_reducible refine wpAny_loadPart_at hx ?_; rw [hc]) | (with_reducible refine wpAny_typeLookup_exc hC hn FB.mro hB ?_; rw [hna]) | wp_step))
    rw [hf]
    show wpAny _ _ (instanceDict x false) _ _ _
    unfold instanceDict
    repeat (any_goals (first | assumption | (with_reducible refine wpAny_loadPart_at hx ?_; rw [hc]) | with_reducible refine wpAny_loadPart_at hC ?_ | wp_step))
    rw [hdx]
    refine wpAny_pure ?_
    show wpAny _ _ (nsGet de name) _ _ _
    refine wpAny_nsGet hns.ns ?_
    rw [hv]
    exact wpAny_bind (wpAny_rule (wpAny_pure (wpAny_pure hq)))
  have f3 := FB.ga.bind (.ref x)
  unfold getAttr getAttrBy
  repeat (any_goals (first | assumption | (with_reducible refine wpAny_loadPart_at hx ?_; rw [hc]) | (with_reducible refine wpAny_typeLookup_exc hC hn FB.mro FB.ga.lookup ?_; rw [hga]) | (with_reducible refine wpAny_typeLookup_exc hC hn FB.mro FB.noGetattr ?_; rw [hgt]) | wp_step))
  refine codeAny_call_builtin FB.ga.plain PySem.F.entry_bexc_ga (hck (body ?_))
  show wpAny _ _ (handedOut v) Q E _
  rw [hh]
  exact wpAny_pure hq
end
theorem getMethod_of_type {prog : Program} {w : World} {K : Frag} {base : Heap} {L : Addr} {m : Str → Option Value} {T : String} {name : Str} {v : Value} (KI : K.In base) (h1 : typeOf (.type T) = pure (.type "type")) (h2 : Manifest.isStub T = false)
    (h3 : findCls K (.type T) (.type "type") name = some (.val v)) (h4 : handedIn v = true) {A : Around} {E : Value → Shared → Prop} {s : Shared} {pl : Sem Bool} {Q : Value × List Value → Shared → Prop} (F : Fr base L s.heap m) (hq : Q (v, []) { s with toks := s.toks + 1 }) :
    wpAny (model prog w) A (getMethod (.type T) name pl) Q E s := method_type F KI h1 h2 h3 h4 hq
end Mine
end

section
set_option maxRecDepth 100000
set_option linter.unusedVariables false
set_option linter.unusedSimpArgs false
namespace Mine
open PySem PySem.Spec PySem.Calls PyProof.Rows PySem.W PyProof.V

section
variable {c : Cx} {σ : St} {Φ : PyData → Prop} {P : Po} {X : Exc → Prop}

/-- an expression for its effect -/
theorem W1.expr {e p} (h : We c σ e (fun _ => P.next σ) X) (hi : interactive c.env = false := by rfl) (hsw : swapsWith e none p.line c.env = pure false := by rfl) : W1 c σ (.Expr e p) P X := ⟨fun s Q E ok hq xp =>
  wpAny_Expr_any (h.go s _ E ok (fun v d as s₁ h₁ o₁ k₁ r₁ => hq _ _ ⟨_, h₁, o₁⟩) xp) hi hsw⟩

/-! dict displays -/
theorem dict_made (hc : CxOk c) {keys : List (Option Expr)} {values : List Expr} {dp : Pos} {D : List (PyData × PyData)} {s : Shared} {Q : Value → Shared → Prop} {E : Value → Shared → Prop} (ok : Ok c σ s) (hD : litPairs keys values = some D) (hs : strKeyed D = true) (hn : (strKeysOf D).Nodup)
    (hall : keys.all (·.isSome) = true) (hl : keys.length = values.length) (h0 : keys ≠ []) (hlen : keys.length ≤ 15)
    (h : ∀ a s', Ok c σ s' → Kp s.heap s'.heap → StrTab c.prog c.w s'.heap a D → Q (.ref a) s') : wpAny c.M c.A (eval (.Dict keys values dp) c.env) Q E s := by
  refine Dict_lits_str hD hs hn hall hl h0 hlen fun a o h₁ tk ha ho ⟨kvs, hd, hf⟩ hk => ?_
  refine h a _ (ok.step ⟨rfl, rfl, rfl⟩ (.keep hk) fun b y e => hk b y (ok.zero.stays b y e)) (.keep hk) (TabAt.ofObj ?_ ho hd hf)
  have h1 := modules_low hc.gb.nolimit
  have h2 := Ok0.big hc ok.zero
  exact beq_eq_false_iff_ne.mpr (Nat.ne_of_gt (Nat.lt_of_lt_of_le h1 (Nat.le_trans h2 ha)))
theorem dict_item {prog : Program} {w : World} {A : Around} {E : Value → Shared → Prop} {s : Shared} {d : Addr} {D : List (PyData × PyData)} {value slice : Expr} {x : Str} {t : Tok} {dv : PyData} {Q : Value → Shared → Prop} (T : StrTab prog w s.heap d D) (hl : PySem.Spec.lookup (.str x) D = some dv)
    (h : ∀ v, Flat v dv → Q v { s with toks := s.toks + 1 })
    (hs : subscripted slice false (.ref d) (.str x t) = operate [.ref d, .str x t] (getItem (.ref d) (.str x t))) :
    wpAny (model prog w) A (subscriptTail value slice (.ref d) (.str x t)) Q E s := by
  have T' := T
  obtain ⟨lo, kvs, hd, hf⟩ := T
  obtain ⟨v, hv, hfl⟩ := hf.of_lookup same_str hl
  exact tab_tail T' (wpAny_getItem_of (strKind_is prog w x t) hd.mapOf hv (h v hfl)) hs
theorem We.dictSub (hc : CxOk c) {keys : List (Option Expr)} {values : List Expr} {dp np p : Pos} {x y : Str} {dv : PyData} (D : List (PyData × PyData)) (hv : σ.vars.lookup x = some (.str y)) (hlk : PySem.Spec.lookup (.str y) D = some dv) (h : Φ dv)
    (hD : litPairs keys values = some D) (hs : strKeyed D = true) (hn : (strKeysOf D).Nodup)
    (hall : keys.all (·.isSome) = true) (hl : keys.length = values.length) (h0 : keys ≠ []) (hlen : keys.length ≤ 15) (hk : c.env.kindOf x = some .local := by rfl) (hdb : (x == ("__debug__" : Str)) = false := by rfl)
    (ht : ∀ o i, subscripted (.Name x np) false o i = operate [o, i] (getItem o i) := by intro _ _; rfl) :
    We c σ (.Subscript (.Dict keys values dp) (.Name x np) p) Φ X := ⟨fun s Q E ok sp xp => by
  refine Subscript_ (dict_made hc ok hD hs hn hall hl h0 hlen fun a s' ok' k' T => ?_)
  obtain ⟨m, ms⟩ := ok'.ms
  obtain ⟨v, as, hm, hr, _⟩ := ms.vars x _ hv
  cases hr
  refine wpAny_Name (wpAny_loadName_local hc.kind hk ms.ns hm ?_) hdb
  exact dict_item T hlk (fun v hv => sp _ _ _ _ h (ok'.tok _) k' (hv _)) (ht _ _)⟩
theorem We.dictGet (hc : CxOk c) {keys : List (Option Expr)} {values : List Expr} {dp np ap p cp : Pos} {x y : Str} {n : Int} {k} (D : List (PyData × PyData)) (hv : σ.vars.lookup x = some (.str y)) (h : Φ ((PySem.Spec.lookup (.str y) D).getD (.int n)))
    (hD : litPairs keys values = some D) (hs : strKeyed D = true) (hn : (strKeysOf D).Nodup)
    (hall : keys.all (·.isSome) = true) (hl : keys.length = values.length) (h0 : keys ≠ []) (hlen : keys.length ≤ 15) (hk : c.env.kindOf x = some .local := by rfl) (hdb : (x == ("__debug__" : Str)) = false := by rfl) {pl : Sem Bool}
    (he : eval (.Call (.Attribute (.Dict keys values dp) "get" ap) [.Name x np, .Constant (.int n) k cp] [] p) c.env = (do
        let ov ← eval (.Dict keys values dp) c.env
        standAt ap.atName
        let fx ← holding [ov] (getMethod ov "get" pl)
        match fx with
          | (f, first) => callWith p f first (backTo p (starEach [.Name x np, .Constant (.int n) k cp] c.env)) []) := by rfl)
    (hse : starEach [.Name x np, .Constant (.int n) k cp] c.env = [(false, eval (.Name x np) c.env), (false, eval (.Constant (.int n) k cp) c.env)] := by rfl) :
    We c σ (.Call (.Attribute (.Dict keys values dp) "get" ap) [.Name x np, .Constant (.int n) k cp] [] p) Φ X := ⟨fun s Q E ok sp xp => by
  refine MethodCall_ (pl := pl) ?_ he
  refine dict_made hc ok hD hs hn hall hl h0 hlen fun a s' ok' k' T => ?_
  refine getMethod_strTab_get T ?_
  obtain ⟨m, ms⟩ := ok'.ms
  obtain ⟨v, as, hm, hr, _⟩ := ms.vars x _ hv
  cases hr
  have hs' : backTo p (starEach [.Name x np, .Constant (.int n) k cp] c.env) = [(false, eval (.Name x np) c.env), (false, eval (.Constant (.int n) k cp) c.env)] := by rw [hse]; rfl
  rw [hs']
  refine callWith_builtin rfl (evalArgs_plain (spliced_cons ?_))
  refine wpAny_Name (wpAny_loadName_local hc.kind hk ms.ns hm ?_) hdb
  refine spliced_cons (wpAny_Constant_int (spliced_nil ?_))
  exact call_get2_strTab (s := { s' with toks := s'.toks + 1 }) T (Flat.int n _) fun v hv => sp _ _ _ _ h (ok'.tok _) k' (hv _)⟩

/-! min of a list of ints -/
theorem ints_values {h : Heap} {ns : List Int} : ∀ {vs : List Value} {as : List Addr}, ReadsAll h vs (ns.map PyData.int) as → ∃ l : List (Int × Tok), vs = l.map (fun p => Value.int p.1 p.2) ∧ l.map (·.1) = ns := by
  induction ns with
  | nil => intro vs as r; cases r; exact ⟨[], rfl, rfl⟩
  | cons y ns ih =>
    intro vs as r
    cases r with
    | cons a b =>
      obtain ⟨t, rfl⟩ := rd_int a
      obtain ⟨l, rfl, rfl⟩ := ih b
      exact ⟨(y, t) :: l, rfl, rfl⟩
theorem boot_min' : bootBuiltins "min" = some (.builtin "min") := by kernel_rfl
theorem We.min (hc : CxOk c) {np e p} (h : We c σ e (fun d => ∃ ns : List Int, d = .list (ns.map .int) ∧ ns ≠ [] ∧ ∀ M, M ∈ ns → (∀ a ∈ ns, M ≤ a) → Φ (.int M)) X) (hn : nsIn c.K mainGlobals "min" = some none := by kernel_rfl)
    (hk : c.env.kindOf "min" = some .globalImplicit := by rfl) (hs : starEach [e] c.env = [(false, eval e c.env)] := by rfl) (hpl : ((backTo p (starEach [e] c.env)).any fun x => x.1) = false := by rfl) : We c σ (.Call (.Name "min" np) [e] [] p) Φ X := by
  refine We.callB hc boot_min' hn (by decide) ?_ hk rfl hs hpl
  refine Was.cons ⟨fun s Q E ok sp xp => h.go s Q E ok (fun v d as s' hd o k r => sp v d as s' ?_ o k r) xp⟩ hs
  refine Was.nil fun s vs as Q E ok rs sp => ?_
  cases rs with
  | cons r rr =>
    cases rr
    obtain ⟨ns, rfl, hne, hΦ⟩ := hd
    cases r with
    | list ho hcl hd' r =>
      rename_i l oo vs' n as'
      obtain ⟨xs, h1, h2⟩ := ints_values r
      have hits : vs' = intItems xs.toArray := by
        apply Array.ext'
        rw [h1]; simp [intItems]
      have hsz : 0 < xs.toArray.size := by
        have : xs.length = ns.length := by rw [← h2, List.length_map]
        rw [List.size_toArray, this]
        exact List.length_pos_iff.mpr hne
      refine min_intList (xs := xs.toArray) rfl ⟨oo, ho, hcl, n, hits ▸ hd'⟩ hsz fun v h' tk hv hk' => ?_
      obtain ⟨t, rfl⟩ := intItems_at hv
      obtain ⟨g1, g2⟩ := argBest_lt (numAt xs.toArray) (xs.toArray.size - 1)
      refine sp _ _ _ _ (hΦ _ ?_ fun a ha => ?_) (ok.step ⟨rfl, rfl, rfl⟩ (.keep hk') fun b y e => hk' b y (ok.zero.stays b y e)) (.keep hk') (.int _ _)
      · rw [numAt_eq, ← h2]; exact getD_mem (by rw [List.length_map]; rw [List.size_toArray] at hsz g1 ⊢; omega)
      · rw [← h2] at ha
        obtain ⟨j, hj, rfl⟩ := mem_getD ha
        rw [List.length_map] at hj
        have := g2 j (by rw [List.size_toArray]; omega)
        rwa [numAt_eq xs.toArray j] at this

/-! list of a tuple -/
theorem boot_list' : bootBuiltins "list" = some (.type "list") := by kernel_rfl
theorem We.listOf (hc : CxOk c) {np e p} (h : We c σ e (fun d => ∃ ds, d = .tuple ds ∧ ds.length ≤ 1000 ∧ Φ (.list ds)) X) (hn : nsIn c.K mainGlobals "list" = some none := by kernel_rfl)
    (hk : c.env.kindOf "list" = some .globalImplicit := by rfl) (hs : starEach [e] c.env = [(false, eval e c.env)] := by rfl) : We c σ (.Call (.Name "list" np) [e] [] p) Φ X := ⟨fun s Q E ok sp xp => by
  obtain ⟨m, ms, F⟩ := ok.fr hc
  obtain ⟨p', loose, mg, mb, T⟩ := hc.gb.top
  refine wpAny_Call_ofName (name_B F hc.gb.kin T hn boot_list' (by decide) ?_ hc.kind hk rfl)
  have hs' : backTo p (starEach [e] c.env) = [(false, eval e c.env)] := by rw [hs]; rfl
  rw [hs']
  refine PyProof.Rows.callWith_type rfl (evalArgs_plain (spliced_cons ?_))
  refine h.go s _ E ok (fun v d as s₁ ⟨ds, e', hz, hΦ⟩ ok₁ k₁ r₁ => spliced_nil ?_) xp
  subst e'
  cases r₁ with
  | tuple ho hcl hd r =>
    rename_i t oo vs n
    have e1 := readsAll_length r
    rw [Array.length_toList] at e1
    refine call_list_seq t (.inr rfl) ho hcl hd (fun h' c' hk' hg => ?_) (by rw [e1, sizeLine_eq]; omega)
    exact sp _ _ _ _ hΦ (ok₁.step ⟨rfl, rfl, rfl⟩ (.keep hk') fun b y e => hk' b y (ok₁.zero.stays b y e)) (k₁.trans (.keep hk')) (.list hg rfl rfl (readsAll_kp (.keep hk') r))⟩
end
end Mine
end

section
set_option maxRecDepth 100000
set_option linter.unusedVariables false
set_option linter.unusedSimpArgs false
namespace Mine
open PySem PySem.Spec PySem.Calls PyProof.Rows PySem.W PyProof.V

section
variable {c : Cx} {σ : St} {Φ : PyData → Prop} {P : Po} {X : Exc → Prop}
theorem readsAll_mem {h : Heap} {α : Type} (f : α → PyData) {rows : List α} : ∀ {vs : List Value} {as : List Addr}, ReadsAll h vs (rows.map f) as → ∀ v ∈ vs, ∃ r ∈ rows, ∃ bs, Reads h v (f r) bs := by
  induction rows with
  | nil => intro vs as r v hm; cases r; cases hm
  | cons r rows ih =>
    intro vs as r v hm
    cases r with
    | cons a b =>
      rcases List.mem_cons.mp hm with rfl | hm
      · exact ⟨_, .head _, _, a⟩
      · obtain ⟨r', h1, h2⟩ := ih b v hm
        exact ⟨r', .tail _ h1, h2⟩
noncomputable def FstOf (h : Heap) (v y : Value) : Prop := ∀ (x : Str) rest as, Reads h v (.tuple (.str x :: rest)) as → ∃ t, y = .str x t
theorem readsAll_fst {h h' : Heap} {rows : List (Str × List PyData)} : ∀ {vs ys : List Value} {as : List Addr}, ReadsAll h vs (rows.map fun r => .tuple (.str r.1 :: r.2)) as → Paired (FstOf h) vs ys → ReadsAll h' ys (rows.map fun r => .str r.1) [] := by
  induction rows with
  | nil => intro vs ys as r p; cases r; cases p; exact .nil
  | cons x rows ih =>
    intro vs ys as r p
    cases r with
    | cons a b =>
      cases p with
      | cons p q =>
        obtain ⟨t, rfl⟩ := p _ _ _ a
        exact .cons (as := []) (.str _ t) (ih b q)
theorem We.compFst (hc : CxOk c) {x y : Str} {rows : List (Str × List PyData)} {xp xp' yp pos kp sp : Pos} {k} {scope : Scope} (hv : σ.vars.lookup y = some (.list (rows.map fun r => .tuple (.str r.1 :: r.2)))) (hz : rows.length ≤ 1000) (h : Φ (.list (rows.map fun r => .str r.1)))
    (hfree : ∀ y ∈ scope.names, y.2 ≠ .free) (hcell : ∀ y ∈ scope.names, y.2 ≠ .cell) (hkind : scope.kind = .function) (hnames : ∀ y ∈ scope.names, y.2 = .local → scope.names.lookup y.1 = some .local) (hx : scope.names.lookup x = some .local)
    (hdx : (x == ("__debug__" : Str)) = false := by rfl) (hky : c.env.kindOf y = some .local := by rfl) (hd : (y == ("__debug__" : Str)) = false := by rfl) (hf : ∀ v, foldedSetIterable (.Name y yp) c.env v = pure v := by intro _; rfl) :
    We c σ (.ListComp (.Subscript (.Name x xp') (.Constant (.int 0) k kp) sp) [⟨.Name x xp, .Name y yp, [], 0⟩] scope pos) Φ X := ⟨fun s Q E ok spq xpq => by
  obtain ⟨m, ms⟩ := ok.ms
  obtain ⟨v, as, hm, hr, hnd, hown⟩ := ms.vars y _ hv
  refine wpAny_ListComp_map (fun _ => true) (FstOf s.heap) rfl hfree hcell hkind hnames hx (wpAny_Name (wpAny_loadName_local hc.kind hky ms.ns hm ?_) hd) hf
  cases hr with
  | list ho hcl hdt r =>
    rename_i l oo vs n as'
    have hlen : vs.size = rows.length := by have := readsAll_length r; simpa using this
    refine ⟨l, vs, rfl, ⟨oo, ho, hcl, n, hdt⟩, by rw [hlen, sizeLine_eq]; omega, fun C v s₂ m₂ E' hv hn hm hk => wpAny_tests_nil ⟨rfl, _, _, rfl, fun _ _ e => e⟩, fun C v s₂ m₂ E' hv _ hn hm hk => ?_, fun D h' tk ys hD hl hp hk => ?_⟩
    · obtain ⟨rw', hrm, bs, hr⟩ := readsAll_mem _ r v (by simpa using hv)
      refine Subscript_ (wpAny_Name (wpAny_loadName_local hkind hx hn hm ?_) hdx)
      refine wpAny_Constant_int ?_
      cases hr with
      | tuple to tcl td tr =>
        rename_i t ot vst nt
        obtain ⟨v0, bs0, q1, q2⟩ := readsAll_get (i := 0) tr rfl
        refine item_tupleT (l := vst.toList) (by rw [Array.toArray_toList]; exact ⟨_, hk _ _ to, tcl, _, td⟩) (by decide) (by decide) (j := 0) ?_ q1 ?_ (by rfl)
        · have := readsAll_length tr
          unfold seqIndex?
          rw [this]; simp
        · refine ⟨fun x' rest' as' hr' => ?_, _, _, rfl, fun _ _ e => e⟩
          cases hr' with
          | tuple to' tcl' td' tr' =>
            rw [to] at to'; cases to'
            rw [td] at td'; cases td'
            obtain ⟨v0', _, q1', q2'⟩ := readsAll_get (i := 0) tr' rfl
            rw [q1] at q1'; cases q1'
            cases q2'; exact ⟨_, rfl⟩
    · obtain ⟨o', hg, hcl', n', hd'⟩ := hl
      have e : vs.toList.filter (fun _ => true) = vs.toList := List.filter_eq_self.mpr fun _ _ => rfl
      rw [e] at hp
      exact spq _ _ _ _ h (ok.step ⟨rfl, rfl, rfl⟩ (.keep hk) fun b y e => hk b y (ok.zero.stays b y e)) (.keep hk) (.list hg hcl' hd' (readsAll_fst r hp))⟩
end
end Mine
end

section
set_option maxRecDepth 100000
set_option linter.unusedVariables false
set_option linter.unusedSimpArgs false
namespace Mine
open PySem PySem.Spec PySem.Calls PyProof.Rows PySem.W PyProof.V

section
variable {prog : Program} {w : World} {A : Around} {E : Value → Shared → Prop} {R : Result → Shared → Prop} {s : Shared}
/-- the loop of a list comprehension, the target's tuple let go -/
theorem compLoop_any {elt target iter : Expr} {ifs : List Expr} {scope : Scope} {pos : Pos} {it acc : Value} {env : Env} (I : Nat → Shared → Prop)
    (turn : ∀ n s, I n s → wpAny (model prog w) A (pyNext it) (fun r s₁ => match r with
      | none => R (.ok .next) s₁
      | some v => wpAny (model prog w) A (letOwnedTupleGo target it v) (fun _ s₁' => wpAny (model prog w) A (assign target env v) (fun _ s₂ =>
          wpAny (model prog w) A (forIn ifs true fun c r => if r = true then do let ok ← isTrue c env (eval c env); pure (ForInStep.yield ok) else pure (ForInStep.yield r)) (fun ok s₃ =>
            if ok = true then wpAny (model prog w) A (eval elt env) (fun x s₄ =>
              wpAny (model prog w) A (call (.builtin "list.append") [acc, x]) (fun _ s₅ => ∃ m, m < n ∧ I m s₅) (notedBy (model prog w) A env fun e s' => R (.error e) s') s₄) (notedBy (model prog w) A env fun e s' => R (.error e) s') s₃
            else ∃ m, m < n ∧ I m s₃) (notedBy (model prog w) A env fun e s' => R (.error e) s') s₂) (notedBy (model prog w) A env fun e s' => R (.error e) s') s₁') (notedBy (model prog w) A env fun e s' => R (.error e) s') s₁) (notedBy (model prog w) A env fun e s' => R (.error e) s') s)
    (n : Nat) (h : I n s) :
    codeAny (model prog w) A (.compLoop (.ListComp elt [⟨target, iter, ifs, 0⟩] scope pos) 0 it acc env) R s := by
  refine codeAny_loop rfl I (fun n s hI => ?_) n h
  show wpAny _ A ((compTurn (.ListComp elt [⟨target, iter, ifs, 0⟩] scope pos) 0 it acc env).onRaise (fun x => do noteFrame x env; theTreesLotGoes x)) _ _ s
  refine wpAny_noted ?_
  rw [compTurn_list]
  refine wpAny_bind (wpAny_standAt (wpAny_bind (wpAny_mono (turn n s hI) (fun r s₁ h₁ => ?_) fun _ _ h' => h')))
  cases r with
  | none => exact wpAny_pure h₁
  | some v =>
    refine wpAny_bind (wpAny_mono h₁ (fun _ s₁' h₁' => ?_) fun _ _ h' => h')
    refine wpAny_bind (wpAny_mono h₁' (fun _ s₂ h₂ => wpAny_bind (wpAny_mono h₂ (fun ok s₃ h₃ => ?_) fun _ _ h' => h')) fun _ _ h' => h')
    cases ok with
    | false => exact wpAny_pure ⟨rfl, h₃⟩
    | true =>
      exact wpAny_bind (wpAny_bind (wpAny_mono h₃ (fun x s₄ h₄ => wpAny_bind (wpAny_mono h₄ (fun _ s₅ h₅ => wpAny_pure (wpAny_pure ⟨rfl, h₅⟩)) fun _ _ h' => h')) fun _ _ h' => h'))
end

/-- the places at which the sign meets p -/
noncomputable def places (p : Str → Bool) : List Nat → Nat → List Int
  | [], _ => []
  | k :: r, i => if p (S [k]) = true then (i : Int) :: places p r (i + 1) else places p r (i + 1)
noncomputable def upTo (p : Str → Bool) (l : List Nat) (i : Nat) : List Int := places p (l.take i) 0
theorem places_snoc (p : Str → Bool) : ∀ (l : List Nat) (k i : Nat), places p (l ++ [k]) i = places p l i ++ (if p (S [k]) = true then [((i + l.length : Nat) : Int)] else [])
  | [], k, i => by simp [places]
  | a :: l, k, i => by
    rw [List.cons_append, places, places, places_snoc p l k (i + 1)]
    have : i + 1 + l.length = i + (a :: l).length := by rw [List.length_cons]; omega
    rw [this]
    split <;> simp
theorem upTo_succ (p : Str → Bool) (l : List Nat) (i k : Nat) (h : l[i]? = some k) : upTo p l (i + 1) = upTo p l i ++ (if p (S [k]) = true then [(i : Int)] else []) := by
  have hi : i < l.length := by
    cases Nat.lt_or_ge i l.length with
    | inl q => exact q
    | inr q => rw [List.getElem?_eq_none q] at h; cases h
  unfold upTo
  rw [List.take_add_one, h]
  show places p (List.take i l ++ [k]) 0 = _
  rw [places_snoc, List.length_take, Nat.min_eq_left (Nat.le_of_lt hi), Nat.zero_add]
theorem places_len (p : Str → Bool) : ∀ (l : List Nat) (i : Nat), (places p l i).length ≤ l.length
  | [], _ => Nat.le_refl _
  | a :: l, i => by
    rw [places, List.length_cons]
    have := places_len p l (i + 1)
    split <;> simp <;> omega

section
variable {c : Cx} {σ : St} {Φ : PyData → Prop} {P : Po} {X : Exc → Prop}
theorem ints_read (h : Heap) {vs : List Value} {ns : List Int} (r : IntsAre vs ns) : ReadsAll h vs (ns.map PyData.int) [] :=
  IntsAre.rec (motive := fun vs ns _ => ReadsAll h vs (ns.map PyData.int) []) .nil (fun _ t _ _ _ b => .cons (as := []) (.int _ t) b) r
theorem ints_snoc {vs : List Value} {ns : List Int} (n : Int) (t : Tok) (r : IntsAre vs ns) : IntsAre (vs ++ [.int n t]) (ns ++ [n]) :=
  IntsAre.rec (motive := fun vs ns _ => IntsAre (vs ++ [.int n t]) (ns ++ [n])) (.cons n t .nil) (fun m u _ _ _ b => .cons m u b) r
theorem boot_enumerate' : bootBuiltins "enumerate" = some (.type "enumerate") := by kernel_rfl
@[reducible] def EnumI (s : Shared) (p : Str → Bool) (l : List Nat) (t : Tok) (n : Addr) (k : Nat) (s' : Shared) : Prop :=
  ∃ h' tk m' i old ys, s' = { s with heap := h', toks := tk } ∧ IsEnum h' (n + 1) n ((i : Nat) : Int) old ∧ h'.IsStrIter n "str_ascii_iterator" (S l) t i ∧ h'.IsList (n + 2) ys ∧ h'.Ns (n + 3) m' ∧
    IntsAre ys.toList (upTo p l i) ∧ i ≤ l.length ∧ k = l.length + 1 - i ∧ ∀ b o, s.heap.get? b = some o → h'.get? b = some o
@[reducible] def EnumQ (c : Cx) (env : Env) (n : Addr) (Q E : Value → Shared → Prop) (r : Result) (s' : Shared) : Prop :=
  ∃ m, s'.heap.Ns (n + 3) m ∧ ∀ h', Heap.SameBut (n + 3) s'.heap h' →
    match r with | .ok _ => Q (.ref (n + 2)) { s' with heap := h' } | .error x => wpAny c.M c.A (passOn "comprehension.variables-let-go" x env) Q E { s' with heap := h' }
/-- [place for place, c in enumerate(rest) if f(c)] -/
theorem We.compEnum (hc : CxOk c) {x z y f : Str} {a : Addr} {l : List Nat} {q1 q2 q3 q4 q5 q6 q7 q8 q9 q10 pos : Pos} {k} {scope : Scope} {p : Str → Bool} (hv : σ.vars.lookup y = some (.str (S l))) (hasc : ∀ k ∈ l, k < 128) (hz : l.length ≤ 1000000)
    (hn : nsIn c.K mainGlobals f = some (some (.ref a))) (hkp : keepIn c.K (.ref a) = true)
    (hcall : ∀ (s : Shared) (k : Nat) (t : Tok) (Q : Value → Shared → Prop) E, c.base.StaysIn s.heap → c.base.objs.size ≤ s.heap.objs.size → (∀ h' tk, (∀ b o, s.heap.get? b = some o → h'.get? b = some o) → Q (.bool (p (S [k]))) { s with heap := h', toks := tk }) → wpAny c.M c.A (PySem.call (.ref a) [.str (S [k]) t]) Q E s)
    (h : Φ (.list ((places p l 0).map .int)))
    (hfree : ∀ y ∈ scope.names, y.2 ≠ .free) (hcell : ∀ y ∈ scope.names, y.2 ≠ .cell) (hkind : scope.kind = .function) (hnames : ∀ y ∈ scope.names, y.2 = .local → scope.names.lookup y.1 = some .local) (hx : scope.names.lookup x = some .local) (hzl : scope.names.lookup z = some .local) (hxz : x ≠ z)
    (hfl : scope.names.lookup f = some .globalImplicit) (hne : nsIn c.K mainGlobals "enumerate" = some none)
    (hdx : (x == ("__debug__" : Str)) = false := by rfl) (hdz : (z == ("__debug__" : Str)) = false := by rfl) (hdf : (f == ("__debug__" : Str)) = false := by rfl) (hky : c.env.kindOf y = some .local := by rfl) (hke : c.env.kindOf "enumerate" = some .globalImplicit := by rfl) (hd : (y == ("__debug__" : Str)) = false := by rfl)
    (hf : ∀ v, foldedSetIterable (.Call (.Name "enumerate" q5) [.Name y q6] [] q7) c.env v = pure v := by intro _; rfl) (hsy : starEach [.Name y q6] c.env = [(false, eval (.Name y q6) c.env)] := by rfl) :
    We c σ (.ListComp (.Name x q1) [⟨.Tuple [.Name x q2, .Name z q3] k q4, .Call (.Name "enumerate" q5) [.Name y q6] [] q7, [.Call (.Name f q8) [.Name z q9] [] q10], 0⟩] scope pos) Φ X := ⟨fun s Q E ok spq xpq => by
  obtain ⟨m, ms, F⟩ := ok.fr hc
  obtain ⟨v, as, hm, hr, hnd, hown⟩ := ms.vars y _ hv
  obtain ⟨p', loose, mg, mb, T⟩ := hc.gb.top
  cases hr with
  | str _ t =>
  refine wpAny_ListComp hfree hkind hnames ?_ hf
  refine wpAny_Call_ofName (name_B F hc.gb.kin T hne boot_enumerate' (by decide) ?_ hc.kind hke rfl)
  have hs' : backTo q7 (starEach [.Name y q6] c.env) = [(false, eval (.Name y q6) c.env)] := by rw [hsy]; rfl
  rw [hs']
  refine PyProof.Rows.callWith_type rfl (evalArgs_plain (spliced_cons (wpAny_Name (wpAny_loadName_local hc.kind hky ms.ns hm (spliced_nil ?_)) hd)))
  refine call_enumerate_str fun h0 hE0 hI0 hz0 hk0 => ?_
  have hty : strIterType (S l) = "str_ascii_iterator" := by
    unfold strIterType
    rw [if_pos (by simpa [S] using hasc)]
  rw [hty] at hI0
  refine wpAny_pyIter_enum hE0 ?_
  refine wpAny_newObj_type (hd := by size_fits) (wpAny_newFunctionEnv hcell (by intro y hy; simp at hy) (fun h₁ hns₁ hsb₁ => ?_) hkind)
  dsimp only at hns₁ hsb₁ ⊢
  generalize hn0 : s.heap.objs.size = n at *
  have hlow : ∀ b o, s.heap.get? b = some o → b < n := fun b o e => hn0 ▸ Heap.lt_size e
  generalize hH2 : h0.push { cls := .type "list", dict := none, data := .seq ([] : List Value).toArray } = H2 at hns₁ hsb₁ ⊢
  have hC : H2.objs.size = n + 3 := by rw [← hH2, Heap.size_push, hz0]
  rw [hz0]
  rw [hC] at hns₁ hsb₁ ⊢
  have old : ∀ b o, h0.get? b = some o → h₁.get? b = some o := fun b o e => by
    have hb := Heap.lt_size e
    rw [hz0] at hb
    exact hsb₁.extBut b o (Nat.ne_of_lt (Nat.lt_succ_of_lt hb)) (Heap.get?_push_of_some _ (hH2 ▸ Heap.get?_push_of_some _ e))
  have hacc : h₁.IsList (n + 2) #[] := ⟨_, hsb₁.extBut _ _ (Nat.ne_of_lt (Nat.lt_succ_self _)) (Heap.get?_push_of_some _ (hH2 ▸ (hz0 ▸ Heap.get?_push_size _ rfl))), rfl, _, rfl⟩
  have hEl : n + 1 ≠ n := Nat.succ_ne_self _
  have hDI : n + 2 ≠ n := Nat.ne_of_gt (Nat.lt_succ_of_lt (Nat.lt_succ_self _))
  have hDe : n + 2 ≠ n + 1 := Nat.succ_ne_self _
  have hCI : n + 3 ≠ n := Nat.ne_of_gt (Nat.lt_succ_of_lt (Nat.lt_succ_of_lt (Nat.lt_succ_self _)))
  have hCe : n + 3 ≠ n + 1 := Nat.ne_of_gt (Nat.lt_succ_of_lt (Nat.lt_succ_self _))
  have hCD : n + 3 ≠ n + 2 := Nat.succ_ne_self _
  have oldn : ∀ b o, s.heap.get? b = some o → b ≠ n ∧ b ≠ n + 1 ∧ b ≠ n + 2 ∧ b ≠ n + 3 := fun b o e =>
    have q := hlow b o e
    ⟨Nat.ne_of_lt q, Nat.ne_of_lt (Nat.lt_succ_of_lt q), Nat.ne_of_lt (Nat.lt_succ_of_lt (Nat.lt_succ_of_lt q)), Nat.ne_of_lt (Nat.lt_succ_of_lt (Nat.lt_succ_of_lt (Nat.lt_succ_of_lt q)))⟩
  have D := Draws.strAscii (prog := c.prog) (w := c.w) (A := c.A.in1) rfl n (S l) t
  have hsz : (S l).cps.size = l.length := by simp [S]
  have loop : ∀ s₂ : Shared, s₂ = { s with heap := h₁, toks := s.toks + ([] : List (Str × Value)).length } →
      codeAny c.M c.A (.compLoop (.ListComp (.Name x q1) [⟨.Tuple [.Name x q2, .Name z q3] k q4, .Call (.Name "enumerate" q5) [.Name y q6] [] q7, [.Call (.Name f q8) [.Name z q9] [] q10], 0⟩] scope pos) 0 (.ref (n + 1)) (.ref (n + 2)) (compEnv scope (n + 3) c.env))
        (EnumQ c (compEnv scope (n + 3) c.env) n Q E) s₂ := by
    rintro s₂ rfl
    refine compLoop_any
      (EnumI s p l t n) ?_ (l.length + 1)
      ⟨h₁, _, _, 0, .none, #[], rfl, old _ _ hE0, let ⟨o, ho, r⟩ := hI0; ⟨o, old _ _ ho, r⟩, hacc, hns₁, by simpa [upTo, places] using IntsAre.nil, Nat.zero_le _, rfl, fun b o e => old b o (hk0 b o e)⟩
    rintro k s' ⟨H, tk, m', i, old', ys, rfl, he', hit', hacc', hn', hF, hi, rfl, hk⟩
    by_cases hlt : i < l.length
    · refine wpAny_pyNext_enum_itemD D he' hit' (by rw [hsz]; exact hlt) hEl (by simp [hEl]) fun x1 h2 tk2 hP heo hst ht2 hsz2 hk2 => ?_
      obtain ⟨kk, u, hkk, rfl⟩ := hP
      have hkl : l[i]? = some kk := by simpa [S] using hkk
      have hHe : n + 1 < H.objs.size := Heap.lt_size he'
      have hHI : n < H.objs.size := let ⟨_, ho, _⟩ := hit'; Heap.lt_size ho
      have hHD : n + 2 < H.objs.size := let ⟨_, ho, _⟩ := hacc'; Heap.lt_size ho
      have hHC : n + 3 < H.objs.size := hn'.lt
      refine wpAny_letOwnedTupleGo_enum heo fun h3 he3 hs3 => ?_
      replace hs3 : Heap.SameBut (n + 1) h2 h3 := hs3
      have ht3 : h3.IsTuple H.objs.size #[.int i tk2, .str ⟨#[kk]⟩ u] := ⟨_, (hs3.2 _ (Nat.ne_of_gt hHe)).trans ht2, rfl, _, rfl⟩
      have hz3 : h3.objs.size = H.objs.size + 1 := hs3.1.trans hsz2
      refine wpAny_assign_Tuple rfl ht3 rfl rfl fun h4 hx4 => ?_
      replace hx4 : Heap.ExtBut h3.objs.size h3 h4 := hx4
      have up4 : ∀ b o, b < H.objs.size → b ≠ n + 1 → b ≠ n → H.get? b = some o → h4.get? b = some o := fun b o hb h1 h2 e =>
        hx4 b o (by rw [hz3]; exact Nat.ne_of_lt (Nat.lt_succ_of_lt hb)) ((hs3.2 b h1).trans (hk2 b o h1 h2 e))
      have hn4 : h4.Ns (n + 3) m' := hn'.at fun o e => up4 _ o hHC hCe hCI e
      show wpAny c.M c.A (do holding [Value.str ⟨#[kk]⟩ u] (assign (.Name x q2) (compEnv scope (n + 3) c.env) (.int i tk2)); do holding [] (assign (.Name z q3) (compEnv scope (n + 3) c.env) (.str ⟨#[kk]⟩ u)); pure ()) _ _ _
      have hpp : ((compEnv scope (n + 3) c.env).scope.kind == .class || ((compEnv scope (n + 3) c.env).scope.kind == .module && (compEnv scope (n + 3) c.env).locals != (compEnv scope (n + 3) c.env).globals)) = false := by simp [compEnv, hkind]
      refine wpAny_bind (wpAny_holding (wpAny_assign_Name (wpAny_storeName_local (env := compEnv scope (n + 3) c.env) hx hn4 (fun h5 hn5 hs5 => ?_) hpp)))
      replace hs5 : Heap.SameBut (n + 3) h4 h5 := hs5
      refine wpAny_bind (wpAny_holding (wpAny_assign_Name (wpAny_storeName_local (env := compEnv scope (n + 3) c.env) hzl hn5 (fun h6 hn6 hs6 => wpAny_pure ?_) hpp)))
      replace hs6 : Heap.SameBut (n + 3) h5 h6 := hs6
      have up6 : ∀ b o, b ≠ n + 3 → h4.get? b = some o → h6.get? b = some o := fun b o hb e => hs6.extBut b o hb (hs5.extBut b o hb e)
      have k6 : ∀ b o, s.heap.get? b = some o → h6.get? b = some o := fun b o e =>
        up6 b o (oldn b o e).2.2.2 (up4 b o (Heap.lt_size (hk b o e)) (oldn b o e).2.1 (oldn b o e).1 (hk b o e))
      have F6 : Fr c.base c.L h6 m := ⟨ms.ns.keeps k6, fun b o e => k6 b o (F.keep b o e), hc.low⟩
      have st6 : c.base.StaysIn h6 := F6.keep
      refine wpAny_tests_one (wpAny_isTrue_value (wpAny_Call_ofName (nameG_K F6 hc.gb.kin T hn ?_ rfl hkind hfl hdf)))
      refine callWith_K hc.gb.kin hkp ?_ rfl rfl
      refine spliced_cons (wpAny_Name (wpAny_loadName_local (env := compEnv scope (n + 3) c.env) hkind hzl hn6 (v := .str (S [kk]) u) (by simp) ?_) hdz)
      refine spliced_nil ⟨hc.gb.kin.keeps st6, ?_⟩
      refine hcall _ _ _ _ _ st6 (Nat.le_trans F6.above (Nat.le_of_lt F6.ns.lt)) fun h7 tk7 hk7 => ?_
      refine wpAny_truthy_bool ?_
      have e7 : ∀ b o, b ≠ n + 3 → b < H.objs.size → b ≠ n + 1 → b ≠ n → H.get? b = some o → h7.get? b = some o := fun b o a1 a2 a3 a4 e => hk7 b o (up6 b o a1 (up4 b o a2 a3 a4 e))
      have acc7 : h7.IsList (n + 2) ys := hacc'.at fun o e => e7 _ o (Ne.symm hCD) hHD hDe hDI e
      have hn7 := hn6.keeps hk7
      have E7 : IsEnum h7 (n + 1) n (((i + 1 : Nat) : Int)) (.str ⟨#[kk]⟩ u) := by
        have : ((i + 1 : Nat) : Int) = (i : Int) + 1 := by push_cast; rfl
        rw [this]
        refine hk7 _ _ (up6 _ _ (Ne.symm hCe) (hx4 _ _ (by rw [hz3]; exact Nat.ne_of_lt (Nat.lt_succ_of_lt hHe)) he3))
      have I7 : h7.IsStrIter n "str_ascii_iterator" (S l) t (i + 1) := by
        obtain ⟨o, ho, r⟩ := hst
        exact ⟨o, hk7 _ _ (up6 _ _ (Ne.symm hCI) (hx4 _ _ (by rw [hz3]; exact Nat.ne_of_lt (Nat.lt_succ_of_lt hHI)) ((hs3.2 _ (Ne.symm hEl)).trans ho))), r⟩
      have k7 : ∀ b o, s.heap.get? b = some o → h7.get? b = some o := fun b o e => hk7 b o (k6 b o e)
      have hus := upTo_succ p l i kk hkl
      cases hp : p (S [kk]) with
      | false =>
        rw [if_neg (by decide)]
        rw [hp, if_neg (by decide), List.append_nil] at hus
        exact ⟨l.length + 1 - (i + 1), by omega, h7, _, _, i + 1, _, ys, rfl, E7, I7, acc7, hn7, hus ▸ hF, hlt, rfl, k7⟩
      | true =>
        rw [if_pos rfl]
        rw [hp, if_pos rfl] at hus
        refine wpAny_Name (wpAny_loadName_local (env := compEnv scope (n + 3) c.env) hkind hx hn7 (v := .int i tk2) (by simp [hxz]) ?_) hdx
        have hys : ys.size ≤ sizeLine := by
          have e1 : ys.toList.length = (upTo p l i).length := by
            have := ints_read h7 hF
            have := readsAll_length this
            simpa using this
          have e2 := places_len p (l.take i) 0
          have e3 : (l.take i).length ≤ l.length := by rw [List.length_take]; omega
          have e4 : ys.toList.length = ys.size := by simp
          rw [sizeLine_eq]
          unfold upTo at e1
          omega
        refine wpAny_list_append (hsz := hys) acc7 fun h8 hl8 hs8 => ?_
        replace hs8 : Heap.SameBut (n + 2) h7 h8 := hs8
        refine ⟨l.length + 1 - (i + 1), by omega, h8, _, _, i + 1, _, ys.push (.int i tk2), rfl, (hs8.2 _ (Ne.symm hDe)).trans E7, I7.extBut hs8.extBut (Ne.symm hDI), hl8, hn7.sameBut hs8 hCD, ?_, hlt, rfl, fun b o e => (hs8.2 b (oldn b o e).2.2.1).trans (k7 b o e)⟩
        rw [hus, Array.toList_push]
        exact ints_snoc _ _ hF
    · have hil : i = l.length := by omega
      subst hil
      refine wpAny_pyNext_enum_endD D he' (hsz ▸ hit') fun h2 he2 => ?_
      refine ⟨m', hn'.extBut he2 hCI, fun h3 hs3 => ?_⟩
      have hk3 : ∀ b o, s.heap.get? b = some o → h3.get? b = some o := fun b o e => (hs3.2 b (oldn b o e).2.2.2).trans (he2 b o (oldn b o e).1 (hk b o e))
      obtain ⟨oL, hL, hLc, nL, hLd⟩ := hacc'
      have e0 : upTo p l l.length = places p l 0 := by unfold upTo; rw [List.take_of_length_le (Nat.le_refl _)]
      rw [e0] at hF
      have rd := ints_read h3 hF
      refine spq _ _ _ _ h (ok.step ⟨rfl, rfl, rfl⟩ (.keep hk3) fun b y e => hk3 b y (ok.zero.stays b y e)) (.keep hk3) (.list ((hs3.2 _ (Ne.symm hCD)).trans (he2 _ _ hDI hL)) hLc hLd rd)
  exact codeAny_compStart_list (loop _ rfl) (wpAny_pyIter_enum (old _ _ hE0) (loop _ rfl))⟩
end
end Mine
end

section
set_option maxRecDepth 100000
set_option linter.unusedVariables false
set_option linter.unusedSimpArgs false
namespace Mine
open PySem PySem.Spec PySem.Calls PyProof.Rows PySem.W
theorem split_ite {b : Bool} {A B : Prop} (h1 : b = true → A) (h2 : b = false → B) : if b = true then A else B := by
  cases b with
  | true => exact h1 rfl
  | false => exact h2 rfl
theorem split_dec {p : Prop} [Decidable p] {A B : Prop} (h1 : p → A) (h2 : ¬ p → B) : if decide p = true then A else B := by
  by_cases h : p
  · rw [if_pos (decide_eq_true h)]; exact h1 h
  · rw [if_neg (by simp [h])]; exact h2 h
theorem split_beq {α : Type} [BEq α] [LawfulBEq α] {x y : α} {A B : Prop} (h1 : x = y → A) (h2 : ¬ x = y → B) : if (x == y) = true then A else B := by
  cases h : x == y with
  | true => exact h1 (beq_iff_eq.mp h)
  | false => exact h2 (beq_eq_false_iff_ne.mp h)
theorem split_bne {α : Type} [BEq α] [LawfulBEq α] {x y : α} {A B : Prop} (h1 : ¬ x = y → A) (h2 : x = y → B) : if (x != y) = true then A else B := by
  cases h : x == y with
  | true => rw [bne, h]; exact h2 (beq_iff_eq.mp h)
  | false => rw [bne, h]; exact h1 (beq_eq_false_iff_ne.mp h)
theorem S_eq (a b : List Nat) : (S a = S b) = (a = b) := propext ⟨S_inj, fun h => by rw [h]⟩
theorem dec_tt {p : Prop} [Decidable p] {A B : Prop} (h : p) (a : A) : if decide p = true then A else B := by rw [if_pos (decide_eq_true h)]; exact a
theorem dec_ff {p : Prop} [Decidable p] {A B : Prop} (h : ¬ p) (b : B) : if decide p = true then A else B := by rw [if_neg (by simp [h])]; exact b
theorem seq_tt {x y : List Nat} {A B : Prop} (h : x = y) (a : A) : if (S x == S y) = true then A else B := by subst h; rw [if_pos (by simp)]; exact a
theorem seq_ff {x y : List Nat} {A B : Prop} (h : ¬ x = y) (b : B) : if (S x == S y) = true then A else B := by rw [if_neg (by rw [S_beq, decide_eq_false h]; decide)]; exact b
theorem split_one {x y : Nat} {A B : Prop} (h1 : x = y → A) (h2 : ¬ x = y → B) : if (S [x] == S [y]) = true then A else B := by
  by_cases h : x = y
  · exact seq_tt (by rw [h]) (h1 h)
  · exact seq_ff (by simpa using h) (h2 h)
theorem split_seq {x y : List Nat} {A B : Prop} (h1 : x = y → A) (h2 : ¬ x = y → B) : if (S x == S y) = true then A else B := by
  by_cases h : x = y
  · exact seq_tt h (h1 h)
  · exact seq_ff h (h2 h)
theorem sne_tt {x y : List Nat} {A B : Prop} (h : ¬ x = y) (a : A) : if (S x != S y) = true then A else B := by rw [if_pos (by rw [bne, S_beq, decide_eq_false h]; decide)]; exact a
theorem sne_ff {x y : List Nat} {A B : Prop} (h : x = y) (b : B) : if (S x != S y) = true then A else B := by subst h; rw [if_neg (by simp)]; exact b
theorem split_sne {x y : List Nat} {A B : Prop} (h1 : ¬ x = y → A) (h2 : x = y → B) : if (S x != S y) = true then A else B := by
  by_cases h : x = y
  · exact sne_ff h (h2 h)
  · exact sne_tt h (h1 h)
theorem anyEq_cons (a b : List Nat) (r : List PyData) : anyEq (S a) (.str (S b) :: r) = (decide (b = a) || anyEq (S a) r) := by rw [anyEq, S_beq]
theorem anyEq_nil (a : Str) : anyEq a [] = false := rfl
theorem ex_prop {p : Prop} {q : p → Prop} (h : p) (k : q h) : ∃ h, q h := ⟨h, k⟩
theorem catS_S (a b : List Nat) : catS (S a) (S b) = S (a ++ b) := rfl
theorem S_size (a : List Nat) : (S a).cps.size = a.length := rfl
theorem ite_ff {A B : Prop} {d : Decidable (false = true)} (h : B) : @ite Prop (false = true) d A B := by rw [if_neg Bool.false_ne_true]; exact h
theorem ite_tt {A B : Prop} {d : Decidable (true = true)} (h : A) : @ite Prop (true = true) d A B := by rw [if_pos rfl]; exact h
noncomputable def AllIn (σ : St) : List (Str × PyData) → Prop
  | [] => True
  | p :: r => σ.vars.lookup p.1 = some p.2 ∧ AllIn σ r
theorem AllIn.mem {σ : St} : ∀ {l : List (Str × PyData)}, AllIn σ l → ∀ p ∈ l, σ.vars.lookup p.1 = some p.2
  | p :: r, h, q, hm => by
    rcases List.mem_cons.mp hm with rfl | hm
    · exact h.1
    · exact h.2.mem q hm
theorem sub_of {σ₀ σ : St} (h : AllIn σ σ₀.vars) (ho : σ₀.own = none ∨ σ₀.own = σ.own) (hm : ∀ p ∈ σ₀.more, p ∈ σ.more) (hg : ∀ p ∈ σ₀.gh, p ∈ σ.gh) : Sub σ₀ σ :=
  ⟨fun x d e => h.mem (x, d) (mem_of_lookup e), ho, hm, hg⟩
section
variable {c : Cx} {σ : St} {Φ : PyData → Prop} {P : Po} {X : Exc → Prop}
theorem We.mono {Ψ : PyData → Prop} {e} (h : We c σ e Ψ X) (hi : ∀ d, Ψ d → Φ d) : We c σ e Φ X := ⟨fun s Q E ok sp xp => h.go s Q E ok (fun v d as s' hd o k r => sp v d as s' (hi _ hd) o k r) xp⟩
theorem Wt.mono {Ψ Φ : Bool → Prop} {e} (h : Wt c σ e Ψ X) (hi : ∀ d, Ψ d → Φ d) : Wt c σ e Φ X := ⟨fun s Q E ok hq xp => h.go s Q E ok (fun b s' hb o k => hq b s' (hi _ hb) o k) xp⟩
theorem We.lenS (hc : CxOk c) {np e p} (h : We c σ e (fun d => ∃ l, d = .str (S l) ∧ l.length < 2 ^ 62 ∧ Φ (.int (l.length : Nat))) X) (hn : nsIn c.K mainGlobals "len" = some none := by kernel_rfl)
    (hk : c.env.kindOf "len" = some .globalImplicit := by rfl) (hs : starEach [e] c.env = [(false, eval e c.env)] := by rfl) (hpl : ((backTo p (starEach [e] c.env)).any fun x => x.1) = false := by rfl) : We c σ (.Call (.Name "len" np) [e] [] p) Φ X := by
  refine We.len hc (h.mono fun d hd => ?_) hn hk hs hpl
  obtain ⟨l, rfl, h1, h2⟩ := hd
  exact .inl ⟨S l, rfl, by rw [S_len]; exact h1, by rw [S_len]; exact h2⟩
theorem We.lenL (hc : CxOk c) {np e p} (h : We c σ e (fun d => ∃ l, d = .list l ∧ l.length < 2 ^ 62 ∧ Φ (.int (l.length : Nat))) X) (hn : nsIn c.K mainGlobals "len" = some none := by kernel_rfl)
    (hk : c.env.kindOf "len" = some .globalImplicit := by rfl) (hs : starEach [e] c.env = [(false, eval e c.env)] := by rfl) (hpl : ((backTo p (starEach [e] c.env)).any fun x => x.1) = false := by rfl) : We c σ (.Call (.Name "len" np) [e] [] p) Φ X := by
  refine We.len hc (h.mono fun d hd => ?_) hn hk hs hpl
  obtain ⟨l, rfl, h1, h2⟩ := hd
  exact .inr ⟨l, rfl, h1, h2⟩
theorem We.ordS (hc : CxOk c) {np e p} (h : We c σ e (fun d => ∃ k, d = .str (S [k]) ∧ Φ (.int (k : Nat))) X) (hn : nsIn c.K mainGlobals "ord" = some none := by kernel_rfl)
    (hk : c.env.kindOf "ord" = some .globalImplicit := by rfl) (hs : starEach [e] c.env = [(false, eval e c.env)] := by rfl) (hpl : ((backTo p (starEach [e] c.env)).any fun x => x.1) = false := by rfl) : We c σ (.Call (.Name "ord" np) [e] [] p) Φ X := by
  refine We.ord hc (h.mono fun d hd => ?_) hn hk hs hpl
  obtain ⟨k, rfl, h2⟩ := hd
  exact ⟨S [k], rfl, rfl, h2⟩
theorem We.findS {o ap e p} (h : We c σ o (fun d => ∃ a, d = .str (S a) ∧ We c σ e (fun d' => ∃ b, d' = .str (S b) ∧ ∃ i, Txt.find (S a) (S b) = i ∧ Φ (.int i)) X) X) {pl : Sem Bool}
    (he : eval (.Call (.Attribute o "find" ap) [e] [] p) c.env = (do
        let ov ← eval o c.env
        standAt ap.atName
        let fx ← holding [ov] (getMethod ov "find" pl)
        match fx with
          | (f, first) => callWith p f first (backTo p (starEach [e] c.env)) []) := by rfl)
    (hs : starEach [e] c.env = [(false, eval e c.env)] := by rfl) : We c σ (.Call (.Attribute o "find" ap) [e] [] p) Φ X := by
  refine We.find (h.mono fun d hd => ?_) he hs
  obtain ⟨a, rfl, hd⟩ := hd
  refine ⟨S a, rfl, hd.mono fun d' hd' => ?_⟩
  obtain ⟨b, rfl, i, rfl, hΦ⟩ := hd'
  exact ⟨S b, rfl, hΦ⟩
theorem We.cut {a b b2 p p'} (h : We c σ a (fun da => ∃ l, da = .str (S l) ∧ We c σ b (fun db => ∃ i, db = .int i ∧ We c σ b2 (fun db2 => ∃ j, db2 = .int j ∧ (0 ≤ i ∧ 0 ≤ j ∧ l.length ≤ 1000000) ∧ Φ (.str (S ((l.drop i.toNat).take (j.toNat - i.toNat))))) X) X) X) (ht : ∀ o r, letTemporaryGo a o r = pure () := by intro _ _; rfl) :
    We c σ (.Subscript a (.Slice (some b) (some b2) none p') p) Φ X := by
  refine We.slice (h.mono fun da hd => ?_) ht
  obtain ⟨l, rfl, hd⟩ := hd
  refine hd.mono fun db hb => ?_
  obtain ⟨i, rfl, hb⟩ := hb
  refine hb.mono fun db2 hb2 => ?_
  obtain ⟨j, rfl, ⟨h1, h2, h3⟩, hΦ⟩ := hb2
  exact ⟨l, i, j, rfl, rfl, rfl, h1, h2, h3, hΦ⟩
theorem We.cutFrom {a b p p'} (h : We c σ a (fun da => ∃ l, da = .str (S l) ∧ We c σ b (fun db => ∃ i, db = .int i ∧ (0 ≤ i ∧ l.length ≤ 1000000) ∧ Φ (.str (S (l.drop i.toNat)))) X) X) (ht : ∀ o r, letTemporaryGo a o r = pure () := by intro _ _; rfl) :
    We c σ (.Subscript a (.Slice (some b) none none p') p) Φ X := by
  refine We.sliceFrom (h.mono fun da hd => ?_) ht
  obtain ⟨l, rfl, hd⟩ := hd
  refine hd.mono fun db hb => ?_
  obtain ⟨i, rfl, ⟨h1, h2⟩, hΦ⟩ := hb
  exact ⟨l, i, rfl, rfl, h1, h2, hΦ⟩
theorem We.cutTo {a b p p'} (h : We c σ a (fun da => ∃ l, da = .str (S l) ∧ We c σ b (fun db => ∃ i, db = .int i ∧ (0 ≤ i ∧ l.length ≤ 1000000) ∧ Φ (.str (S (l.take i.toNat)))) X) X) (ht : ∀ o r, letTemporaryGo a o r = pure () := by intro _ _; rfl) :
    We c σ (.Subscript a (.Slice none (some b) none p') p) Φ X := by
  refine We.sliceTo (h.mono fun da hd => ?_) ht
  obtain ⟨l, rfl, hd⟩ := hd
  refine hd.mono fun db hb => ?_
  obtain ⟨i, rfl, ⟨h1, h2⟩, hΦ⟩ := hb
  exact ⟨l, i, rfl, rfl, h1, h2, hΦ⟩
/-- a statement whose ways meet behind it -/
theorem Ws.join {α : Type} (I : α → Prop) (τ : α → St) {st : Stmt} {ss : List Stmt} (h : W1 c σ st { P with next := fun σ' => ∃ a, I a ∧ Sub (τ a) σ' } X) (k : ∀ a, I a → Ws c (τ a) ss P X) : Ws c σ (st :: ss) P X := by
  refine Ws.cons ⟨fun s Q E ok hq xp => h.go s Q E ok (fun f s' hp => hq f s' ?_) xp⟩
  cases f with
  | next => obtain ⟨σ', ⟨a, ia, sb⟩, o⟩ := hp; exact ⟨σ', (k a ia).sub sb, o⟩
  | brk => exact hp
  | cont => exact hp
  | ret v => exact hp
/-- text[i], i within -/
theorem We.at {a b p} (h : We c σ a (fun da => We c σ b (fun db => ∃ l, da = .str (S l) ∧ ∃ n : Nat, db = .int n ∧ n < 2 ^ 62 ∧ ∃ hn : n < l.length, Φ (.str (S [l[n]]))) X) X) (hs : ∀ o i, subscripted b false o i = operate [o, i] (getItem o i) := by intro _ _; rfl) : We c σ (.Subscript a b p) Φ X := by
  refine We.sub (h.mono fun da ha => ha.mono fun db hb => ?_) hs
  obtain ⟨l, rfl, n, rfl, hz, hn, hΦ⟩ := hb
  exact SubP.at hn hz hΦ
end
theorem nodicts_mem : ∀ {ds : List PyData}, nodict.nodicts ds = true → ∀ d ∈ ds, nodict d = true
  | x :: r, h, d, hm => by
    obtain ⟨a, b⟩ := Bool.and_eq_true_iff.mp (show (nodict x && nodict.nodicts r) = true from h)
    rcases List.mem_cons.mp hm with rfl | hm
    · exact a
    · exact nodicts_mem b d hm
theorem len2 {α : Type} {l : List α} (h : l.length = 2) : ∃ a b, l = [a, b] := by
  cases l with
  | nil => cases h
  | cons a l => obtain ⟨b, rfl⟩ := List.length_eq_one_iff.mp (Nat.succ.inj h); exact ⟨a, b, rfl⟩
theorem len3 {α : Type} {l : List α} (h : l.length = 3) : ∃ a b c, l = [a, b, c] := by
  cases l with
  | nil => cases h
  | cons a l => obtain ⟨b, c, rfl⟩ := len2 (Nat.succ.inj h); exact ⟨a, b, c, rfl⟩
section
variable {prog : Program} {w : World} {K : Frag} {base : Heap} {f : Addr} {oc : Value} {od : Option Addr} {name qual : Str} {params : Arguments} {body : List Stmt} {scope : Scope} {dV kV doc pm : Value} {an : Option Addr} {cdv ct : Value} {osl : Array (Option Value)} {n : Nat} {Φ : PyData → Prop} {X : Exc → Prop}
theorem Wf.of1 (gb : Gb K base) (ho : K.lookup f = some ⟨oc, od, .func (fnOf name qual params body scope dV kV doc pm an cdv ct), osl⟩) (hcd : codeIn K cdv qual = true) {d1 : PyData} (x1 : Str)
    (h : ∀ s0 L outer dp un gd, CxOk (cxOf prog w K base qual scope f cdv n s0 L outer dp un gd) → Ws (cxOf prog w K base qual scope f cdv n s0 L outer dp un gd) { vars := [(x1, d1)] } body { next := fun _ => Φ .none, ret := Φ } X)
    (hbind : ∀ a : Value, bindArgs (fnOf name qual params body scope dV kV doc pm an cdv ct) ⟨[a], []⟩ = pure [(x1, a)] := by intro _; rfl) (hnd : nodict.nodicts [d1] = true := by rfl)
    (hloc : ([x1].all fun y => decide (scope.names.lookup y = some .local)) = true := by decide +kernel)
    (hco : scope.isCoroutine = false := by rfl) (hgen : scope.isGenerator = false := by rfl) (hk : scope.kind = .function := by rfl) (hcell : ∀ x ∈ scope.names, x.2 ≠ .cell := by decide) : Wf prog w base f (n + 1) [d1] Φ X :=
  Wf.intro gb ho hcd [x1] (fun vs hv => by obtain ⟨a, rfl⟩ := List.length_eq_one_iff.mp hv; exact hbind a) (nodicts_mem hnd) (fun y hy => of_decide_eq_true (List.all_eq_true.mp hloc y hy)) h hco hgen hk hcell
theorem Wf.of2 (gb : Gb K base) (ho : K.lookup f = some ⟨oc, od, .func (fnOf name qual params body scope dV kV doc pm an cdv ct), osl⟩) (hcd : codeIn K cdv qual = true) {d1 d2 : PyData} (x1 x2 : Str)
    (h : ∀ s0 L outer dp un gd, CxOk (cxOf prog w K base qual scope f cdv n s0 L outer dp un gd) → Ws (cxOf prog w K base qual scope f cdv n s0 L outer dp un gd) { vars := [(x2, d2), (x1, d1)] } body { next := fun _ => Φ .none, ret := Φ } X)
    (hbind : ∀ a b : Value, bindArgs (fnOf name qual params body scope dV kV doc pm an cdv ct) ⟨[a, b], []⟩ = pure [(x1, a), (x2, b)] := by intro _ _; rfl) (hnd : nodict.nodicts [d1, d2] = true := by rfl)
    (hloc : ([x1, x2].all fun y => decide (scope.names.lookup y = some .local)) = true := by decide +kernel)
    (hco : scope.isCoroutine = false := by rfl) (hgen : scope.isGenerator = false := by rfl) (hk : scope.kind = .function := by rfl) (hcell : ∀ x ∈ scope.names, x.2 ≠ .cell := by decide) : Wf prog w base f (n + 1) [d1, d2] Φ X :=
  Wf.intro gb ho hcd [x1, x2] (fun vs hv => by obtain ⟨a, b, rfl⟩ := len2 hv; exact hbind a b) (nodicts_mem hnd) (fun y hy => of_decide_eq_true (List.all_eq_true.mp hloc y hy)) h hco hgen hk hcell
theorem Wf.of3 (gb : Gb K base) (ho : K.lookup f = some ⟨oc, od, .func (fnOf name qual params body scope dV kV doc pm an cdv ct), osl⟩) (hcd : codeIn K cdv qual = true) {d1 d2 d3 : PyData} (x1 x2 x3 : Str)
    (h : ∀ s0 L outer dp un gd, CxOk (cxOf prog w K base qual scope f cdv n s0 L outer dp un gd) → Ws (cxOf prog w K base qual scope f cdv n s0 L outer dp un gd) { vars := [(x3, d3), (x2, d2), (x1, d1)] } body { next := fun _ => Φ .none, ret := Φ } X)
    (hbind : ∀ a b d : Value, bindArgs (fnOf name qual params body scope dV kV doc pm an cdv ct) ⟨[a, b, d], []⟩ = pure [(x1, a), (x2, b), (x3, d)] := by intro _ _ _; rfl) (hnd : nodict.nodicts [d1, d2, d3] = true := by rfl)
    (hloc : ([x1, x2, x3].all fun y => decide (scope.names.lookup y = some .local)) = true := by decide +kernel)
    (hco : scope.isCoroutine = false := by rfl) (hgen : scope.isGenerator = false := by rfl) (hk : scope.kind = .function := by rfl) (hcell : ∀ x ∈ scope.names, x.2 ≠ .cell := by decide) : Wf prog w base f (n + 1) [d1, d2, d3] Φ X :=
  Wf.intro gb ho hcd [x1, x2, x3] (fun vs hv => by obtain ⟨a, b, d, rfl⟩ := len3 hv; exact hbind a b d) (nodicts_mem hnd) (fun y hy => of_decide_eq_true (List.all_eq_true.mp hloc y hy)) h hco hgen hk hcell
end
theorem Wf.use {prog : Program} {w : World} {base : Heap} {f : Addr} {n n' : Nat} {ds : List PyData} {v : PyData} {Φ : PyData → Prop} {X : Exc → Prop} (h : Wf prog w base f n ds (fun d => d = v) (fun _ => False)) (hn : n ≤ n') (hv : Φ v) : Wf prog w base f n' ds Φ X :=
  h.imp hn (fun d hd => by cases hd; exact hv) fun _ hx => hx.elim
inductive KStr : Str → List Nat → Prop
  | o0 : KStr (Str.ofString "") []
  | o1 : KStr (Str.ofString " ") [32]
  | o2 : KStr (Str.ofString "\t") [9]
  | o3 : KStr (Str.ofString "\n") [10]
  | o4 : KStr (Str.ofString "\x0b") [11]
  | o5 : KStr (Str.ofString "\x0c") [12]
  | o6 : KStr (Str.ofString "\r") [13]
  | o7 : KStr (Str.ofString "\\") [92]
  | o8 : KStr (Str.ofString "{") [123]
  | o9 : KStr (Str.ofString "}") [125]
  | o10 : KStr (Str.ofString "\"") [34]
  | o11 : KStr (Str.ofString "u") [117]
  | o12 : KStr (Str.ofString "U") [85]
  | o13 : KStr (Str.ofString "x") [120]
  | o14 : KStr (Str.ofString "0") [48]
  | o15 : KStr (Str.ofString "1") [49]
  | o16 : KStr (Str.ofString "2") [50]
  | o17 : KStr (Str.ofString "3") [51]
  | o18 : KStr (Str.ofString "4") [52]
  | o19 : KStr (Str.ofString "5") [53]
  | o20 : KStr (Str.ofString "6") [54]
  | o21 : KStr (Str.ofString "7") [55]
  | o22 : KStr (Str.ofString "a") [97]
  | o23 : KStr (Str.ofString "b") [98]
  | o24 : KStr (Str.ofString "abfnrtv") [97, 98, 102, 110, 114, 116, 118]
  | o25 : KStr (Str.ofString "\x07\x08\x0c\n\r\t\x0b") [7, 8, 12, 10, 13, 9, 11]
  | o26 : KStr (Str.ofString "list element in ") [108, 105, 115, 116, 32, 101, 108, 101, 109, 101, 110, 116, 32, 105, 110, 32]
  | o27 : KStr (Str.ofString " followed by \"") [32, 102, 111, 108, 108, 111, 119, 101, 100, 32, 98, 121, 32, 34]
  | o28 : KStr (Str.ofString "\" instead of space") [34, 32, 105, 110, 115, 116, 101, 97, 100, 32, 111, 102, 32, 115, 112, 97, 99, 101]
  | o29 : KStr (Str.ofString "TCL") [84, 67, 76]
  | o30 : KStr (Str.ofString "VALUE") [86, 65, 76, 85, 69]
  | o31 : KStr (Str.ofString "LIST") [76, 73, 83, 84]
  | o32 : KStr (Str.ofString "JUNK") [74, 85, 78, 75]
  | o33 : KStr (Str.ofString "BRACE") [66, 82, 65, 67, 69]
  | o34 : KStr (Str.ofString "QUOTE") [81, 85, 79, 84, 69]
  | o35 : KStr (Str.ofString "braces") [98, 114, 97, 99, 101, 115]
  | o36 : KStr (Str.ofString "quotes") [113, 117, 111, 116, 101, 115]
  | o37 : KStr (Str.ofString "unmatched open brace in list") [117, 110, 109, 97, 116, 99, 104, 101, 100, 32, 111, 112, 101, 110, 32, 98, 114, 97, 99, 101, 32, 105, 110, 32, 108, 105, 115, 116]
  | o38 : KStr (Str.ofString "unmatched open quote in list") [117, 110, 109, 97, 116, 99, 104, 101, 100, 32, 111, 112, 101, 110, 32, 113, 117, 111, 116, 101, 32, 105, 110, 32, 108, 105, 115, 116]
  | o39 : KStr (Str.ofString "s followed by \"") [115, 32, 102, 111, 108, 108, 111, 119, 101, 100, 32, 98, 121, 32, 34]
  | o40 : KStr (Str.ofString "unmatched open ") [117, 110, 109, 97, 116, 99, 104, 101, 100, 32, 111, 112, 101, 110, 32]
  | o41 : KStr (Str.ofString " in list") [32, 105, 110, 32, 108, 105, 115, 116]
  | o42 : KStr (Str.ofString "gap") [103, 97, 112]
  | o43 : KStr (Str.ofString "bare") [98, 97, 114, 101]
  | o44 : KStr (Str.ofString "shut") [115, 104, 117, 116]
  | o45 : KStr (Str.ofString "quote") [113, 117, 111, 116, 101]
  | o46 : KStr (Str.ofString "brace") [98, 114, 97, 99, 101]
  | o47 : KStr (Str.ofString "17ab") [49, 55, 97, 98]
  | o48 : KStr (Str.ofString "17") [49, 55]
  | o49 : KStr (Str.ofString "0123456789ab") [48, 49, 50, 51, 52, 53, 54, 55, 56, 57, 97, 98]
  | o50 : KStr (Str.ofString "\"{a}\\\n b\" x1}") [34, 123, 97, 125, 92, 10, 32, 98, 34, 32, 120, 49, 125]
  | o51 : KStr (Str.ofString "{}\"\\ \nabx17\t") [123, 125, 34, 92, 32, 10, 97, 98, 120, 49, 55, 9]
theorem KStr.eq {n : Str} {a : List Nat} (h : KStr n a) : n = S a := by cases h <;> rfl
section
variable {c : Cx} {σ : St} {Φ : PyData → Prop} {X : Exc → Prop}
theorem We.cstrK {n : Str} {a : List Nat} {k p} (hn : KStr n a) (h : Φ (.str (S a))) : We c σ (.Constant (.str n) k p) Φ X := We.cstr (hn.eq ▸ h)
end
noncomputable def IdxP (a b : PyData) (Φ : PyData → Prop) : Prop := match a, b with
  | .str x, .int i => ∃ n : Nat, i = n ∧ n < 2 ^ 62 ∧ ∃ hn : n < x.cps.toList.length, Φ (.str (S [x.cps.toList[n]]))
  | .tuple ds, .int i => ∃ n : Nat, i = n ∧ n < 1000000 ∧ ∃ d, ds[n]? = some d ∧ Φ d
  | .list ds, .int i => ∃ n : Nat, i = n ∧ n < 1000000 ∧ ∃ d, ds[n]? = some d ∧ Φ d
  | _, _ => False
theorem S_list (a : List Nat) : (S a).cps.toList = a := rfl
section
variable {c : Cx} {σ : St} {Φ : PyData → Prop} {X : Exc → Prop}
theorem We.idx {a b p} (h : We c σ a (fun da => We c σ b (fun db => IdxP da db Φ) X) X) (hs : ∀ o i, subscripted b false o i = operate [o, i] (getItem o i) := by intro _ _; rfl) : We c σ (.Subscript a b p) Φ X := by
  refine We.sub (h.mono fun da ha => ha.mono fun db hb => ?_) hs
  unfold IdxP at hb
  split at hb
  · obtain ⟨n, rfl, hz, hn, hΦ⟩ := hb
    rename_i x
    exact SubP.at (l := x.cps.toList) hn hz hΦ
  · obtain ⟨n, rfl, hz, d, hd, hΦ⟩ := hb
    have hn := (List.getElem?_eq_some_iff.mp hd).1
    exact ⟨⟨by omega, by omega⟩, n, d, by unfold seqIndex?; simp; omega, hd, hΦ⟩
  · obtain ⟨n, rfl, hz, d, hd, hΦ⟩ := hb
    exact ⟨⟨by omega, by omega⟩, d, by simpa using hd, hΦ⟩
  · exact hb.elim
end
theorem nn3 {a b n m : Nat} (h : n ≤ m) (hm : m ≤ 1000000 := by decide) : 0 ≤ (a : Int) ∧ 0 ≤ (b : Int) ∧ n ≤ 1000000 := ⟨Int.natCast_nonneg _, Int.natCast_nonneg _, Nat.le_trans h hm⟩
theorem nn2 {a n m : Nat} (h : n ≤ m) (hm : m ≤ 1000000 := by decide) : 0 ≤ (a : Int) ∧ n ≤ 1000000 := ⟨Int.natCast_nonneg _, Nat.le_trans h hm⟩
theorem sz_of {A B : List Nat} {m n : Nat} (ha : A.length ≤ m) (hb : B.length ≤ n) (h : m + n ≤ 2000000) : A.toArray.size + B.toArray.size ≤ 2000000 := by
  rw [List.size_toArray, List.size_toArray]; exact Nat.le_trans (Nat.add_le_add ha hb) h
theorem lb_app {A B : List Nat} {m n : Nat} (ha : A.length ≤ m) (hb : B.length ≤ n) : (A ++ B).length ≤ m + n := by rw [List.length_append]; exact Nat.add_le_add ha hb
theorem lb_cut {A : List Nat} {m i j : Nat} (h : A.length ≤ m) : ((A.drop i).take j).length ≤ m := by
  rw [List.length_take, List.length_drop]; exact Nat.le_trans (Nat.min_le_right _ _) (Nat.le_trans (Nat.sub_le _ _) h)
theorem tn_add (a j : Nat) : (((a + j : Nat) : Int)).toNat - ((a : Nat) : Int).toNat = j := by rw [Int.toNat_natCast, Int.toNat_natCast, Nat.add_sub_cancel_left]
theorem cast_lt {a b : Nat} (h : (a : Int) < (b : Int)) : a < b := Int.ofNat_lt.mp h
theorem sub_dec {N p : Nat} {a b : Nat} (h : p < N) (e : p = a) (e2 : b = p + 1) : N - b < N - a := by subst e; subst e2; exact Nat.sub_lt_sub_left h (Nat.lt_succ_self _)
theorem sub_one {N j : Nat} (h : j < N) : N - j = N - (j + 1) + 1 := (Nat.succ_pred_eq_of_pos (Nat.sub_pos_of_lt h)).symm
end Mine
end

section
set_option maxRecDepth 100000
set_option linter.unusedVariables false
set_option linter.unusedSimpArgs false
namespace Mine
open PySem PySem.Spec PySem.Calls PyProof.Rows PySem.W
noncomputable def one (k : Nat) : PyData := .str (S [k])
theorem join_one : ∀ cs : List Nat, Txt.join (S []) (cs.map fun k => S [k]) = S cs := by
  intro cs
  show Builtin.Str.glued _ _ = _
  rw [StrLaws.glued_eq_join]
  induction cs with
  | nil => rfl
  | cons a r ih =>
    cases r with
    | nil => rfl
    | cons b r =>
      show S [a] ++ S [] ++ Str.join (S []) ((b :: r).map fun k => S [k]) = _
      rw [ih, S_append, S_append]; rfl
theorem flats_one : ∀ cs : List Nat, flat.flats (cs.map one) = true
  | [] => rfl
  | _ :: r => flats_one r
section
variable {c : Cx} {σ : St} {Φ : PyData → Prop} {P : Po} {X : Exc → Prop}
theorem We.joinS {o ap e p} (h : We c σ o (fun d => d = .str (S []) ∧ We c σ e (fun d' => ∃ cs : List Nat, d' = .list (cs.map one) ∧ cs.length ≤ 1000000 ∧ Φ (.str (S cs))) X) X) {pl : Sem Bool}
    (he : eval (.Call (.Attribute o "join" ap) [e] [] p) c.env = (do
        let ov ← eval o c.env
        standAt ap.atName
        let fx ← holding [ov] (getMethod ov "join" pl)
        match fx with
          | (f, first) => callWith p f first (backTo p (starEach [e] c.env)) []) := by rfl)
    (hs : starEach [e] c.env = [(false, eval e c.env)] := by rfl) : We c σ (.Call (.Attribute o "join" ap) [e] [] p) Φ X := by
  refine We.join (h.mono fun d hd => ?_) he hs
  obtain ⟨rfl, hd⟩ := hd
  refine ⟨S [], rfl, hd.mono fun d' hd' => ?_⟩
  obtain ⟨cs, rfl, hz, hΦ⟩ := hd'
  refine ⟨cs.map fun k => S [k], ?_, ?_, by rw [join_one]; exact hΦ⟩
  · rw [List.map_map]; rfl
  · refine joinOk_of ?_
    rw [List.map_map]
    have e1 : ((fun x : Str => x.length) ∘ fun k => S [k]) = fun _ => 1 := by funext k; rfl
    have e2 : (S []).length = 0 := rfl
    have e3 : (cs.map fun _ => 1).sum = cs.length := by
      clear hz hΦ
      induction cs with
      | nil => rfl
      | cons a r ih => rw [List.map_cons, List.sum_cons, ih, List.length_cons]; omega
    show (List.map ((fun x : Str => x.length) ∘ fun k => S [k]) cs).sum + _ * (S []).length ≤ _
    rw [e1, e2, e3]; omega
theorem W1.tup (hc : CxOk c) {ts k tp e p ns} (hts : namesOf ts = some ns) (h : We c σ e (fun d => ∃ ds, d = .tuple ds ∧ ds.length = ns.length ∧ ((σ.own = none ∧ nodict.nodicts ds = true) ∨ flat.flats ds = true) ∧ P.next (σ.setAll ns ds)) X)
    (hx : ∀ w, σ.own = some w → ns.contains w.name = false) (hk : (ns.all fun n => decide (c.env.kindOf n = some .local)) = true := by rfl) (hs : swapsWithSole [.Tuple ts k tp] e p.line c.env = pure false := by rfl) (hw : swappedStores [.Tuple ts k tp] e c.env = pure none := by rfl) :
    W1 c σ (.Assign [.Tuple ts k tp] e p) P X :=
  W1.tuple hc ns hts h (fun w e hm => by have := hx w e; rw [List.contains_iff_mem.mpr hm] at this; cases this) (fun n hn => of_decide_eq_true (List.all_eq_true.mp hk n hn)) hs hw
theorem W1.tupSw (hc : CxOk c) {ts k tp e p ns} (hts : namesOf ts = some ns) (h : We c σ e (fun d => ∃ ds, d = .tuple ds ∧ ds.length = ns.length ∧ ((σ.own = none ∧ nodict.nodicts ds.reverse = true) ∨ flat.flats ds.reverse = true) ∧ P.next (σ.setAll ns.reverse ds.reverse)) X)
    (hx : ∀ w, σ.own = some w → ns.contains w.name = false) (hk : (ns.all fun n => decide (c.env.kindOf n = some .local)) = true := by rfl) (hs : swapsWithSole [.Tuple ts k tp] e p.line c.env = pure false := by rfl) (hw : swappedStores [.Tuple ts k tp] e c.env = pure (some ns) := by rfl) :
    W1 c σ (.Assign [.Tuple ts k tp] e p) P X :=
  W1.tupleSw hc ns h (fun w e hm => by have := hx w e; rw [List.contains_iff_mem.mpr hm] at this; cases this) (fun n hn => of_decide_eq_true (List.all_eq_true.mp hk n hn)) hs hw
end
noncomputable def foundD : Found → Nat → PyData
  | .el w n, a => .tuple [.str (S w), .int (a + n : Nat)]
  | _, _ => .none
theorem foundD_flat (F : Found) (a : Nat) : flat (foundD F a) = true := by cases F <;> rfl
theorem foundD_el (w : List Nat) (n a : Nat) : foundD (.el w n) a = .tuple [.str (S w), .int (a + n : Nat)] := rfl
theorem foundD_no (a : Nat) : foundD .nothing a = .none := rfl
theorem isN_none : isN .none = true := rfl
theorem isN_tuple (ds : List PyData) : isN (.tuple ds) = false := rfl
theorem not_tt : (!true) = false := rfl
theorem not_ff : (!false) = true := rfl
theorem found1 (a : List Nat) (k : Nat) : (!(Builtin.Str.occurrences (S a) (S [k]) 0 (S a).length 1).isEmpty) = decide (k ∈ a) := by
  have := StrLaws.found_one (S a) k
  have e : (S a).cps.toList = a := rfl
  rw [e] at this
  exact this
end Mine
end

section
set_option maxRecDepth 100000
set_option linter.unusedVariables false
set_option linter.unusedSimpArgs false
namespace Mine
open PySem PySem.Spec PySem.Calls PyProof.Rows PySem.W PyProof.V
theorem any3_1 (x a b d : Nat) : anyEq (S [x]) [.str (S [a]), .str (S [b]), .str (S [d])] = decide (x = a ∨ x = b ∨ x = d) := by
  simp only [anyEq_cons, anyEq_nil, Bool.or_false, List.cons.injEq, and_true, eq_comm (b := x), Bool.decide_or]
theorem any2_1 (x a b : Nat) : anyEq (S [x]) [.str (S [a]), .str (S [b])] = decide (x = a ∨ x = b) := by
  simp only [anyEq_cons, anyEq_nil, Bool.or_false, List.cons.injEq, and_true, eq_comm (b := x), Bool.decide_or]
theorem any3_0 (a b d : Nat) : anyEq (S []) [.str (S [a]), .str (S [b]), .str (S [d])] = false := by
  simp [anyEq_cons, anyEq_nil]
theorem any2_0 (a b : Nat) : anyEq (S []) [.str (S [a]), .str (S [b])] = false := by
  simp [anyEq_cons, anyEq_nil]
theorem lblank_nil : lblank [] = true := rfl
theorem lblank_one (k : Nat) : lblank [k] = bl k := rfl
noncomputable def modeIn (m : List Nat) : Bool := decide (m = [103, 97, 112] ∨ m = [98, 97, 114, 101] ∨ m = [115, 104, 117, 116])
theorem any3_m (m : List Nat) : anyEq (S m) [.str (S [103, 97, 112]), .str (S [98, 97, 114, 101]), .str (S [115, 104, 117, 116])] = modeIn m := by
  unfold modeIn
  simp only [anyEq_cons, anyEq_nil, Bool.or_false, eq_comm (b := m), Bool.decide_or]
theorem modeIn1 : modeIn [103, 97, 112] = true := rfl
theorem modeIn2 : modeIn [98, 97, 114, 101] = true := rfl
theorem modeIn3 : modeIn [115, 104, 117, 116] = true := rfl
theorem modeIn4 : modeIn [113, 117, 111, 116, 101] = false := rfl
theorem modeIn5 : modeIn [98, 114, 97, 99, 101] = false := rfl
theorem split_not {b : Bool} {A B : Prop} (h1 : b = false → A) (h2 : b = true → B) : if (!b) = true then A else B := by
  cases b with
  | true => exact h2 rfl
  | false => exact h1 rfl
theorem ite_cast {x y : Bool} {A B : Prop} (e : x = y) (h : if y = true then A else B) : if x = true then A else B := by subst e; exact h
theorem it_any3_1 {x a b d : Nat} {A B : Prop} (h : if decide (x = a ∨ x = b ∨ x = d) = true then A else B) : if anyEq (S [x]) [.str (S [a]), .str (S [b]), .str (S [d])] = true then A else B := ite_cast (any3_1 ..) h
theorem it_any2_1 {x a b : Nat} {A B : Prop} (h : if decide (x = a ∨ x = b) = true then A else B) : if anyEq (S [x]) [.str (S [a]), .str (S [b])] = true then A else B := ite_cast (any2_1 ..) h
theorem it_any3_0 {a b d : Nat} {A B : Prop} (h : B) : if anyEq (S []) [.str (S [a]), .str (S [b]), .str (S [d])] = true then A else B := ite_cast (any3_0 ..) (ite_ff h)
theorem it_any2_0 {a b : Nat} {A B : Prop} (h : B) : if anyEq (S []) [.str (S [a]), .str (S [b])] = true then A else B := ite_cast (any2_0 ..) (ite_ff h)
theorem it_m1 {A B : Prop} (h : A) : if anyEq (S [103, 97, 112]) [.str (S [103, 97, 112]), .str (S [98, 97, 114, 101]), .str (S [115, 104, 117, 116])] = true then A else B := ite_cast ((any3_m _).trans modeIn1) (ite_tt h)
theorem it_m2 {A B : Prop} (h : A) : if anyEq (S [98, 97, 114, 101]) [.str (S [103, 97, 112]), .str (S [98, 97, 114, 101]), .str (S [115, 104, 117, 116])] = true then A else B := ite_cast ((any3_m _).trans modeIn2) (ite_tt h)
theorem it_m3 {A B : Prop} (h : A) : if anyEq (S [115, 104, 117, 116]) [.str (S [103, 97, 112]), .str (S [98, 97, 114, 101]), .str (S [115, 104, 117, 116])] = true then A else B := ite_cast ((any3_m _).trans modeIn3) (ite_tt h)
theorem it_m4 {A B : Prop} (h : B) : if anyEq (S [113, 117, 111, 116, 101]) [.str (S [103, 97, 112]), .str (S [98, 97, 114, 101]), .str (S [115, 104, 117, 116])] = true then A else B := ite_cast ((any3_m _).trans modeIn4) (ite_ff h)
theorem it_m5 {A B : Prop} (h : B) : if anyEq (S [98, 114, 97, 99, 101]) [.str (S [103, 97, 112]), .str (S [98, 97, 114, 101]), .str (S [115, 104, 117, 116])] = true then A else B := ite_cast ((any3_m _).trans modeIn5) (ite_ff h)
theorem it_l0 {A B : Prop} (h : A) : if lblank [] = true then A else B := ite_cast lblank_nil (ite_tt h)
theorem it_nl0 {A B : Prop} (h : B) : if (!lblank []) = true then A else B := ite_cast (show (!lblank []) = false from rfl) (ite_ff h)
theorem it_l1 {k : Nat} {A B : Prop} (h1 : bl k = true → A) (h2 : bl k = false → B) : if lblank [k] = true then A else B := split_ite (b := lblank [k]) h1 h2
theorem it_l1t {k : Nat} {A B : Prop} (h : bl k = true) (a : A) : if lblank [k] = true then A else B := ite_cast (show lblank [k] = true from h) (ite_tt a)
theorem it_l1f {k : Nat} {A B : Prop} (h : bl k = false) (b : B) : if lblank [k] = true then A else B := ite_cast (show lblank [k] = false from h) (ite_ff b)
theorem it_nl1 {k : Nat} {A B : Prop} (h1 : bl k = false → A) (h2 : bl k = true → B) : if (!lblank [k]) = true then A else B := split_not (b := lblank [k]) h1 h2
theorem it_found {a : List Nat} {k : Nat} {A B : Prop} (h : if decide (k ∈ a) = true then A else B) : if (!(Builtin.Str.occurrences (S a) (S [k]) 0 (S a).length 1).isEmpty) = true then A else B := ite_cast (found1 ..) h
section
variable {c : Cx} {σ : St} {Φ : PyData → Prop} {P : Po} {X : Exc → Prop}
theorem We.lastS {a k kp up p} (h : We c σ a (fun da => ∃ l, da = .str (S l) ∧ l.length < 2 ^ 62 ∧ l ≠ [] ∧ Φ (.str (S [l.getLastD 0]))) X) (hs : ∀ o i, subscripted (.UnaryOp .USub (.Constant (.int 1) k kp) up) false o i = operate [o, i] (getItem o i) := by intro _ _; rfl) :
    We c σ (.Subscript a (.UnaryOp .USub (.Constant (.int 1) k kp) up) p) Φ X := by
  refine We.sub (h.mono fun da ha => ?_) hs
  obtain ⟨l, rfl, hz, hl, hΦ⟩ := ha
  refine We.neg ⟨⟨by decide, by decide⟩, l.getLastD 0, ?_, hΦ⟩
  have hp : 0 < l.length := List.length_pos_iff.mpr hl
  have e : seqIndex? (-1) (S l).length = some (l.length - 1) := by
    unfold seqIndex?
    rw [S_len]
    simp
    omega
  rw [e]
  show (S l).cps[l.length - 1]? = _
  have : (S l).cps[l.length - 1]? = l[l.length - 1]? := by simp [S]
  rw [this, ← List.getLast?_eq_getElem?, List.getLast?_eq_some_getLast hl, List.getLastD_eq_getLast?, List.getLast?_eq_some_getLast hl]
  rfl
theorem We.indexS {o ap e p} (h : We c σ o (fun d => ∃ a, d = .str (S a) ∧ We c σ e (fun d' => ∃ b, d' = .str (S b) ∧ ∃ i, Builtin.Str.occurrences (S a) (S b) 0 (S a).length 1 = [i] ∧ Φ (.int (i : Nat))) X) X) {pl : Sem Bool}
    (he : eval (.Call (.Attribute o "index" ap) [e] [] p) c.env = (do
        let ov ← eval o c.env
        standAt ap.atName
        let fx ← holding [ov] (getMethod ov "index" pl)
        match fx with
          | (f, first) => callWith p f first (backTo p (starEach [e] c.env)) []) := by rfl)
    (hs : starEach [e] c.env = [(false, eval e c.env)] := by rfl) : We c σ (.Call (.Attribute o "index" ap) [e] [] p) Φ X := by
  refine We.index (h.mono fun d hd => ?_) he hs
  obtain ⟨a, rfl, hd⟩ := hd
  refine ⟨S a, rfl, hd.mono fun d' hd' => ?_⟩
  obtain ⟨b, rfl, i, hi, hΦ⟩ := hd'
  exact ⟨S b, i, [], rfl, hi, hΦ⟩
theorem chr_lit (hc : CxOk c) {s : Shared} {Q : Value → Shared → Prop} {E : Value → Shared → Prop} (ok : Ok c σ s) {n : Int} {np p k kp} (h0 : 0 ≤ n) (h1 : n ≤ 1114111) (h : ∀ t tk, Q (.str (S [n.toNat]) t) { s with toks := tk }) (hn : nsIn c.K mainGlobals "chr" = some none) (hk : c.env.kindOf "chr" = some .globalImplicit)
    (hs : starEach [.Constant (.int n) k kp] c.env = [(false, eval (.Constant (.int n) k kp) c.env)]) : wpAny c.M c.A (eval (.Call (.Name "chr" np) [.Constant (.int n) k kp] [] p) c.env) Q E s := by
  obtain ⟨m, ms, F⟩ := ok.fr hc
  obtain ⟨p', loose, mg, mb, T⟩ := hc.gb.top
  refine wpAny_Call_ofName (name_B F hc.gb.kin T hn boot_chr' (by decide) ?_ hc.kind hk rfl)
  have hs' : backTo p (starEach [.Constant (.int n) k kp] c.env) = [(false, eval (.Constant (.int n) k kp) c.env)] := by rw [hs]; rfl
  rw [hs']
  refine callWith_builtin rfl (evalArgs_plain (spliced_cons (wpAny_Constant_int (spliced_nil ?_))))
  exact chr_of_range h0 h1 (h _ _)
/-- {k1: v1, k2: chr(n2), k3: chr(n3)}[x] -/
theorem We.dictChr (hc : CxOk c) {k1 v1 k2 k3 : Str} {n2 n3 : Int} {a1 a2 a3 a4 a5 a6 : _} {p1 p2 p3 p4 p5 p6 : Pos} {q1 q2 q3 q4 : Pos} {dp np p : Pos} {x y : Str} {dv : PyData}
    (hv : σ.vars.lookup x = some (.str y)) (hlk : PySem.Spec.lookup (.str y) [(.str k1, .str v1), (.str k2, .str (S [n2.toNat])), (.str k3, .str (S [n3.toNat]))] = some dv) (h : Φ dv)
    (hnd : [k1, k2, k3].Nodup) (hn2 : 0 ≤ n2 ∧ n2 ≤ 1114111) (hn3 : 0 ≤ n3 ∧ n3 ≤ 1114111) (hn : nsIn c.K mainGlobals "chr" = some none := by kernel_rfl) (hkc : c.env.kindOf "chr" = some .globalImplicit := by rfl)
    (hk : c.env.kindOf x = some .local := by rfl) (hdb : (x == ("__debug__" : Str)) = false := by rfl)
    (hs2 : starEach [.Constant (.int n2) a4 p4] c.env = [(false, eval (.Constant (.int n2) a4 p4) c.env)] := by rfl) (hs3 : starEach [.Constant (.int n3) a6 p6] c.env = [(false, eval (.Constant (.int n3) a6 p6) c.env)] := by rfl)
    (ht : ∀ o i, subscripted (.Name x np) false o i = operate [o, i] (getItem o i) := by intro _ _; rfl) :
    We c σ (.Subscript (.Dict [some (.Constant (.str k1) a1 p1), some (.Constant (.str k2) a3 p3), some (.Constant (.str k3) a5 p5)] [.Constant (.str v1) a2 p2, .Call (.Name "chr" q1) [.Constant (.int n2) a4 p4] [] q2, .Call (.Name "chr" q3) [.Constant (.int n3) a6 p6] [] q4] dp) (.Name x np) p) Φ X := ⟨fun s Q E ok sp xp => by
  have okp : ∀ tk, Ok c σ { s with heap := s.heap.push { cls := .type "dict", data := .dict #[] }, toks := tk } := fun tk => ok.push _ tk
  refine Subscript_ ?_
  refine wpAny_Dict_walk (knd := strKind c.prog c.w) rfl rfl (by simp) (by simp) ?_
  refine pairTrees_cons_walk (wpAny_Constant_str (wpAny_Constant_str ?_))
  refine pairTrees_cons_walk (wpAny_Constant_str (chr_lit hc (okp _) hn2.1 hn2.2 (fun t2 tk2 => ?_) hn hkc hs2))
  refine pairTrees_cons_walk (wpAny_Constant_str (chr_lit hc (okp _) hn3.1 hn3.2 (fun t3 tk3 => pairTrees_nil_walk ?_) hn hkc hs3))
  refine display_done_str rfl hnd (Heap.DictOf.new _) fun h' hm hsb => ?_
  obtain ⟨o, ho, hd⟩ := Heap.dictOf_iff.mp hm
  have hk' : ∀ b o', s.heap.get? b = some o' → h'.get? b = some o' := fun b o' e => (hsb.2 b (Nat.ne_of_lt (Heap.lt_size e))).trans (Heap.get?_push_of_some _ e)
  have T : StrTab c.prog c.w h' s.heap.objs.size [(.str k1, .str v1), (.str k2, .str (S [n2.toNat])), (.str k3, .str (S [n3.toNat]))] := by
    refine TabAt.ofObj ?_ ho hd (.cons (Flat.str _ _) (.cons (Flat.str _ _) (.cons (Flat.str _ _) .nil)))
    have h1 := modules_low hc.gb.nolimit
    have h2 := Ok0.big hc ok.zero
    exact beq_eq_false_iff_ne.mpr (Nat.ne_of_gt (Nat.lt_of_lt_of_le h1 h2))
  have ok' : ∀ tk, Ok c σ { s with heap := h', toks := tk } := fun tk => ok.step ⟨rfl, rfl, rfl⟩ (.keep hk') fun b y e => hk' b y (ok.zero.stays b y e)
  obtain ⟨m, ms⟩ := (ok' 0).ms
  obtain ⟨v, as, hm', hr, _⟩ := ms.vars x _ hv
  cases hr
  refine wpAny_Name (wpAny_loadName_local hc.kind hk ms.ns hm' ?_) hdb
  exact dict_item T hlk (fun v hv => sp _ _ _ _ h (ok' _) (.keep hk') (hv _)) (ht _ _)⟩
end
section
variable {c : Cx} {σ : St} {Φ : PyData → Prop} {P : Po} {X : Exc → Prop}
theorem W1.ownTup (hc : CxOk c) {n0 p0 ts k tp p1 es k2 p2 p ns} (hn : σ.own = none) (hts : namesOf ts = some ns) (h : ∀ a, Was c { σ with own := some ⟨Str.empty, a, []⟩ } es (fun ds => ds.length ≤ 99 ∧ ds.length = ns.length ∧ flat.flats ds = true ∧ P.next (({ σ with own := some ⟨n0, a, []⟩ } : St).setAll ns ds)) X)
    (h0 : σ.vars.lookup n0 = none) (hx : ns.contains n0 = false) (hk0 : c.env.kindOf n0 = some .local := by rfl) (hk : (ns.all fun n => decide (c.env.kindOf n = some .local)) = true := by rfl) (hse : starEach (.List [] p1 :: es) c.env = (false, eval (.List [] p1) c.env) :: starEach es c.env := by rfl)
    (hs : swapsWithSole [.Tuple (.Name n0 p0 :: ts) k tp] (.Tuple (.List [] p1 :: es) k2 p2) p.line c.env = pure false := by rfl) (hw : swappedStores [.Tuple (.Name n0 p0 :: ts) k tp] (.Tuple (.List [] p1 :: es) k2 p2) c.env = pure none := by rfl) :
    W1 c σ (.Assign [.Tuple (.Name n0 p0 :: ts) k tp] (.Tuple (.List [] p1 :: es) k2 p2) p) P X :=
  W1.ownTuple hc ns hn hts h h0 (fun hm => by rw [List.contains_iff_mem.mpr hm] at hx; cases hx) hk0 (fun n hn => of_decide_eq_true (List.all_eq_true.mp hk n hn)) hse hs hw
end
end Mine
end

section
open PySem PySem.W PyProof.Rows
set_option Elab.async false
set_option maxRecDepth 100000
set_option maxHeartbeats 8000000
namespace Mine
theorem said : PySem.Challenge.rw_np0131_01.wellSaid = true := by
  rw [Fast.te9446332074065402090]
  delta Fast.tw9446332074065402090 Fast.tw17960256430627541270 Fast.tw2436336058641802641 Fast.tw12908688711261696721
  repeat' with_reducible refine look_both ?_ ?_
  all_goals as_aux_lemma => kernel_rfl
noncomputable def V : Program := view PySem.Challenge.pw_np0131_01 [29]
noncomputable def lo : List PySem.Str := ["Raised", "error", "is_blank", "digit", "hex_sign", "octal_sign", "backslash", "check_behind", "braced_element", "quoted_element", "bare_element", "find_element", "split_list", "_law_signs", "_law_own", "_law_texts", "_law_is_blank", "_law_goes_on", "_law_meaning", "_law_junk", "_law_read", "_law_next", "_law_split", "_law_is_read"]
noncomputable def oeS (p : Program) (w : World) (N : Nat) : { x : Option Shared // openEnds treeTable p w N = x } := ⟨_, by
  delta openEnds topFrom fencedOpening
  rw [Fast.te14082659384304107361, Fast.te14364793385576792824, Fast.te10274390034422433532, Fast.te1435165496053646825, Fast.te14289696077712309145]⟩
theorem quickL {p q : Program} {loose : List PySem.Str} {Xt : Shared → Bool} {α : Type} {Yf : Shared → α} {Ya : World → α} {N : Nat} 
   (h : ∀ w, (oeS p w N).1.map (fun s => (Fast.tw4187177175401517315 q loose (importedModules p.main.body) Xt true s, Yf s)) = some (openGood q loose, Ya w)) : LeftO p q loose Xt Yf Ya N := fun w => by
  rw [(oeS p w N).2, Fast.te4187177175401517315]
  exact h w
local macro_rules | `(tactic| o_law) => `(tactic| refine holds_law said (fun _ => ?_))
local macro_rules | `(tactic| o_head $H) => `(tactic| (refine holds_open (q := V) (loose := lo) (Xt := fun s => xlAt V [] s && recOk (RowW.records PySem.Challenge.rw_np0131_01.row.toRowW) s) (XP := XL V []) (Yf := Hook.obs $H) (Ya := Hook.val $H) (YP := Hook.says $H) (N := 2150) (quickL fun w => by kernel_rfl) (Hook.of $H) (Hook.keeps $H) (fun s e => xl_of s (Bool.and_eq_true_iff.mp e).1) XL.keeps (by rfl) (by rfl) (by rfl) (fun s e => recFacts_of (Bool.and_eq_true_iff.mp e).2) (by rfl) (by assumption) (by decide +kernel) ⟨rfl, rfl, rfl, rfl, rfl, by decide +kernel⟩ ?hw ?hc))
open_top hd for PySem.Challenge.rw_np0131_01
end Mine
end

section
set_option maxRecDepth 100000
set_option linter.unusedVariables false
set_option linter.unusedSimpArgs false
namespace Mine
open PySem PySem.Spec PySem.Calls PyProof.Rows PySem.W

/-- what the top says of Raised -/
structure Rz (base : Heap) (mN : Str → Option Value) : Prop where
  hC : ∃ dd k0 k1 k2 k3 k5, base.get? 33 = some (excClassObj "Raised" "Raised" 33 32 [.type "Exception"] [.type "Exception", .type "BaseException", .type "object"] true [] [] false none dd k0 k1 k2 k3 k5 "Exception.__new__")
  hn : base.Ns 32 mN
  init : mN "__init__" = some (.ref 30)
  no : ∀ n ∈ (["__setattr__", "__getattribute__", "__getattr__", "code", "value", "errorcode", "level", "ret", "info", "is_noted", "line", "extra"] : List Str), mN n = none
theorem rz {w : World} {base : Heap} (KI : (hd.heap_1 w.params).In base) : ∃ mN, Rz base mN := by
  have h32 := KI 32 _ rfl
  refine ⟨_, ⟨_, _, _, _, _, _, KI 33 _ rfl⟩, ⟨_, _, _, h32, rfl, ?_, fun _ => rfl⟩, rfl, ?_⟩
  · intro e he
    simp only [List.mem_toArray, List.mem_cons, List.not_mem_nil, or_false] at he
    rcases he with rfl | rfl | rfl | rfl | rfl | rfl <;> exact ⟨_, _, rfl⟩
  · intro n hn
    simp only [List.mem_cons, List.not_mem_nil, or_false] at hn
    rcases hn with rfl | rfl | rfl | rfl | rfl | rfl | rfl | rfl | rfl | rfl | rfl | rfl <;> kernel_rfl

theorem exc_lk : ∀ n ∈ (["code", "value", "errorcode", "level", "ret", "info", "is_noted", "line", "extra"] : List Str), typeLookup (.type "Exception") n = pure none := by
  intro n hn
  simp only [List.mem_cons, List.not_mem_nil, or_false] at hn
  rcases hn with rfl | rfl | rfl | rfl | rfl | rfl | rfl | rfl | rfl <;> (rw [typeLookup_type, builtinLookup_eq_fast]; kernel_rfl)

/-- within Raised.__init__ -/
structure Ini (base g : Heap) (L e : Addr) (m : Str → Option Value) (fs : Array Value) (es : List (Str × Value)) (s : Shared) : Prop where
  ns : s.heap.Ns L m
  stays : base.StaysIn s.heap
  keep : ∀ b o, g.get? b = some o → s.heap.get? b = some o
  inst : (es = [] ∧ ∃ oe, s.heap.get? e = some oe ∧ oe.cls = .ref 33 ∧ oe.dict = none ∧ oe.data = .fields fs) ∨ (∃ d, ExI s.heap 33 e d fs (fun y => es.lookup y) ∧ g.get? d = none ∧ d ≠ L)
structure InC (base g : Heap) (L e : Addr) : Prop where
  eg : g.get? e = none
  eL : e ≠ L
  Lg : g.get? L = none
  low : base.objs.size ≤ L
  bg : base.StaysIn g
section
variable {prog : Program} {w : World} {A : Around} {E : Value → Shared → Prop} {s : Shared} {base g : Heap} {L e : Addr} {m : Str → Option Value} {fs : Array Value} {es : List (Str × Value)} {mN : Str → Option Value}
theorem lookup_cons_eq (name : Str) (v : Value) (es : List (Str × Value)) : (fun y => if y = name then some v else es.lookup y) = fun y => ((name, v) :: es).lookup y := by
  funext y
  rw [List.lookup_cons]
  by_cases h : y = name
  · subst h; simp
  · rw [if_neg h, beq_eq_false_iff_ne.mpr h]
theorem within_lookup : ∀ (es : List (Str × Value)), Within (fun y => es.lookup y) (es.map (·.1))
  | [], y, h => absurd rfl h
  | (x, v) :: es, y, h => by
    rw [List.map_cons]
    by_cases q : y = x
    · rw [q]; exact .head _
    · refine .tail _ (within_lookup es y ?_)
      intro z; apply h
      show ((x, v) :: es).lookup y = none
      rw [List.lookup_cons, beq_eq_false_iff_ne.mpr q]; exact z
theorem base_none (c : InC base g L e) {b : Addr} (h : g.get? b = none) : base.get? b = none := by
  cases q : base.get? b with
  | none => rfl
  | some o => have := c.bg b o q; rw [h] at this; cases this
theorem Ini.store (Z : Rz base mN) (c : InC base g L e) (I : Ini base g L e m fs es s) {name : Str} {v : Value} {Q : Unit → Shared → Prop} (hm : name ∈ (["code", "value", "errorcode", "level", "ret", "info", "is_noted", "line", "extra"] : List Str)) (hz : es.length ≤ 100)
    (h : ∀ s', Rest s s' → Ini base g L e m fs ((name, v) :: es) s' → Q () s') : wpAny (model prog w) A (setAttr (.ref e) name v) Q E s := by
  obtain ⟨hp, gg, d, t, os⟩ := s
  obtain ⟨⟨dd, k0, k1, k2, k3, k5, hC⟩, hn, hi, hno⟩ := Z
  have hns := hno "__setattr__" (.head _)
  have hna := hno name (.tail _ (.tail _ (.tail _ hm)))
  obtain ⟨hnsL, stays, keep, inst⟩ := I
  have hC' := stays _ _ hC
  have hn' : hp.Ns 32 mN := let ⟨o, a, b, q, r⟩ := hn; ⟨o, a, b, stays _ _ q, r⟩
  have hB := exc_lk name hm
  rcases inst with ⟨rfl, oe, h1, h2, h3, h4⟩ | ⟨de, hx, hg, hL⟩
  · refine set_wrap (Post := fun h' => ExI h' 33 e hp.objs.size fs (fun y => if y = name then some v else none) ∧ ∀ b ob, b ≠ e → hp.get? b = some ob → h'.get? b = some ob) PySem.F.store_Exception hC' hn' hns h1 h2
      (fun A t tk Q E hq => osa_first PySem.F.store_Exception hC' hn' hna hB h1 h2 h3 h4 fun h' tk' a b => hq h' tk' ⟨a, b⟩) fun h' tk' ⟨hx, hk⟩ => ?_
    have hzn : hp.get? hp.objs.size = none := Heap.get?_none_of_le (Nat.le_refl _)
    refine h _ ⟨rfl, rfl, rfl⟩ ⟨?_, fun b o q => hk b o (fun z => by subst z; rw [base_none c c.eg] at q; cases q) (stays b o q), fun b o q => hk b o (fun z => by subst z; rw [c.eg] at q; cases q) (keep b o q), .inr ⟨hp.objs.size, ?_, ?_, ?_⟩⟩
    · obtain ⟨oL, a1, a2, q, r⟩ := hnsL; exact ⟨oL, a1, a2, hk L oL (Ne.symm c.eL) q, r⟩
    · rw [← lookup_cons_eq]; exact hx
    · cases q : g.get? hp.objs.size with
      | none => rfl
      | some o => have := keep _ _ q; rw [hzn] at this; cases this
    · intro z
      obtain ⟨oL, a1, a2, q, r⟩ := hnsL
      rw [← z, hzn] at q; cases q
  · obtain ⟨oe, q1, q2, q3, q4⟩ := hx.obj
    refine set_wrap (Post := fun h' => ExI h' 33 e de fs (fun y => if y = name then some v else es.lookup y) ∧ ∀ b ob, b ≠ de → hp.get? b = some ob → h'.get? b = some ob) PySem.F.store_Exception hC' hn' hns q1 q2
      (fun A t tk Q E hq => osa_next PySem.F.store_Exception hC' hn' hna hB hx (within_lookup es) (by rw [List.length_map]; omega) fun h' tk' a b => hq h' tk' ⟨a, b⟩) fun h' tk' ⟨hx', hk⟩ => ?_
    refine h _ ⟨rfl, rfl, rfl⟩ ⟨?_, fun b o q => hk b o (fun z => by subst z; rw [base_none c hg] at q; cases q) (stays b o q), fun b o q => hk b o (fun z => by subst z; rw [hg] at q; cases q) (keep b o q), .inr ⟨de, ?_, hg, hL⟩⟩
    · obtain ⟨oL, a1, a2, q, r⟩ := hnsL; exact ⟨oL, a1, a2, hk L oL (Ne.symm hL) q, r⟩
    · rw [← lookup_cons_eq]; exact hx'

theorem Ini.push (c : InC base g L e) (I : Ini base g L e m fs es s) (o : Obj) (t : Nat) : Ini base g L e m fs es { s with heap := s.heap.push o, toks := t } := by
  obtain ⟨hnsL, stays, keep, inst⟩ := I
  have k : ∀ b ob, s.heap.get? b = some ob → (s.heap.push o).get? b = some ob := fun b ob q => Heap.get?_push_of_some _ q
  refine ⟨let ⟨oL, a1, a2, q, r⟩ := hnsL; ⟨oL, a1, a2, k _ _ q, r⟩, fun b ob q => k _ _ (stays b ob q), fun b ob q => k _ _ (keep b ob q), ?_⟩
  rcases inst with ⟨rfl, oe, h1, h2⟩ | ⟨de, ⟨⟨oe, h1, h2⟩, hx, hne⟩, hg, hL⟩
  · exact .inl ⟨rfl, oe, k _ _ h1, h2⟩
  · exact .inr ⟨de, ⟨⟨oe, k _ _ h1, h2⟩, hx.at fun o q => k _ _ q, hne⟩, hg, hL⟩
theorem Ini.tok (I : Ini base g L e m fs es s) (t : Nat) : Ini base g L e m fs es { s with toks := t } := ⟨I.ns, I.stays, I.keep, I.inst⟩

/-- self.x = value, the value a thing that leaves the frame as it is -/
theorem Ini.assign (Z : Rz base mN) (c : InC base g L e) (I : Ini base g L e m fs es s) {name : Str} {cn : Str} {cs : Scope} {fa : Addr} {cd : Value} {ve : Expr} {sp ap p : Pos} {Q : Flow → Shared → Prop}
    (hk : cs.kind = .function) (hks : (envOf cn cs L fa cd).kindOf "self" = some .local) (hself : m "self" = some (.ref e))
    (hm : name ∈ (["code", "value", "errorcode", "level", "ret", "info", "is_noted", "line", "extra"] : List Str)) (hz : es.length ≤ 100)
    (hv : wpAny (model prog w) A (eval ve (envOf cn cs L fa cd)) (fun v s₁ => Rest s s₁ ∧ Ini base g L e m fs es s₁ ∧ ∀ s', Rest s₁ s' → Ini base g L e m fs ((name, v) :: es) s' → Q .next s') E s)
    (hsw : swapsWith ve (some ((Expr.Name "self" sp).Attribute name ap)) p.line (envOf cn cs L fa cd) = pure false := by rfl) :
    wpAny (model prog w) A (exec (.Assign [(Expr.Name "self" sp).Attribute name ap] ve p) (envOf cn cs L fa cd)) Q E s := by
  refine plainObj_wpAny_Assign_Attribute (wpAny_mono hv (fun v s₁ ⟨r₁, I₁, h₁⟩ => ?_) fun _ _ x => x) hsw
  refine wpAny_Name (wpAny_loadName_local hk hks I₁.ns hself ?_)
  exact Ini.store Z c I₁ hm hz fun s' r' I' => h₁ s' r' I'
/-- entering a def of the top -/
theorem enter_def {K : Frag} (KI : K.In base) (nl : base.NoLimit) (st : base.StaysIn s.heap) {f : Addr} {oc od name qual params body scope dV kV doc pm an cdv ct osl}
    (ho : K.lookup f = some ⟨oc, od, .func (fnOf name qual params body scope dV kV doc pm an cdv ct), osl⟩) (hcd : codeIn K cdv qual = true) {args : List Value} (binds : List (Str × Value)) {Q : Value → Shared → Prop}
    (hdep : A.depth + 1 ≤ 950) (hbind : BindsTo s (fnOf name qual params body scope dV kV doc pm an cdv ct) ⟨args, []⟩ binds) (hloc : ∀ y ∈ binds, scope.names.lookup y.1 = some .local) (hcell : ∀ x ∈ scope.names, x.2 ≠ .cell)
    (h : ∀ h₁, h₁.Ns s.heap.objs.size (fun x => binds.reverse.lookup x) → (∀ b o, s.heap.get? b = some o → h₁.get? b = some o) →
      wpAny (model prog w) (A.deeper (envOf qual scope s.heap.objs.size f cdv)) (execs body (envOf qual scope s.heap.objs.size f cdv)) (fun fl s' => Q (match fl with | .ret v => v | _ => .none) s') (fun _ _ => False) { s with heap := h₁, toks := s.toks + binds.length })
    (hco : scope.isCoroutine = false := by rfl) (hgen : scope.isGenerator = false := by rfl) (hk : scope.kind = .function := by rfl) : wpAny (model prog w) A (PySem.call (.ref f) args) Q E s := by
  have X : K.In s.heap := KI.keeps st
  refine wpAny_call (codeAny_call_def (fd := fnOf name qual params body scope dV kV doc pm an cdv ct) (body := body) (binds := binds) (Nat.lt_of_lt_of_le (by omega) (show 950 ≤ recursionLimit from by decide)) (X _ _ ho) rfl (nl.keeps st) (codeRec_of X hcd) rfl hbind hcell hloc (fun h₁ hns hk => ?_) hco hgen hk)
  exact wpAny_mono (h h₁ hns hk) (fun _ _ x => x) fun _ _ x => x.elim

set_option maxHeartbeats 4000000 in
theorem exc_init {h : Heap} {gg : Array GenState} {d : Drawn} {t : Nat} {os : OsState} {C N e : Addr} {nm q : Str} {bs bm : List Value} {hdct : Bool} {sn : List Str} {sub : List Value} {ab : Bool} {col : Option Bool} {dd : Option Addr} {k0 k1 k2 k3 k5 : Option Value} {B newId initId : String} {Q : Value → Shared → Prop} {v : Value} {t0 : Addr}
    (FI : ExcBaseFacts B newId initId bm) (hC : h.get? C = some (excClassObj nm q C N bs bm hdct sn sub ab col dd k0 k1 k2 k3 k5 newId)) (he : h.get? e = some { cls := .ref C, data := .fields #[.ref t0, .none, .none, .none, .bool false, .none] })
    (hq : ∀ h' t1, h'.get? e = some { cls := .ref C, data := .fields #[.ref t1, .none, .none, .none, .bool false, .none] } → (∀ b o, b ≠ e → h.get? b = some o → h'.get? b = some o) → Q .none ⟨h', gg, d, t, os⟩) :
    wpAny (model prog w) A (PySem.call (.builtin initId) [.ref e, v]) Q E ⟨h, gg, d, t, os⟩ := by
  refine wpAny_call (codeAny_call_builtin FI.init.plain FI.initEntry (wpAny_check_init_sub FI hC he rfl ?_))
  wp_walk
  refine hq _ (h.objs.size) ?_ fun b o hb q => ?_
  · rw [Heap.get?_update_self _ (Heap.get?_push_of_some _ he) rfl]; rfl
  · exact (Heap.get?_update_ne _ _ _ _ hb).trans (Heap.get?_push_of_some _ q)
set_option maxHeartbeats 4000000 in
theorem init_call (KI : (hd.heap_1 w.params).In base) (TR : ∃ p loose mg mb, TopRead p loose mg mb base) (nl : base.NoLimit) (Z : Rz base mN) (bg : base.StaysIn g) (low : base.objs.size ≤ s.heap.objs.size) (eg : g.get? e = none)
    (keep : ∀ b o, g.get? b = some o → s.heap.get? b = some o) {t : Addr} (he : s.heap.get? e = some { cls := .ref 33, data := .fields #[.ref t, .none, .none, .none, .bool false, .none] }) (hdep : A.depth + 5 ≤ 950) {v1 v2 v3 : Value} {Q : Value → Shared → Prop}
    (h : ∀ s' d fs es, Rest s s' → base.StaysIn s'.heap → (∀ b o, g.get? b = some o → s'.heap.get? b = some o) → ExI s'.heap 33 e d fs (fun y => List.lookup y es) → 1 < fs.size ∧ fs[1]? = some .none → g.get? d = none →
      es.lookup ("code" : Str) = some v1 → es.lookup ("value" : Str) = some v2 → es.lookup ("errorcode" : Str) = some v3 → Q .none s') :
    wpAny (model prog w) A (PySem.call (.ref 30) [.ref e, v1, v2, v3]) Q E s := by
  have st : base.StaysIn s.heap := fun b o q => keep b o (bg b o q)
  have X : (hd.heap_1 w.params).In s.heap := KI.keeps st
  refine enter_def KI nl st (f := 30) rfl (by kernel_rfl) [("self", .ref e), ("code", v1), ("value", v2), ("errorcode", v3), ("level", .int 0 202), ("ret", .int 0 203)] (by omega) (binds_K X rfl rfl rfl rfl (by kernel_rfl)) (locs (by kernel_rfl)) (by decide +kernel) fun h₁ hns hk => ?_
  have hz : s.heap.get? s.heap.objs.size = none := Heap.get?_none_of_le (Nat.le_refl _)
  have c : InC base g s.heap.objs.size e := by
    refine ⟨eg, fun q => ?_, ?_, low, bg⟩
    · rw [q, hz] at he; cases he
    · cases q : g.get? s.heap.objs.size with
      | none => rfl
      | some o => have := keep _ _ q; rw [hz] at this; cases this
  have F : Fr base s.heap.objs.size h₁ _ := ⟨hns, fun b o q => hk b o (st b o q), low⟩
  obtain ⟨p, loose, mg, mb, T⟩ := TR
  refine wpAny_execs_cons (wpAny_Expr_any (MethodCall_ ?_))
  refine wpAny_mono (Q := fun v s' => v = .type "Exception" ∧ s' = { s with heap := h₁, toks := s.toks + 6 }) (name_B F KI T (by kernel_rfl) (by kernel_rfl) (by decide) ⟨rfl, rfl⟩) (fun v s' ⟨hv, hs⟩ => ?_) fun _ _ x => x
  subst hv hs
  have hc1 : findCls (hd.heap_1 w.params) (.type "Exception") (.type "type") "__init__" = some (.val (.builtin "Exception.__init__")) := by kernel_rfl
  have key := fun m => @getMethod_of_type prog w _ _ s.heap.objs.size m "Exception" "__init__" _ KI (by kernel_rfl) (by decide +kernel) hc1 (by kernel_rfl)
  refine key _ F ?_
  refine callWith_builtin rfl (evalArgs_plain (spliced_cons ?_))
  refine wpAny_Name (wpAny_loadName_local rfl rfl hns (v := .ref e) rfl ?_)
  refine spliced_cons (wpAny_Name (wpAny_loadName_local rfl rfl hns (v := v2) rfl (spliced_nil ?_)))
  obtain ⟨dd, k0, k1, k2, k3, k5, hC⟩ := Z.hC
  refine exc_init PySem.F.excBase_Exception (hk _ _ (st _ _ hC)) (hk _ _ he) fun h₂ t1 he₂ hk₂ => ?_
  have I0 : Ini base g s.heap.objs.size e (fun x => List.lookup x ([("self", .ref e), ("code", v1), ("value", v2), ("errorcode", v3), ("level", .int 0 202), ("ret", .int 0 203)] : List (Str × Value)).reverse) #[.ref t1, .none, .none, .none, .bool false, .none] [] ⟨h₂, s.gens, s.drawn, s.toks + 6 + 1, s.os⟩ := by
    refine ⟨?_, fun b o q => hk₂ b o (fun z => by subst z; rw [base_none c eg] at q; cases q) (hk _ _ (st b o q)), fun b o q => hk₂ b o (fun z => by subst z; rw [eg] at q; cases q) (hk _ _ (keep b o q)), .inl ⟨rfl, _, he₂, rfl, rfl, rfl⟩⟩
    obtain ⟨oL, a1, a2, q, r⟩ := hns; exact ⟨oL, a1, a2, hk₂ _ oL (Ne.symm c.eL) q, r⟩
  dsimp only
  refine wpAny_execs_cons (Ini.assign Z c I0 rfl rfl rfl (by simp) (by simp) (wpAny_Name (wpAny_loadName_local rfl rfl I0.ns (v := v1) rfl ⟨.refl _, I0, fun s1 r1 I1 => ?_⟩)))
  dsimp only
  refine wpAny_execs_cons (Ini.assign Z c I1 rfl rfl rfl (by simp) (by simp) (wpAny_Name (wpAny_loadName_local rfl rfl I1.ns (v := v2) rfl ⟨.refl _, I1, fun s2 r2 I2 => ?_⟩)))
  dsimp only
  refine wpAny_execs_cons (Ini.assign Z c I2 rfl rfl rfl (by simp) (by simp) (wpAny_Name (wpAny_loadName_local rfl rfl I2.ns (v := v3) rfl ⟨.refl _, I2, fun s3 r3 I3 => ?_⟩)))
  dsimp only
  refine wpAny_execs_cons (Ini.assign Z c I3 rfl rfl rfl (by simp) (by simp) (wpAny_Name (wpAny_loadName_local rfl rfl I3.ns (v := .int 0 202) rfl ⟨.refl _, I3, fun s4 r4 I4 => ?_⟩)))
  dsimp only
  refine wpAny_execs_cons (Ini.assign Z c I4 rfl rfl rfl (by simp) (by simp) (wpAny_Name (wpAny_loadName_local rfl rfl I4.ns (v := .int 0 203) rfl ⟨.refl _, I4, fun s5 r5 I5 => ?_⟩)))
  dsimp only
  refine wpAny_execs_cons (Ini.assign Z c I5 rfl rfl rfl (by simp) (by simp) (wpAny_Constant_str ⟨⟨rfl, rfl, rfl⟩, I5.tok _, fun s6 r6 I6 => ?_⟩))
  dsimp only
  refine wpAny_execs_cons (Ini.assign Z c I6 rfl rfl rfl (by simp) (by simp) (wpAny_Constant_bool ⟨⟨rfl, rfl, rfl⟩, I6, fun s7 r7 I7 => ?_⟩))
  dsimp only
  refine wpAny_execs_cons (Ini.assign Z c I7 rfl rfl rfl (by simp) (by simp) (wpAny_Constant_int ⟨⟨rfl, rfl, rfl⟩, I7.tok _, fun s8 r8 I8 => ?_⟩))
  dsimp only
  refine wpAny_execs_cons (Ini.assign Z c I8 rfl rfl rfl (by simp) (by simp) (wpAny_List (spliced_nil ⟨by simp, ⟨rfl, rfl, rfl⟩, I8.push c _ _, fun s9 r9 I9 => ?_⟩)))
  dsimp only
  refine wpAny_execs_nil ?_
  rcases I9.inst with ⟨z, _⟩ | ⟨d, hx, hg, _⟩
  · cases z
  · refine h s9 d _ _ ?_ I9.stays I9.keep hx ⟨by simp, rfl⟩ hg rfl rfl rfl
    exact ⟨r9.gens.trans (r8.gens.trans (r7.gens.trans (r6.gens.trans (r5.gens.trans (r4.gens.trans (r3.gens.trans (r2.gens.trans r1.gens))))))), r9.drawn.trans (r8.drawn.trans (r7.drawn.trans (r6.drawn.trans (r5.drawn.trans (r4.drawn.trans (r3.drawn.trans (r2.drawn.trans r1.drawn))))))),
      r9.os.trans (r8.os.trans (r7.os.trans (r6.os.trans (r5.os.trans (r4.os.trans (r3.os.trans (r2.os.trans r1.os)))))))⟩
end
end Mine
end

section
set_option maxRecDepth 100000
set_option linter.unusedVariables false
set_option linter.unusedSimpArgs false
namespace Mine
open PySem PySem.Spec PySem.Calls PyProof.Rows PySem.W

section
variable {prog : Program} {w : World} {A : Around} {E : Value → Shared → Prop} {s : Shared} {base : Heap}
/-- what error(text, errorcode) leaves -/
structure Made (base g : Heap) (s s' : Shared) (e : Addr) (v2 v3 : Value) : Prop where
  rest : Rest s s'
  stays : base.StaysIn s'.heap
  keep : ∀ b o, g.get? b = some o → s'.heap.get? b = some o
  new : g.get? e = none
  it : ∃ d fs es t, g.get? d = none ∧ ExI s'.heap 33 e d fs (fun y => List.lookup y es) ∧ 1 < fs.size ∧ fs[1]? = some .none ∧ es.lookup ("code" : Str) = some (.int 1 t) ∧ es.lookup ("value" : Str) = some v2 ∧ es.lookup ("errorcode" : Str) = some v3
set_option maxHeartbeats 4000000 in
theorem error_call (KI : (hd.heap_1 w.params).In base) (TR : ∃ p loose mg mb, TopRead p loose mg mb base) (nl : base.NoLimit) (st : base.StaysIn s.heap) (low : base.objs.size ≤ s.heap.objs.size) (hdep : A.depth + 20 ≤ 950) {v2 v3 : Value} {Q : Value → Shared → Prop}
    (h : ∀ s' e, Made base s.heap s s' e v2 v3 → Q (.ref e) s') :
    wpAny (model prog w) A (PySem.call (.ref 45) [v2, v3]) Q E s := by
  obtain ⟨mN, Z⟩ := rz KI
  have X : (hd.heap_1 w.params).In s.heap := KI.keeps st
  refine enter_def KI nl st (f := 45) rfl (by kernel_rfl) [("text", v2), ("errorcode", v3)] (by omega) (binds_K X rfl rfl rfl rfl (by kernel_rfl)) (locs (by kernel_rfl)) (by decide +kernel) fun h₁ hns hk => ?_
  have hz : s.heap.get? s.heap.objs.size = none := Heap.get?_none_of_le (Nat.le_refl _)
  have st₁ : base.StaysIn h₁ := fun b o q => hk b o (st b o q)
  have F : Fr base s.heap.objs.size h₁ _ := ⟨hns, st₁, low⟩
  obtain ⟨p, loose, mg, mb, T⟩ := TR
  refine wpAny_execs_cons (wpAny_Return_some ?_)
  refine wpAny_Call_ofName (name_K F KI T (v := .ref 33) (by kernel_rfl) ?_ rfl rfl rfl)
  refine callWith_K KI (by kernel_rfl) ?_ rfl rfl
  refine spliced_cons ?_
  refine wpAny_Constant_int (k := 0) (pos := ⟨0, 0, 0, 0⟩) ?_
  refine spliced_cons ?_
  refine wpAny_Name (wpAny_loadName_local rfl rfl hns (v := v2) rfl ?_)
  refine spliced_cons ?_
  refine wpAny_Name (wpAny_loadName_local rfl rfl hns (v := v3) rfl ?_)
  refine spliced_nil ⟨KI.keeps st₁, ?_⟩
  obtain ⟨dd, k0, k1, k2, k3, k5, hC⟩ := Z.hC
  have h30 := KI 30 _ rfl
  refine wpAny_call_exc_init PySem.F.excBase_Exception (st₁ _ _ hC) (let ⟨o, a, b, q, r⟩ := Z.hn; ⟨o, a, b, st₁ _ _ q, r⟩) Z.init (st₁ _ _ h30) rfl fun h' e hm => ?_
  obtain ⟨t, he, _⟩ := hm.there
  have hk' : ∀ b o, s.heap.get? b = some o → h'.get? b = some o := fun b o q => hm.keeps b o (hk b o q)
  have eg : s.heap.get? e = none := by
    cases q : s.heap.get? e with
    | none => rfl
    | some o => have := hk _ _ q; rw [hm.new] at this; cases this
  refine init_call (s := ⟨h', s.gens, s.drawn, _, s.os⟩) (v1 := .int 1 (s.toks + 2)) KI ⟨p, loose, mg, mb, T⟩ nl Z st (Nat.le_trans low ?_) eg hk' he ?_ fun s' d fs es r stays keep hx hf hd q1 q2 q3 => ⟨rfl, h s' e ⟨⟨r.gens, r.drawn, r.os⟩, stays, keep, eg, d, fs, es, _, hd, hx, hf.1, hf.2, q1, q2, q3⟩⟩
  · obtain ⟨oL, _, _, q, _⟩ := hns
    exact Nat.le_of_lt (Heap.lt_size (hm.keeps _ _ q))
  · show A.depth + 1 + 1 + 5 ≤ 950
    omega
end
section
variable {M : Model} {A : Around} {E : Value → Shared → Prop} {env : Env}
variable {nm q : Str} {C N : Addr} {bs bm : List Value} {hdct : Bool} {sn : List Str} {sub : List Value} {ab : Bool} {col : Option Bool} {dd : Option Addr} {k0 k1 k2 k3 k5 : Option Value} {newId : String}
theorem raiseStmt_exi {s : Shared} {x : Sem Value} {Q : Flow → Shared → Prop} (hbase : bm.contains (.type "BaseException") = true) (hh : A.handled = none)
    (h : wpAny M A x (fun v s₁ => ∃ e oe vs, v = .ref e ∧ (∃ dd k0 k1 k2 k3 k5, s₁.heap.get? C = some (excClassObj nm q C N bs bm hdct sn sub ab col dd k0 k1 k2 k3 k5 newId)) ∧
      s₁.heap.get? e = some oe ∧ oe.cls = .ref C ∧ oe.data = .fields vs ∧ vs[1]? = some .none ∧ E (.ref e) s₁) E s) :
    wpAny M A (raiseStmt env (some x) none) Q E s := by
  have hcB : (Value.ref C :: bm).contains (.type "BaseException") = true := by rw [List.contains_cons, hbase, Bool.or_true]
  unfold raiseStmt
  refine wpAny_bind (wpAny_mono h (fun v s₁ h₁ => ?_) fun _ _ x => x)
  obtain ⟨e, oe, vs, rfl, ⟨dd, k0, k1, k2, k3, k5, hC⟩, he, hcl, hd, hv, hE⟩ := h₁
  obtain ⟨hp, g, d, tk, os⟩ := s₁
  obtain ⟨ocl, odi, oda, osl⟩ := oe
  simp only at hcl hd
  subst hcl hd
  repeat (first | with_reducible refine wpAny_loadPart_at he ?_ | with_reducible refine wpAny_loadPart_at hC ?_ | (with_reducible refine wpAny_isSubtype_exc hC ?_; rw [hcB]) | wp_step)
  rw [hv]
  refine wpAny_pure ?_
  rw [if_neg (by decide)]
  exact wpAny_pure (wpAny_raiseNew_none hh hE)
end
section
variable {c : Cx} {σ : St} {P : Po} {X : Exc → Prop}
theorem Made.flies {c : Cx} {s s' : Shared} {e : Addr} {v2 v3 : Value} {d2 d3 : PyData} {as bs : List Addr} (o : Ok0 c s) (m : Made c.base s.heap s s' e v2 v3) (r2 : Reads s.heap v2 d2 as) (r3 : Reads s.heap v3 d3 bs) :
    Ok0 c s' ∧ Flies raisedAt c.fresh s'.heap none (.ref e) ⟨.int 1, d2, d3⟩ := by
  have k : Kp s.heap s'.heap := .keep m.keep
  refine ⟨o.step m.rest k m.stays, ?_⟩
  obtain ⟨d, fs, es, t, hdn, ⟨⟨oe, h1, h2, h3, h4⟩, hns, hne⟩, hz, h5, q1, q2, q3⟩ := m.it
  exact ⟨e, d, oe, fs, _, rfl, o.fresh m.new, h1, h2, h3, h4, hz, h5, hns, ⟨hne, o.fresh hdn⟩, ⟨_, _, q1, .int _ _⟩, ⟨_, _, q2, reads_kp k r2⟩, ⟨_, _, q3, reads_kp k r3⟩⟩
theorem W1.raise (hc : CxOk c) (hK : c.K = hd.heap_1 c.w.params) {a b np p p'} (h : We c σ a (fun da => We c σ b (fun db => X ⟨.int 1, da, db⟩) X) X) (hk : c.env.kindOf "error" = some .globalImplicit := by rfl)
    (hs : starEach [a, b] c.env = [(false, eval a c.env), (false, eval b c.env)] := by rfl) (hs1 : starEach [b] c.env = [(false, eval b c.env)] := by rfl) :
    W1 c σ (.Raise (some (.Call (.Name "error" np) [a, b] [] p)) none p') P X := ⟨fun s Q E ok hq xp => by
  have hkin := hc.gb.kin
  obtain ⟨m, ms, F⟩ := ok.fr hc
  have TR := hc.gb.top
  obtain ⟨q', loose, mg, mb, T⟩ := hc.gb.top
  have hN : nsIn c.K mainGlobals "error" = some (some (.ref 45)) := by rw [hK]; kernel_rfl
  have hkp : keepIn c.K (.ref 45) = true := by rw [hK]; kernel_rfl
  obtain ⟨mN, Z⟩ := rz (w := c.w) (base := c.base) (hK ▸ hkin)
  obtain ⟨dd, k0, k1, k2, k3, k5, hC⟩ := Z.hC
  show wpAny c.M c.A (do standAt p'; raiseStmt c.env (some (do let v ← eval (.Call (.Name "error" np) [a, b] [] p) c.env; standAt p'; pure v)) none) Q E s
  refine wpAny_bind (wpAny_standAt (raiseStmt_exi (C := 33) (bm := [.type "Exception", .type "BaseException", .type "object"]) (by decide) rfl (wpAny_bind (wpAny_mono (Q := fun v s₁ => ∃ e oe vs, v = .ref e ∧ (∃ dd k0 k1 k2 k3 k5, s₁.heap.get? 33 = some (excClassObj "Raised" "Raised" 33 32 [.type "Exception"] [.type "Exception", .type "BaseException", .type "object"] true [] [] false none dd k0 k1 k2 k3 k5 "Exception.__new__")) ∧
      s₁.heap.get? e = some oe ∧ oe.cls = .ref 33 ∧ oe.data = .fields vs ∧ vs[1]? = some .none ∧ E (.ref e) s₁) ?_ (fun v s₁ h₁ => wpAny_bind (wpAny_standAt (wpAny_pure h₁))) fun _ _ x => x))))
  refine wpAny_Call_ofName (name_K F hkin T hN ?_ hc.kind hk rfl)
  refine callWith_K hkin hkp ?_ (by rw [hs, hs1]) (by rw [hs1]; rfl)
  have hs' : backTo p (starEach [a, b] c.env) = [(false, eval a c.env), (false, eval b c.env)] := by rw [hs]; rfl
  rw [hs']
  refine spliced_cons (h.go s _ E ok (fun va da as s₁ h₁ ok₁ k₁ r₁ => ?_) xp)
  refine spliced_cons (h₁.go s₁ _ E ok₁ (fun vb db bs s₂ h₂ ok₂ k₂ r₂ => ?_) xp)
  refine spliced_nil ⟨hkin.keeps ok₂.zero.stays, ?_⟩
  refine error_call (hK ▸ hkin) TR hc.gb.nolimit ok₂.zero.stays (Ok0.big hc ok₂.zero) ?_ fun s' e hm => ?_
  · have := hc.dp
    show c.dp + 20 ≤ 950
    omega
  · obtain ⟨o', f'⟩ := hm.flies ok₂.zero (reads_kp k₂ r₁) r₂
    obtain ⟨d, fs, es, t, _, ⟨⟨oe, h1, h2, h3, h4⟩, _⟩, _, h5, _⟩ := hm.it
    exact ⟨e, oe, fs, rfl, ⟨dd, k0, k1, k2, k3, k5, hm.stays _ _ hC⟩, h1, h2, h4, h5, xp _ _ _ none h₂ o' f' (.inl rfl)⟩⟩
end
end Mine
end

section
set_option maxRecDepth 100000
set_option linter.unusedVariables false
set_option linter.unusedSimpArgs false
namespace Mine
open PySem PySem.Spec PySem.Calls PyProof.Rows PySem.W

section
variable {c : Cx} {σ : St} {P : Po} {X : Exc → Prop}
theorem handedOut_reads {h : Heap} {v : Value} {d : PyData} {as : List Addr} (r : Reads h v d as) : handedOut v = pure v := by cases r <;> rfl
structure Held (c : Cx) (e : Addr) (x : Exc) (h : Heap) : Prop where
  ce : c.fresh e
  it : ∃ de fs mA, ExI h 33 e de fs mA ∧ c.fresh de ∧ (∃ v1 a1, mA "code" = some v1 ∧ Reads h v1 x.code a1) ∧ (∃ v1 a1, mA "value" = some v1 ∧ Reads h v1 x.val a1) ∧ (∃ v1 a1, mA "errorcode" = some v1 ∧ Reads h v1 x.ec a1)
theorem Flies.held {h : Heap} {tb : Option Value} {v : Value} {x : Exc} (f : Flies raisedAt c.fresh h tb v x) : ∃ e, v = .ref e ∧ Held c e x h := by
  obtain ⟨e, de, oe, vs, mA, rfl, hg, he, hcl, hdi, hd, hsz, htb, hod, ⟨hne, hnd⟩, r1, r2, r3⟩ := f.it
  exact ⟨e, rfl, hg, de, vs, mA, ⟨⟨oe, he, hcl, hdi, hd⟩, hod, hne⟩, hnd, r1, r2, r3⟩
theorem Held.rebound {e : Addr} {x : Exc} {s : Shared} {h' : Heap} {m : Str → Option Value} (hd : Held c e x s.heap) (hm : s.heap.Ns c.L m) (hs : Heap.SameBut c.L s.heap h') (n1 : nodict x.code = true) (n2 : nodict x.val = true) (n3 : nodict x.ec = true) : Held c e x h' := by
  obtain ⟨ce, de, fs, mA, ⟨⟨oe, h1, h2⟩, h3, h4⟩, h5, ⟨v1, a1, q1, r1⟩, ⟨v2, a2, q2, r2⟩, ⟨v3, a3, q3, r3⟩⟩ := hd
  have sk := seq_keeps hm hs
  refine ⟨ce, de, fs, mA, ⟨⟨oe, (hs.2 _ ce.2).trans h1, h2⟩, ?_, h4⟩, h5, ⟨v1, a1, q1, reads_nd sk r1 n1⟩, ⟨v2, a2, q2, reads_nd sk r2 n2⟩, ⟨v3, a3, q3, reads_nd sk r3 n3⟩⟩
  obtain ⟨o, es, ep, ho, r⟩ := h3
  exact ⟨o, es, ep, (hs.2 _ h5.2).trans ho, r⟩
theorem exc_hooks {w : World} {base : Heap} {mN : Str → Option Value} (Z : Rz base mN) : mN "__getattribute__" = none ∧ mN "__getattr__" = none ∧ mN "code" = none ∧ mN "value" = none ∧ mN "errorcode" = none :=
  ⟨Z.no _ (by simp), Z.no _ (by simp), Z.no _ (by simp), Z.no _ (by simp), Z.no _ (by simp)⟩

/-- fault.x -/
theorem load_fault {A : Around} {E : Value → Shared → Prop} {Q : Value → Shared → Prop} {s : Shared} {e : Addr} {x : Exc} {name : Str} {mN : Str → Option Value} (Z : Rz c.base mN) (st : c.base.StaysIn s.heap) (hd : Held c e x s.heap) (hn : name = "code" ∨ name = "value" ∨ name = "errorcode")
    (h : ∀ v d as, (name = "code" → d = x.code) → (name = "value" → d = x.val) → (name = "errorcode" → d = x.ec) → Reads s.heap v d as → Q v { s with toks := s.toks + 1 }) : wpAny c.M A (getAttr (.ref e) name true) Q E s := by
  obtain ⟨hp, g, d, t, os⟩ := s
  obtain ⟨dd, k0, k1, k2, k3, k5, hC⟩ := Z.hC
  obtain ⟨z1, z2, z3, z4, z5⟩ := exc_hooks (w := c.w) Z
  have hC' := st _ _ hC
  have hn' : hp.Ns 32 mN := let ⟨o, a, b, q, r⟩ := Z.hn; ⟨o, a, b, st _ _ q, r⟩
  obtain ⟨ce, de, fs, mA, I, hde, ⟨v1, a1, q1, r1⟩, ⟨v2, a2, q2, r2⟩, ⟨v3, a3, q3, r3⟩⟩ := hd
  rcases hn with rfl | rfl | rfl
  · exact load_exc PySem.F.attrBase_Exception hC' hn' z1 z2 z3 (exc_lk _ (by simp)) I q1 (handedOut_reads r1) (h v1 x.code a1 (fun _ => rfl) (fun q => absurd q (by decide)) (fun q => absurd q (by decide)) r1)
  · exact load_exc PySem.F.attrBase_Exception hC' hn' z1 z2 z4 (exc_lk _ (by simp)) I q2 (handedOut_reads r2) (h v2 x.val a2 (fun q => absurd q (by decide)) (fun _ => rfl) (fun q => absurd q (by decide)) r2)
  · exact load_exc PySem.F.attrBase_Exception hC' hn' z1 z2 z5 (exc_lk _ (by simp)) I q3 (handedOut_reads r3) (h v3 x.ec a3 (fun q => absurd q (by decide)) (fun q => absurd q (by decide)) (fun _ => rfl) r3)
/-- try: return f(..) except Raised as fault: return (fault.code, fault.value, fault.errorcode) -/
theorem W1.tryRaised (hc : CxOk c) (hK : c.K = hd.heap_1 c.w.params) {f np e es p p1 a t1 np2 n1 a1 n2 a2 n3 a3 k tp rp hp} (hn : nsIn c.K mainGlobals f = some (some (.ref a))) (hkp : keepIn c.K (.ref a) = true)
    (h : Was c σ (e :: es) (fun ds => Wf c.prog c.w c.base a c.lv ds P.ret (fun x => (nodict x.code = true ∧ nodict x.val = true ∧ nodict x.ec = true) ∧ P.ret (.tuple [x.code, x.val, x.ec]))) (fun _ => False)) (hk : c.env.kindOf f = some .globalImplicit := by rfl) (hd : (f == ("__debug__" : Str)) = false := by rfl)
    (hs : starEach (e :: es) c.env = (false, eval e c.env) :: starEach es c.env := by rfl) (hpl : ((backTo p (starEach es c.env)).any fun x => x.1) = false := by rfl)
    (hkr : c.env.kindOf "Raised" = some .globalImplicit := by rfl) (hkf : c.env.kindOf "fault" = some .local := by rfl)
    (hst : starEach [.Attribute (.Name "fault" n1) "code" a1, .Attribute (.Name "fault" n2) "value" a2, .Attribute (.Name "fault" n3) "errorcode" a3] c.env =
      [(false, eval (.Attribute (.Name "fault" n1) "code" a1) c.env), (false, eval (.Attribute (.Name "fault" n2) "value" a2) c.env), (false, eval (.Attribute (.Name "fault" n3) "errorcode" a3) c.env)] := by rfl) :
    W1 c σ (.Try [.Return (some (.Call (.Name f np) (e :: es) [] p)) p1] [.ExceptHandler (some (.Name "Raised" np2)) (some "fault") [.Return (some (.Tuple [.Attribute (.Name "fault" n1) "code" a1, .Attribute (.Name "fault" n2) "value" a2, .Attribute (.Name "fault" n3) "errorcode" a3] k tp)) rp] hp] [] [] t1) P X := ⟨fun s Q E ok hq xp => by
  rw [arm_exec_Try]
  refine wpAny_bind (wpAny_standAt (wpAny_tryStmt_except ?_))
  refine wpAny_execs_cons (wpAny_Return_some ?_)
  obtain ⟨m, ms, F⟩ := ok.fr hc
  have hkin := hc.gb.kin
  obtain ⟨p', loose, mg, mb, T⟩ := hc.gb.top
  obtain ⟨mN, Z⟩ := rz (w := c.w) (base := c.base) (hK ▸ hkin)
  refine wpAny_Call_ofName (name_K F hkin T hn ?_ hc.kind hk hd)
  refine callWith_K hkin hkp ?_ hs hpl
  refine h.go p s _ _ ok (fun vs ds as s₁ h₁ ok₁ k₁ r₁ => ⟨hkin.keeps ok₁.zero.stays, wpAny_call ?_⟩) (fun x v s' tb hx => hx.elim)
  refine h₁.go s₁ c.A (c.env :: c.outer) vs as _ ⟨rfl, rfl, hc.dp, hc.un⟩ ok₁.zero.stays (Ok0.big hc ok₁.zero) ok₁.zero.frames r₁ (fun v d bs s' hd' rr st kp rd => ?_) fun x v s' hx rr st kp fl => ?_
  · exact hq _ _ ⟨d, bs, hd', ok₁.zero.step rr kp st, rd⟩
  · obtain ⟨⟨m1, m2, m3⟩, hP⟩ := hx
    have o0 := ok₁.zero.step rr kp st
    refine noteFrame_ok hc o0 (fl.weaken fun _ q => ok₁.zero.fresh q) (.inr (.inl rfl)) fun h1 o1 f1 => ?_
    refine setFlight_ok (s := { s' with heap := h1 }) hc o1 f1 none fun h2 o2 f2 => ?_
    obtain ⟨e', rfl, held⟩ := f2.held
    obtain ⟨ms2, hm2⟩ := o2.ns
    have F2 : Fr c.base c.L h2 ms2 := ⟨hm2, o2.stays, hc.low⟩
    refine wpAny_handleBy_cons (codeAny_handlers_test ?_) (by intro q; cases q)
    refine name_K F2 hkin T (v := .ref 33) (by rw [hK]; kernel_rfl) ?_ hc.kind hkr rfl
    obtain ⟨dd, k0, k1, k2, k3, k5, hC⟩ := Z.hC
    obtain ⟨de, fs, mA, ⟨⟨oe, z1, z2, z3⟩, _⟩, _⟩ := held.it
    refine wpAny_excMatches_sub_self (o2.stays _ _ hC) z1 z2 (by decide) ?_
    show codeAny _ _ _ _ _
    refine codeAny_handlers_suite_as ?_
    refine setFlight_ok (s := { s' with heap := h2 }) hc o2 f2 none fun h3 o3 f3 => ?_
    obtain ⟨e'', q, held3⟩ := f3.held
    cases q
    obtain ⟨ms3, hm3⟩ := o3.ns
    refine wpAny_storeName_local hkf hm3 (fun h4 hn4 hs4 => ?_) (hp_of hc)
    have o4 := o3.rebound hc hn4 hs4 (s'.toks + 1)
    have held4 := Held.rebound (s := { s' with heap := h3 }) held3 hm3 hs4 m1 m2 m3
    refine wpAny_execs_cons (wpAny_Return_some ?_)
    refine wpAny_Tuple ?_
    have hst' : backTo tp (starEach [.Attribute (.Name "fault" n1) "code" a1, .Attribute (.Name "fault" n2) "value" a2, .Attribute (.Name "fault" n3) "errorcode" a3] c.env) =
      [(false, eval (.Attribute (.Name "fault" n1) "code" a1) c.env), (false, eval (.Attribute (.Name "fault" n2) "value" a2) c.env), (false, eval (.Attribute (.Name "fault" n3) "errorcode" a3) c.env)] := by rw [hst]; rfl
    rw [hst']
    have ns4 : ∀ {t}, (⟨h4, s'.gens, s'.drawn, t, s'.os⟩ : Shared).heap.Ns c.env.locals _ := fun {t} => hn4
    have st4 := o4.stays
    refine spliced_cons (Attribute_name (wpAny_Name (wpAny_loadName_local hc.kind hkf hn4 (v := .ref e') (if_pos rfl) ?_) rfl))
    refine load_fault Z st4 held4 (.inl rfl) fun v1 d1 b1 y1 _ _ w1 => ?_
    obtain rfl := y1 rfl
    refine spliced_cons (Attribute_name (wpAny_Name (wpAny_loadName_local hc.kind hkf hn4 (v := .ref e') (if_pos rfl) ?_) rfl))
    refine load_fault Z st4 held4 (.inr (.inl rfl)) fun v2 d2 b2 _ y2 _ w2 => ?_
    obtain rfl := y2 rfl
    refine spliced_cons (Attribute_name (wpAny_Name (wpAny_loadName_local hc.kind hkf hn4 (v := .ref e') (if_pos rfl) ?_) rfl))
    refine load_fault Z st4 held4 (.inr (.inr rfl)) fun v3 d3 b3 _ _ y3 w3 => ?_
    obtain rfl := y3 rfl
    refine spliced_nil ⟨by simp [sizeLine_eq], ?_⟩
    have rd : ReadsAll h4 [v1, v2, v3] [x.code, x.val, x.ec] _ := .cons w1 (.cons w2 (.cons w3 .nil))
    have o5 : Ok0 c { heap := h4.push { cls := .type "tuple", data := .seq [v1, v2, v3].toArray }, gens := s'.gens, drawn := s'.drawn, toks := s'.toks + 1 + 1 + 1 + 1, os := s'.os } :=
      o4.step ⟨rfl, rfl, rfl⟩ (.push _ _) fun b y e => Heap.get?_push_of_some _ (o4.stays b y e)
    have hn5 : (h4.push { cls := .type "tuple", data := .seq [v1, v2, v3].toArray }).Ns c.env.locals _ := (Kp.push _ _).ns hn4
    refine wpAny_nameGoes hkf hn5 (hp_of hc) fun h6 m6 hn6 hs6 => ?_
    have rd5 : Reads (h4.push { cls := .type "tuple", data := .seq [v1, v2, v3].toArray }) (.ref h4.objs.size) (.tuple [x.code, x.val, x.ec]) _ := .tuple (Heap.get?_push_size _ rfl) rfl rfl (readsAll_kp (.push _ _) rd)
    refine hq _ _ ⟨_, _, hP, o5.rebound hc hn6 hs6 _, reads_nd (seq_keeps (s := ⟨h4.push { cls := .type "tuple", data := .seq [v1, v2, v3].toArray }, s'.gens, s'.drawn, 0, s'.os⟩) hn5 hs6) rd5 ?_⟩
    show (nodict _ && (nodict _ && (nodict _ && true))) = true
    rw [m1, m2, m3]; rfl⟩
end
end Mine
end

set_option maxRecDepth 100000
set_option linter.unusedVariables false
set_option linter.unusedSimpArgs false
namespace Mine
open PySem PySem.Spec PySem.Calls PyProof.Rows PySem.W
local macro_rules | `(tactic| walk_at "vcM") => `(tactic| fail)
local macro_rules | `(tactic| walk_at "vcU") => `(tactic| fail)
local macro_rules | `(tactic| walk_at "vcF") => `(tactic| fail)
local macro_rules | `(tactic| walk_at "lb") => `(tactic| repeat' (first | assumption | refine lb_app ?_ ?_ | refine lb_cut ?_ | exact Nat.le_refl _))
local macro_rules | `(tactic| walk_at "vcE") => `(tactic| first
  | ((with_reducible show We _ _ (.Name _ _) _ _); first | refine We.name (by assumption) rfl ?_ | refine We.own (by assumption) rfl ?_)
  | ((with_reducible show We _ _ (.Constant _ _ _) _ _); first | refine We.cint ?_ | with_reducible refine We.cstrK (by constructor) ?_ | refine We.cstr ?_ | refine We.cnone ?_ | refine We.cbool ?_)
  | ((with_reducible show We _ _ (.BinOp _ _ _ _) _ _); refine We.bin ?_)
  | ((with_reducible show We _ _ (.Subscript _ (.Slice _ _ _ _) _) _ _); first | refine We.cut ?_ | refine We.cutFrom ?_ | refine We.cutTo ?_)
  | ((with_reducible show We _ _ (.Subscript _ (.UnaryOp _ _ _) _) _ _); refine We.lastS ?_)
  | ((with_reducible show We _ _ (.Subscript _ _ _) _ _); (fail_if_success (with_reducible show We _ _ (.Subscript (.Dict _ _ _) _ _) _ _)); refine We.idx ?_)
  | ((with_reducible show We _ _ (.Call (.Name _ _) _ _ _) _ _); first | refine We.lenS (by assumption) ?_ | refine We.ordS (by assumption) ?_ | refine We.chr (by assumption) ?_ | refine We.abs (by assumption) ?_ | refine We.min (by assumption) ?_ | walk_at "vcU")
  | ((with_reducible show We _ _ (.Call (.Attribute _ _ _) _ _ _) _ _); first | walk_at "vcM" | refine We.findS ?_ | refine We.indexS ?_ | refine We.joinS ?_ | refine We.upper ?_)
  | ((with_reducible show We _ _ (.UnaryOp _ _ _) _ _); refine We.neg ?_)
  | ((with_reducible show We _ _ (.Compare _ _ _ _) _ _); refine We.cmp ?_)
  | ((with_reducible show We _ _ (.Tuple _ _ _) _ _); refine We.tuple ?_)
  | ((with_reducible show We _ _ (.List _ _) _ _); refine We.list ?_)
  | ((with_reducible show We _ _ (.BoolOp _ _ _) _ _); first | refine We.and ?_ | refine We.or ?_ | refine boolOp_one ?_)
  | ((with_reducible show We _ _ (.IfExp _ _ _ _) _ _); refine We.ite ?_))
local macro_rules | `(tactic| walk_at "vcI") => `(tactic| first
  | (with_reducible first
    | refine ite_ff ?_
    | refine ite_tt ?_
    | refine dec_tt (by omega) ?_
    | refine dec_ff (by omega) ?_
    | refine split_dec (fun _ => ?_) (fun _ => ?_)
    | refine seq_ff (by first | decide | exact List.cons_ne_nil _ _ | assumption | (intro h; simp only [List.cons.injEq, and_true, reduceCtorEq, false_and] at h; try omega)) ?_
    | refine seq_tt (by first | rfl | assumption | decide | (simp only [List.cons.injEq, and_true]; omega)) ?_
    | refine split_one (fun _ => ?_) (fun _ => ?_)
    | refine split_seq (fun _ => ?_) (fun _ => ?_)
    | refine sne_tt (by first | decide | exact List.cons_ne_nil _ _ | assumption | (intro h; simp only [List.cons.injEq, and_true, reduceCtorEq, false_and] at h; try omega)) ?_
    | refine sne_ff (by first | rfl | assumption | decide | (simp only [List.cons.injEq, and_true]; omega)) ?_
    | refine split_sne (fun _ => ?_) (fun _ => ?_)
    | refine it_m1 ?_
    | refine it_m2 ?_
    | refine it_m3 ?_
    | refine it_m4 ?_
    | refine it_m5 ?_
    | refine it_any3_1 ?_
    | refine it_any2_1 ?_
    | refine it_any3_0 ?_
    | refine it_any2_0 ?_
    | refine it_l0 ?_
    | refine it_nl0 ?_
    | refine it_l1t (by assumption) ?_
    | refine it_l1f (by assumption) ?_
    | refine it_l1 (fun _ => ?_) (fun _ => ?_)
    | refine it_nl1 (fun _ => ?_) (fun _ => ?_)
    | refine it_found ?_
    | refine split_beq (fun _ => ?_) (fun _ => ?_)
    | refine split_bne (fun _ => ?_) (fun _ => ?_))
  | (dsimp only [foundD_el, foundD_no, isN_none, isN_tuple, not_tt, not_ff]; first | refine ite_ff ?_ | refine ite_tt ?_ | skip)
  | (with_reducible first
    | refine split_not (fun _ => ?_) (fun _ => ?_)
    | refine split_ite (fun _ => ?_) (fun _ => ?_)))
local macro_rules | `(tactic| walk_at "vc1") => `(tactic| first
  | ((with_reducible show Ws _ _ _ _ _); first | refine Ws.cons ?_ | refine Ws.nil ?_)
  | ((with_reducible show We _ _ _ _ _); walk_at "vcE")
  | ((with_reducible show Was _ _ _ _ _); first | refine Was.cons ?_ | refine Was.nil ?_)
  | ((with_reducible show W1 _ _ _ _ _); first
    | refine W1.ret ?_
    | refine W1.ite ?_
    | refine W1.newList (by assumption) rfl rfl (fun _ => ?_)
    | refine W1.assign (by assumption) ?_ (by intro _ h; cases h <;> (show Str.ofString _ ≠ Str.ofString _; decide))
    | refine W1.aug (by assumption) rfl (by first | exact .inl rfl | exact .inr rfl) (by intro _ h; cases h) ?_ (by intro _ h; cases h <;> (show Str.ofString _ ≠ Str.ofString _; decide))
    | refine W1.ownTup (by assumption) rfl rfl (fun _ => ?_) rfl rfl
    | refine W1.ownTupleSw (by assumption) rfl (fun _ => ?_) rfl (by decide) (by decide) rfl rfl
    | refine W1.tupSw (by assumption) rfl ?_ (by intro _ h; cases h <;> (show List.contains _ (Str.ofString _) = false; first | rfl | decide))
    | refine W1.tup (by assumption) rfl ?_ (by intro _ h; cases h <;> (show List.contains _ (Str.ofString _) = false; first | rfl | decide))
    | refine W1.raise (by assumption) rfl ?_
    | refine W1.append (by assumption) rfl ?_
    | refine W1.expr ?_
    | refine W1.ret0 ?_
    | refine W1.brk ?_
    | refine W1.cont ?_)
  | ((with_reducible show Wt _ _ (.BoolOp _ _ _) _ _); first | refine Wt.and ?_ | refine Wt.and1 ?_ | refine Wt.or ?_ | refine Wt.or1 ?_)
  | ((with_reducible show Wt _ _ (.UnaryOp _ _ _) _ _); refine Wt.not ?_)
  | ((with_reducible show Wt _ _ _ _ _); first | refine Wt.isNone ?_ | refine Wt.isNotNone ?_ | refine Wt.cmp ?_ | refine Wt.chain ?_ | refine Wt.val ?_)
  | ((with_reducible show Wf _ _ _ _ _ _ _ _); walk_at "vcF")
  | ((with_reducible show ite _ _ _); walk_at "vcI")
  | ((with_reducible show And _ _); first
    | with_reducible refine And.intro (Or.inl (And.intro rfl rfl)) ?_
    | with_reducible refine And.intro (Or.inr rfl) ?_
    | with_reducible refine And.intro (Or.inr (foundD_flat _ _)) ?_
    | ((with_reducible refine And.intro ?_ ?_); · (first | exact nn3 (by assumption) | exact nn2 (by assumption) | exact sz_of (by walk_at "lb") (by walk_at "lb") (by decide) | decide | rfl | omega | exact ⟨rfl, by simp only [List.length_map, List.length_append, List.length_cons, List.length_nil]; omega⟩ | exact IntMulOk.of_right (by decide) | exact ⟨by decide, noPylong_small (by decide)⟩ | (simp only [List.size_toArray, List.length_append, List.length_take, List.length_drop, List.length_cons, List.length_nil]; omega))))
  | ((with_reducible show Exists _); first
    | with_reducible refine Exists.intro _ (And.intro (show _ = _ from by assumption) ?_)
    | with_reducible refine Exists.intro _ (And.intro rfl ?_)
    | with_reducible refine ex_prop (by first | omega | (simp only [List.length_cons, List.length_nil]; omega)) ?_))
local macro_rules | `(tactic| walk_at "vc") => `(tactic| repeat' (first | walk_at "vc1" | (dsimp only [BinP, CmpP, TwoP, ListP, InP, SubP, IdxP, S_list, catS_S, S_size, foundD_el, foundD_no, isN_none, isN_tuple, not_tt, not_ff])))
local macro_rules | `(tactic| walk_at "sub") => `(tactic| (refine sub_of ?_ (by first | exact .inl rfl | exact .inr rfl) (by first | exact (fun p hp => hp) | exact (fun p hp => nomatch hp)) (by first | exact (fun p hp => hp) | exact (fun p hp => nomatch hp)); repeat' first | exact True.intro | refine And.intro rfl ?_))
local macro_rules | `(tactic| walk_at "kst") => `(tactic| simp only [S_eq, S_beq, decide_eq_true_eq, decide_eq_false_iff_not, List.cons.injEq, and_true, bne, Bool.not_eq_true', Bool.not_eq_false'] at *)
local macro_rules | `(tactic| walk_at "any") => `(tactic| simp only [anyEq_cons, anyEq_nil, List.cons.injEq, and_true, Bool.or_false, Bool.or_eq_true, decide_eq_true_eq, Bool.or_eq_false_iff, decide_eq_false_iff_not, reduceCtorEq, decide_false, Bool.false_eq_true] at *)

section
set_option maxRecDepth 100000
set_option linter.unusedVariables false
set_option linter.unusedSimpArgs false
open PySem PySem.Spec PySem.Calls PyProof.Rows PySem.W
section
variable {prog : Program} {w : World} {base : Heap}
set_option maxHeartbeats 1000000
set_option pp.maxSteps 200
theorem digit_ok (gb : Gb (hd.heap_1 w.params) base) (k : Nat) : Wf prog w base 59 1 [.str (S [k])] (fun d => d = .int (digitV k)) (fun _ => False) := by
  refine Wf.of1 gb (f := 59) rfl (by kernel_rfl) "c" ?_
  intro s0 L outer dp un gd hc
  walk_at "vc"
  · rename_i h; exact absurd rfl h
  all_goals (unfold digitV; refine congrArg PyData.int ?_)
  all_goals (split; · omega
             split; · omega
             split <;> omega)
theorem beq_iff_eq_dec (a b : Nat) : (a == b) = decide (b = a) := by
  by_cases h : a = b
  · subst h; simp
  · rw [beq_eq_false_iff_ne.mpr h, decide_eq_false (fun q => h q.symm)]
theorem is_blank_ok (gb : Gb (hd.heap_1 w.params) base) (k : Nat) : Wf prog w base 52 1 [.str (S [k])] (fun d => d = .bool (bl k)) (fun _ => False) := by
  refine Wf.of1 gb (f := 52) rfl (by kernel_rfl) "c" ?_
  intro s0 L outer dp un gd hc
  walk_at "vc"
  simp only [anyEq, S_beq, bl]
  congr 1
  simp only [List.cons.injEq, and_true, eq_comm (b := k), Bool.or_assoc, Bool.or_false]
  simp only [eq_comm (a := k)]
  simp only [beq_iff_eq_dec]
theorem digRun_step {b lim n v : Nat} {l : List Nat} {p : Nat} (hp : p < l.length) : digRun b lim (n + 1) v (l.drop p) = if v ≤ lim ∧ 0 ≤ digitV l[p] ∧ digitV l[p] < b then ((digRun b lim n (v * b + (digitV l[p]).toNat) (l.drop (p + 1))).1, (digRun b lim n (v * b + (digitV l[p]).toNat) (l.drop (p + 1))).2 + 1) else (v, 0) := by
  rw [List.drop_eq_getElem_cons hp, digRun]
theorem digRun_end {b lim n v : Nat} {l : List Nat} {p : Nat} (hp : l.length ≤ p) : digRun b lim n v (l.drop p) = (v, 0) := by
  rw [List.drop_eq_nil_of_le hp]; cases n <;> rfl
theorem digRun_stop {b lim n v : Nat} {l : List Nat} {p : Nat} (h : n = 0 ∨ l.length ≤ p ∨ lim < v ∨ ∃ hp : p < l.length, digitV l[p] < 0 ∨ (b : Int) ≤ digitV l[p]) : digRun b lim n v (l.drop p) = (v, 0) := by
  cases n with
  | zero => rfl
  | succ n =>
    rcases h with h | h | h | ⟨hp, h⟩
    · cases h
    · exact digRun_end h
    · by_cases hp : p < l.length
      · rw [digRun_step hp, if_neg (by omega)]
      · exact digRun_end (by omega)
    · rw [digRun_step hp, if_neg (by omega)]
local macro_rules | `(tactic| walk_at "vcU") => `(tactic| refine We.call (f := "digit") (a := 59) (by assumption) (by kernel_rfl) (by kernel_rfl) ?_)
local macro_rules | `(tactic| walk_at "vcF") => `(tactic| refine Wf.use (digit_ok (by assumption) _) (by decide) ?_)
theorem octal_ok (gb : Gb (hd.heap_1 w.params) base) (l : List Nat) (at_ : Nat) (hz : l.length ≤ 1000) (ha : at_ ≤ l.length) : Wf prog w base 73 2 [.str (S l), .int at_]
    (fun d => d = .tuple [.str (S [(digRun 8 31 3 0 (l.drop at_)).1]), .int (at_ + (digRun 8 31 3 0 (l.drop at_)).2 : Nat)]) (fun _ => False) := by
  refine Wf.of2 gb (f := 73) rfl (by kernel_rfl) "text" "at" ?_
  intro s0 L outer dp un gd hc
  walk_at "vc"
  refine W1.while hc (fun p : Nat × Nat => p.1 ≤ 3 ∧ at_ + p.1 ≤ l.length ∧ p.2 ≤ 255 ∧ digRun 8 31 3 0 (l.drop at_) = ((digRun 8 31 (3 - p.1) p.2 (l.drop (at_ + p.1))).1, p.1 + (digRun 8 31 (3 - p.1) p.2 (l.drop (at_ + p.1))).2))
    (fun p => { vars := [("value", .int (p.2 : Nat)), ("place", .int (at_ + p.1 : Nat)), ("at", .int at_), ("text", .str (S l))] }) (fun p => 3 - p.1) (0, 0) ?_ (by walk_at "sub") ?_
  · simp [ha]
  · rintro ⟨j, v⟩ ⟨h1, h2, h3, h4⟩
    simp only at h1 h2 h3 h4
    walk_at "vc"
    all_goals clear hc
    all_goals first
      | (have st : digRun 8 31 (3 - j) v (l.drop (at_ + j)) = (v, 0) := digRun_stop (by
          first | exact .inl (by omega) | exact .inr (.inl (by omega)) | exact .inr (.inr (.inl (by omega))) | exact .inr (.inr (.inr ⟨by omega, .inl (by omega)⟩)) | exact .inr (.inr (.inr ⟨by omega, .inr (by omega)⟩)))
         rw [h4, st]; rfl)
      | skip
    have hx : 0 ≤ digitV l[at_ + j] := by omega
    obtain ⟨dn, hdn⟩ := Int.eq_ofNat_of_zero_le hx
    rw [hdn]
    refine ⟨(j + 1, v * 8 + dn), ⟨by show j + 1 ≤ 3; omega, by show at_ + (j + 1) ≤ _; omega, by show v * 8 + dn ≤ 255; omega, ?_⟩, by show 3 - (j + 1) < 3 - j; omega, by walk_at "sub"⟩
    rw [h4, show 3 - j = (3 - (j + 1)) + 1 from by omega, digRun_step (by omega), if_pos ⟨by omega, by omega, by omega⟩, hdn]
    show _ = (_, _)
    simp only [Int.toNat_natCast, Nat.add_assoc, Nat.add_comm 1]
end
end

section
set_option maxRecDepth 100000
set_option linter.unusedVariables false
set_option linter.unusedSimpArgs false
open PySem PySem.Spec PySem.Calls PyProof.Rows PySem.W
local macro_rules | `(tactic| walk_at "vcU") => `(tactic| refine We.call (f := "digit") (a := 59) (by assumption) (by kernel_rfl) (by kernel_rfl) ?_)
local macro_rules | `(tactic| walk_at "vcF") => `(tactic| refine Wf.use (digit_ok (by assumption) _) (by decide) ?_)
section
variable {prog : Program} {w : World} {base : Heap}
set_option maxHeartbeats 1000000
set_option pp.maxSteps 200
theorem hex_ok (gb : Gb (hd.heap_1 w.params) base) (l : List Nat) (at_ : Nat) (hz : l.length ≤ 1000) (ha : at_ < l.length) : Wf prog w base 66 2 [.str (S l), .int at_]
    (fun d => d = .tuple [.str (S [if (digRun 16 69631 (hexN l[at_]) 0 (l.drop (at_ + 1))).2 = 0 then l[at_] else (digRun 16 69631 (hexN l[at_]) 0 (l.drop (at_ + 1))).1]), .int (at_ + 1 + (digRun 16 69631 (hexN l[at_]) 0 (l.drop (at_ + 1))).2 : Nat)]) (fun _ => False) := by
  refine Wf.of2 gb (f := 66) rfl (by kernel_rfl) "text" "at" ?_
  intro s0 L outer dp un gd hc
  refine Ws.cons ?_
  walk_at "vc1"
  walk_at "vcE"
  walk_at "vcE"
  walk_at "vcE"
  dsimp only [BinP, ListP, TwoP]
  walk_at "vc1"
  refine Ws.join (fun _ : Unit => True) (fun _ => { vars := [("most", .int (at_ + 1 + hexN l[at_] : Nat)), ("at", .int at_), ("text", .str (S l))] }) ?_ ?_
  · walk_at "vc"
    all_goals clear hc
    · have hN : hexN l[at_] = 4 := by
        rename_i h; unfold hexN; rw [if_pos h]
      rw [hN]; exact ⟨(), trivial, by walk_at "sub"⟩
    · have hN : hexN l[at_] = 8 := by
        rename_i h2 h; unfold hexN; rw [if_neg h2, if_pos h]
      rw [hN]; exact ⟨(), trivial, by walk_at "sub"⟩
    · have hN : hexN l[at_] = 2 := by
        rename_i h2 h; unfold hexN; rw [if_neg h2, if_neg h]
      rw [hN]; exact ⟨(), trivial, by walk_at "sub"⟩
  · intro _ _
    generalize hexN l[at_] = N
    generalize hch : l[at_] = ch
    walk_at "vc"
    refine W1.while hc (fun p : Nat × Nat => p.1 ≤ N ∧ at_ + 1 + p.1 ≤ l.length ∧ p.2 ≤ 1114111 ∧ digRun 16 69631 N 0 (l.drop (at_ + 1)) = ((digRun 16 69631 (N - p.1) p.2 (l.drop (at_ + 1 + p.1))).1, p.1 + (digRun 16 69631 (N - p.1) p.2 (l.drop (at_ + 1 + p.1))).2))
      (fun p => { vars := [("value", .int (p.2 : Nat)), ("place", .int (at_ + 1 + p.1 : Nat)), ("most", .int (at_ + 1 + N : Nat)), ("at", .int at_), ("text", .str (S l))] }) (fun p => N - p.1) (0, 0) ?_ (by walk_at "sub") ?_
    · simp; omega
    · rintro ⟨j, v⟩ ⟨h1, h2, h3, h4⟩
      simp only at h1 h2 h3 h4
      walk_at "vc"
      all_goals clear hc
      all_goals first
        | (have st : digRun 16 69631 (N - j) v (l.drop (at_ + 1 + j)) = (v, 0) := digRun_stop (by
            first | exact .inl (by omega) | exact .inr (.inl (by omega)) | exact .inr (.inr (.inl (by omega))) | exact .inr (.inr (.inr ⟨by omega, .inl (by omega)⟩)) | exact .inr (.inr (.inr ⟨by omega, .inr (by omega)⟩)))
           rw [h4, st]
           first
             | (have hj : j = 0 := by omega
                subst hj; rw [hch]; rfl)
             | (rw [if_neg (by show ¬ j + 0 = 0; omega)]; rfl))
        | skip
      have hx : 0 ≤ digitV l[at_ + 1 + j] := by omega
      obtain ⟨dn, hdn⟩ := Int.eq_ofNat_of_zero_le hx
      rw [hdn]
      refine ⟨(j + 1, v * 16 + dn), ⟨by show j + 1 ≤ N; omega, by show at_ + 1 + (j + 1) ≤ _; omega, by show v * 16 + dn ≤ 1114111; omega, ?_⟩, by show N - (j + 1) < N - j; omega, by walk_at "sub"⟩
      rw [h4, show N - j = (N - (j + 1)) + 1 from by omega, digRun_step (by omega), if_pos ⟨by omega, by omega, by omega⟩, hdn]
      show _ = (_, _)
      simp only [Int.toNat_natCast, Nat.add_assoc, Nat.add_comm 1]
end
end

section
set_option maxRecDepth 100000
set_option linter.unusedVariables false
set_option linter.unusedSimpArgs false
open PySem PySem.Spec PySem.Calls PyProof.Rows PySem.W
theorem occ_at {a : List Nat} {k i : Nat} (hi : a[i]? = some k) (hu : ∀ j, a[j]? = some k → j = i) : Builtin.Str.occurrences (S a) (S [k]) 0 (S a).length 1 = [i] := by
  have h1 := StrLaws.found_one (S a) k
  have hm : k ∈ (S a).cps.toList := List.mem_iff_getElem?.mpr ⟨i, by simpa [S] using hi⟩
  rw [decide_eq_true hm] at h1
  have h2 := StrLaws.occ_length_le (S a) (S [k]) 0 (S a).length 1
  have h3 := StrLaws.occ_spec (S a) (S [k]) 0 (S a).length 1
  have e : (⟨#[k]⟩ : Str) = S [k] := rfl
  rw [e] at h1
  generalize Builtin.Str.occurrences (S a) (S [k]) 0 (S a).length 1 = o at *
  match o, h1, h2, h3 with
  | [], h1, _, _ => simp at h1
  | [j], _, _, h3 =>
    have h4 := (StrLaws.subAt_one (S a) k j).mp (h3 j (.head _))
    have h5 : a[j]? = some k := by simpa [S] using h4
    rw [hu j h5]
  | _ :: _ :: _, _, h2, _ => simp at h2
theorem occ_no {a : List Nat} {k : Nat} (h : k ∉ a) : Builtin.Str.occurrences (S a) (S [k]) 0 (S a).length 1 = [] := by
  have h1 := StrLaws.found_one (S a) k
  have hm : ¬ k ∈ (S a).cps.toList := by simpa [S] using h
  rw [decide_eq_false hm] at h1
  have e : (⟨#[k]⟩ : Str) = S [k] := rfl
  rw [e] at h1
  cases q : Builtin.Str.occurrences (S a) (S [k]) 0 (S a).length 1 with
  | nil => rfl
  | cons x y => rw [q] at h1; simp at h1
theorem known_at {k v : Nat} (h : known k = some v) : ∃ i : Nat, Txt.find (S [97, 98, 102, 110, 114, 116, 118]) (S [k]) = (i : Int) ∧ ([7, 8, 12, 10, 13, 9, 11] : List Nat)[i]? = some v := by
  unfold known at h
  have go : ∀ (i k : Nat), ([97, 98, 102, 110, 114, 116, 118] : List Nat)[i]? = some k → (∀ j, ([97, 98, 102, 110, 114, 116, 118] : List Nat)[j]? = some k → j = i) → Txt.find (S [97, 98, 102, 110, 114, 116, 118]) (S [k]) = (i : Int) := by
    intro i k h1 h2
    unfold Txt.find
    rw [occ_at h1 h2]
  have dist : ∀ i j : Nat, ([97, 98, 102, 110, 114, 116, 118] : List Nat)[i]? = ([97, 98, 102, 110, 114, 116, 118] : List Nat)[j]? → i < 7 → j = i := by
    intro i j e hi
    have key : ∀ i j : Fin 7, ([97, 98, 102, 110, 114, 116, 118] : List Nat)[i.1]? = ([97, 98, 102, 110, 114, 116, 118] : List Nat)[j.1]? → j.1 = i.1 := by decide
    cases Nat.lt_or_ge j 7 with
    | inl q => exact key ⟨i, hi⟩ ⟨j, q⟩ e
    | inr z => rw [List.getElem?_eq_none (l := [97, 98, 102, 110, 114, 116, 118]) (i := j) (by simpa using z), List.getElem?_eq_getElem (by simpa using hi)] at e; cases e
  have fin : ∀ i : Nat, i < 7 → ∀ k' : Nat, ([97, 98, 102, 110, 114, 116, 118] : List Nat)[i]? = some k' → Txt.find (S [97, 98, 102, 110, 114, 116, 118]) (S [k']) = (i : Int) := fun i hi k' e => go i k' e fun j ej => dist i j (e.trans ej.symm) hi
  split at h
  · cases h; subst k; exact ⟨0, fin 0 (by decide) _ rfl, rfl⟩
  split at h
  · cases h; subst k; exact ⟨1, fin 1 (by decide) _ rfl, rfl⟩
  split at h
  · cases h; subst k; exact ⟨2, fin 2 (by decide) _ rfl, rfl⟩
  split at h
  · cases h; subst k; exact ⟨3, fin 3 (by decide) _ rfl, rfl⟩
  split at h
  · cases h; subst k; exact ⟨4, fin 4 (by decide) _ rfl, rfl⟩
  split at h
  · cases h; subst k; exact ⟨5, fin 5 (by decide) _ rfl, rfl⟩
  split at h
  · cases h; subst k; exact ⟨6, fin 6 (by decide) _ rfl, rfl⟩
  · cases h
theorem known_no {k : Nat} (h : known k = none) : Txt.find (S [97, 98, 102, 110, 114, 116, 118]) (S [k]) = -1 := by
  have : k ∉ ([97, 98, 102, 110, 114, 116, 118] : List Nat) := by
    intro hm
    simp only [List.mem_cons, List.not_mem_nil, or_false] at hm
    rcases hm with rfl | rfl | rfl | rfl | rfl | rfl | rfl <;> simp [known] at h
  unfold Txt.find
  rw [occ_no this]
local macro_rules | `(tactic| walk_at "vcU") => `(tactic| first | refine We.call (f := "hex_sign") (a := 66) (by assumption) (by kernel_rfl) (by kernel_rfl) ?_ | refine We.call (f := "octal_sign") (a := 73) (by assumption) (by kernel_rfl) (by kernel_rfl) ?_)
local macro_rules | `(tactic| walk_at "vcF") => `(tactic| first | refine Wf.use (hex_ok (by assumption) _ (_ + 1) (by assumption) (by assumption)) (by decide) ?_ | refine Wf.use (octal_ok (by assumption) _ (_ + 1) (by assumption) (by omega)) (by decide) ?_)
section
variable {prog : Program} {w : World} {base : Heap}
set_option maxHeartbeats 1000000
set_option pp.maxSteps 200
theorem slice1 (l : List Nat) (a : Nat) : (l.drop ((a : Int) + 1).toNat).take (((a : Int) + 2).toNat - ((a : Int) + 1).toNat) = (l.drop (a + 1)).take 1 := by
  rw [show ((a : Int) + 2).toNat - ((a : Int) + 1).toNat = 1 from Nat.add_sub_add_left a 2 1]; rfl
theorem slice2 (l : List Nat) (a : Nat) : (l.drop (a : Int).toNat).take (((a : Int) + 1).toNat - (a : Int).toNat) = (l.drop a).take 1 := by
  rw [show ((a : Int) + 1).toNat - (a : Int).toNat = 1 from Nat.add_sub_cancel_left a 1]; rfl
theorem take1 {l : List Nat} {a : Nat} (h : a < l.length) : (l.drop a).take 1 = [l[a]] := by
  rw [List.drop_eq_getElem_cons h]; rfl
theorem take0 {l : List Nat} {a : Nat} (h : l.length ≤ a) : (l.drop a).take 1 = [] := by
  rw [List.drop_eq_nil_of_le h]; rfl
theorem oct_in {k : Nat} : (48 = k ∨ 49 = k ∨ 50 = k ∨ 51 = k ∨ 52 = k ∨ 53 = k ∨ 54 = k ∨ 55 = k) → 48 ≤ k ∧ k ≤ 55 := by
  rintro (rfl | rfl | rfl | rfl | rfl | rfl | rfl | rfl) <;> decide
theorem oct_out {k : Nat} (h : ¬ 48 = k ∧ ¬ 49 = k ∧ ¬ 50 = k ∧ ¬ 51 = k ∧ ¬ 52 = k ∧ ¬ 53 = k ∧ ¬ 54 = k ∧ ¬ 55 = k) : ¬ (48 ≤ k ∧ k ≤ 55) := fun ⟨a, b⟩ =>
  (show ∀ k < 56, 48 ≤ k → ¬ (¬ 48 = k ∧ ¬ 49 = k ∧ ¬ 50 = k ∧ ¬ 51 = k ∧ ¬ 52 = k ∧ ¬ 53 = k ∧ ¬ 54 = k ∧ ¬ 55 = k) by decide) k (Nat.lt_succ_of_le b) a h
theorem backslash_ok (gb : Gb (hd.heap_1 w.params) base) (l : List Nat) (at_ : Nat) (hz : l.length ≤ 1000) : Wf prog w base 80 3 [.str (S l), .int at_]
    (fun d => d = .tuple [.str (S [(bsl (l.drop (at_ + 1))).1]), .int (at_ + 1 + (bsl (l.drop (at_ + 1))).2 : Nat)]) (fun _ => False) := by
  refine Wf.of2 gb (f := 80) rfl (by kernel_rfl) "text" "at" ?_
  intro s0 L outer dp un gd hc
  by_cases hl : at_ + 1 < l.length
  · have hd := List.drop_eq_getElem_cons hl
    have ht := take1 hl
    generalize hk : l[at_ + 1] = k at *
    rw [hd]
    refine Ws.join (fun _ : Unit => True) (fun _ => { vars := [("sign", .str (S [k])), ("at", .int at_), ("text", .str (S l))] }) ?_ ?_
    · walk_at "vc"
      exact ⟨(), trivial, sub_of ⟨by show some (PyData.str (S _)) = _; rw [slice1, ht], rfl, rfl, trivial⟩ (.inl rfl) (fun p hp => nomatch hp) (fun p hp => nomatch hp)⟩
    · intro _ _
      cases hkn : known k with
      | some v =>
        obtain ⟨i, h1, h2⟩ := known_at hkn
        have h3 : i < 7 := (List.getElem?_eq_some_iff.mp h2).1
        have h4 : ([7, 8, 12, 10, 13, 9, 11] : List Nat)[i]'h3 = v := (List.getElem?_eq_some_iff.mp h2).2
        walk_at "vc"
        rw [h4]
        rw [bsl_known hkn]
        rfl
      | none =>
        have h1 := known_no hkn
        walk_at "vc"
        · rename_i hk10
          rw [hk10]
          rw [bsl_nl]
          refine W1.while hc (fun j : Nat => at_ + 2 + j ≤ l.length ∧ spaces (l.drop (at_ + 2)) = j + spaces (l.drop (at_ + 2 + j))) (fun j => { vars := [("behind", .int (at_ + 2 + j : Nat)), ("at", .int at_), ("text", .str (S l))] }) (fun j => l.length - (at_ + 2 + j)) 0 ⟨by omega, by simp⟩ (by walk_at "sub") ?_
          rintro j ⟨g1, g2⟩
          walk_at "vc"
          all_goals clear hc
          · rename_i hx
            rw [slice2] at hx
            by_cases hj : at_ + 2 + j < l.length
            · rw [take1 hj] at hx
              refine ⟨j + 1, ⟨hj, ?_⟩, sub_dec hj rfl rfl, by walk_at "sub"⟩
              walk_at "any"
              rw [g2, List.drop_eq_getElem_cons hj, spaces, if_pos (by omega)]
              rw [Nat.add_assoc (at_ + 2)]; omega
            · rw [take0 (by omega)] at hx
              walk_at "any"
          · rename_i hx
            rw [slice2] at hx
            have e : spaces (l.drop (at_ + 2 + j)) = 0 := by
              by_cases hj : at_ + 2 + j < l.length
              · rw [take1 hj] at hx
                walk_at "any"
                rw [List.drop_eq_getElem_cons hj, spaces, if_neg (by omega)]
              · rw [List.drop_eq_nil_of_le (by omega)]; rfl
            rw [e] at g2
            show _ = PyData.tuple [.str (S [32]), .int (at_ + 1 + (spaces (l.drop (at_ + 2)) + 1) : Nat)]
            rw [g2, show at_ + 1 + (j + 0 + 1) = at_ + 2 + j from by omega]
        all_goals clear hc
        all_goals (try walk_at "any")
        · rw [hk, bsl_hex hkn (by assumption) (by omega)]
          split
          · rename_i h0; rw [h0]; rfl
          · show PyData.tuple [_, .int ((_ : Nat) : Int)] = PyData.tuple [_, .int ((_ : Nat) : Int)]
            rw [Nat.add_assoc (at_ + 1), Nat.add_comm 1]
        · rw [hd, bsl_oct hkn (by assumption) (by omega) (oct_in (by assumption))]
        · rw [bsl_self hkn (by assumption) (by omega) (oct_out (by assumption))]
          rfl
  · have hd : l.drop (at_ + 1) = [] := List.drop_eq_nil_of_le (by omega)
    have ht := take0 (show l.length ≤ at_ + 1 by omega)
    rw [hd]
    refine Ws.join (fun _ : Unit => True) (fun _ => { vars := [("sign", .str (S [])), ("at", .int at_), ("text", .str (S l))] }) ?_ ?_
    · walk_at "vc"
      exact ⟨(), trivial, sub_of ⟨by show some (PyData.str (S _)) = _; rw [slice1, ht], rfl, rfl, trivial⟩ (.inl rfl) (fun p hp => nomatch hp) (fun p hp => nomatch hp)⟩
    · intro _ _
      refine Ws.cons ?_
      walk_at "vc1"
      walk_at "vc1"
      walk_at "vcE"
      walk_at "vcE"
      dsimp only [CmpP, TwoP, InP]
      rw [show (S [] == S []) = true from by simp]
      walk_at "vc"
      rfl
end
end

section
set_option maxRecDepth 100000
set_option linter.unusedVariables false
set_option linter.unusedSimpArgs false
open PySem PySem.Spec PySem.Calls PyProof.Rows PySem.W
noncomputable def Fault.exc (f : Fault) : Exc := ⟨.int 1, .str (S f.text), .tuple [.str (S [84, 67, 76]), .str (S [86, 65, 76, 85, 69]), .str (S [76, 73, 83, 84]), .str (S f.code)]⟩
local macro_rules | `(tactic| walk_at "vcU") => `(tactic| first | refine We.call (f := "is_blank") (a := 52) (by assumption) (by kernel_rfl) (by kernel_rfl) ?_ | refine We.call (f := "backslash") (a := 80) (by assumption) (by kernel_rfl) (by kernel_rfl) ?_)
local macro_rules | `(tactic| walk_at "vcF") => `(tactic| first | refine Wf.use (is_blank_ok (by assumption) _) (by decide) ?_ | refine Wf.use (backslash_ok (by assumption) _ _ (by assumption)) (by decide) ?_)
section
variable {prog : Program} {w : World} {base : Heap}
set_option maxHeartbeats 1000000
set_option pp.maxSteps 200
theorem word_step {l : List Nat} {p n : Nat} (hp : p < l.length) (h : bl l[p] = false) : ((l.drop p).takeWhile fun x => !bl x).take (n + 1) = l[p] :: ((l.drop (p + 1)).takeWhile fun x => !bl x).take n := by
  rw [List.drop_eq_getElem_cons hp, List.takeWhile_cons, h]; rfl
theorem word_stop {l : List Nat} {p n : Nat} (h : n = 0 ∨ l.length ≤ p ∨ ∃ hp : p < l.length, bl l[p] = true) : ((l.drop p).takeWhile fun x => !bl x).take n = [] := by
  rcases h with rfl | h | ⟨hp, h⟩
  · rfl
  · rw [List.drop_eq_nil_of_le h]; simp
  · rw [List.drop_eq_getElem_cons hp, List.takeWhile_cons, h]; simp
theorem check_behind_ok (gb : Gb (hd.heap_1 w.params) base) (l : List Nat) (at_ : Nat) (what : List Nat) (hz : l.length ≤ 1000) (hw : what.length ≤ 100) : Wf prog w base 87 2 [.str (S l), .int at_, .str (S what)]
    (fun d => d = .none ∧ chkB (l.drop at_) = none) (fun x => ∃ u, chkB (l.drop at_) = some u ∧ x = (Fault.junk what u).exc) := by
  refine Wf.of3 gb (f := 87) rfl (by kernel_rfl) "text" "at" "what" ?_
  intro s0 L outer dp un gd hc
  walk_at "vc"
  · rw [List.drop_eq_nil_of_le (by omega)]; rfl
  · rename_i h1 h2
    rw [List.drop_eq_getElem_cons (by omega), chkB, if_pos h2]
  · rename_i h1 h2
    have hat : at_ < l.length := by omega
    have hch : chkB (l.drop at_) = some (((l.drop at_).takeWhile fun x => !bl x).take 20) := by
      conv => lhs; rw [List.drop_eq_getElem_cons hat, chkB, if_neg (by rw [h2]; decide)]
      rw [← List.drop_eq_getElem_cons hat]
    refine W1.while hc (fun j : Nat => j ≤ 20 ∧ at_ + j ≤ l.length ∧ ((l.drop at_).takeWhile fun x => !bl x).take 20 = (l.drop at_).take j ++ ((l.drop (at_ + j)).takeWhile fun x => !bl x).take (20 - j))
      (fun j => { vars := [("end", .int (at_ + j : Nat)), ("what", .str (S what)), ("at", .int at_), ("text", .str (S l))] }) (fun j => 20 - j) 0 ⟨by omega, by omega, by simp⟩ (by walk_at "sub") ?_
    rintro j ⟨g1, g2, g3⟩
    walk_at "vc"
    all_goals clear hc
    · rename_i k1 k2 hx
      have hb : bl l[at_ + j] = false := by simpa using hx
      have kj : j < 20 := by omega
      refine ⟨j + 1, ⟨kj, cast_lt k1, ?_⟩, sub_dec kj rfl rfl, by walk_at "sub"⟩
      rw [g3, sub_one kj, word_step (cast_lt k1) hb, List.take_add_one, List.getElem?_drop, List.getElem?_eq_getElem (by omega)]
      simp only [Option.toList_some, List.append_assoc, List.singleton_append, Nat.add_assoc]
    all_goals
      have e0 : ((l.drop (at_ + j)).takeWhile fun x => !bl x).take (20 - j) = [] := word_stop (by
        first | exact .inl (by omega) | exact .inr (.inl (by omega)) | (rename_i hx; exact .inr (.inr ⟨by omega, by simpa using hx⟩)))
      rw [e0, List.append_nil] at g3
      rw [g3] at hch
      rw [tn_add, g3]
      rfl
end
end

section
set_option maxRecDepth 100000
set_option linter.unusedVariables false
set_option linter.unusedSimpArgs false
open PySem PySem.Spec PySem.Calls PyProof.Rows PySem.W
noncomputable def FoundIs (F : Found) (at_ : Nat) (d : PyData) : Prop := match F with
  | .nothing => d = .none
  | .el w n => d = .tuple [.str (S w), .int (at_ + n : Nat)]
  | .bad _ => False
noncomputable def FoundBad (F : Found) (x : Exc) : Prop := ∃ f, F = .bad f ∧ x = f.exc
local macro_rules | `(tactic| walk_at "vcU") => `(tactic| first | refine We.call (f := "check_behind") (a := 87) (by assumption) (by kernel_rfl) (by kernel_rfl) ?_ | refine We.call (f := "backslash") (a := 80) (by assumption) (by kernel_rfl) (by kernel_rfl) ?_ | refine We.call (f := "is_blank") (a := 52) (by assumption) (by kernel_rfl) (by kernel_rfl) ?_)
local macro_rules | `(tactic| walk_at "vcF") => `(tactic| first | refine Wf.use (is_blank_ok (by assumption) _) (by decide) ?_ | refine Wf.use (backslash_ok (by assumption) _ _ (by assumption)) (by decide) ?_ | refine (check_behind_ok (by assumption) _ (_ + 1) _ (by assumption) (by decide)).imp (by decide) (fun d hd => ?_) (fun x hx => ?_))
section
variable {prog : Program} {w : World} {base : Heap}
set_option maxHeartbeats 1000000
set_option pp.maxSteps 200
theorem brc_step {l : List Nat} {p s d : Nat} (hp : p < l.length) : brc s d (l.drop p) = brc s d (l[p] :: l.drop (p + 1)) := by rw [← List.drop_eq_getElem_cons hp]
theorem brc_skip {l : List Nat} {p d : Nat} : brc 1 d (l.drop p) = (brc 0 d (l.drop (p + 1))).map (· + 1) := by
  by_cases hp : p < l.length
  · rw [brc_step hp, brc]
  · rw [List.drop_eq_nil_of_le (by omega), List.drop_eq_nil_of_le (by omega)]; rfl
theorem map_add (o : Option Nat) (a b : Nat) : (o.map (· + a)).map (· + b) = o.map (· + (a + b)) := by
  cases o with
  | none => rfl
  | some x => show some (x + a + b) = some (x + (a + b)); rw [Nat.add_assoc]
theorem braced_ok (gb : Gb (hd.heap_1 w.params) base) (l : List Nat) (at_ : Nat) (hz : l.length ≤ 1000) (ha : at_ ≤ l.length) : Wf prog w base 94 3 [.str (S l), .int at_]
    (FoundIs (braced (l.drop at_)) at_) (FoundBad (braced (l.drop at_))) := by
  refine Wf.of2 gb (f := 94) rfl (by kernel_rfl) "text" "first" ?_
  intro s0 L outer dp un gd hc
  walk_at "vc"
  obtain ⟨B, hB⟩ : ∃ B, brc 0 1 (l.drop at_) = B := ⟨_, rfl⟩
  refine W1.while hc (fun p : Nat × Nat => at_ + p.1 ≤ l.length + 1 ∧ B = (brc 0 (p.2 + 1) (l.drop (at_ + p.1))).map (· + p.1))
    (fun p => { vars := [("depth", .int (p.2 + 1 : Nat)), ("at", .int (at_ + p.1 : Nat)), ("first", .int at_), ("text", .str (S l))] }) (fun p => l.length + 1 - (at_ + p.1)) (0, 0) ⟨by show at_ + 0 ≤ _; omega, by rw [← hB]; simp⟩ (by walk_at "sub") ?_
  rintro ⟨j, q⟩ ⟨g1, g2⟩
  simp only at g1 g2
  walk_at "vc"
  all_goals clear hc
  · rename_i k1 hx
    rw [brc_step (by omega), brc, if_pos hx, brc_skip, map_add, map_add] at g2
    refine ⟨(j + 2, q), ⟨by show at_ + (j + 2) ≤ _; omega, ?_⟩, by show l.length + 1 - (at_ + (j + 2)) < _; omega, by walk_at "sub"⟩
    rw [g2]
    show Option.map (· + (1 + (1 + j))) _ = Option.map (· + (j + 2)) (brc 0 (q + 1) (l.drop (at_ + (j + 2))))
    rw [show 1 + (1 + j) = j + 2 from by omega, show at_ + (j + 2) = at_ + j + 1 + 1 from by omega]
  · rename_i k1 k2 hx
    rw [brc_step (by omega), brc, if_neg k2, if_pos hx, map_add] at g2
    refine ⟨(j + 1, q + 1), ⟨by show at_ + (j + 1) ≤ _; omega, ?_⟩, by show l.length + 1 - (at_ + (j + 1)) < _; omega, by walk_at "sub"⟩
    rw [g2]
    show Option.map (· + (1 + j)) _ = Option.map (· + (j + 1)) (brc 0 (q + 1 + 1) (l.drop (at_ + (j + 1))))
    rw [Nat.add_comm 1 j, show at_ + (j + 1) = at_ + j + 1 from by omega]
  · rename_i k1 k2 k3 hx k4 d hd
    have hq : q = 0 := by omega
    subst hq
    rw [brc_step (by omega), brc, if_neg k2, if_neg k3, if_pos hx, if_pos rfl] at g2
    have g3 : brc 0 1 (l.drop at_) = some j := by rw [hB, g2]; show some (0 + j) = some j; rw [Nat.zero_add]
    unfold braced
    rw [g3]
    show FoundIs (match chkB ((l.drop at_).drop (j + 1)) with | some w => _ | none => _) _ _
    rw [List.drop_drop, show at_ + (j + 1) = at_ + j + 1 from by omega, hd.2]
    show PyData.tuple [.str (S _), _] = PyData.tuple [.str (S _), _]
    rw [show (((at_ + j : Nat) : Int)).toNat - ((at_ : Nat) : Int).toNat = j from by omega]
    rfl
  · rename_i k1 k2 k3 hx k4 x hd
    have hq : q = 0 := by omega
    subst hq
    rw [brc_step (by omega), brc, if_neg k2, if_neg k3, if_pos hx, if_pos rfl] at g2
    have g3 : brc 0 1 (l.drop at_) = some j := by rw [hB, g2]; show some (0 + j) = some j; rw [Nat.zero_add]
    obtain ⟨u, hu, rfl⟩ := hd
    refine ⟨_, ?_, rfl⟩
    unfold braced
    rw [g3]
    show (match chkB ((l.drop at_).drop (j + 1)) with | some w => _ | none => _) = _
    rw [List.drop_drop, show at_ + (j + 1) = at_ + j + 1 from by omega, hu]
    rfl
  · rename_i k1 k2 k3 hx k4
    obtain ⟨q, rfl⟩ : ∃ q', q = q' + 1 := ⟨q - 1, by omega⟩
    rw [brc_step (by omega), brc, if_neg k2, if_neg k3, if_pos hx, if_neg (by omega), map_add] at g2
    rw [show (((q + 1 + 1 : Nat) : Int) - 1) = ((q + 1 : Nat) : Int) from by omega]
    refine ⟨(j + 1, q), ⟨by show at_ + (j + 1) ≤ _; omega, ?_⟩, by show l.length + 1 - (at_ + (j + 1)) < _; omega, by walk_at "sub"⟩
    rw [g2]
    show Option.map (· + (1 + j)) _ = Option.map (· + (j + 1)) (brc 0 (q + 1) (l.drop (at_ + (j + 1))))
    rw [Nat.add_comm 1 j, show at_ + (j + 1) = at_ + j + 1 from by omega]
    rfl
  · rename_i k1 k2 k3 hx
    rw [brc_step (by omega), brc, if_neg k2, if_neg k3, if_neg hx, map_add] at g2
    refine ⟨(j + 1, q), ⟨by show at_ + (j + 1) ≤ _; omega, ?_⟩, by show l.length + 1 - (at_ + (j + 1)) < _; omega, by walk_at "sub"⟩
    rw [g2]
    show Option.map (· + (1 + j)) _ = Option.map (· + (j + 1)) (brc 0 (q + 1) (l.drop (at_ + (j + 1))))
    rw [Nat.add_comm 1 j, show at_ + (j + 1) = at_ + j + 1 from by omega]
  · rw [List.drop_eq_nil_of_le (by omega)] at g2
    refine ⟨.open_ sBrace sBRACE, ?_, rfl⟩
    unfold braced
    rw [hB, g2]; rfl
end
end

section
set_option maxRecDepth 100000
set_option linter.unusedVariables false
set_option linter.unusedSimpArgs false
open PySem PySem.Spec PySem.Calls PyProof.Rows PySem.W
local macro_rules | `(tactic| walk_at "vcU") => `(tactic| first | refine We.call (f := "check_behind") (a := 87) (by assumption) (by kernel_rfl) (by kernel_rfl) ?_ | refine We.call (f := "backslash") (a := 80) (by assumption) (by kernel_rfl) (by kernel_rfl) ?_ | refine We.call (f := "is_blank") (a := 52) (by assumption) (by kernel_rfl) (by kernel_rfl) ?_)
local macro_rules | `(tactic| walk_at "vcF") => `(tactic| first | refine Wf.use (is_blank_ok (by assumption) _) (by decide) ?_ | refine Wf.use (backslash_ok (by assumption) _ _ (by assumption)) (by decide) ?_ | refine (check_behind_ok (by assumption) _ (_ + 1) _ (by assumption) (by decide)).imp (by decide) (fun d hd => ?_) (fun x hx => ?_))
section
variable {prog : Program} {w : World} {base : Heap}
set_option maxHeartbeats 1000000
set_option pp.maxSteps 200
theorem quoted_ok (gb : Gb (hd.heap_1 w.params) base) (l : List Nat) (at_ : Nat) (hz : l.length ≤ 1000) (ha : at_ ≤ l.length) : Wf prog w base 101 4 [.str (S l), .int at_]
    (FoundIs (quoted (l.drop at_)) at_) (FoundBad (quoted (l.drop at_))) := by
  refine Wf.of2 gb (f := 101) rfl (by kernel_rfl) "text" "at" ?_
  intro s0 L outer dp un gd hc
  walk_at "vc"
  rename_i A
  obtain ⟨B, hB⟩ : ∃ B, quo 0 (l.drop at_) = B := ⟨_, rfl⟩
  refine W1.while hc (fun p : Nat × List Nat => at_ + p.1 ≤ l.length ∧ p.2.length ≤ p.1 ∧ B = (quo 0 (l.drop (at_ + p.1))).map (fun x => (p.2 ++ x.1, p.1 + x.2)))
    (fun p => { vars := [("at", .int (at_ + p.1 : Nat)), ("text", .str (S l))], own := some ⟨"out", A, p.2.map one⟩ }) (fun p => l.length - (at_ + p.1)) (0, []) ⟨by show at_ + 0 ≤ _; omega, by simp, by rw [← hB]; simp⟩ (by walk_at "sub") ?_
  rintro ⟨j, cs⟩ ⟨g1, g0, g2⟩
  simp only at g1 g2 g0
  walk_at "vc"
  all_goals clear hc
  · rename_i k1 hx
    have hle := bsl_le (l.drop (at_ + j + 1))
    rw [List.length_drop] at hle
    rw [List.drop_eq_getElem_cons (by omega), quo, if_pos hx, quo_skip _ _ (bsl_le _), List.drop_drop] at g2
    rw [show cs.map one ++ [PyData.str (S [(bsl (l.drop (at_ + j + 1))).1])] = (cs ++ [(bsl (l.drop (at_ + j + 1))).1]).map one from by rw [List.map_append]; rfl]
    generalize bsl (l.drop (at_ + j + 1)) = q at *
    refine ⟨(j + 1 + q.2, cs ++ [q.1]), ⟨by show at_ + (j + 1 + q.2) ≤ _; omega, by show (cs ++ [q.1]).length ≤ j + 1 + q.2; rw [List.length_append]; show cs.length + 1 ≤ _; omega, ?_⟩, by show l.length - (at_ + (j + 1 + q.2)) < _; omega, ?_⟩
    · show B = Option.map (fun x => ((cs ++ [q.1]) ++ x.1, j + 1 + q.2 + x.2)) (quo 0 (l.drop (at_ + (j + 1 + q.2))))
      rw [g2, show at_ + (j + 1 + q.2) = at_ + j + 1 + q.2 from by omega]
      cases quo 0 (l.drop (at_ + j + 1 + q.2)) with
      | none => rfl
      | some x =>
        show some (cs ++ q.1 :: x.1, j + (x.2 + q.2 + 1)) = some ((cs ++ [q.1]) ++ x.1, j + 1 + q.2 + x.2)
        rw [List.append_assoc, show j + (x.2 + q.2 + 1) = j + 1 + q.2 + x.2 from by omega]; rfl
    · show Sub { vars := [("at", .int (at_ + (j + 1 + q.2) : Nat)), ("text", .str (S l))], own := some ⟨"out", A, (cs ++ [q.1]).map one⟩ } _
      rw [show at_ + (j + 1 + q.2) = at_ + j + 1 + q.2 from by omega]
      walk_at "sub"
  · rename_i k1 k2 hx d hd
    rw [List.drop_eq_getElem_cons (by omega), quo, if_neg k2, if_pos hx] at g2
    unfold quoted
    rw [hB, g2]
    show FoundIs (match chkB ((l.drop at_).drop (j + 0 + 1)) with | some w => _ | none => _) _ _
    rw [List.drop_drop, show at_ + (j + 0 + 1) = at_ + j + 1 from by omega, hd.2]
    show PyData.tuple [.str (S cs), _] = PyData.tuple [.str (S (cs ++ [])), _]
    rw [List.append_nil]
    rfl
  · rename_i k1 k2 hx x hd
    rw [List.drop_eq_getElem_cons (by omega), quo, if_neg k2, if_pos hx] at g2
    obtain ⟨u, hu, rfl⟩ := hd
    refine ⟨_, ?_, rfl⟩
    unfold quoted
    rw [hB, g2]
    show (match chkB ((l.drop at_).drop (j + 0 + 1)) with | some w => _ | none => _) = _
    rw [List.drop_drop, show at_ + (j + 0 + 1) = at_ + j + 1 from by omega, hu]
    rfl
  · rename_i k1 k2 hx
    rw [List.drop_eq_getElem_cons (by omega), quo, if_neg k2, if_neg hx] at g2
    rw [show cs.map one ++ [PyData.str (S [l[at_ + j]])] = (cs ++ [l[at_ + j]]).map one from by rw [List.map_append]; rfl]
    generalize l[at_ + j] = q at *
    refine ⟨(j + 1, cs ++ [q]), ⟨by show at_ + (j + 1) ≤ _; omega, by show (cs ++ [q]).length ≤ j + 1; rw [List.length_append]; show cs.length + 1 ≤ _; omega, ?_⟩, by show l.length - (at_ + (j + 1)) < _; omega, by walk_at "sub"⟩
    show B = Option.map (fun x => ((cs ++ [q]) ++ x.1, j + 1 + x.2)) (quo 0 (l.drop (at_ + (j + 1))))
    rw [g2, show at_ + (j + 1) = at_ + j + 1 from by omega]
    cases quo 0 (l.drop (at_ + j + 1)) with
    | none => rfl
    | some x =>
      show some (cs ++ q :: x.1, j + (x.2 + 1)) = some ((cs ++ [q]) ++ x.1, j + 1 + x.2)
      rw [List.append_assoc, show j + (x.2 + 1) = j + 1 + x.2 from by omega]; rfl
  · rw [List.drop_eq_nil_of_le (by omega)] at g2
    refine ⟨.open_ sQuote sQUOTE, ?_, rfl⟩
    unfold quoted
    rw [hB, g2]; rfl
theorem bare_ok (gb : Gb (hd.heap_1 w.params) base) (l : List Nat) (at_ : Nat) (hz : l.length ≤ 1000) (ha : at_ ≤ l.length) : Wf prog w base 108 4 [.str (S l), .int at_]
    (fun d => d = .tuple [.str (S (bar 0 (l.drop at_)).1), .int (at_ + (bar 0 (l.drop at_)).2 : Nat)]) (fun _ => False) := by
  refine Wf.of2 gb (f := 108) rfl (by kernel_rfl) "text" "at" ?_
  intro s0 L outer dp un gd hc
  walk_at "vc"
  rename_i A
  obtain ⟨B, hB⟩ : ∃ B, bar 0 (l.drop at_) = B := ⟨_, rfl⟩
  rw [hB]
  refine W1.while hc (fun p : Nat × List Nat => at_ + p.1 ≤ l.length ∧ p.2.length ≤ p.1 ∧ B = (p.2 ++ (bar 0 (l.drop (at_ + p.1))).1, p.1 + (bar 0 (l.drop (at_ + p.1))).2))
    (fun p => { vars := [("at", .int (at_ + p.1 : Nat)), ("text", .str (S l))], own := some ⟨"out", A, p.2.map one⟩ }) (fun p => l.length - (at_ + p.1)) (0, []) ⟨by show at_ + 0 ≤ _; omega, by simp, by rw [← hB]; simp⟩ (by walk_at "sub") ?_
  rintro ⟨j, cs⟩ ⟨g1, g0, g2⟩
  simp only at g1 g2 g0
  walk_at "vc"
  all_goals clear hc
  · rename_i k1 k2 hx
    have hb : bl l[at_ + j] = false := by simpa using k2
    have hle := bsl_le (l.drop (at_ + j + 1))
    rw [List.length_drop] at hle
    rw [List.drop_eq_getElem_cons (by omega), bar, if_neg (by rw [hb]; decide), if_pos hx, bar_skip _ _ (bsl_le _), List.drop_drop] at g2
    rw [show cs.map one ++ [PyData.str (S [(bsl (l.drop (at_ + j + 1))).1])] = (cs ++ [(bsl (l.drop (at_ + j + 1))).1]).map one from by rw [List.map_append]; rfl]
    generalize bsl (l.drop (at_ + j + 1)) = q at *
    refine ⟨(j + 1 + q.2, cs ++ [q.1]), ⟨by show at_ + (j + 1 + q.2) ≤ _; omega, by show (cs ++ [q.1]).length ≤ j + 1 + q.2; rw [List.length_append]; show cs.length + 1 ≤ _; omega, ?_⟩, by show l.length - (at_ + (j + 1 + q.2)) < _; omega, ?_⟩
    · show B = ((cs ++ [q.1]) ++ (bar 0 (l.drop (at_ + (j + 1 + q.2)))).1, j + 1 + q.2 + (bar 0 (l.drop (at_ + (j + 1 + q.2)))).2)
      rw [g2, show at_ + (j + 1 + q.2) = at_ + j + 1 + q.2 from by omega]
      generalize bar 0 (l.drop (at_ + j + 1 + q.2)) = x
      show (cs ++ q.1 :: x.1, j + (x.2 + q.2 + 1)) = ((cs ++ [q.1]) ++ x.1, j + 1 + q.2 + x.2)
      rw [List.append_assoc, show j + (x.2 + q.2 + 1) = j + 1 + q.2 + x.2 from by omega]; rfl
    · show Sub { vars := [("at", .int (at_ + (j + 1 + q.2) : Nat)), ("text", .str (S l))], own := some ⟨"out", A, (cs ++ [q.1]).map one⟩ } _
      rw [show at_ + (j + 1 + q.2) = at_ + j + 1 + q.2 from by omega]
      walk_at "sub"
  · rename_i k1 k2 hx
    have hb : bl l[at_ + j] = false := by simpa using k2
    rw [List.drop_eq_getElem_cons (by omega), bar, if_neg (by rw [hb]; decide), if_neg hx] at g2
    rw [show cs.map one ++ [PyData.str (S [l[at_ + j]])] = (cs ++ [l[at_ + j]]).map one from by rw [List.map_append]; rfl]
    generalize l[at_ + j] = q at *
    refine ⟨(j + 1, cs ++ [q]), ⟨by show at_ + (j + 1) ≤ _; omega, by show (cs ++ [q]).length ≤ j + 1; rw [List.length_append]; show cs.length + 1 ≤ _; omega, ?_⟩, by show l.length - (at_ + (j + 1)) < _; omega, by walk_at "sub"⟩
    show B = ((cs ++ [q]) ++ (bar 0 (l.drop (at_ + (j + 1)))).1, j + 1 + (bar 0 (l.drop (at_ + (j + 1)))).2)
    rw [g2, show at_ + (j + 1) = at_ + j + 1 from by omega]
    generalize bar 0 (l.drop (at_ + j + 1)) = x
    show (cs ++ q :: x.1, j + (x.2 + 1)) = ((cs ++ [q]) ++ x.1, j + 1 + x.2)
    rw [List.append_assoc, show j + (x.2 + 1) = j + 1 + x.2 from by omega]; rfl
  · rename_i k1 k2
    have hb : bl l[at_ + j] = true := by simpa using k2
    rw [List.drop_eq_getElem_cons (by omega), bar, if_pos hb] at g2
    rw [g2]
    show _ = PyData.tuple [.str (S (cs ++ [])), .int (at_ + (j + 0) : Nat)]
    rw [List.append_nil]; rfl
  · rw [List.drop_eq_nil_of_le (by omega)] at g2
    rw [g2]
    show _ = PyData.tuple [.str (S (cs ++ [])), .int (at_ + (j + 0) : Nat)]
    rw [List.append_nil]; rfl
end
end

section
set_option maxRecDepth 100000
set_option linter.unusedVariables false
set_option linter.unusedSimpArgs false
open PySem PySem.Spec PySem.Calls PyProof.Rows PySem.W
local macro_rules | `(tactic| walk_at "vcU") => `(tactic| first | refine We.call (f := "find_element") (a := 115) (by assumption) (by kernel_rfl) (by kernel_rfl) ?_ | refine We.call (f := "is_blank") (a := 52) (by assumption) (by kernel_rfl) (by kernel_rfl) ?_ | refine We.call (f := "braced_element") (a := 94) (by assumption) (by kernel_rfl) (by kernel_rfl) ?_ | refine We.call (f := "quoted_element") (a := 101) (by assumption) (by kernel_rfl) (by kernel_rfl) ?_ | refine We.call (f := "bare_element") (a := 108) (by assumption) (by kernel_rfl) (by kernel_rfl) ?_)
local macro_rules | `(tactic| walk_at "vcF") => `(tactic| first | refine Wf.use (is_blank_ok (by assumption) _) (by decide) ?_ | refine Wf.use (bare_ok (by assumption) _ _ (by assumption) (by omega)) (by decide) ?_ | refine (braced_ok (by assumption) _ (_ + 1) (by assumption) (by omega)).imp (by decide) (fun d hd => ?_) (fun x hx => ?_) | refine (quoted_ok (by assumption) _ (_ + 1) (by assumption) (by omega)).imp (by decide) (fun d hd => ?_) (fun x hx => ?_))
section
variable {prog : Program} {w : World} {base : Heap}
set_option maxHeartbeats 1000000
set_option pp.maxSteps 200
theorem more_is {F : Found} {a k : Nat} {d : PyData} (h : FoundIs F (a + k) d) : FoundIs (F.more k) a d := by
  cases F with
  | nothing => exact h
  | bad f => exact h
  | el w n =>
    show d = .tuple [.str (S w), .int (a + (n + k) : Nat)]
    rw [show a + (n + k) = a + k + n from by omega]; exact h
theorem more_bad {F : Found} {k : Nat} {x : Exc} (h : FoundBad F x) : FoundBad (F.more k) x := by
  obtain ⟨f, rfl, h⟩ := h
  exact ⟨f, rfl, h⟩
theorem more_more (F : Found) (a b : Nat) : (F.more a).more b = F.more (a + b) := by
  cases F with
  | nothing => rfl
  | bad f => rfl
  | el w n => show Found.el w (n + a + b) = .el w (n + (a + b)); rw [Nat.add_assoc]
theorem find_ok (gb : Gb (hd.heap_1 w.params) base) (l : List Nat) (at_ : Nat) (hz : l.length ≤ 1000) (ha : at_ ≤ l.length) : Wf prog w base 115 5 [.str (S l), .int at_]
    (FoundIs (fnd (l.drop at_)) at_) (FoundBad (fnd (l.drop at_))) := by
  refine Wf.of2 gb (f := 115) rfl (by kernel_rfl) "text" "at" ?_
  intro s0 L outer dp un gd hc
  obtain ⟨B, hB⟩ : ∃ B, fnd (l.drop at_) = B := ⟨_, rfl⟩
  rw [hB]
  refine Ws.cons ?_
  refine W1.while hc (fun j : Nat => at_ + j ≤ l.length ∧ B = (fnd (l.drop (at_ + j))).more j)
    (fun j => { vars := [("at", .int (at_ + j : Nat)), ("text", .str (S l))] }) (fun j => l.length - (at_ + j)) 0 ⟨by omega, by rw [← hB]; cases fnd (l.drop at_) <;> rfl⟩ (by walk_at "sub") ?_
  rintro j ⟨g1, g2⟩
  walk_at "vc"
  all_goals clear hc
  · rename_i k1 hx
    rw [List.drop_eq_getElem_cons (by omega), fnd, if_pos hx, more_more] at g2
    refine ⟨j + 1, ⟨by omega, ?_⟩, by omega, by walk_at "sub"⟩
    rw [g2, Nat.add_comm 1 j]; rfl
  · rename_i k1 k2 hx d hd
    rw [List.drop_eq_getElem_cons (by omega), fnd, if_neg (by rw [k2]; decide), if_pos hx, more_more] at g2
    rw [g2]
    exact more_is (by rw [show at_ + (1 + j) = at_ + j + 1 from by omega]; exact hd)
  · rename_i k1 k2 hx d hd
    rw [List.drop_eq_getElem_cons (by omega), fnd, if_neg (by rw [k2]; decide), if_pos hx, more_more] at g2
    rw [g2]
    exact more_bad hd
  · rename_i k1 k2 k3 hx d hd
    rw [List.drop_eq_getElem_cons (by omega), fnd, if_neg (by rw [k2]; decide), if_neg k3, if_pos hx, more_more] at g2
    rw [g2]
    exact more_is (by rw [show at_ + (1 + j) = at_ + j + 1 from by omega]; exact hd)
  · rename_i k1 k2 k3 hx d hd
    rw [List.drop_eq_getElem_cons (by omega), fnd, if_neg (by rw [k2]; decide), if_neg k3, if_pos hx, more_more] at g2
    rw [g2]
    exact more_bad hd
  · rename_i k1 k2 k3 hx
    have e : fnd (l.drop (at_ + j)) = .el (bar 0 (l.drop (at_ + j))).1 (bar 0 (l.drop (at_ + j))).2 := by
      rw [List.drop_eq_getElem_cons (by omega), fnd, if_neg (by rw [k2]; decide), if_neg k3, if_neg hx]
    rw [g2, e]
    exact more_is rfl
  · rw [List.drop_eq_nil_of_le (by omega)] at g2
    rw [g2]
    rfl
theorem bar_le : ∀ (s : Nat) (r : List Nat), (bar s r).2 ≤ r.length
  | _, [] => Nat.le_refl _
  | s + 1, k :: r => by rw [bar]; exact Nat.succ_le_succ (bar_le s r)
  | 0, k :: r => by
    rw [bar]
    split
    · exact Nat.zero_le _
    split
    · exact Nat.succ_le_succ (bar_le _ r)
    · exact Nat.succ_le_succ (bar_le 0 r)
theorem brc_le : ∀ (r : List Nat) (s d n : Nat), brc s d r = some n → n < r.length
  | [], s, d, n, h => by cases s <;> cases h
  | k :: r, s + 1, d, n, h => by
    rw [brc] at h
    obtain ⟨m, h1, h2⟩ := Option.map_eq_some_iff.mp h
    have := brc_le r s d m h1
    rw [List.length_cons]; omega
  | k :: r, 0, d, n, h => by
    rw [List.length_cons]
    rw [brc] at h
    split at h
    · obtain ⟨m, h1, h2⟩ := Option.map_eq_some_iff.mp h
      have := brc_le r _ _ m h1
      omega
    split at h
    · obtain ⟨m, h1, h2⟩ := Option.map_eq_some_iff.mp h
      have := brc_le r _ _ m h1
      omega
    split at h
    · split at h
      · cases h; omega
      · obtain ⟨m, h1, h2⟩ := Option.map_eq_some_iff.mp h
        have := brc_le r _ _ m h1
        omega
    · obtain ⟨m, h1, h2⟩ := Option.map_eq_some_iff.mp h
      have := brc_le r _ _ m h1
      omega
theorem quo_le : ∀ (r : List Nat) (s : Nat) (x : List Nat × Nat), quo s r = some x → x.2 < r.length
  | [], s, x, h => by cases s <;> cases h
  | k :: r, s + 1, x, h => by
    rw [quo] at h
    obtain ⟨m, h1, h2⟩ := Option.map_eq_some_iff.mp h
    have := quo_le r s m h1
    rw [← h2, List.length_cons]; show m.2 + 1 < _; omega
  | k :: r, 0, x, h => by
    rw [List.length_cons]
    rw [quo] at h
    split at h
    · obtain ⟨m, h1, h2⟩ := Option.map_eq_some_iff.mp h
      have := quo_le r _ m h1
      rw [← h2]; show m.2 + 1 < _; omega
    split at h
    · cases h; show 0 < _; omega
    · obtain ⟨m, h1, h2⟩ := Option.map_eq_some_iff.mp h
      have := quo_le r _ m h1
      rw [← h2]; show m.2 + 1 < _; omega
/-- an element takes at least one sign, and no more than there are -/
theorem fnd_le : ∀ (r : List Nat) (w : List Nat) (n : Nat), fnd r = .el w n → 0 < n ∧ n ≤ r.length
  | [], w, n, h => by cases h
  | k :: r, w, n, h => by
    rw [List.length_cons]
    rw [fnd] at h
    have key : ∀ (F : Found), F.more 1 = .el w n → ∃ m, F = .el w m ∧ n = m + 1 := by
      intro F e
      cases F with
      | nothing => cases e
      | bad f => cases e
      | el w' m => cases e; exact ⟨m, rfl, rfl⟩
    split at h
    · obtain ⟨m, h1, rfl⟩ := key _ h
      have := fnd_le r w m h1
      omega
    split at h
    · obtain ⟨m, h1, rfl⟩ := key _ h
      unfold braced at h1
      split at h1
      · cases h1
      · rename_i q hq
        have := brc_le _ _ _ _ hq
        split at h1
        · cases h1
        · cases h1; omega
    split at h
    · obtain ⟨m, h1, rfl⟩ := key _ h
      unfold quoted at h1
      split at h1
      · cases h1
      · rename_i q hq
        have := quo_le _ _ _ hq
        split at h1
        · cases h1
        · cases h1; omega
    · rename_i hb h2 h3
      cases h
      refine ⟨?_, bar_le 0 (k :: r)⟩
      rw [bar, if_neg hb]
      split <;> exact Nat.succ_pos _
theorem find_use (gb : Gb (hd.heap_1 w.params) base) (l : List Nat) (at_ : Nat) (hz : l.length ≤ 1000) (ha : at_ ≤ l.length) {Φ : PyData → Prop} {X : Exc → Prop} {n : Nat} (hn : 5 ≤ n)
    (h : (∀ f, fnd (l.drop at_) ≠ .bad f) → Φ (foundD (fnd (l.drop at_)) at_)) (hx : ∀ f, fnd (l.drop at_) = .bad f → X f.exc) : Wf prog w base 115 n [.str (S l), .int at_] Φ X := by
  refine (find_ok gb l at_ hz ha).imp hn (fun d hd => ?_) fun x ⟨f, h1, h2⟩ => h2 ▸ hx f h1
  cases q : fnd (l.drop at_) with
  | nothing => rw [q] at hd h; rw [show d = .none from hd]; exact h fun f e => by cases e
  | el w n => rw [q] at hd h; rw [show d = _ from hd]; exact h fun f e => by cases e
  | bad f => rw [q] at hd; exact hd.elim
theorem elems_succ (k : Nat) (l : List Nat) (a : Nat) : elems (k + 1) l a = match fnd (l.drop a) with
    | .nothing => ([], none)
    | .bad x => ([], some x)
    | .el w n => ((w, a + n) :: (elems k l (a + n)).1, (elems k l (a + n)).2) := rfl
local macro_rules | `(tactic| walk_at "vcF") => `(tactic| refine find_use (by assumption) _ _ (by assumption) (by omega) (show 5 ≤ _ from by decide) (fun hb => ?_) (fun f hf => ?_))
theorem split_ok (gb : Gb (hd.heap_1 w.params) base) (l : List Nat) (hz : l.length ≤ 1000) : Wf prog w base 122 6 [.str (S l)]
    (fun d => (elems (l.length + 1) l 0).2 = none ∧ d = .list ((elems (l.length + 1) l 0).1.map fun e => .str (S e.1))) (fun x => ∃ f, (elems (l.length + 1) l 0).2 = some f ∧ x = f.exc) := by
  refine Wf.of1 gb (f := 122) rfl (by kernel_rfl) "text" ?_
  intro s0 L outer dp un gd hc
  obtain ⟨B, hB⟩ : ∃ B, elems (l.length + 1) l 0 = B := ⟨_, rfl⟩
  rw [hB]
  refine Ws.cons ?_
  walk_at "vc1"
  rename_i A
  refine Ws.join (fun _ : Unit => ∀ f, fnd (l.drop 0) ≠ .bad f) (fun _ => { vars := [("found", foundD (fnd (l.drop 0)) 0), ("text", .str (S l))], own := some ⟨"items", A, []⟩ }) ?_ ?_
  · walk_at "vc1"
    walk_at "vcE"
    walk_at "vc1"
    walk_at "vcE"
    walk_at "vc1"
    walk_at "vcE"
    walk_at "vc1"
    refine find_use (by assumption) l 0 (by assumption) (by omega) (Nat.le_refl 5) (fun hb => ?_) (fun f hf => ?_)
    · exact ⟨.inr (foundD_flat _ _), (), hb, by walk_at "sub"⟩
    · rw [elems_succ, hf] at hB
      exact ⟨f, by rw [← hB], rfl⟩
  · intro _ hnb
    refine Ws.cons ?_
    refine W1.while hc (fun p : Nat × Nat × List (List Nat × Nat) => p.2.1 ≤ l.length ∧ l.length < p.1 + p.2.1 ∧ p.2.2.length ≤ p.2.1 ∧ (∀ f, fnd (l.drop p.2.1) ≠ .bad f) ∧ B = (p.2.2 ++ (elems p.1 l p.2.1).1, (elems p.1 l p.2.1).2))
      (fun p => { vars := [("found", foundD (fnd (l.drop p.2.1)) p.2.1), ("text", .str (S l))], own := some ⟨"items", A, p.2.2.map fun e => .str (S e.1)⟩ }) (fun p => l.length - p.2.1) (l.length + 1, 0, [])
      ⟨Nat.zero_le _, by show l.length < l.length + 1 + 0; omega, Nat.zero_le _, hnb, by rw [← hB]; rfl⟩ (by walk_at "sub") ?_
    rintro ⟨k, a, its⟩ ⟨g1, g2, g3, g4, g5⟩
    simp only at g1 g2 g3 g4 g5
    dsimp only
    obtain ⟨k, rfl⟩ : ∃ k', k = k' + 1 := ⟨k - 1, by omega⟩
    rw [elems_succ] at g5
    cases hF : fnd (l.drop a) with
    | bad f => exact absurd hF (g4 f)
    | nothing =>
      rw [hF] at g5
      dsimp only at g5
      walk_at "vc"
      rw [g5]
      show _ ∧ PyData.list _ = PyData.list ((its ++ []).map _)
      rw [List.append_nil]
      exact ⟨rfl, rfl⟩
    | el u n =>
      rw [hF] at g5
      dsimp only at g5
      obtain ⟨n0, n1⟩ := fnd_le _ _ _ hF
      rw [List.length_drop] at n1
      walk_at "vc"
      · rename_i hb
        rw [show (its.map fun e => PyData.str (S e.1)) ++ [PyData.str (S u)] = (its ++ [(u, a + n)]).map fun e => PyData.str (S e.1) from by rw [List.map_append]; rfl]
        refine ⟨(k, a + n, its ++ [(u, a + n)]), ⟨by show a + n ≤ _; omega, by show _ < k + (a + n); omega, by show (its ++ [(u, a + n)]).length ≤ a + n; rw [List.length_append]; show its.length + 1 ≤ _; omega, hb, ?_⟩, by show l.length - (a + n) < _; omega, by walk_at "sub"⟩
        rw [g5]
        show (its ++ ((u, a + n) :: (elems k l (a + n)).1), _) = ((its ++ [(u, a + n)]) ++ (elems k l (a + n)).1, _)
        rw [List.append_assoc]; rfl
      · rename_i f hf
        obtain ⟨k, rfl⟩ : ∃ k', k = k' + 1 := ⟨k - 1, by omega⟩
        rw [elems_succ, hf] at g5
        exact ⟨f, by rw [g5], rfl⟩
end
end

section
set_option maxRecDepth 100000
set_option linter.unusedVariables false
set_option linter.unusedSimpArgs false
open PySem PySem.Spec PySem.Calls PyProof.Rows PySem.W
section
variable {prog : Program} {w : World} {base : Heap}
set_option maxHeartbeats 1000000
set_option pp.maxSteps 200
theorem any_lblank (x : List Nat) (hx : x.length ≤ 1) : anyEq (S x) [.str (S []), .str (S [32]), .str (S [10]), .str (S [9]), .str (S [13]), .str (S [12]), .str (S [11])] = lblank x := by
  match x, hx with
  | [], _ => simp only [anyEq_cons]; rfl
  | [k], _ =>
    simp only [anyEq_cons, anyEq_nil, List.cons.injEq, and_true, lblank, bl, reduceCtorEq, decide_false, Bool.false_or, Bool.or_false]
    have e : ∀ n : Nat, decide (n = k) = (k == n) := fun n => by rw [beq_iff_eq_dec]
    simp only [e, Bool.or_assoc]
    generalize (k == 32) = a
    generalize (k == 9) = b
    generalize (k == 10) = c
    generalize (k == 11) = d
    generalize (k == 12) = f
    generalize (k == 13) = g
    revert a b c d f g; decide
  | _ :: _ :: _, h => simp at h
theorem law_blank_ok (gb : Gb (hd.heap_1 w.params) base) (x : List Nat) (hx : x.length ≤ 1) : Wf prog w base 137 1 [.str (S x)] (fun d => d = .bool (lblank x)) (fun _ => False) := by
  refine Wf.of1 gb (f := 137) rfl (by kernel_rfl) "c" ?_
  intro s0 L outer dp un gd hc
  walk_at "vc"
  rw [any_lblank x hx]
theorem goesOn_at {t1 k : Nat} {r mode : List Nat} (h : ¬ mode = [98, 114, 97, 99, 101]) : goesOn (92 :: t1 :: r) [k] mode =
    if t1 = 10 then decide (k = 32 ∨ k = 9) else if t1 = 120 then decide ((k = 49 ∨ k = 55 ∨ k = 97 ∨ k = 98) ∧ r.length + 2 < 4) else decide ((t1 = 49 ∨ t1 = 55) ∧ (k = 49 ∨ k = 55) ∧ (r.length + 2 = 2 ∨ (r.length + 2 = 3 ∧ t1 = 49))) := by
  unfold goesOn
  rw [if_neg (by simp [mBrace, h])]
  simp only [List.cons.injEq, and_true, List.length_cons]
theorem goes_ok (gb : Gb (hd.heap_1 w.params) base) (t x mode : List Nat) (hz : t.length ≤ 1000) (hx : x.length ≤ 1) : Wf prog w base 144 1 [.str (S (92 :: t)), .str (S x), .str (S mode)] (fun d => d = .bool (goesOn (92 :: t) x mode)) (fun _ => False) := by
  refine Wf.of3 gb (f := 144) rfl (by kernel_rfl) "told" "c" "mode" ?_
  intro s0 L outer dp un gd hc
  match x, hx with
  | _ :: _ :: _, h => simp at h
  | [], _ =>
    walk_at "vc"
    rfl
  | [k], _ =>
    match t, hz with
    | [], _ =>
      walk_at "vc"
      all_goals (refine congrArg PyData.bool ?_; simp [goesOn])
    | t1 :: r, hz =>
      have hz' : r.length ≤ 999 := by simpa using hz
      walk_at "vc"
      all_goals clear hc hz hx
      all_goals refine congrArg PyData.bool ?_
      all_goals try simp only [List.getElem_cons_succ, List.getElem_cons_zero] at *
      · simp_all [goesOn, mBrace]
      · rename_i h; simp at h
      all_goals rw [goesOn_at (by assumption)]
      all_goals simp only [anyEq_cons, anyEq_nil, S_beq, List.cons.injEq, and_true, List.mem_cons, List.not_mem_nil, or_false, Bool.or_false, List.length_cons] at *
      all_goals first
        | (rw [if_pos (by omega)]; done)
        | (rw [if_pos (by omega), Bool.eq_iff_iff]; simp only [Bool.or_eq_true, decide_eq_true_eq]; omega)
        | (rw [if_neg (by omega), if_pos (by omega), Bool.eq_iff_iff]; simp only [Bool.or_eq_true, decide_eq_true_eq, Bool.false_eq_true]; omega)
        | (rw [if_neg (by omega), if_neg (by omega), Bool.eq_iff_iff]; simp only [Bool.or_eq_true, decide_eq_true_eq, Bool.false_eq_true, true_iff]; omega)
        | (rw [if_neg (by omega), if_pos (by omega)]; exact (decide_eq_false (by omega)).symm)
        | (rw [if_neg (by omega), if_neg (by omega)]; exact (decide_eq_false (by omega)).symm)
theorem figs {k : Nat} (h : okFig k) : Builtin.Str.occurrences (S [48, 49, 50, 51, 52, 53, 54, 55, 56, 57, 97, 98]) (S [k]) 0 (S [48, 49, 50, 51, 52, 53, 54, 55, 56, 57, 97, 98]).length 1 = [fig k] := by
  have key : ∀ i j : Fin 12, ([48, 49, 50, 51, 52, 53, 54, 55, 56, 57, 97, 98] : List Nat)[i.1]? = ([48, 49, 50, 51, 52, 53, 54, 55, 56, 57, 97, 98] : List Nat)[j.1]? → j.1 = i.1 := by decide
  have fin : ∀ i : Nat, i < 12 → ∀ k' : Nat, ([48, 49, 50, 51, 52, 53, 54, 55, 56, 57, 97, 98] : List Nat)[i]? = some k' → Builtin.Str.occurrences (S [48, 49, 50, 51, 52, 53, 54, 55, 56, 57, 97, 98]) (S [k']) 0 (S [48, 49, 50, 51, 52, 53, 54, 55, 56, 57, 97, 98]).length 1 = [i] := by
    intro i hi k' e
    refine occ_at e fun j ej => ?_
    cases Nat.lt_or_ge j 12 with
    | inl q => exact key ⟨i, hi⟩ ⟨j, q⟩ (e.trans ej.symm)
    | inr z => rw [List.getElem?_eq_none (l := [48, 49, 50, 51, 52, 53, 54, 55, 56, 57, 97, 98]) (i := j) (by simpa using z)] at ej; cases ej
  rcases h with rfl | rfl | rfl | rfl
  · exact fin 1 (by decide) _ rfl
  · exact fin 7 (by decide) _ rfl
  · exact fin 10 (by decide) _ rfl
  · exact fin 11 (by decide) _ rfl
theorem fig_le (k : Nat) : fig k ≤ 11 := by
  unfold fig
  split
  · decide
  split
  · decide
  split <;> decide
theorem look10 : PySem.Spec.lookup (.str (S [10])) [(.str (Str.ofString "\n"), .str (Str.ofString " ")), (.str (Str.ofString "a"), .str (S [Int.toNat 7])), (.str (Str.ofString "b"), .str (S [Int.toNat 8]))] = some (.str (S [32])) := by rfl
theorem look97 : PySem.Spec.lookup (.str (S [97])) [(.str (Str.ofString "\n"), .str (Str.ofString " ")), (.str (Str.ofString "a"), .str (S [Int.toNat 7])), (.str (Str.ofString "b"), .str (S [Int.toNat 8]))] = some (.str (S [7])) := by rfl
theorem look98 : PySem.Spec.lookup (.str (S [98])) [(.str (Str.ofString "\n"), .str (Str.ofString " ")), (.str (Str.ofString "a"), .str (S [Int.toNat 7])), (.str (Str.ofString "b"), .str (S [Int.toNat 8]))] = some (.str (S [8])) := by rfl
theorem abn : ([Str.ofString "\n", Str.ofString "a", Str.ofString "b"] : List Str).Nodup := by decide
theorem one_eq (a b : Nat) : ([a] = [b]) = (a = b) := by simp
theorem meaning_ok (gb : Gb (hd.heap_1 w.params) base) (told : List Nat) (hz : told.length ≤ 1000) (ht : toldOk told) (hasc : ∀ k ∈ told, k < 128) : Wf prog w base 151 1 [.str (S told)] (fun d => d = .str (S (meaning told))) (fun _ => False) := by
  refine Wf.of1 gb (f := 151) rfl (by kernel_rfl) "told" ?_
  intro s0 L outer dp un gd hc
  match told, hz, ht, hasc with
  | [], _, ht, _ => exact absurd rfl ht.1
  | [a], hz, ht, hasc =>
    refine Ws.join (fun _ : Unit => True) (fun _ => { vars := [("head", .str (S [])), ("digits", .str (S [])), ("told", .str (S [a]))] }) ?_ ?_
    · walk_at "vc"
      exact ⟨(), trivial, by walk_at "sub"⟩
    · intro _ _
      walk_at "vc"
      exact ⟨by simp, rfl⟩
  | a :: h :: rest, hz, ht, hasc =>
    refine Ws.join (fun _ : Unit => True) (fun _ => { vars := [("head", .str (S [h])), ("digits", .str (S rest)), ("told", .str (S (a :: h :: rest)))] }) ?_ ?_
    · walk_at "vc"
      exact ⟨(), trivial, by walk_at "sub"⟩
    · intro _ _
      by_cases h10 : h = 10
      · subst h10
        walk_at "vc"
        refine We.dictChr (x := "head") (by assumption) rfl look10 ?_ abn (by decide) (by decide)
        rfl
      by_cases h97 : h = 97
      · subst h97
        walk_at "vc"
        refine We.dictChr (x := "head") (by assumption) rfl look97 ?_ abn (by decide) (by decide)
        rfl
      by_cases h98 : h = 98
      · subst h98
        walk_at "vc"
        refine We.dictChr (x := "head") (by assumption) rfl look98 ?_ abn (by decide) (by decide)
        rfl
      have ht2 : rest.length ≤ 2 ∧ ∀ k ∈ rest, okFig k := by
        rcases ht.2 with q | ⟨q1, q2⟩
        · exact absurd (by simpa using q) h10
        · exact ⟨by simpa using q1, q2⟩
      obtain ⟨ds, hds⟩ : ∃ ds, (if h = 49 ∨ h = 55 then h :: rest else rest) = ds := ⟨_, rfl⟩
      have hm : meaning (a :: h :: rest) = if ds = [] then [(a :: h :: rest).getLastD 0] else [worth (if h = 120 then 16 else 8) 0 ds] := by
        unfold meaning
        simp only [List.drop_succ_cons, List.drop_zero, List.take_succ_cons, List.take_zero, one_eq]
        rw [if_neg h10, if_neg h97, if_neg h98]
        by_cases q : h = 49 ∨ h = 55
        · rw [if_pos q] at hds ⊢
          subst hds
          rw [if_neg (by simp), if_neg (by omega)]
        · rw [if_neg q] at hds ⊢
          subst hds
          rfl
      have hlen : ds.length ≤ 3 := by
        rw [← hds]
        split
        · rw [List.length_cons]; omega
        · omega
      have hok : ∀ k ∈ ds, okFig k := by
        rw [← hds]
        split
        · rename_i q
          intro k hk
          rcases List.mem_cons.mp hk with rfl | hk
          · rcases q with q | q
            · exact .inl q
            · exact .inr (.inl q)
          · exact ht2.2 k hk
        · exact ht2.2
      have hasd : ∀ k ∈ ds, k < 128 := fun k hk => by rcases hok k hk with rfl | rfl | rfl | rfl <;> decide
      rw [hm]
      clear hm
      refine Ws.join (fun _ : Unit => True) (fun _ => { vars := [("head", .str (S [h])), ("digits", .str (S rest)), ("told", .str (S (a :: h :: rest)))] }) ?_ ?_
      · walk_at "vc"
        exact ⟨(), trivial, by walk_at "sub"⟩
      · intro _ _
        refine Ws.join (fun _ : Unit => True) (fun _ => { vars := [("head", .str (S [h])), ("digits", .str (S ds)), ("told", .str (S (a :: h :: rest)))] }) ?_ ?_
        · walk_at "vc"
          · rename_i q
            rw [if_pos q] at hds
            subst hds
            exact ⟨(), trivial, by walk_at "sub"⟩
          · rename_i q
            rw [if_neg q] at hds
            subst hds
            exact ⟨(), trivial, by walk_at "sub"⟩
        · intro _ _
          walk_at "vc"
          · rename_i q
            rw [if_pos q]
            exact ⟨by simp, rfl⟩
          · rename_i q
            rw [if_neg q]
            refine W1.forText hc (l := ds) rfl hasd (fun i v => v < 16 ^ i ∧ worth (if h = 120 then 16 else 8) 0 ds = worth (if h = 120 then 16 else 8) v (ds.drop i)) (fun v => { vars := [("worth", .int (v : Nat)), ("head", .str (S [h])), ("digits", .str (S ds)), ("told", .str (S (a :: h :: rest)))] }) 0 ⟨by decide, rfl⟩ (by walk_at "sub") (fun its gs i v k hk hI => ?_) (fun v hI => ?_) (by intro _ _ h; cases h)
            · obtain ⟨g1, g2⟩ := hI
              have hkm : k ∈ ds := List.mem_of_getElem? hk
              have hf := figs (hok k hkm)
              have hil := (List.getElem?_eq_some_iff.mp hk).1
              have hle := fig_le k
              have hst : ds.drop i = k :: ds.drop (i + 1) := by
                rw [List.drop_eq_getElem_cons hil]
                obtain ⟨_, e⟩ := List.getElem?_eq_some_iff.mp hk
                rw [e]
              rw [hst, worth] at g2
              have hpow : 16 ^ (i + 1) = 16 ^ i * 16 := Nat.pow_succ ..
              walk_at "vc"
              · rename_i hq
                rw [if_pos hq] at g2
                exact ⟨v * 16 + fig k, ⟨by omega, by rw [if_pos hq]; exact g2⟩, by walk_at "sub"⟩
              · rename_i hq
                rw [if_neg hq] at g2
                exact ⟨v * 8 + fig k, ⟨by omega, by rw [if_neg hq]; exact g2⟩, by walk_at "sub"⟩
            · obtain ⟨g1, g2⟩ := hI
              have hp : (16 : Nat) ^ ds.length ≤ 16 ^ 3 := Nat.pow_le_pow_right (by decide) hlen
              have hv : v < 4096 := Nat.lt_of_lt_of_le g1 hp
              rw [List.drop_eq_nil_of_le (Nat.le_refl _), worth] at g2
              rw [g2]
              walk_at "vc"
              rfl
end
end

section
set_option maxRecDepth 100000
set_option linter.unusedVariables false
set_option linter.unusedSimpArgs false
open PySem PySem.Spec PySem.Calls PyProof.Rows PySem.W
section
variable {prog : Program} {w : World} {base : Heap}
set_option maxHeartbeats 1000000
set_option pp.maxSteps 200
noncomputable def faultD (f : Fault) : PyData := .tuple [f.exc.code, f.exc.val, f.exc.ec]
theorem blank_call {A : Around} {E : Value → Shared → Prop} {s : Shared} (KI : (hd.heap_1 w.params).In base) (nl : base.NoLimit) (st : base.StaysIn s.heap) (hdep : A.depth + 1 ≤ 950) {k : Nat} {t : Tok} {Q : Value → Shared → Prop}
    (h : ∀ h' tk, (∀ b o, s.heap.get? b = some o → h'.get? b = some o) → Q (.bool (lblank [k])) { s with heap := h', toks := tk }) : wpAny (model prog w) A (PySem.call (.ref 137) [.str (S [k]) t]) Q E s := by
  have hk0 : lblank [k] = anyEq (S [k]) [.str (Str.ofString ""), .str (Str.ofString " "), .str (Str.ofString "\n"), .str (Str.ofString "\t"), .str (Str.ofString "\x0d"), .str (Str.ofString "\x0c"), .str (Str.ofString "\x0b")] := (any_lblank [k] (by simp)).symm
  refine enter_def KI nl st (f := 137) rfl (by kernel_rfl) [("c", .str (S [k]) t)] hdep (BindsTo.of_eq rfl) (locs (by kernel_rfl)) (by decide +kernel) fun h₁ hns hk => ?_
  refine wpAny_execs_cons (wpAny_Return_some ?_)
  refine wpAny_Compare1 ?_ rfl
  refine wpAny_Name (wpAny_loadName_local rfl rfl hns (v := .str (S [k]) t) rfl ?_)
  refine wpAny_Tuple ?_
  refine spliced_cons ?_
  refine wpAny_Constant_str (pos := ⟨0, 0, 0, 0⟩) (k := 0) ?_
  refine spliced_cons ?_
  refine wpAny_Constant_str (pos := ⟨0, 0, 0, 0⟩) (k := 0) ?_
  refine spliced_cons ?_
  refine wpAny_Constant_str (pos := ⟨0, 0, 0, 0⟩) (k := 0) ?_
  refine spliced_cons ?_
  refine wpAny_Constant_str (pos := ⟨0, 0, 0, 0⟩) (k := 0) ?_
  refine spliced_cons ?_
  refine wpAny_Constant_str (pos := ⟨0, 0, 0, 0⟩) (k := 0) ?_
  refine spliced_cons ?_
  refine wpAny_Constant_str (pos := ⟨0, 0, 0, 0⟩) (k := 0) ?_
  refine spliced_cons ?_
  refine wpAny_Constant_str (pos := ⟨0, 0, 0, 0⟩) (k := 0) ?_
  refine spliced_nil ⟨by simp [sizeLine_eq], ?_⟩
  refine in_tuple_strs (ys := [Str.ofString "", Str.ofString " ", Str.ofString "\n", Str.ofString "\t", Str.ofString "\x0d", Str.ofString "\x0c", Str.ofString "\x0b"]) ⟨_, Heap.get?_push_size _ rfl, rfl, _, rfl⟩ (.cons _ _ (.cons _ _ (.cons _ _ (.cons _ _ (.cons _ _ (.cons _ _ (.cons _ _ .nil))))))) ?_
  have e := h ((h₁.push { cls := .type "tuple", data := .seq #[.str (Str.ofString "") (s.toks + 1), .str (Str.ofString " ") (s.toks + 1 + 1), .str (Str.ofString "\n") (s.toks + 1 + 1 + 1), .str (Str.ofString "\t") (s.toks + 1 + 1 + 1 + 1), .str (Str.ofString "\x0d") (s.toks + 1 + 1 + 1 + 1 + 1), .str (Str.ofString "\x0c") (s.toks + 1 + 1 + 1 + 1 + 1 + 1), .str (Str.ofString "\x0b") (s.toks + 1 + 1 + 1 + 1 + 1 + 1 + 1)] })) (s.toks + 8) (fun b o q => Heap.get?_push_of_some _ (hk b o q))
  rw [hk0] at e
  exact e
theorem places_ge (p : Str → Bool) : ∀ (l : List Nat) (a : Nat), ∀ x ∈ places p l a, ((a + (l.takeWhile fun k => !p (S [k])).length : Nat) : Int) ≤ x
  | [], _, x, h => nomatch h
  | k :: r, a, x, h => by
    rw [places] at h
    rw [List.takeWhile_cons]
    cases q : p (S [k]) with
    | true =>
      rw [q, if_pos rfl] at h
      rw [if_neg (by decide)]
      rcases List.mem_cons.mp h with rfl | h
      · exact Int.le_refl _
      · have := places_ge p r (a + 1) x h
        simp only [List.length_nil]
        omega
    | false =>
      rw [q, if_neg (by decide)] at h
      rw [if_pos (by decide), List.length_cons]
      have := places_ge p r (a + 1) x h
      omega
theorem places_mem (p : Str → Bool) : ∀ (l : List Nat) (a : Nat), (l.takeWhile fun k => !p (S [k])).length < l.length → ((a + (l.takeWhile fun k => !p (S [k])).length : Nat) : Int) ∈ places p l a
  | [], _, h => absurd h (Nat.lt_irrefl _)
  | k :: r, a, h => by
    rw [places]
    rw [List.takeWhile_cons] at h ⊢
    cases q : p (S [k]) with
    | true => rw [if_pos rfl]; exact .head _
    | false =>
      rw [q, if_pos (by decide), List.length_cons, List.length_cons] at h
      rw [if_neg (by decide), if_pos (by decide), List.length_cons]
      have := places_mem p r (a + 1) (Nat.lt_of_succ_lt_succ h)
      rw [show a + ((r.takeWhile fun k => !p (S [k])).length + 1) = a + 1 + (r.takeWhile fun k => !p (S [k])).length from by omega]
      exact this
theorem takeWhile_take (f : Nat → Bool) : ∀ r : List Nat, r.takeWhile f = r.take (r.takeWhile f).length
  | [] => rfl
  | k :: r => by
    rw [List.takeWhile_cons]
    split
    · rw [List.length_cons, List.take_succ_cons, ← takeWhile_take f r]
    · rfl
theorem word_min (r : List Nat) (M : Int) (h1 : M ∈ ([20, (r.length : Int)] ++ places (fun x => lblank x.cps.toList) r 0)) (h2 : ∀ a ∈ ([20, (r.length : Int)] ++ places (fun x => lblank x.cps.toList) r 0), M ≤ a) : 0 ≤ M ∧ r.take M.toNat = word r := by
  have hf : (fun k => !(fun x : Str => lblank x.cps.toList) (S [k])) = fun k => !bl k := by funext k; rfl
  have g1 := places_ge (fun x => lblank x.cps.toList) r 0
  have g2 := places_mem (fun x => lblank x.cps.toList) r 0
  rw [hf] at g1 g2
  have hT : (r.takeWhile fun k => !bl k).length ≤ r.length := (List.takeWhile_prefix _).length_le
  unfold word
  have hw := takeWhile_take (fun k => !bl k) r
  generalize hTT : (r.takeWhile fun k => !bl k).length = T at *
  have m1 := h2 20 (by simp)
  have m2 := h2 r.length (by simp)
  have m3 : M ≤ T := by
    by_cases q : T < r.length
    · have := h2 _ (List.mem_append_right _ (g2 q)); omega
    · omega
  have m4 : M = 20 ∨ (T : Int) ≤ M := by
    rcases List.mem_append.mp h1 with q | q
    · simp only [List.mem_cons, List.not_mem_nil, or_false] at q
      rcases q with q | q
      · exact .inl q
      · exact .inr (by omega)
    · have := g1 M q; exact .inr (by omega)
  refine ⟨by omega, ?_⟩
  rw [hw, List.take_take]
  congr 1
  omega
theorem junk_ok (gb : Gb (hd.heap_1 w.params) base) (mode r : List Nat) (hz : r.length ≤ 1000) (hm : mode.length ≤ 10) (hasc : ∀ k ∈ r, k < 128) : Wf prog w base 156 2 [.str (S mode), .str (S r)] (fun d => d = faultD (.junk (mode ++ [115]) (word r))) (fun _ => False) := by
  refine Wf.of2 gb (f := 156) rfl (by kernel_rfl) "mode" "rest" ?_
  intro s0 L outer dp un gd hc
  walk_at "vc"
  refine We.compEnum hc (a := 137) (l := r) (p := fun x => lblank x.cps.toList) rfl hasc (by omega) (by kernel_rfl) (by kernel_rfl) (fun s k t Q E st low h => blank_call gb.kin gb.nolimit st (by have := hc.dp; show dp + 1 ≤ 950; have : dp + 1 ≤ 900 := hc.dp; omega) h) ?_ (by decide) (by decide) rfl (by decide) rfl rfl (by decide) rfl (by kernel_rfl)
  walk_at "vc"
  refine ⟨?_, [20, (r.length : Int)] ++ places (fun x => lblank x.cps.toList) r 0, rfl, by simp, fun M h1 h2 => ⟨.inl ⟨rfl, rfl⟩, ?_⟩⟩
  · have := places_len (fun x => lblank x.cps.toList) r 0
    rw [List.length_map, sizeLine_eq]
    simp only [List.length_cons, List.length_nil]
    omega
  obtain ⟨m0, m1⟩ := word_min r M h1 h2
  walk_at "vc"
  rw [m1]
  show PyData.tuple [_, .str (S _), _] = PyData.tuple [_, .str (S _), _]
  simp only [Fault.text, List.append_assoc]
  rfl
end
end

section
set_option maxRecDepth 100000
set_option linter.unusedVariables false
set_option linter.unusedSimpArgs false
open PySem PySem.Spec PySem.Calls PyProof.Rows PySem.W
section
variable {prog : Program} {w : World} {base : Heap}
set_option maxHeartbeats 8000000
set_option pp.maxSteps 200
noncomputable def elD (e : List Nat × Nat) : PyData := .tuple [.str (S e.1), .int (e.2 : Nat)]
noncomputable def foD : Option Fault → PyData
  | none => .none
  | some f => faultD f
noncomputable def nextR (l : List Nat) (i : Nat) (m : Mach) : List (List Nat × Nat) × Option Fault := if i ≤ l.length then run i (l.drop i) m else (m.found, none)
theorem run_step {l : List Nat} {i : Nat} (m : Mach) (h : i ≤ l.length) : nextR l i m = match step i (l.drop i) m with
    | .inr x => x
    | .inl m' => nextR l (i + 1) m' := by
  unfold nextR
  rw [if_pos h]
  by_cases q : i < l.length
  · rw [List.drop_eq_getElem_cons q, run]
    cases step i (l[i] :: l.drop (i + 1)) m with
    | inr x => rfl
    | inl m' => show _ = if i + 1 ≤ l.length then _ else _; rw [if_pos (by omega)]
  · rw [List.drop_eq_nil_of_le (by omega), run]
    cases step i [] m with
    | inr x => rfl
    | inl m' => show _ = if i + 1 ≤ l.length then _ else _; rw [if_neg (by omega)]
structure Inv (m : Mach) (i : Nat) : Prop where
  f : m.found.length ≤ i
  o : m.out.length + m.told.length ≤ i
  md : m.mode = [103, 97, 112] ∨ m.mode = [98, 97, 114, 101] ∨ m.mode = [115, 104, 117, 116] ∨ m.mode = [113, 117, 111, 116, 101] ∨ m.mode = [98, 114, 97, 99, 101]
  sh : m.shut.length ≤ 5
  td : m.told = [] ∨ ∃ t, m.told = 92 :: t ∧ toldOk m.told ∧ ∀ k ∈ m.told, k < 128
theorem meaning_len (t : List Nat) : (meaning t).length = 1 := by
  unfold meaning
  repeat' split
  all_goals rfl
theorem Inv.flush {m : Mach} {i : Nat} (h : Inv m i) : Inv (flush m) i ∧ (flush m).told = [] := by
  unfold Mine.flush
  by_cases q : m.told = []
  · rw [if_pos q]; exact ⟨h, q⟩
  · rw [if_neg q]
    have hp : 0 < m.told.length := List.length_pos_iff.mpr q
    refine ⟨⟨h.f, ?_, h.md, h.sh, .inl rfl⟩, rfl⟩
    have := h.o
    show (m.out ++ _).length + 0 ≤ i
    rw [List.length_append]
    split
    · omega
    · rw [meaning_len]; omega
theorem toldOk_goes {t x mode : List Nat} (hx : x.length ≤ 1) (h : toldOk (92 :: t)) (hg : goesOn (92 :: t) x mode = true) : toldOk (92 :: t ++ x) ∧ x ≠ [] := by
  match x, hx with
  | _ :: _ :: _, h => simp at h
  | [], _ => simp [goesOn] at hg
  | [k], _ =>
    refine ⟨⟨by simp, ?_⟩, by simp⟩
    match t with
    | [] => exact .inr ⟨by simp, by simp⟩
    | t1 :: r =>
      by_cases hm : mode = [98, 114, 97, 99, 101]
      · simp [goesOn, hm, mBrace] at hg
      · rw [goesOn_at hm] at hg
        split at hg
        · rename_i q; exact .inl (by simp [q])
        split at hg
        · rename_i q0 q
          have hg := of_decide_eq_true hg
          refine .inr ⟨by simp; omega, fun k' hk' => ?_⟩
          rcases h.2 with z | ⟨_, z⟩
          · simp at z; exact absurd z q0
          · rcases List.mem_append.mp (show k' ∈ r ++ [k] from by simpa using hk') with w | w
            · exact z k' (by simpa using w)
            · rw [List.mem_singleton.mp w]; exact hg.1
        · rename_i q0 q
          have hg := of_decide_eq_true hg
          refine .inr ⟨by simp; omega, fun k' hk' => ?_⟩
          rcases h.2 with z | ⟨_, z⟩
          · simp at z; exact absurd z q0
          · rcases List.mem_append.mp (show k' ∈ r ++ [k] from by simpa using hk') with w | w
            · exact z k' (by simpa using w)
            · rw [List.mem_singleton.mp w]
              rcases hg.2.1 with y | y
              · exact .inl y
              · exact .inr (.inl y)
local macro_rules | `(tactic| walk_at "vcU") => `(tactic| first | refine We.call (f := "_law_is_blank") (a := 137) (by assumption) (by kernel_rfl) (by kernel_rfl) ?_ | refine We.call (f := "_law_goes_on") (a := 144) (by assumption) (by kernel_rfl) (by kernel_rfl) ?_ | refine We.call (f := "_law_meaning") (a := 151) (by assumption) (by kernel_rfl) (by kernel_rfl) ?_ | refine We.call (f := "_law_junk") (a := 156) (by assumption) (by kernel_rfl) (by kernel_rfl) ?_)
local macro_rules | `(tactic| walk_at "vcF") => `(tactic| first | refine Wf.use (law_blank_ok (by assumption) _ (by assumption)) (by decide) ?_ | refine Wf.use (goes_ok (by assumption) _ _ _ (by assumption) (by assumption)) (by decide) ?_ | refine Wf.use (meaning_ok (by assumption) _ (by assumption) (by assumption) (by assumption)) (by decide) ?_ | refine Wf.use (junk_ok (by assumption) _ _ (by assumption) (by assumption) (by assumption)) (by decide) ?_)
theorem dget (k : Nat) : (PySem.Spec.lookup (.str (S [k])) [(.str (Str.ofString "{"), .int 1), (.str (Str.ofString "}"), .int (-1))]).getD (.int 0) = .int (dd [k]) := by
  rw [KStr.o8.eq, KStr.o9.eq]
  unfold dd
  by_cases h1 : k = 123
  · subst h1; rfl
  by_cases h2 : k = 125
  · subst h2; rfl
  rw [if_neg (by simpa using h1), if_neg (by simpa using h2)]
  have e1 : PySem.Spec.same (.str (S [k])) (.str (S [123])) = false := by rw [PyProof.V.same_str]; exact decide_eq_false fun q => h1 (by simpa using S_inj q)
  have e2 : PySem.Spec.same (.str (S [k])) (.str (S [125])) = false := by rw [PyProof.V.same_str]; exact decide_eq_false fun q => h2 (by simpa using S_inj q)
  have e1' : PySem.Spec.same (.str (S [123])) (.str (S [k])) = false := by rw [PyProof.V.same_str]; exact decide_eq_false fun q => h1 (by simpa using (S_inj q).symm)
  have e2' : PySem.Spec.same (.str (S [125])) (.str (S [k])) = false := by rw [PyProof.V.same_str]; exact decide_eq_false fun q => h2 (by simpa using (S_inj q).symm)
  simp [PySem.Spec.lookup, e1, e2, e1', e2']
theorem We.braces {c : Cx} {σ : St} {Φ : PyData → Prop} {X : Exc → Prop} (hc : CxOk c) {k : Nat} {a1 a2 a3 a4 a5 p1 p2 p3 p4 p5 np dp cp ap p} (hv : σ.vars.lookup (Str.ofString "c") = some (.str (S [k]))) (h : Φ (.int (dd [k]))) (hk : c.env.kindOf "c" = some .local := by rfl) {pl : Sem Bool}
    (he : eval (.Call (.Attribute (.Dict [some (.Constant (.str "{") a1 p1), some (.Constant (.str "}") a2 p2)] [.Constant (.int 1) a3 p3, .UnaryOp .USub (.Constant (.int 1) a4 p4) p5] dp) "get" ap) [.Name "c" np, .Constant (.int 0) a5 cp] [] p) c.env = (do
        let ov ← eval (.Dict [some (.Constant (.str "{") a1 p1), some (.Constant (.str "}") a2 p2)] [.Constant (.int 1) a3 p3, .UnaryOp .USub (.Constant (.int 1) a4 p4) p5] dp) c.env
        standAt ap.atName
        let fx ← holding [ov] (getMethod ov "get" pl)
        match fx with
          | (f, first) => callWith p f first (backTo p (starEach [.Name "c" np, .Constant (.int 0) a5 cp] c.env)) []) := by rfl)
    (hse : starEach [.Name "c" np, .Constant (.int 0) a5 cp] c.env = [(false, eval (.Name "c" np) c.env), (false, eval (.Constant (.int 0) a5 cp) c.env)] := by rfl) :
    We c σ (.Call (.Attribute (.Dict [some (.Constant (.str "{") a1 p1), some (.Constant (.str "}") a2 p2)] [.Constant (.int 1) a3 p3, .UnaryOp .USub (.Constant (.int 1) a4 p4) p5] dp) "get" ap) [.Name "c" np, .Constant (.int 0) a5 cp] [] p) Φ X :=
  We.dictGet hc [(.str (Str.ofString "{"), .int 1), (.str (Str.ofString "}"), .int (-1))] hv (by rw [dget]; exact h) rfl rfl (by decide) rfl rfl (by simp) (by simp) hk rfl he hse
local macro_rules | `(tactic| walk_at "vcM") => `(tactic| refine We.braces (by assumption) rfl ?_)
theorem up4 : Txt.upper (S [113, 117, 111, 116, 101]) = S [81, 85, 79, 84, 69] := by kernel_rfl
theorem up5 : Txt.upper (S [98, 114, 97, 99, 101]) = S [66, 82, 65, 67, 69] := by kernel_rfl
theorem next_of {l : List Nat} {i : Nat} {B : List (List Nat × Nat) × Option Fault} {m m' : Mach} (hR : B = match act i (l.drop i) m with | .inr x => x | .inl m' => nextR l (i + 1) m') (hA : act i (l.drop i) m = .inl m') : B = nextR l (i + 1) m' := by rw [hR, hA]
theorem ret_of {l : List Nat} {i : Nat} {B y : List (List Nat × Nat) × Option Fault} {m : Mach} (hR : B = match act i (l.drop i) m with | .inr x => x | .inl m' => nextR l (i + 1) m') (hA : act i (l.drop i) m = .inr y) : B = y := by rw [hR, hA]
theorem read_ok (gb : Gb (hd.heap_1 w.params) base) (l : List Nat) (hz : l.length ≤ 900) (hasc : ∀ k ∈ l, k < 128) : Wf prog w base 163 3 [.str (S l)] (fun d => d = .tuple [.list ((read l).1.map elD), foD (read l).2]) (fun _ => False) := by
  refine Wf.of1 gb (f := 163) rfl (by kernel_rfl) "text" ?_
  intro s0 L outer dp un gd hc
  obtain ⟨B, hB⟩ : ∃ B, read l = B := ⟨_, rfl⟩
  rw [hB]
  walk_at "vc"
  rename_i A
  refine W1.forRange hc (fun n i m => n = l.length + 1 ∧ Inv m i ∧ B = nextR l i m) (fun m => { vars := [("mode", .str (S m.mode)), ("shut", .str (S m.shut)), ("depth", .int m.depth), ("told", .str (S m.told)), ("out", .str (S m.out)), ("text", .str (S l))], own := some ⟨"found", A, m.found.map elD⟩ })
    (by intro a w h; cases h; show Str.ofString _ ≠ Str.ofString _; decide) ?_
  walk_at "vc"
  refine ⟨⟨mach0, ⟨rfl, ⟨Nat.zero_le _, Nat.zero_le _, .inl rfl, Nat.zero_le _, .inl rfl⟩, ?_⟩, by walk_at "sub"⟩, fun its gs i m hi hI => ?_, fun m hI => ?_⟩
  · rw [← hB]; unfold nextR; rw [if_pos (Nat.zero_le _)]; rfl
  · obtain ⟨-, iv, hR⟩ := hI
    rw [run_step m (by omega)] at hR
    obtain ⟨x, hx⟩ : ∃ x, (l.drop i).take 1 = x := ⟨_, rfl⟩
    have hxl : x.length ≤ 1 := by rw [← hx, List.length_take]; omega
    refine Ws.join (fun _ : Unit => True) (fun _ => ((({ vars := [("mode", .str (S m.mode)), ("shut", .str (S m.shut)), ("depth", .int m.depth), ("told", .str (S m.told)), ("out", .str (S m.out)), ("text", .str (S l))], own := some ⟨"found", A, m.found.map elD⟩ } : St).with its gs).set "at" (.int i)).set "c" (.str (S x))) ?_ ?_
    · walk_at "vc"
      rw [slice2, hx]
      exact ⟨(), trivial, by walk_at "sub"⟩
    · intro _ _
      obtain ⟨fd, md, sh, de, td, ou⟩ := m
      obtain ⟨iv1, iv2, iv3, iv4, iv5⟩ := iv
      dsimp only at iv1 iv2 iv3 iv4 iv5 ⊢
      refine Ws.join (fun _ : Unit => ¬ (¬ td = [] ∧ goesOn td x md = true)) (fun _ => ((({ vars := [("mode", .str (S md)), ("shut", .str (S sh)), ("depth", .int de), ("told", .str (S td)), ("out", .str (S ou)), ("text", .str (S l))], own := some ⟨"found", A, fd.map elD⟩ } : St).with its gs).set "at" (.int i)).set "c" (.str (S x))) ?_ ?_
      · rcases iv5 with rfl | ⟨t, rfl, ht, hat⟩
        · walk_at "vc"
          exact ⟨(), fun h => h.1 rfl, by walk_at "sub"⟩
        · have htl : t.length ≤ 1000 := by simp at iv2; omega
          walk_at "vc"
          · rename_i hg
            obtain ⟨t1, t2⟩ := toldOk_goes hxl ht hg
            refine ⟨⟨fd, md, sh, de, (92 :: t) ++ x, ou⟩, ⟨rfl, ⟨by show fd.length ≤ i + 1; omega, ?_, iv3, iv4, .inr ⟨t ++ x, rfl, t1, ?_⟩⟩, ?_⟩, by walk_at "sub"⟩
            · show ou.length + ((92 :: t) ++ x).length ≤ i + 1
              rw [List.length_append]
              omega
            · intro k hk
              rcases List.mem_append.mp hk with hk | hk
              · exact hat k hk
              · rw [← hx] at hk
                exact hasc k (List.mem_of_mem_drop (List.mem_of_mem_take hk))
            · rw [hR]
              unfold step
              rw [hx, if_pos ⟨by simp, hg⟩]
          · rename_i hg
            exact ⟨(), fun h => by rw [hg] at h; exact Bool.false_ne_true h.2, by walk_at "sub"⟩
      · intro _ hng
        unfold step at hR
        rw [hx, if_neg hng] at hR
        have ivf := Inv.flush (m := ⟨fd, md, sh, de, td, ou⟩) (i := i) ⟨iv1, iv2, iv3, iv4, iv5⟩
        obtain ⟨mf, hmf⟩ : ∃ mf, flush ⟨fd, md, sh, de, td, ou⟩ = mf := ⟨_, rfl⟩
        rw [hmf] at hR ivf
        refine Ws.join (fun _ : Unit => True) (fun _ => ((({ vars := [("mode", .str (S mf.mode)), ("shut", .str (S mf.shut)), ("depth", .int mf.depth), ("told", .str (S mf.told)), ("out", .str (S mf.out)), ("text", .str (S l))], own := some ⟨"found", A, mf.found.map elD⟩ } : St).with its gs).set "at" (.int i)).set "c" (.str (S x))) ?_ ?_
        · rcases iv5 with rfl | ⟨t, rfl, ht, hat⟩
          · unfold flush at hmf
            rw [if_pos rfl] at hmf
            subst hmf
            walk_at "vc"
            exact ⟨(), trivial, by walk_at "sub"⟩
          · have htl : (92 :: t).length ≤ 1000 := by omega
            unfold flush at hmf
            rw [if_neg (by simp)] at hmf
            subst hmf
            dsimp only
            have htz : t.length ≤ 999 := by simpa using htl
            have hml := meaning_len (92 :: t)
            walk_at "vc"
            · rename_i hm
              rw [if_pos (show md = mBrace from hm)]
              exact ⟨(), trivial, by walk_at "sub"⟩
            · rename_i hm
              rw [if_neg (show ¬ md = mBrace from hm)]
              exact ⟨(), trivial, by walk_at "sub"⟩
        · intro _ _
          clear hmf iv1 iv2 iv3 iv4 iv5 hng
          obtain ⟨⟨iv1, iv2, iv3, iv4, -⟩, htd⟩ := ivf
          obtain ⟨fd, md, sh, de, td, ou⟩ := mf
          dsimp only at iv1 iv2 iv3 iv4 htd hR ⊢
          subst htd
          have hou : ou.length ≤ i := by simpa using iv2
          have hdl : (l.drop i).length ≤ 1000 := by rw [List.length_drop]; omega
          have hda : ∀ k ∈ l.drop i, k < 128 := fun k hk => hasc k (List.mem_of_mem_drop hk)
          have hsl : sh.length ≤ 10 := by omega
          have hfl : fd.length ≤ 900 := by omega
          match x, hxl with
          | _ :: _ :: _, h => simp at h
          | [], hxl =>
            rcases iv3 with rfl | rfl | rfl | rfl | rfl
            · walk_at "vc"
              exact ⟨⟨fd, [103, 97, 112], sh, de, [], []⟩, ⟨rfl, ⟨by show fd.length ≤ i + 1; omega, Nat.zero_le _, .inl rfl, iv4, .inl rfl⟩, next_of hR (by unfold act; rw [hx]; rfl)⟩, by walk_at "sub"⟩
            · walk_at "vc"
              rw [show fd.map elD ++ [PyData.tuple [.str (S ou), .int (i : Nat)]] = (fd ++ [(ou, i)]).map elD from by rw [List.map_append]; rfl]
              exact ⟨⟨fd ++ [(ou, i)], [103, 97, 112], sh, de, [], []⟩, ⟨rfl, ⟨by show (fd ++ [(ou, i)]).length ≤ i + 1; rw [List.length_append]; show fd.length + 1 ≤ _; omega, Nat.zero_le _, .inl rfl, iv4, .inl rfl⟩, next_of hR (by unfold act; rw [hx]; rfl)⟩, by walk_at "sub"⟩
            · walk_at "vc"
              rw [show fd.map elD ++ [PyData.tuple [.str (S ou), .int (i : Nat)]] = (fd ++ [(ou, i)]).map elD from by rw [List.map_append]; rfl]
              exact ⟨⟨fd ++ [(ou, i)], [103, 97, 112], sh, de, [], []⟩, ⟨rfl, ⟨by show (fd ++ [(ou, i)]).length ≤ i + 1; rw [List.length_append]; show fd.length + 1 ≤ _; omega, Nat.zero_le _, .inl rfl, iv4, .inl rfl⟩, next_of hR (by unfold act; rw [hx]; rfl)⟩, by walk_at "sub"⟩
            · rw [act_end4 hx] at hR
              walk_at "vc"
              rw [hR, up4]; rfl
            · rw [act_end5 hx] at hR
              walk_at "vc"
              rw [hR, up5]; rfl
          | [k], hxl =>
            rcases iv3 with rfl | rfl | rfl | rfl | rfl
            · rw [act_gap hx] at hR
              walk_at "vc"
              all_goals clear hc
              all_goals first
                | (repeat (first | rw [if_pos (by first | assumption | omega)] at hR | rw [if_neg (by first | assumption | omega | exact Bool.eq_false_iff.mp (by assumption))] at hR)
                   try rw [show fd.map elD ++ [PyData.tuple [.str (S ou), .int (i : Nat)]] = (fd ++ [(ou, i)]).map elD from by rw [List.map_append]; rfl]
                   refine ⟨_, ⟨rfl, ?_, hR⟩, by walk_at "sub"⟩
                   refine ⟨?_, ?_, ?_, ?_, ?_⟩
                   · dsimp only
                     first | omega | (simp only [List.length_append, List.length_cons, List.length_nil]; omega)
                   · dsimp only
                     first | omega | (simp only [List.length_append, List.length_cons, List.length_nil]; omega)
                   · first | exact .inl rfl | exact .inr (.inl rfl) | exact .inr (.inr (.inl rfl)) | exact .inr (.inr (.inr (.inl rfl))) | exact .inr (.inr (.inr (.inr rfl)))
                   · first | exact iv4 | exact Nat.le_refl 5
                   · first | exact .inl rfl | exact told_one (by first | assumption | omega))
                | (repeat (first | rw [if_pos (by first | assumption | omega)] at hR | rw [if_neg (by first | assumption | omega | exact Bool.eq_false_iff.mp (by assumption))] at hR)
                   rw [hR]; rfl)

            · rw [act_bare hx] at hR
              walk_at "vc"
              all_goals clear hc
              all_goals first
                | (repeat (first | rw [if_pos (by first | assumption | omega)] at hR | rw [if_neg (by first | assumption | omega | exact Bool.eq_false_iff.mp (by assumption))] at hR)
                   try rw [show fd.map elD ++ [PyData.tuple [.str (S ou), .int (i : Nat)]] = (fd ++ [(ou, i)]).map elD from by rw [List.map_append]; rfl]
                   refine ⟨_, ⟨rfl, ?_, hR⟩, by walk_at "sub"⟩
                   refine ⟨?_, ?_, ?_, ?_, ?_⟩
                   · dsimp only
                     first | omega | (simp only [List.length_append, List.length_cons, List.length_nil]; omega)
                   · dsimp only
                     first | omega | (simp only [List.length_append, List.length_cons, List.length_nil]; omega)
                   · first | exact .inl rfl | exact .inr (.inl rfl) | exact .inr (.inr (.inl rfl)) | exact .inr (.inr (.inr (.inl rfl))) | exact .inr (.inr (.inr (.inr rfl)))
                   · first | exact iv4 | exact Nat.le_refl 5
                   · first | exact .inl rfl | exact told_one (by first | assumption | omega))
                | (repeat (first | rw [if_pos (by first | assumption | omega)] at hR | rw [if_neg (by first | assumption | omega | exact Bool.eq_false_iff.mp (by assumption))] at hR)
                   rw [hR]; rfl)

            · rw [act_shut hx] at hR
              walk_at "vc"
              all_goals clear hc
              all_goals first
                | (repeat (first | rw [if_pos (by first | assumption | omega)] at hR | rw [if_neg (by first | assumption | omega | exact Bool.eq_false_iff.mp (by assumption))] at hR)
                   try rw [show fd.map elD ++ [PyData.tuple [.str (S ou), .int (i : Nat)]] = (fd ++ [(ou, i)]).map elD from by rw [List.map_append]; rfl]
                   refine ⟨_, ⟨rfl, ?_, hR⟩, by walk_at "sub"⟩
                   refine ⟨?_, ?_, ?_, ?_, ?_⟩
                   · dsimp only
                     first | omega | (simp only [List.length_append, List.length_cons, List.length_nil]; omega)
                   · dsimp only
                     first | omega | (simp only [List.length_append, List.length_cons, List.length_nil]; omega)
                   · first | exact .inl rfl | exact .inr (.inl rfl) | exact .inr (.inr (.inl rfl)) | exact .inr (.inr (.inr (.inl rfl))) | exact .inr (.inr (.inr (.inr rfl)))
                   · first | exact iv4 | exact Nat.le_refl 5
                   · first | exact .inl rfl | exact told_one (by first | assumption | omega))
                | (repeat (first | rw [if_pos (by first | assumption | omega)] at hR | rw [if_neg (by first | assumption | omega | exact Bool.eq_false_iff.mp (by assumption))] at hR)
                   rw [hR]; rfl)

            · rw [act_quote hx] at hR
              walk_at "vc"
              all_goals clear hc
              all_goals first
                | (repeat (first | rw [if_pos (by first | assumption | omega)] at hR | rw [if_neg (by first | assumption | omega | exact Bool.eq_false_iff.mp (by assumption))] at hR)
                   try rw [show fd.map elD ++ [PyData.tuple [.str (S ou), .int (i : Nat)]] = (fd ++ [(ou, i)]).map elD from by rw [List.map_append]; rfl]
                   refine ⟨_, ⟨rfl, ?_, hR⟩, by walk_at "sub"⟩
                   refine ⟨?_, ?_, ?_, ?_, ?_⟩
                   · dsimp only
                     first | omega | (simp only [List.length_append, List.length_cons, List.length_nil]; omega)
                   · dsimp only
                     first | omega | (simp only [List.length_append, List.length_cons, List.length_nil]; omega)
                   · first | exact .inl rfl | exact .inr (.inl rfl) | exact .inr (.inr (.inl rfl)) | exact .inr (.inr (.inr (.inl rfl))) | exact .inr (.inr (.inr (.inr rfl)))
                   · first | exact iv4 | exact Nat.le_refl 5
                   · first | exact .inl rfl | exact told_one (by first | assumption | omega))
                | (repeat (first | rw [if_pos (by first | assumption | omega)] at hR | rw [if_neg (by first | assumption | omega | exact Bool.eq_false_iff.mp (by assumption))] at hR)
                   rw [hR]; rfl)

            · rw [act_brace hx] at hR
              walk_at "vc"
              all_goals clear hc
              all_goals first
                | (repeat (first | rw [if_pos (by first | assumption | omega)] at hR | rw [if_neg (by first | assumption | omega | exact Bool.eq_false_iff.mp (by assumption))] at hR)
                   try rw [show fd.map elD ++ [PyData.tuple [.str (S ou), .int (i : Nat)]] = (fd ++ [(ou, i)]).map elD from by rw [List.map_append]; rfl]
                   refine ⟨_, ⟨rfl, ?_, hR⟩, by walk_at "sub"⟩
                   refine ⟨?_, ?_, ?_, ?_, ?_⟩
                   · dsimp only
                     first | omega | (simp only [List.length_append, List.length_cons, List.length_nil]; omega)
                   · dsimp only
                     first | omega | (simp only [List.length_append, List.length_cons, List.length_nil]; omega)
                   · first | exact .inl rfl | exact .inr (.inl rfl) | exact .inr (.inr (.inl rfl)) | exact .inr (.inr (.inr (.inl rfl))) | exact .inr (.inr (.inr (.inr rfl)))
                   · first | exact iv4 | exact Nat.le_refl 5
                   · first | exact .inl rfl | exact told_one (by first | assumption | omega))
                | (repeat (first | rw [if_pos (by first | assumption | omega)] at hR | rw [if_neg (by first | assumption | omega | exact Bool.eq_false_iff.mp (by assumption))] at hR)
                   rw [hR]; rfl)

  · obtain ⟨-, -, hR⟩ := hI
    unfold nextR at hR
    rw [if_neg (by omega)] at hR
    rw [hR]
    walk_at "vc"
    rfl
end
end

section
set_option maxRecDepth 100000
set_option linter.unusedVariables false
set_option linter.unusedSimpArgs false
open PySem PySem.Spec PySem.Calls PyProof.Rows PySem.W
section
variable {prog : Program} {w : World} {base : Heap}
set_option maxHeartbeats 4000000
set_option pp.maxSteps 200
noncomputable def resD : Found → Nat → PyData
  | .bad f, _ => faultD f
  | F, a => foundD F a
theorem next_ok (gb : Gb (hd.heap_1 w.params) base) (l : List Nat) (at_ : Nat) (hz : l.length ≤ 1000) (ha : at_ ≤ l.length) : Wf prog w base 170 6 [.str (S l), .int at_] (fun d => d = resD (fnd (l.drop at_)) at_) (fun _ => False) := by
  refine Wf.of2 gb (f := 170) rfl (by kernel_rfl) "text" "at" ?_
  intro s0 L outer dp un gd hc
  refine Ws.cons ?_
  refine W1.tryRaised hc rfl (a := 115) (by kernel_rfl) (by kernel_rfl) ?_
  walk_at "vc"
  refine find_use (by assumption) l at_ (by assumption) (by assumption) (Nat.le_refl 5) (fun hb => ?_) (fun f hf => ?_)
  · show foundD _ _ = resD _ _
    cases q : fnd (l.drop at_) with
    | nothing => rfl
    | el u n => rfl
    | bad f => exact absurd q (hb f)
  · refine ⟨⟨rfl, rfl, rfl⟩, ?_⟩
    show faultD f = resD _ _
    rw [hf]; rfl
noncomputable def splitD (E : List (List Nat × Nat) × Option Fault) : PyData := match E.2 with
  | some f => faultD f
  | none => .list (E.1.map fun e => .str (S e.1))
theorem lsplit_ok (gb : Gb (hd.heap_1 w.params) base) (l : List Nat) (hz : l.length ≤ 1000) : Wf prog w base 177 7 [.str (S l)] (fun d => d = splitD (elems (l.length + 1) l 0)) (fun _ => False) := by
  refine Wf.of1 gb (f := 177) rfl (by kernel_rfl) "text" ?_
  intro s0 L outer dp un gd hc
  refine Ws.cons ?_
  refine W1.tryRaised hc rfl (a := 122) (by kernel_rfl) (by kernel_rfl) ?_
  walk_at "vc"
  refine (split_ok gb l hz).imp (Nat.le_refl 6) (fun d hd => ?_) fun x hx => ?_
  · obtain ⟨h1, rfl⟩ := hd
    show _ = splitD _
    unfold splitD
    rw [h1]
  · obtain ⟨f, h1, rfl⟩ := hx
    refine ⟨⟨rfl, rfl, rfl⟩, ?_⟩
    show faultD f = splitD _
    unfold splitD
    rw [h1]
local macro_rules | `(tactic| walk_at "vcU") => `(tactic| first | refine We.call (f := "_law_read") (a := 163) (by assumption) (by kernel_rfl) (by kernel_rfl) ?_ | refine We.call (f := "_law_next") (a := 170) (by assumption) (by kernel_rfl) (by kernel_rfl) ?_ | refine We.call (f := "_law_split") (a := 177) (by assumption) (by kernel_rfl) (by kernel_rfl) ?_ | refine We.call (f := "_law_is_read") (a := 182) (by assumption) (by kernel_rfl) (by kernel_rfl) ?_)
local macro_rules | `(tactic| walk_at "vcF") => `(tactic| first | refine Wf.use (read_ok (by assumption) _ (by assumption) (by assumption)) (by decide) ?_ | refine Wf.use (next_ok (by assumption) _ _ (by omega) (by omega)) (by decide) ?_ | refine Wf.use (lsplit_ok (by assumption) _ (by omega)) (by decide) ?_)
theorem sh_str {l : List Nat} (h : ∀ k ∈ l, Cd k) : (PyData.str (S l)).canLay0 = true := by
  show ((S l).cps.all fun x => decide (x < 0x110000)) = true
  show (l.toArray.all fun x => decide (x < 0x110000)) = true
  rw [List.all_toArray]
  exact List.all_eq_true.mpr fun k hk => decide_eq_true (h k hk)
theorem sh_el {e : List Nat × Nat} (h : ∀ k ∈ e.1, Cd k) : SeqAt.shaped (elD e) = true := by
  unfold SeqAt.shaped
  rw [Bool.and_eq_true]
  refine ⟨?_, rfl⟩
  show (PyData.canLay0 _ && (PyData.canLay0 _ && true)) = true
  rw [sh_str h]; rfl
theorem sh_fault {f : Fault} (h : f.ok) : SeqAt.shaped (faultD f) = true := by
  unfold SeqAt.shaped
  rw [Bool.and_eq_true]
  refine ⟨?_, rfl⟩
  show (PyData.canLay0 (.int 1) && (PyData.canLay0 (.str (S f.text)) && ((PyData.canLay0 (.str (S [84, 67, 76])) && (PyData.canLay0 (.str (S [86, 65, 76, 85, 69])) && (PyData.canLay0 (.str (S [76, 73, 83, 84])) && (PyData.canLay0 (.str (S f.code)) && true)))) && true))) = true
  rw [sh_str h.1, sh_str h.2, sh_str (l := [84, 67, 76]) (cd_list (by decide)), sh_str (l := [86, 65, 76, 85, 69]) (cd_list (by decide)), sh_str (l := [76, 73, 83, 84]) (cd_list (by decide))]; rfl
theorem sh_fo {o : Option Fault} (h : ∀ x, o = some x → x.ok) : SeqAt.shaped (foD o) = true := by
  cases o with
  | none => rfl
  | some f => exact sh_fault (h f rfl)
theorem sh_res {F : Found} (h : F.ok) (a : Nat) : SeqAt.shaped (resD F a) = true := by
  cases F with
  | nothing => rfl
  | el w n => exact sh_el (e := (w, a + n)) h
  | bad f => exact sh_fault h
theorem canLay_strs {E : List (List Nat × Nat)} (h : ∀ e ∈ E, ∀ k ∈ e.1, Cd k) : PyData.canLayAll0 (E.map fun e => .str (S e.1)) = true ∧ PyData.depthAll (E.map fun e => .str (S e.1)) = 0 := by
  induction E with
  | nil => exact ⟨rfl, rfl⟩
  | cons e r ih =>
    obtain ⟨i1, i2⟩ := ih fun x hx => h x (.tail _ hx)
    refine ⟨?_, ?_⟩
    · show (PyData.canLay0 _ && PyData.canLayAll0 _) = true
      rw [sh_str (h e (.head _)), i1]; rfl
    · show max 0 (PyData.depthAll _) = 0
      rw [i2]; rfl
theorem sh_strs {E : List (List Nat × Nat)} (h : ∀ e ∈ E, ∀ k ∈ e.1, Cd k) : SeqAt.shaped (.list (E.map fun e => .str (S e.1))) = true := by
  obtain ⟨i1, i2⟩ := canLay_strs h
  unfold SeqAt.shaped
  rw [Bool.and_eq_true]
  refine ⟨i1, ?_⟩
  show decide (PyData.depthAll _ + 1 ≤ 64) = true
  rw [i2]; rfl
theorem sh_split {E : List (List Nat × Nat) × Option Fault} (h : ∀ e ∈ E.1, ∀ k ∈ e.1, Cd k) (h2 : ∀ x, E.2 = some x → x.ok) : SeqAt.shaped (splitD E) = true := by
  unfold splitD
  split
  · rename_i f hf; exact sh_fault (h2 f hf)
  · exact sh_strs h
theorem eqv_self {d : PyData} (h : SeqAt.shaped d = true) : d.eqv d = true := SeqAt.eqv_refl d (SeqAt.canLay_of_shaped h)
theorem nd_els : ∀ E : List (List Nat × Nat), flat.flats (E.map elD) = true
  | [] => rfl
  | _ :: r => nd_els r
theorem nd_read (E : List (List Nat × Nat)) (o : Option Fault) : nodict.nodicts [.list (E.map elD), foD o] = true := by
  show (nodict.nodicts _ && (nodict _ && true)) = true
  rw [nodicts_of_flat (nd_els E)]
  cases o <;> rfl
theorem elems_len : ∀ (f : Nat) (l : List Nat) (a : Nat), (elems f l a).1.length ≤ f
  | 0, _, _ => Nat.le_refl 0
  | f + 1, l, a => by
    rw [elems]
    cases fnd (l.drop a) with
    | nothing => exact Nat.zero_le _
    | bad x => exact Nat.zero_le _
    | el w n => exact Nat.succ_le_succ (elems_len f l (a + n))
theorem is_read_ok (gb : Gb (hd.heap_1 w.params) base) (l : List Nat) (hz : l.length ≤ 900) (hasc : ∀ k ∈ l, k < 128) (hE : read l = elems (l.length + 1) l 0) : Wf prog w base 182 8 [.str (S l)] (fun d => d = .bool true) (fun _ => False) := by
  refine Wf.of1 gb (f := 182) rfl (by kernel_rfl) "text" ?_
  intro s0 L outer dp un gd hc
  walk_at "vc"
  have hcd : ∀ k ∈ l, Cd k := fun k hk => Nat.lt_trans (hasc k hk) (by decide)
  obtain ⟨ok1, ok2⟩ := elems_ok (l.length + 1) l 0 hcd
  rw [hE]
  obtain ⟨E, hEE⟩ : ∃ E, elems (l.length + 1) l 0 = E := ⟨_, rfl⟩
  rw [hEE] at ok1 ok2 ⊢
  refine ⟨.inl ⟨rfl, nd_read _ _⟩, ?_⟩
  refine Ws.cons ?_
  refine W1.assign hc (We.cint ⟨.inl ⟨rfl, rfl⟩, ?_⟩) (by intro _ h; cases h)
  refine Ws.cons ?_
  refine W1.forName hc (ds := E.1.map elD) rfl (fun i (p : Nat × Nat) => p.2 ≤ l.length ∧ l.length < p.1 + p.2 ∧ E.1.drop i = (elems p.1 l p.2).1 ∧ E.2 = (elems p.1 l p.2).2)
    (fun p => { vars := [("at", .int (p.2 : Nat)), ("found", .list (E.1.map elD)), ("fault", foD E.2), ("text", .str (S l))] }) (nd_els _) (l.length + 1, 0) ⟨Nat.zero_le _, by show l.length < l.length + 1 + 0; omega, by rw [hEE]; rfl, by rw [hEE]⟩ (by walk_at "sub") rfl (fun its gs i p d hd hI => ?_) (fun p hI => ?_) (by intro _ _ h; cases h)
  · obtain ⟨k, a⟩ := p
    obtain ⟨g1, g2, g3, g4⟩ := hI
    simp only at g1 g2 g3 g4
    rw [List.getElem?_map] at hd
    obtain ⟨e, he, rfl⟩ := Option.map_eq_some_iff.mp hd
    have hcons : E.1.drop i = e :: E.1.drop (i + 1) := by
      obtain ⟨hi, q⟩ := List.getElem?_eq_some_iff.mp he
      rw [List.drop_eq_getElem_cons hi, q]
    obtain ⟨k, rfl⟩ : ∃ k', k = k' + 1 := ⟨k - 1, by omega⟩
    rw [elems_succ] at g3 g4
    have hem : e ∈ E.1 := List.mem_of_getElem? he
    have hF0 := fnd_ok (l.drop a) fun y hy => hcd y (List.mem_of_mem_drop hy)
    cases hF : fnd (l.drop a) with
    | nothing => rw [hF, hcons] at g3; cases g3
    | bad f => rw [hF, hcons] at g3; cases g3
    | el u n =>
      rw [hF] at g3 g4 hF0
      dsimp only at g3 g4
      rw [hcons] at g3
      obtain ⟨e1, e2⟩ := List.cons.inj g3
      subst e1
      obtain ⟨n0, n1⟩ := fnd_le _ _ _ hF
      rw [List.length_drop] at n1
      refine Ws.cons (W1.ite (Wt.neD hc ?_))
      walk_at "vc"
      rw [hF]
      refine ⟨sh_el (e := (u, a + n)) hF0, sh_el (e := (u, a + n)) hF0, ?_⟩
      show if (!(elD (u, a + n)).eqv (elD (u, a + n))) = true then _ else _
      rw [eqv_self (sh_el (e := (u, a + n)) hF0)]
      refine ite_ff (Ws.nil ?_)
      refine Ws.cons ?_
      refine W1.assign hc (We.idx (We.name hc rfl (We.cint ⟨1, rfl, by decide, _, rfl, ?_⟩))) (by intro _ h; cases h)
      refine ⟨.inr rfl, ?_⟩
      refine Ws.nil ?_
      exact ⟨(k, a + n), ⟨by show a + n ≤ _; omega, by show _ < k + (a + n); omega, e2, g4⟩, by walk_at "sub"⟩
  · obtain ⟨k, a⟩ := p
    obtain ⟨g1, g2, g3, g4⟩ := hI
    simp only at g1 g2 g3 g4
    obtain ⟨k, rfl⟩ : ∃ k', k = k' + 1 := ⟨k - 1, by omega⟩
    rw [elems_succ] at g3 g4
    rw [List.length_map, List.drop_eq_nil_of_le (Nat.le_refl _)] at g3
    have hF0 := fnd_ok (l.drop a) fun y hy => hcd y (List.mem_of_mem_drop hy)
    have hres : resD (fnd (l.drop a)) a = foD E.2 := by
      cases hF : fnd (l.drop a) with
      | nothing => rw [hF] at g4; rw [g4]; rfl
      | bad f => rw [hF] at g4; rw [g4]; rfl
      | el u n => rw [hF] at g3; cases g3
    refine Ws.cons (W1.ite (Wt.neD hc ?_))
    walk_at "vc"
    refine ⟨sh_res hF0 _, sh_fo ok2, ?_⟩
    rw [hres, eqv_self (sh_fo ok2)]
    refine ite_ff (Ws.nil ?_)
    refine Ws.cons (W1.ret (We.eqD hc ?_))
    have hsp := sh_split ok1 ok2
    obtain ⟨E1, o⟩ := E
    have hz2 : E1.length ≤ l.length + 1 := by have := elems_len (l.length + 1) l 0; rw [hEE] at this; exact this
    cases o with
    | none =>
      walk_at "vc"
      refine We.compFst hc (rows := E1.map fun e => (S e.1, [.int (e.2:Nat)])) (by show some _ = some _; rw [List.map_map]; rfl) (by rw [List.length_map]; omega) ?_ (by decide) (by decide) rfl (by decide) rfl
      rw [List.map_map, hEE]
      refine ⟨hsp, hsp, ?_⟩
      show PyData.bool ((splitD (E1, none)).eqv (splitD (E1, none))) = _
      rw [eqv_self hsp]
      rename_i hx
      exact Bool.noConfusion (show true = false from hx)
    | some f =>
      walk_at "vc"
      · rename_i hx; exact Bool.noConfusion (show false = true from hx)
      rw [hEE]
      refine ⟨hsp, hsp, ?_⟩
      show PyData.bool ((splitD (E1, some f)).eqv (splitD (E1, some f))) = _
      rw [eqv_self hsp]
end
end

section
set_option maxRecDepth 100000
set_option linter.unusedVariables false
set_option linter.unusedSimpArgs false
open PySem PySem.Spec PySem.Calls PyProof.Rows PySem.W
section
variable {prog : Program} {w : World} {base : Heap}
set_option maxHeartbeats 4000000
set_option pp.maxSteps 200
noncomputable def tD (t : List Nat) : PyData := .str (S t)
noncomputable def s12 : List Nat := [123, 125, 34, 92, 32, 10, 97, 98, 120, 49, 55, 9]
theorem s12_sg : ∀ k ∈ s12, Sg k := fun k hk => sg_of (List.all_eq_true.mp (show (s12.all fun k => decide (k = 32 ∨ k = 9 ∨ k = 10 ∨ k = 11 ∨ k = 12 ∨ k = 13 ∨ k = 123 ∨ k = 125 ∨ k = 34 ∨ k = 92 ∨ k = 97 ∨ k = 98 ∨ k = 120 ∨ k = 49 ∨ k = 55)) = true by decide) k hk)
noncomputable def Gd (ts : List (List Nat)) : Prop := ∀ t ∈ ts, t.length ≤ 14 ∧ ∀ k ∈ t, Sg k
theorem flats_int : ∀ sc : List Int, flat.flats (sc.map .int) = true
  | [] => rfl
  | _ :: r => flats_int r
theorem abs_cast (z : Int) : (if z < 0 then -z else z) = (z.natAbs : Int) := by split <;> omega
local macro_rules | `(tactic| walk_at "vcE") => `(tactic| first
  | ((with_reducible show We _ _ (.Call (.Name "len" _) [.Name "texts" _] _ _) _ _); refine We.lenL (by assumption) ?_)
  | ((with_reducible show We _ _ (.Name "_law_signs" _) _ _); refine We.gstr (y := S s12) (t := 357) (by assumption) (by kernel_rfl) ?_))
theorem texts_ok (gb : Gb (hd.heap_1 w.params) base) (sc : List Int) (hz : sc.length ≤ 63) : Wf prog w base 130 1 [.list (sc.map .int)] (fun d => ∃ ts, d = .list (ts.map tD) ∧ ts ≠ [] ∧ ts.length ≤ 4 ∧ Gd ts) (fun _ => False) := by
  refine Wf.of1 gb (f := 130) rfl (by kernel_rfl) "script" ?_ (hnd := by show (nodict.nodicts (sc.map .int) && true) = true; rw [nodicts_of_flat (flats_int sc)]; rfl)
  intro s0 L outer dp un gd hc
  walk_at "vc"
  rename_i A
  refine W1.forName hc (ds := sc.map .int) rfl (fun i (p : List (List Nat) × List Nat) => Gd p.1 ∧ p.1.length ≤ 3 ∧ p.2.length ≤ 13 ∧ ∀ k ∈ p.2, Sg k)
    (fun p => { vars := [("signs", .str (S p.2)), ("script", .list (sc.map .int))], own := some ⟨"texts", A, p.1.map tD⟩ }) (flats_int sc) ([], []) ⟨fun t ht => (by cases ht), Nat.zero_le _, Nat.zero_le _, fun t ht => (by cases ht)⟩ (by walk_at "sub") rfl (fun its gs i p d hdz hI => ?_) (fun p hI => ?_) (by intro a w h; cases h; show Str.ofString _ ≠ Str.ofString _; decide)
  · obtain ⟨ts, sg⟩ := p
    obtain ⟨g1, g2, g3, g4⟩ := hI
    dsimp only at g1 g2 g3 g4 ⊢
    rw [List.getElem?_map] at hdz
    obtain ⟨z, -, rfl⟩ := Option.map_eq_some_iff.mp hdz
    walk_at "vc"
    rw [abs_cast]
    refine W1.while hc (fun (q : List Nat × Nat × Nat) => q.1.length ≤ 13 + q.2.2 ∧ q.2.2 ≤ 14 ∧ ∀ k ∈ q.1, Sg k)
      (fun q => ({ vars := [("signs", .str (S q.1)), ("rest", .int (q.2.1 : Nat)), ("many", .int (q.2.2 : Nat)), ("number", .int z), ("script", .list (sc.map .int))], own := some ⟨"texts", A, ts.map tD⟩ } : St).with its gs) (fun q => 14 - q.2.2)
      (sg, z.natAbs, 0) ⟨g3, Nat.zero_le _, g4⟩ (by walk_at "sub") (fun q hq => ?_)
    obtain ⟨u, r, m⟩ := q
    obtain ⟨q1, q2, q3⟩ := hq
    dsimp only at q1 q2 q3 ⊢
    refine Wt.mono (Ψ := fun b => b = true → m < 14) ?_ (fun b hb => ?_)
    · walk_at "vc"
      all_goals (intro h; first | omega | (have h := of_decide_eq_true h; omega) | exact Bool.noConfusion h)
    cases b with
    | true =>
      have hm := hb rfl
      refine ite_tt ?_
      walk_at "vc"
      refine ⟨r % 12, (Int.ofNat_fmod r 12).symm, by omega, (show r % 12 < 12 by omega), ?_⟩
      walk_at "vc"
      rw [show Int.fdiv (r : Int) 12 = ((r / 12 : Nat) : Int) from (Int.ofNat_fdiv r 12).symm]
      refine ⟨⟨by decide, PyProof.noPylong_small (by decide)⟩, ?_⟩
      walk_at "vc"
      refine ⟨(u ++ [s12[r % 12]'(show r % 12 < 12 by omega)], r / 12, m + 1), ⟨?_, ?_, ?_⟩, ?_, by walk_at "sub"⟩
      · show (u ++ [_]).length ≤ 13 + (m + 1)
        rw [List.length_append, List.length_singleton]; omega
      · show m + 1 ≤ 14; omega
      · intro k hk
        rcases List.mem_append.mp hk with hk | hk
        · exact q3 k hk
        · rw [List.mem_singleton.mp hk]; exact s12_sg _ (List.getElem_mem _)
      · show 14 - (m + 1) < 14 - m; omega
    | false =>
      refine ite_ff ?_
      refine Ws.join (fun p : List (List Nat) × List Nat => Gd p.1 ∧ p.1.length ≤ 4 ∧ p.2.length ≤ 13 ∧ ∀ k ∈ p.2, Sg k)
        (fun p => ({ vars := [("signs", .str (S p.2)), ("script", .list (sc.map .int))], own := some ⟨"texts", A, p.1.map tD⟩ } : St).with its gs) ?_ (fun p hp => ?_)
      · have hgd : Gd (ts ++ [u.take 14]) := by
          intro t ht
          rcases List.mem_append.mp ht with ht | ht
          · exact g1 t ht
          · rw [List.mem_singleton.mp ht]
            exact ⟨by rw [List.length_take]; omega, fun k hk => q3 k (List.mem_of_mem_take hk)⟩
        have hgl : (ts ++ [u.take 14]).length ≤ 4 := by rw [List.length_append, List.length_singleton]; omega
        have hme : ts.map tD ++ [.str (S (u.take 14))] = (ts ++ [u.take 14]).map tD := by rw [List.map_append]; rfl
        walk_at "vc"
        · rw [show Int.toNat 14 = 14 from rfl, hme]
          exact ⟨(ts ++ [u.take 14], []), ⟨hgd, hgl, Nat.zero_le _, fun t ht => (by cases ht)⟩, by walk_at "sub"⟩
        · rw [show Int.toNat 14 = 14 from rfl, hme]
          exact ⟨(ts ++ [u.take 14], []), ⟨hgd, hgl, Nat.zero_le _, fun t ht => (by cases ht)⟩, by walk_at "sub"⟩
        · rename_i h1 h2
          exact ⟨(ts, u), ⟨g1, by show ts.length ≤ 4; omega, by show u.length ≤ 13; omega, q3⟩, by walk_at "sub"⟩
      · obtain ⟨ts2, sg2⟩ := p
        obtain ⟨p1, p2, p3, p4⟩ := hp
        dsimp only at p1 p2 p3 p4 ⊢
        walk_at "vc"
        refine ⟨by rw [List.length_map]; omega, ?_⟩
        rw [List.length_map]
        walk_at "vc"
        · rename_i h4
          exact ⟨fun h => by subst h; simp at h4, p2, p1⟩
        · rename_i h4
          exact ⟨(ts2, sg2), ⟨p1, by show ts2.length ≤ 3; omega, p3, p4⟩, by walk_at "sub"⟩
  · obtain ⟨ts, sg⟩ := p
    obtain ⟨g1, g2, g3, g4⟩ := hI
    dsimp only at g1 g2 g3 g4 ⊢
    walk_at "vc"
    refine ⟨by rw [List.length_map, sizeLine_eq]; show _ + 1 ≤ _; omega, ts ++ [sg], ?_, by simp, ?_, ?_⟩
    · rw [List.map_append]; rfl
    · rw [List.length_append, List.length_singleton]; omega
    · intro t ht
      rcases List.mem_append.mp ht with ht | ht
      · exact g1 t ht
      · rw [List.mem_singleton.mp ht]; exact ⟨by omega, g4⟩
end
end

section
set_option maxRecDepth 100000
set_option linter.unusedVariables false
set_option linter.unusedSimpArgs false
open PySem PySem.Spec PySem.Calls PyProof.Rows PySem.W
theorem top_join {prog : Program} {w : World} {K : Frag} {s₁ : Shared} {name : Str} {scope : Scope} {fa : Addr} {cd : Value} {h₁ : Heap} {m : Str → Option Value} {tk : Nat} {body : List Stmt} {Q : Flow → Shared → Prop} {E : Value → Shared → Prop} {x : Str} {v : Value} {d : PyData} {as : List Addr}
    (kin : K.In s₁.heap) (top : ∃ p loose mg mb, TopRead p loose mg mb s₁.heap) (F : Fr s₁.heap s₁.heap.objs.size h₁ m) (hm : m x = some v) (hr : Reads s₁.heap v d as) (hnd : nodict d = true) (hk : scope.kind = .function)
    (h : ∀ s0 L outer dp un gd, CxOk (cxOf prog w K s₁.heap name scope fa cd 9 s0 L outer dp un gd) → Ws (cxOf prog w K s₁.heap name scope fa cd 9 s0 L outer dp un gd) { vars := [(x, d)] } body { next := fun _ => False, ret := fun d => d = .bool true } (fun _ => False))
    (hQ : ∀ s', s₁.heap.StaysIn s'.heap → s'.os = s₁.os → s'.gens = s₁.gens → Q (.ret (.bool true)) s') :
    wpAny (model prog w) (callerA.deeper (envOf name scope s₁.heap.objs.size fa cd)) (execs body (envOf name scope s₁.heap.objs.size fa cd)) Q E { heap := h₁, gens := s₁.gens, drawn := s₁.drawn, toks := tk, os := s₁.os } := by
  obtain ⟨p, loose, mg, mb, T⟩ := top
  have hL0 : s₁.heap.get? s₁.heap.objs.size = none := Heap.get?_none_of_le (Nat.le_refl _)
  have hc : CxOk (cxOf prog w K s₁.heap name scope fa cd 9 s₁ s₁.heap.objs.size [] (callerA.depth + 1) (callerA.units + 3) callerA.guards) :=
    ⟨⟨kin, ⟨p, loose, mg, mb, T⟩, T.nolimit⟩, hk, Nat.le_refl _, hL0, .refl _, (show callerA.depth + 1 + 9 ≤ 900 by decide), (show callerA.units + 3 + 8 * 9 ≤ 9000 by decide)⟩
  have kp : Kp s₁.heap h₁ := .keep F.keep
  have o0 : Ok0 (cxOf prog w K s₁.heap name scope fa cd 9 s₁ s₁.heap.objs.size [] (callerA.depth + 1) (callerA.units + 3) callerA.guards) { heap := h₁, gens := s₁.gens, drawn := s₁.drawn, toks := tk, os := s₁.os } :=
    ⟨⟨rfl, rfl, rfl⟩, F.keep, kp, Heap.FunFrames.cons (by show scope.kind ≠ .module; rw [hk]; decide) rfl F.ns hL0 trivial, ⟨_, F.ns⟩⟩
  refine (h s₁ s₁.heap.objs.size [] _ _ _ hc).go _ _ _ ⟨o0, ⟨_, ⟨F.ns, fun y e q => ?_, (fun w e => by cases e), (fun p hp => nomatch hp), fun p hp => nomatch hp⟩⟩⟩ (fun fl s' hp => ?_) fun x v s' tb hx o fl ht => hx.elim
  · by_cases hy : y = x
    · subst hy
      have : some d = some e := by simpa using q
      cases this
      exact ⟨v, as, hm, reads_kp kp hr, hnd, fun w z => nomatch z⟩
    · have : List.lookup y [(x, d)] = none := by rw [List.lookup, beq_false_of_ne hy]; rfl
      rw [this] at q; cases q
  · cases fl with
    | next => obtain ⟨σ, hn, o⟩ := hp; exact hn.elim
    | brk => obtain ⟨σ, hn, _⟩ := hp; exact hn.elim
    | cont => obtain ⟨σ, hn, _⟩ := hp; exact hn.elim
    | ret v =>
      obtain ⟨d', bs, hd, o, r⟩ := hp
      subst hd
      cases r
      exact hQ s' o.stays o.rest.os o.rest.gens
noncomputable def ownL : List (List Nat) := [[32, 123, 97, 32, 123, 98, 125, 92, 125, 120, 125, 9, 34, 97, 92, 34, 92, 10, 9, 32, 98, 34, 32, 92, 120, 49, 98, 55, 92, 49, 55, 49, 55, 92, 55, 55, 49, 92, 97, 92, 98, 92, 120, 120, 92, 123], [49, 32, 123, 97, 125, 98, 98, 98, 98, 98, 98, 98, 98, 98, 98, 98, 98, 98, 98, 98, 98, 98, 98, 98, 98, 98, 98, 98, 98], [34, 97, 34, 120, 32, 49], [98, 32, 123, 97, 92, 125, 123, 125, 92], [97, 32, 34, 98, 92, 34], [11, 97, 12, 34, 34, 13, 120, 34, 123], [123, 125, 120]]
theorem own_reads {w : World} {base : Heap} (gb : Gb (hd.heap_1 w.params) base) {h : Heap} (st : base.StaysIn h) : ∃ as, Reads h (.ref 123) (.tuple (ownL.map tD)) as := by
  have := st _ _ (gb.kin 123 { cls := .type "tuple", data := .seq #[.str (S [32, 123, 97, 32, 123, 98, 125, 92, 125, 120, 125, 9, 34, 97, 92, 34, 92, 10, 9, 32, 98, 34, 32, 92, 120, 49, 98, 55, 92, 49, 55, 49, 55, 92, 55, 55, 49, 92, 97, 92, 98, 92, 120, 120, 92, 123]) 359, .str (S [49, 32, 123, 97, 125, 98, 98, 98, 98, 98, 98, 98, 98, 98, 98, 98, 98, 98, 98, 98, 98, 98, 98, 98, 98, 98, 98, 98, 98]) 360, .str (S [34, 97, 34, 120, 32, 49]) 361, .str (S [98, 32, 123, 97, 92, 125, 123, 125, 92]) 362, .str (S [97, 32, 34, 98, 92, 34]) 363, .str (S [11, 97, 12, 34, 34, 13, 120, 34, 123]) 364, .str (S [123, 125, 120]) 365] } (by kernel_rfl))
  exact ⟨_, .tuple this rfl rfl (.cons (.str _ _) (.cons (.str _ _) (.cons (.str _ _) (.cons (.str _ _) (.cons (.str _ _) (.cons (.str _ _) (.cons (.str _ _) .nil)))))))⟩
theorem own_gd : ∀ t ∈ ownL, t.length ≤ 60 ∧ ∀ k ∈ t, Sg k := by
  have h : (ownL.all fun t => decide (t.length ≤ 60) && t.all fun k => decide (k = 32 ∨ k = 9 ∨ k = 10 ∨ k = 11 ∨ k = 12 ∨ k = 13 ∨ k = 123 ∨ k = 125 ∨ k = 34 ∨ k = 92 ∨ k = 97 ∨ k = 98 ∨ k = 120 ∨ k = 49 ∨ k = 55)) = true := by decide +kernel
  intro t ht
  have := List.all_eq_true.mp h t ht
  rw [Bool.and_eq_true] at this
  exact ⟨of_decide_eq_true this.1, fun k hk => sg_of (List.all_eq_true.mp this.2 k hk)⟩
theorem sg_lt {k : Nat} (h : Sg k) : k < 128 := by unfold Sg at h; omega
theorem sh_els {E : List (List Nat × Nat)} (h : ∀ e ∈ E, ∀ k ∈ e.1, Cd k) : SeqAt.shaped (.list (E.map elD)) = true := by
  have key : PyData.canLayAll0 (E.map elD) = true ∧ PyData.depthAll (E.map elD) ≤ 1 := by
    induction E with
    | nil => exact ⟨rfl, Nat.zero_le _⟩
    | cons e r ih =>
      obtain ⟨i1, i2⟩ := ih fun x hx => h x (.tail _ hx)
      refine ⟨?_, ?_⟩
      · show (PyData.canLay0 (elD e) && PyData.canLayAll0 _) = true
        rw [SeqAt.canLay_of_shaped (sh_el (h e (.head _))), i1]; rfl
      · show max 1 (PyData.depthAll _) ≤ 1
        omega
  unfold SeqAt.shaped
  rw [Bool.and_eq_true]
  refine ⟨key.1, ?_⟩
  show decide (PyData.depthAll _ + 1 ≤ 64) = true
  exact decide_eq_true (by have := key.2; omega)
end

section
set_option maxRecDepth 100000
set_option linter.unusedVariables false
set_option linter.unusedSimpArgs false
open PySem PySem.Spec PySem.Calls PyProof.Rows PySem.W
local macro_rules | `(tactic| walk_at "vcU") => `(tactic| first | refine We.call (f := "_law_texts") (a := 130) (by assumption) (by kernel_rfl) (by kernel_rfl) ?_ | refine We.call (f := "_law_read") (a := 163) (by assumption) (by kernel_rfl) (by kernel_rfl) ?_ | refine We.call (f := "_law_next") (a := 170) (by assumption) (by kernel_rfl) (by kernel_rfl) ?_ | refine We.call (f := "_law_is_read") (a := 182) (by assumption) (by kernel_rfl) (by kernel_rfl) ?_)
local macro_rules | `(tactic| walk_at "vcF") => `(tactic| first | refine Wf.use (read_ok (by assumption) _ (by assumption) (by assumption)) (by decide) ?_ | refine Wf.use (next_ok (by assumption) _ _ (by omega) (by omega)) (by decide) ?_ | refine Wf.use (is_read_ok (by assumption) _ (by assumption) (by assumption) (by assumption)) (by decide) ?_)
theorem flats_tD : ∀ ts : List (List Nat), flat.flats (ts.map tD) = true
  | [] => rfl
  | _ :: r => flats_tD r
set_option maxHeartbeats 8000000 in
set_option pp.maxSteps 400 in
theorem law_holds : PySem.Challenge.rw_np0131_01.Holds := hd (by
  k_fill
  intro w s₀ s₁ mg mb G Y fa o pm cd doc dV kV ho hd hcd hD hmg hg args vals as hpre hlay hrd hwl hlo
  have KX := kIn_of Y
  refine Ground.open G ?_
  intro T B D TE TW
  have TA := at_of_top T
  clear hmg
  wrow_args hpre hlay hrd hwl hlo
  refine enter_call ?_
  w_top on
  refine codeAny_mono ?_ (fun _ _ g => GoodW.toG g)
  have K0 := below_caller (Top.heap T)
  w_call any ho hd hcd hD T F
  clear hd TA
  k_drop
  have gb0 := ‹(hd.heap_1 _).In _›
  refine top_join gb0 ⟨_, _, _, _, topRead_of (by assumption)⟩ (by assumption) (x := "script") rfl (by assumption) (by
    show nodict.nodicts _ = true
    exact nodicts_of_flat (flats_int _)) rfl ?_ ?_
  · intro s0 L outer dp un gd hc
    rename List Int => sc
    have hz : sc.length ≤ 63 := by omega
    have gb := hc.gb
    dsimp only at hc gb ⊢
    refine Ws.cons ?_
    refine W1.assign hc (We.call (f := "_law_texts") (a := 130) hc (by kernel_rfl) (by kernel_rfl) (Was.cons (We.name hc rfl (Was.nil ((texts_ok gb sc hz).imp (show 1 ≤ 9 by decide) (fun d hd => ?_) fun _ hx => hx.elim))))) (by intro _ h; cases h)
    obtain ⟨ts, rfl, hne, hl4, hgd⟩ := hd
    refine ⟨.inl ⟨rfl, nodicts_of_flat (flats_tD ts)⟩, ?_⟩
    refine Ws.cons ?_
    refine W1.forList hc (fun ds i (_ : Unit) => ds = (ownL ++ ts).map tD) (fun _ => { vars := [("texts", .list (ts.map tD))] }) (fun _ => rfl) ?_
    refine We.bin (We.listOf hc (We.glob hc (v := .ref 123) (by kernel_rfl) (fun h st => own_reads gb st) ⟨_, rfl, by decide, We.name hc rfl ⟨?_, _, rfl, ?_, ⟨(), ?_, ?_⟩, ?_, ?_⟩⟩))
    · rw [List.length_map, List.length_map, sizeLine_eq]; show 7 + _ ≤ _; omega
    · rw [← List.map_append]; exact flats_tD _
    · rw [List.map_append]
    · walk_at "sub"
    · intro its gs i u d hd0 hds
      rw [← List.map_append, List.getElem?_map] at hd0
      obtain ⟨t, ht, rfl⟩ := Option.map_eq_some_iff.mp hd0
      have htm : t.length ≤ 60 ∧ ∀ k ∈ t, Sg k := by
        rcases List.mem_append.mp (List.mem_of_getElem? ht) with q | q
        · exact own_gd t q
        · exact ⟨Nat.le_trans (hgd t q).1 (by decide), (hgd t q).2⟩
      have hz1 : t.length ≤ 900 := Nat.le_trans htm.1 (by decide)
      have hasc : ∀ k ∈ t, k < 128 := fun k hk => sg_lt (htm.2 k hk)
      have hE := read_elems htm.2
      clear hd0 hds htm
      unfold tD
      walk_at "vc"
      exact ⟨(), by rw [List.map_append], by walk_at "sub"⟩
    · intro u hu
      obtain ⟨t0, tr, rfl⟩ := List.exists_cons_of_ne_nil hne
      refine Ws.join (fun v : List Nat => v.length ≤ 14 ∧ ∀ k ∈ v, Sg k) (fun v => { vars := [("text", .str (S v)), ("texts", .list ((t0 :: tr).map tD))] }) ?_ (fun v hv => ?_)
      · have h0 := hgd t0 (.head _)
        refine W1.assign hc (We.ite (Wt.cmp (We.idx (We.name hc rfl (We.cint ⟨0, rfl, by decide, _, rfl, We.cstrK .o0 ?_⟩))))) (by intro _ h; cases h)
        show CmpP .NotEq (.str (S t0)) (.str (S [])) _
        walk_at "vc"
        · exact ⟨t0, h0, by walk_at "sub"⟩
        · exact ⟨[34, 123, 97, 125, 92, 10, 32, 98, 34, 32, 120, 49, 125], ⟨by decide, fun k hk => sg_of (List.all_eq_true.mp (show ([34, 123, 97, 125, 92, 10, 32, 98, 34, 32, 120, 49, 125].all fun k => decide (k = 32 ∨ k = 9 ∨ k = 10 ∨ k = 11 ∨ k = 12 ∨ k = 13 ∨ k = 123 ∨ k = 125 ∨ k = 34 ∨ k = 92 ∨ k = 97 ∨ k = 98 ∨ k = 120 ∨ k = 49 ∨ k = 55)) = true by decide) k hk)⟩, by walk_at "sub"⟩
      obtain ⟨v1, v2⟩ := hv
      refine Ws.cons ?_
      refine W1.forRange hc (fun n i (_ : Unit) => n = v.length + 1) (fun _ => { vars := [("text", .str (S v))] }) (by intro a w h; cases h) ?_
      walk_at "vc"
      refine ⟨⟨(), rfl, by walk_at "sub"⟩, fun its gs i _ hi hn => ?_, fun _ _ => ?_⟩
      · have hzd : (v.drop i).length ≤ 900 := by rw [List.length_drop]; omega
        have hsd : ∀ k ∈ v.drop i, Sg k := fun k hk => v2 k (List.mem_of_mem_drop hk)
        have hda : ∀ k ∈ v.drop i, k < 128 := fun k hk => sg_lt (hsd k hk)
        have hcd : ∀ k ∈ v.drop i, Cd k := fun k hk => Nat.lt_trans (hda k hk) (by decide)
        have hE := read_elems hsd
        obtain ⟨ok1, ok2⟩ := elems_ok ((v.drop i).length + 1) (v.drop i) 0 hcd
        obtain ⟨F, hF⟩ : ∃ F, fnd (v.drop i) = F := ⟨_, rfl⟩
        have hF0 := fnd_ok (v.drop i) hcd
        walk_at "vc"
        rw [Int.toNat_natCast, hE]
        refine ⟨.inl ⟨rfl, nd_read _ _⟩, ?_⟩
        rw [elems_succ, List.drop_zero, hF] at ok1 ok2 ⊢
        rw [hF] at hF0
        refine Ws.join (fun _ : Unit => True) (fun _ => ({ vars := [("text", .str (S v)), ("at", .int i), ("due", resD F i)] } : St).with its gs) ?_ (fun _ _ => ?_)
        · refine W1.assign hc (We.ite (Wt.neD hc ?_)) (by intro _ h; cases h)
          cases F with
          | nothing =>
            walk_at "vc"
            exact ⟨(), trivial, by walk_at "sub"⟩
          | bad f =>
            walk_at "vc"
            exact ⟨(), trivial, by walk_at "sub"⟩
          | el u n =>
            walk_at "vc"
            refine ⟨sh_els ok1, rfl, ?_⟩
            refine ite_tt ?_
            refine We.tuple (Was.cons (We.idx (We.idx (We.name hc rfl (We.cint ⟨0, rfl, by decide, elD (u, 0 + n), rfl, We.cint ⟨0, rfl, by decide, .str (S u), rfl, ?_⟩⟩)))))
            refine Was.cons (We.bin (We.idx (We.idx (We.name hc rfl (We.cint ⟨0, rfl, by decide, elD (u, 0 + n), rfl, We.cint ⟨1, rfl, by decide, .int ((0 + n : Nat) : Int), rfl, We.name hc rfl ?_⟩⟩)))))
            dsimp only [BinP, ListP, TwoP]
            rw [show ((0 + n : Nat) : Int) + (i : Int) = ((i + n : Nat) : Int) from by omega]
            walk_at "vc"
            exact ⟨(), trivial, by walk_at "sub"⟩
        · refine Ws.cons (W1.ite (Wt.neD hc ?_))
          walk_at "vc"
          rw [hF]
          refine ⟨sh_res hF0 _, sh_res hF0 _, ?_⟩
          rw [eqv_self (sh_res hF0 _)]
          refine ite_ff (Ws.nil ?_)
          refine Ws.nil ?_
          exact ⟨(), hn, by walk_at "sub"⟩
      · walk_at "vc"
  · intro s' st hos hg
    show GoodW _ _ _ _ _ (.ok (.ret (.bool true))) _
    refine ⟨.inl ⟨_, _, _, rfl, raisesW_false ?_, .bool true, ?_, unshared_nil⟩, st, hos, hg.trans (by assumption)⟩
    · wrow_none_raised
    · wrow_post)
end

end Mine
set_option maxRecDepth 100000 in
set_option maxHeartbeats 8000000 in
theorem PySem.Challenge.cw_np0131_01_holds : PySem.Challenge.rw_np0131_01.Holds := by
  exact Mine.law_holds
