import PyProof.Rows.All
import Wide.All
import OpenK.AllK
import Wide.FinOn
import HandS.ForMost
import HandS.ForExc
import HandS.Steps
import HandS.ExcInit
import HandS.Property
import HandS.HeadNt
import HandS.HeadEnd
import HandS.Head0
import HandS.Head1
import HandS.Head2
import HandS.GenList
import PyProof.EnumMake
import HandS.EndBits
import HandS.Evl
import HandS.Iter
import HandS.Comp
import HandS.Codes
import PyProof.Rows.StrIntSpec
import HandS.Defaults
import HandS.TryOnly
import HandS.IsInst
import HandS.TupAny
import HandS.WordsExc
import HandS.ExcOwn
import PySem.Challenge.RW_formsalike_k49_whole_sexp_canonical
set_option Elab.async false
/-! ## SxRead -/
section
set_option maxRecDepth 100000
/-! The mirror of the reader, the writer, base64, in plain Lean; no program in sight. -/
namespace Sx

/-- a value of S-expressions -/
inductive T where
  | leaf (xs : List Int)
  | node (ts : List T)

def isSpace (c : Int) : Bool := decide (c = 32) || (decide (9 ≤ c) && decide (c ≤ 13))
def isDigit (c : Int) : Bool := decide (48 ≤ c) && decide (c ≤ 57)
def signs : List Int := [42, 43, 45, 46, 47, 58, 61, 95]
def begTok (c : Int) : Bool := (decide (65 ≤ c) && decide (c ≤ 90)) || ((decide (97 ≤ c) && decide (c ≤ 122)) || decide (c ∈ signs))
def inTok (c : Int) : Bool := begTok c || isDigit c
def hexW (c : Int) : Int :=
  if 48 ≤ c ∧ c ≤ 57 then c - 48 else if 65 ≤ c ∧ c ≤ 70 then c - 55 else if 97 ≤ c ∧ c ≤ 102 then c - 87 else -1
def escapes : List (Int × Int) := [(98, 8), (116, 9), (118, 11), (110, 10), (102, 12), (114, 13), (34, 34), (39, 39), (92, 92), (63, 63)]
def escd (c : Int) : Int :=
  if c = 98 then 8 else if c = 116 then 9 else if c = 118 then 11 else if c = 110 then 10 else if c = 102 then 12
  else if c = 114 then 13 else if c = 34 then 34 else if c = 39 then 39 else if c = 92 then 92 else if c = 63 then 63 else -1

theorem isSpace_iff {c : Int} : isSpace c = true ↔ (c = 32 ∨ (9 ≤ c ∧ c ≤ 13)) := by simp [isSpace]
theorem isDigit_iff {c : Int} : isDigit c = true ↔ (48 ≤ c ∧ c ≤ 57) := by simp [isDigit]
theorem begTok_iff {c : Int} : begTok c = true ↔ ((65 ≤ c ∧ c ≤ 90) ∨ (97 ≤ c ∧ c ≤ 122) ∨ c = 42 ∨ c = 43 ∨ c = 45 ∨ c = 46 ∨ c = 47 ∨ c = 58 ∨ c = 61 ∨ c = 95) := by
  simp [begTok, signs]
theorem inTok_iff {c : Int} : inTok c = true ↔ ((65 ≤ c ∧ c ≤ 90) ∨ (97 ≤ c ∧ c ≤ 122) ∨ c = 42 ∨ c = 43 ∨ c = 45 ∨ c = 46 ∨ c = 47 ∨ c = 58 ∨ c = 61 ∨ c = 95 ∨ (48 ≤ c ∧ c ≤ 57)) := by
  unfold inTok
  rw [Bool.or_eq_true, begTok_iff, isDigit_iff]
  omega
theorem isSpace_not {c : Int} : isSpace c = false ↔ ¬ (c = 32 ∨ (9 ≤ c ∧ c ≤ 13)) := by
  rw [← isSpace_iff]; cases isSpace c <;> simp
theorem isDigit_not {c : Int} : isDigit c = false ↔ ¬ (48 ≤ c ∧ c ≤ 57) := by
  rw [← isDigit_iff]; cases isDigit c <;> simp
theorem inTok_not {c : Int} : inTok c = false ↔ ¬ ((65 ≤ c ∧ c ≤ 90) ∨ (97 ≤ c ∧ c ≤ 122) ∨ c = 42 ∨ c = 43 ∨ c = 45 ∨ c = 46 ∨ c = 47 ∨ c = 58 ∨ c = 61 ∨ c = 95 ∨ (48 ≤ c ∧ c ≤ 57)) := by
  rw [← inTok_iff]; cases inTok c <;> simp
theorem begTok_not {c : Int} : begTok c = false ↔ ¬ ((65 ≤ c ∧ c ≤ 90) ∨ (97 ≤ c ∧ c ≤ 122) ∨ c = 42 ∨ c = 43 ∨ c = 45 ∨ c = 46 ∨ c = 47 ∨ c = 58 ∨ c = 61 ∨ c = 95) := by
  rw [← begTok_iff]; cases begTok c <;> simp

/-! ### reading: functions of what is left of the text -/
def pk : List Int → Int
  | [] => -1
  | c :: _ => c
def skip (r : List Int) : List Int := r.dropWhile isSpace
def cnt : Int → Bool → List Int → Int × List Int
  | n, _, [] => (n, [])
  | n, f, c :: r => if (isDigit c && (decide (0 < n) || f)) = true then cnt (n * 10 + c - 48) false r else (n, c :: r)
def counted (r : List Int) : Option (List Int × List Int) :=
  if pk (cnt 0 true r).2 = 58 then
    if (cnt 0 true r).1 ≤ ((cnt 0 true r).2.tail.length : Int) then some ((cnt 0 true r).2.tail.take (cnt 0 true r).1.toNat, (cnt 0 true r).2.tail.drop (cnt 0 true r).1.toNat) else none
  else none
def token (r : List Int) : List Int × List Int := (r.takeWhile inTok, r.dropWhile inTok)
def hexd (r : List Int) : Option (Int × List Int) := if hexW (pk r) < 0 then none else some (hexW (pk r), r.tail)
def octs : Nat → Int → List Int → Option (Int × List Int)
  | 0, w, r => some (w, r)
  | k + 1, w, r => if 48 ≤ pk r ∧ pk r ≤ 55 then octs k (w * 8 + pk r - 48) r.tail else none
def esc (r : List Int) : Option (List Int × List Int) :=
  if 0 ≤ escd (pk r) then some ([escd (pk r)], r.tail)
  else if pk r = 10 then some ([], r.tail)
  else if 48 ≤ pk r ∧ pk r ≤ 51 then (octs 3 0 r).map fun p => ([p.1], p.2)
  else if pk r ≠ 120 then none
  else (hexd r.tail).bind fun p => (hexd p.2).map fun q => ([p.1 * 16 + q.1], q.2)
def quo : Nat → List Int → List Int → Option (List Int × List Int)
  | 0, _, _ => none
  | n + 1, acc, r =>
    if pk r = 34 then some (acc, r.tail)
    else if pk r = 92 then (esc r.tail).bind fun p => quo n (acc ++ p.1) p.2
    else if 32 ≤ pk r ∧ pk r ≤ 126 then quo n (acc ++ [pk r]) r.tail
    else none
def hexs : Nat → List Int → List Int → Option (List Int × List Int)
  | 0, _, _ => none
  | n + 1, acc, r =>
    if pk r = 35 then some (acc, r.tail)
    else (hexd r).bind fun p => (hexd (skip p.2)).bind fun q => hexs n (acc ++ [p.1 * 16 + q.1]) (skip q.2)

/-! base64, digit by digit -/
def worth (c : Int) : Int :=
  if 65 ≤ c ∧ c ≤ 90 then c - 65 else if 97 ≤ c ∧ c ≤ 122 then c - 71 else if 48 ≤ c ∧ c ≤ 57 then c + 4
  else if c = 43 then 62 else if c = 47 then 63 else -1
structure B where
  octets : List Int
  digits : Int
  pads : Int
  bits : Int
  rest : Int
def B0 : B := ⟨[], 0, 0, 0, 0⟩
def B.whole (b : B) : Bool := decide ((b.digits + b.pads) % 4 = 0)
def B.digit (b : B) (d : Int) : B :=
  if 8 ≤ b.bits + 6 then
    { octets := b.octets ++ [(b.rest * 64 + d) / 2 ^ (b.bits + 6 - 8).toNat], digits := b.digits + 1, pads := b.pads, bits := b.bits + 6 - 8, rest := (b.rest * 64 + d) % 2 ^ (b.bits + 6 - 8).toNat }
  else { octets := b.octets, digits := b.digits + 1, pads := b.pads, bits := b.bits + 6, rest := b.rest * 64 + d }
def B.pad (b : B) : Option B :=
  if b.digits % 4 + b.pads < 2 ∨ 3 < b.digits % 4 + b.pads ∨ b.rest ≠ 0 then none else some { b with pads := b.pads + 1 }
def B.take (b : B) (c : Int) : Option B :=
  if c = 61 then b.pad else if worth c < 0 ∨ 0 < b.pads then none else some (b.digit (worth c))
def bars : Nat → B → List Int → Option (List Int × List Int)
  | 0, _, _ => none
  | n + 1, b, r =>
    if pk r = 124 ∧ b.whole = true then some (b.octets, r.tail)
    else (b.take (pk r)).bind fun b' => bars n b' (skip r.tail)

def atom (r : List Int) : Option (List Int × List Int) :=
  if isDigit (pk r) = true then counted r
  else if begTok (pk r) = true then some (token r)
  else if pk r = 34 then quo (r.length + 1) [] r.tail
  else if pk r = 35 then hexs (r.length + 1) [] (skip r.tail)
  else if pk r = 124 then bars (r.length + 1) B0 (skip r.tail)
  else none
def items (pv : List Int → Option (T × List Int)) : Nat → List Int → Option (List T × List Int)
  | 0, _ => none
  | n + 1, r => if pk r = 41 then some ([], r.tail) else (pv r).bind fun p => (items pv n (skip p.2)).map fun q => (p.1 :: q.1, q.2)
def pval : Nat → List Int → Option (T × List Int)
  | 0, r => if pk r ≠ 40 then (atom r).map fun p => (.leaf p.1, p.2) else none
  | l + 1, r => if pk r ≠ 40 then (atom r).map fun p => (.leaf p.1, p.2) else (items (pval l) (r.length + 1) (skip r.tail)).map fun q => (.node q.1, q.2)
def readF (os : List Int) : Option T := (pval 24 (skip os)).bind fun p => if skip p.2 = [] then some p.1 else none

/-! ### depth, weight, writing -/
def Dep : Nat → T → Prop
  | _, .leaf _ => True
  | 0, .node _ => False
  | l + 1, .node ts => ∀ t ∈ ts, Dep l t
mutual
def wt : T → Nat
  | .leaf xs => xs.length + 8
  | .node ts => wts ts + 8
def wts : List T → Nat
  | [] => 0
  | t :: ts => wt t + wts ts
end
/-- the decimal digits, as octets -/
def dec (n : Nat) : List Int := if h : n < 10 then [48 + (n : Int)] else dec (n / 10) ++ [48 + ((n % 10 : Nat) : Int)]
termination_by n
decreasing_by omega
mutual
def wr : T → List Int
  | .leaf xs => dec xs.length ++ 58 :: xs
  | .node ts => 40 :: (wrs ts ++ [41])
def wrs : List T → List Int
  | [] => []
  | t :: ts => wr t ++ wrs ts
end

/-! ### small facts -/
theorem pk_cons {c : Int} {r : List Int} : pk (c :: r) = c := rfl
theorem skip_cons_not {c : Int} {r : List Int} (h : isSpace c = false) : skip (c :: r) = c :: r := by
  unfold skip; rw [List.dropWhile_cons, h]; rfl
theorem skip_cons {c : Int} {r : List Int} (h : isSpace c = true) : skip (c :: r) = skip r := by
  unfold skip; rw [List.dropWhile_cons, h]; rfl
theorem skip_nil : skip [] = [] := rfl
def AllSp (e : List Int) : Prop := ∀ c ∈ e, isSpace c = true
theorem skip_all : ∀ {e : List Int} {X : List Int}, AllSp e → skip (e ++ X) = skip X
  | [], _, _ => rfl
  | c :: e, X, h => by
    rw [List.cons_append, skip_cons (h c List.mem_cons_self)]
    exact skip_all fun x hx => h x (List.mem_cons_of_mem _ hx)
theorem skip_le : ∀ (r : List Int), (skip r).length ≤ r.length
  | [] => Nat.le_refl _
  | c :: r => by
    cases h : isSpace c with
    | true => rw [skip_cons h, List.length_cons]; have := skip_le r; omega
    | false => rw [skip_cons_not h]; exact Nat.le_refl _
theorem skip_skip : ∀ (r : List Int), skip (skip r) = skip r
  | [] => rfl
  | c :: r => by
    cases h : isSpace c with
    | true => rw [skip_cons h]; exact skip_skip r
    | false => rw [skip_cons_not h, skip_cons_not h]
theorem pk_pos {r : List Int} (h : pk r ≠ -1) : ∃ c r', r = c :: r' := by
  cases r with
  | nil => exact absurd rfl h
  | cons c r' => exact ⟨c, r', rfl⟩
theorem tail_lt {r : List Int} (h : pk r ≠ -1) : r.tail.length + 1 = r.length := by
  obtain ⟨c, r', rfl⟩ := pk_pos h; rfl

/-! ### decimal digits are read again -/
theorem dec_small {n : Nat} (h : n < 10) : dec n = [48 + (n : Int)] := by rw [dec, dif_pos h]
theorem dec_big {n : Nat} (h : ¬ n < 10) : dec n = dec (n / 10) ++ [48 + ((n % 10 : Nat) : Int)] := by rw [dec, dif_neg h]
theorem cnt_dec (n : Nat) : 0 < n → ∀ (r : List Int), cnt 0 true (dec n ++ r) = cnt n false r := by
  induction n using Nat.strongRecOn with
  | ind n ih =>
    intro hn r
    by_cases h : n < 10
    · rw [dec_small h]
      show cnt 0 true ((48 + (n : Int)) :: r) = _
      have hd : isDigit (48 + (n : Int)) = true := isDigit_iff.mpr (by omega)
      rw [cnt, hd]
      have e : (0 * 10 + (48 + (n : Int)) - 48) = n := by omega
      simp only [Bool.or_true, Bool.and_self, if_true, e]
    · rw [dec_big h, List.append_assoc, ih (n / 10) (by omega) (by omega)]
      show cnt ((n / 10 : Nat) : Int) false ((48 + ((n % 10 : Nat) : Int)) :: r) = _
      have hd : isDigit (48 + ((n % 10 : Nat) : Int)) = true := isDigit_iff.mpr (by omega)
      have hp : decide ((0 : Int) < ((n / 10 : Nat) : Int)) = true := decide_eq_true (by omega)
      rw [cnt, hd, hp]
      have e : (((n / 10 : Nat) : Int) * 10 + (48 + ((n % 10 : Nat) : Int)) - 48) = n := by omega
      simp only [Bool.or_false, Bool.and_self, if_true, e]
theorem cnt_stop {n : Int} {f : Bool} {c : Int} {r : List Int} (h : isDigit c = false) : cnt n f (c :: r) = (n, c :: r) := by
  rw [cnt, h]; rfl
theorem cnt_written (n : Nat) (r : List Int) : cnt 0 true (dec n ++ 58 :: r) = ((n : Int), 58 :: r) := by
  have h58 : isDigit 58 = false := rfl
  by_cases h : 0 < n
  · rw [cnt_dec n h, cnt_stop h58]
  · have e : n = 0 := by omega
    subst e
    rw [dec_small (by omega)]
    show cnt 0 true (48 :: 58 :: r) = _
    rw [cnt]
    have hd : isDigit 48 = true := rfl
    rw [hd]
    show cnt _ false (58 :: r) = _
    rw [cnt_stop h58]; rfl
theorem dec_head (n : Nat) : ∃ c r, dec n = c :: r ∧ 48 ≤ c ∧ c ≤ 57 := by
  induction n using Nat.strongRecOn with
  | ind n ih =>
    by_cases h : n < 10
    · exact ⟨_, [], dec_small h, by omega, by omega⟩
    · obtain ⟨c, r, e, h1, h2⟩ := ih (n / 10) (by omega)
      exact ⟨c, r ++ [_], by rw [dec_big h, e]; rfl, h1, h2⟩
theorem counted_written (xs r : List Int) : counted (dec xs.length ++ 58 :: (xs ++ r)) = some (xs, r) := by
  unfold counted
  rw [cnt_written]
  simp only [pk_cons, List.tail_cons, if_true, Int.toNat_natCast, List.length_append]
  rw [if_pos (by omega), List.take_left, List.drop_left]
theorem atom_written (xs r : List Int) : atom (dec xs.length ++ 58 :: (xs ++ r)) = some (xs, r) := by
  obtain ⟨c, q, e, h1, h2⟩ := dec_head xs.length
  unfold atom
  have hp : pk (dec xs.length ++ 58 :: (xs ++ r)) = c := by rw [e]; rfl
  rw [hp, if_pos (isDigit_iff.mpr ⟨h1, h2⟩), counted_written]

/-! ### what is written is read -/
theorem wr_head (t : T) (r : List Int) : ∃ c q, wr t ++ r = c :: q ∧ (c = 40 ∨ (48 ≤ c ∧ c ≤ 57)) := by
  cases t with
  | leaf xs =>
    obtain ⟨c, q, e, h1, h2⟩ := dec_head xs.length
    refine ⟨c, q ++ 58 :: xs ++ r, ?_, .inr ⟨h1, h2⟩⟩
    rw [wr, e]; simp
  | node ts => exact ⟨40, wrs ts ++ [41] ++ r, by rw [wr]; simp, .inl rfl⟩
theorem skip_wr (t : T) (r : List Int) : skip (wr t ++ r) = wr t ++ r := by
  obtain ⟨c, q, e, h⟩ := wr_head t r
  rw [e]
  exact skip_cons_not (isSpace_not.mpr (by omega))
theorem items_wrs {l : Nat} (ih : ∀ t r, Dep l t → pval l (wr t ++ r) = some (t, r)) : ∀ (ts : List T) (n : Nat) (r : List Int), (∀ t ∈ ts, Dep l t) → ts.length < n →
    items (pval l) n (skip (wrs ts ++ 41 :: r)) = some (ts, r)
  | [], n, r, _, hn => by
    obtain ⟨m, rfl⟩ : ∃ m, n = m + 1 := ⟨n - 1, by simp at hn; omega⟩
    rw [wrs, List.nil_append, skip_cons_not rfl, items, if_pos (pk_cons)]; rfl
  | t :: ts, n, r, hd, hn => by
    obtain ⟨m, rfl⟩ : ∃ m, n = m + 1 := ⟨n - 1, by simp at hn; omega⟩
    rw [wrs, List.append_assoc, skip_wr, items]
    have hp : ¬ pk (wr t ++ (wrs ts ++ 41 :: r)) = 41 := by
      obtain ⟨c, q, e, h⟩ := wr_head t (wrs ts ++ 41 :: r)
      rw [e, pk_cons]; omega
    rw [if_neg hp, ih t _ (hd t List.mem_cons_self), Option.bind_some, items_wrs ih ts m r (fun x hx => hd x (List.mem_cons_of_mem _ hx)) (by simp at hn; omega)]
    rfl
theorem wrs_len : ∀ ts : List T, ts.length ≤ (wrs ts).length
  | [] => Nat.le_refl _
  | t :: ts => by
    have h := wrs_len ts
    obtain ⟨c, q, e, _⟩ := wr_head t []
    rw [List.append_nil] at e
    rw [wrs, List.length_append, e, List.length_cons, List.length_cons]
    omega
theorem pval_wr : ∀ (l : Nat) (t : T) (r : List Int), Dep l t → pval l (wr t ++ r) = some (t, r)
  | l, .leaf xs, r, _ => by
    obtain ⟨c, q, e, h1, h2⟩ := dec_head xs.length
    have e2 : wr (.leaf xs) ++ r = dec xs.length ++ 58 :: (xs ++ r) := by rw [wr]; simp
    have hp : pk (dec xs.length ++ 58 :: (xs ++ r)) ≠ 40 := by rw [e, List.cons_append, pk_cons]; omega
    rw [e2]
    cases l with
    | zero => rw [pval, if_pos hp, atom_written]; rfl
    | succ l => rw [pval, if_pos hp, atom_written]; rfl
  | 0, .node _, _, h => h.elim
  | l + 1, .node ts, r, h => by
    have e2 : wr (.node ts) ++ r = 40 :: (wrs ts ++ 41 :: r) := by rw [wr]; simp
    rw [e2, pval, if_neg (by simp [pk_cons]), List.tail_cons, items_wrs (fun t r hd => pval_wr l t r hd) ts _ r h]
    · rfl
    · have := wrs_len ts
      simp only [List.length_cons, List.length_append]
      omega
theorem read_wr {t : T} (h : Dep 24 t) : readF (wr t) = some t := by
  have e : wr t = wr t ++ [] := (List.append_nil _).symm
  unfold readF
  rw [e, skip_wr, pval_wr 24 t [] h]
  rfl
theorem wr_inj {t u : T} (ht : Dep 24 t) (hu : Dep 24 u) (e : wr t = wr u) : t = u := by
  have h := read_wr ht
  rw [e, read_wr hu] at h
  exact (Option.some.inj h).symm

/-! ### the depth of what is read -/
theorem dep_items {l : Nat} (ih : ∀ r t r', pval l r = some (t, r') → Dep l t) : ∀ (n : Nat) (r : List Int) (ts : List T) (r' : List Int), items (pval l) n r = some (ts, r') → ∀ t ∈ ts, Dep l t
  | 0, _, _, _, h => by simp [items] at h
  | n + 1, r, ts, r', h => by
    rw [items] at h
    by_cases c : pk r = 41
    · rw [if_pos c] at h
      obtain ⟨rfl, _⟩ := Prod.mk.inj (Option.some.inj h)
      intro t ht; simp at ht
    · rw [if_neg c] at h
      obtain ⟨p, hp, h⟩ := Option.bind_eq_some_iff.mp h
      obtain ⟨q, hq, h⟩ := Option.map_eq_some_iff.mp h
      obtain ⟨rfl, _⟩ := Prod.mk.inj h
      intro t ht
      rcases List.mem_cons.mp ht with rfl | ht
      · exact ih r p.1 p.2 hp
      · exact dep_items ih n _ q.1 q.2 hq t ht
theorem dep_pval : ∀ (l : Nat) (r : List Int) (t : T) (r' : List Int), pval l r = some (t, r') → Dep l t
  | 0, r, t, r', h => by
    rw [pval] at h
    by_cases c : pk r ≠ 40
    · rw [if_pos c] at h
      obtain ⟨q, hq, h⟩ := Option.map_eq_some_iff.mp h
      obtain ⟨rfl, _⟩ := Prod.mk.inj h
      trivial
    · rw [if_neg c] at h; cases h
  | l + 1, r, t, r', h => by
    rw [pval] at h
    by_cases c : pk r ≠ 40
    · rw [if_pos c] at h
      obtain ⟨q, hq, h⟩ := Option.map_eq_some_iff.mp h
      obtain ⟨rfl, _⟩ := Prod.mk.inj h
      trivial
    · rw [if_neg c] at h
      obtain ⟨q, hq, h⟩ := Option.map_eq_some_iff.mp h
      obtain ⟨rfl, _⟩ := Prod.mk.inj h
      exact dep_items (fun r t r' => dep_pval l r t r') _ _ q.1 q.2 hq
theorem dep_read {os : List Int} {t : T} (h : readF os = some t) : Dep 24 t := by
  obtain ⟨p, hp, h⟩ := Option.bind_eq_some_iff.mp h
  by_cases c : skip p.2 = []
  · rw [if_pos c] at h
    cases Option.some.inj h
    exact dep_pval 24 _ p.1 p.2 hp
  · rw [if_neg c] at h; cases h
end Sx
end
/-! ## Hd0 -/
section
set_option maxRecDepth 100000
set_option maxHeartbeats 2000000
set_option linter.all false
/-! Small readings. The defs over ints. -/
namespace Hd
open PySem PySem.Spec PyProof.Rows L2
def top (i : Nat) : Stmt := PySem.Challenge.pw_formsalike_k49_whole_sexp_canonical.main.body.getD i (.Pass ⟨0, 0, 0, 0⟩)
abbrev rLe : R2 := rI0 fun i j => .bl (decide (i ≤ j))
abbrev rLt : R2 := rI0 fun i j => .bl (decide (i < j))
abbrev rAdd : R2 := rI0 fun i j => .int (i + j)
abbrev rSub : R2 := rI0 fun i j => .int (i - j)
section
variable {σ : L2.St} {H : Hp} {ta tb tc : TE} {c n m : Int} {x y : Bool} {i : Nat} {D : Ends} {t1 t2 : TS} {tt : TT}
theorem val_rng (h : Val tb σ H (.int c)) : Val (tChain rLe rLe (tC (.int n)) tb (tC (.int m))) σ H (.bl (decide (n ≤ c) && decide (c ≤ m))) := fun Q q => by
  refine h _ ⟨_, _, rfl, rfl, _, rfl, ?_⟩
  by_cases h1 : n ≤ c
  · rw [if_pos (decide_eq_true h1)]
    rw [decide_eq_true h1, Bool.true_and] at q
    exact ⟨_, _, rfl, rfl, q⟩
  · rw [if_neg (by rw [decide_eq_false h1]; exact Bool.false_ne_true)]
    rw [decide_eq_false h1, Bool.false_and] at q
    exact q
theorem val_or (ha : Val ta σ H (.bl x)) (hb : Val tb σ H (.bl y)) : Val (tOrV ta tb) σ H (.bl (x || y)) := fun Q q => by
  refine ha _ ⟨_, rfl, ?_⟩
  cases x with
  | true => exact iteT q
  | false => exact iteF (hb _ q)
theorem val_and (ha : Val ta σ H (.bl x)) (hb : Val tb σ H (.bl y)) : Val (tAndV ta tb) σ H (.bl (x && y)) := fun Q q => by
  refine ha _ ⟨_, rfl, ?_⟩
  cases x with
  | true => exact iteT (hb _ q)
  | false => exact iteF q
theorem val_eqI (ha : Val ta σ H (.int c)) (hb : Val tb σ H (.int n)) : Val (tOp rEq ta tb) σ H (.bl (decide (c = n))) := val_op ha hb fun Q q => ⟨rfl, by
  have e : decide (V.int c = V.int n) = decide (c = n) := by rw [Bool.eq_iff_iff]; simp
  rw [e]; exact q⟩
theorem val_neI (ha : Val ta σ H (.int c)) (hb : Val tb σ H (.int n)) : Val (tOp rNe ta tb) σ H (.bl (!decide (c = n))) := val_op ha hb fun Q q => ⟨rfl, by
  have e : decide (V.int c = V.int n) = decide (c = n) := by rw [Bool.eq_iff_iff]; simp
  rw [e]; exact q⟩
theorem val_i0 {g : Int → Int → V} (ha : Val ta σ H (.int c)) (hb : Val tb σ H (.int n)) : Val (tOp (rI0 g) ta tb) σ H (g c n) := val_op ha hb fun Q q => ⟨_, _, rfl, rfl, q⟩
theorem val_neg (ha : Val ta σ H (.int c)) : Val (tUn (rU fun i => .int (-i)) ta) σ H (.int (-c)) := fun Q q => ha _ ⟨_, rfl, q⟩
theorem ans_test (h : Val ta σ H (.bl x)) : Ans (tTest ta) σ H x := fun Q q => h _ ⟨_, rfl, q⟩
theorem st_if (h : Ans tt σ H x) (h1 : x = true → t1 D σ H) (h2 : x = false → t2 D σ H) : tIfS tt t1 t2 D σ H := by
  cases x with
  | true => exact st_yes h (h1 rfl)
  | false => exact st_no h (h2 rfl)
end
/-- one int to a value, the heap as it is -/
def sp1 (g : Int → V) : Sp := fun vs H Q _ => ∃ c : Int, vs = [.int c] ∧ Q (g c) H
theorem len1 {g : Int → V} {x : Str} : ∀ vs H Q E, sp1 g vs H Q E → vs.length = ([x] : List Str).length := fun vs H Q E h => by
  obtain ⟨c, rfl, _⟩ := h
  rfl
theorem val_call1 {σ : L2.St} {H : Hp} {ta : TE} {g : Int → V} {c : Int} {E : XK} (h : Val ta σ H (.int c)) : Val (tCall (sp1 g) [] E (tCons ta tNil)) σ H (g c) := fun Q q => h _ ⟨c, rfl, q⟩
/-- a tuple of two ints at an address of the module's own -/
structure Consts (K : PySem.W.Frag) (mg : Str → Option Value) : Prop where
  signs : ∃ a : Addr, mg "SIGNS" = some (.ref a) ∧ ∀ H, SqT K H a (Sx.signs.map V.int)
  escapes : ∃ (a : Addr) (es : List Addr), mg "ESCAPES" = some (.ref a) ∧ (∀ H, SqT K H a (es.map V.ref)) ∧ es.length = 10 ∧ ∀ (i : Nat) (e : Addr) (p : Int × Int), es[i]? = some e → Sx.escapes[i]? = some p → ∀ H, SqT K H e [.int p.1, .int p.2]
theorem inV_ints (c : Int) : ∀ (l : List Int), inV (.int c) (l.map V.int) = decide (c ∈ l) := by
  intro l
  induction l with
  | nil => simp [inV]
  | cons x l ih =>
    have e : eqV (V.int x) (V.int c) = decide (c = x) := by
      show (x == c) = decide (c = x)
      rw [Bool.eq_iff_iff]
      constructor
      · intro h
        exact decide_eq_true (eq_of_beq h).symm
      · intro h
        rw [of_decide_eq_true h]
        exact beq_self_eq_true x
    unfold inV at ih ⊢
    rw [List.map_cons, List.any_cons, e, ih]
    by_cases h1 : c = x
    · simp [h1]
    · simp [h1]
theorem flat_ints : ∀ (l : List Int), (l.map V.int).all flatV = true := fun l => by
  rw [List.all_eq_true]
  intro x hx
  obtain ⟨c, _, rfl⟩ := List.mem_map.mp hx
  rfl
theorem val_in {K : PySem.W.Frag} {σ : L2.St} {H : Hp} {ta tb : TE} {c : Int} {a : Addr} {l : List Int} (ha : Val ta σ H (.int c)) (hb : Val tb σ H (.ref a)) (h : SqL K H a (l.map V.int) ∨ SqT K H a (l.map V.int)) : Val (tOp (rIn K false) ta tb) σ H (.bl (decide (c ∈ l))) :=
  val_op ha hb fun Q q => ⟨a, _, rfl, h, rfl, flat_ints l, by rw [inV_ints]; exact q⟩
theorem val_notin {K : PySem.W.Frag} {σ : L2.St} {H : Hp} {ta tb : TE} {c : Int} {a : Addr} {l : List Int} (ha : Val ta σ H (.int c)) (hb : Val tb σ H (.ref a)) (h : SqL K H a (l.map V.int) ∨ SqT K H a (l.map V.int)) : Val (tOp (rIn K true) ta tb) σ H (.bl (!decide (c ∈ l))) :=
  val_op ha hb fun Q q => ⟨a, _, rfl, h, rfl, flat_ints l, by rw [inV_ints]; exact q⟩
theorem escd_hit (c : Int) : ∀ (i : Nat) (p : Int × Int), Sx.escapes[i]? = some p → p.1 = c → Sx.escd c = p.2 := by
  intro i p h e
  subst e
  rcases i with _ | _ | _ | _ | _ | _ | _ | _ | _ | _ | i <;> simp [Sx.escapes] at h <;> subst h <;> rfl
theorem escd_miss (c : Int) (h : ∀ (i : Nat) (p : Int × Int), Sx.escapes[i]? = some p → p.1 ≠ c) : Sx.escd c = -1 := by
  have h0 := h 0 _ rfl
  have h1 := h 1 _ rfl
  have h2 := h 2 _ rfl
  have h3 := h 3 _ rfl
  have h4 := h 4 _ rfl
  have h5 := h 5 _ rfl
  have h6 := h 6 _ rfl
  have h7 := h 7 _ rfl
  have h8 := h 8 _ rfl
  have h9 := h 9 _ rfl
  simp only at h0 h1 h2 h3 h4 h5 h6 h7 h8 h9
  unfold Sx.escd
  rw [if_neg (Ne.symm h0), if_neg (Ne.symm h1), if_neg (Ne.symm h2), if_neg (Ne.symm h3), if_neg (Ne.symm h4), if_neg (Ne.symm h5), if_neg (Ne.symm h6), if_neg (Ne.symm h7), if_neg (Ne.symm h8), if_neg (Ne.symm h9)]
section
variable {P : Program} {w : World} {K : PySem.W.Frag} {mg : Str → Option Value} {base : Heap} {f fB fD : Addr} {fd fdB fdD : FuncData}
theorem sc20 : FnScope ["octet"] ["octet"] (defScope (top 20)) := ⟨rfl, rfl, rfl, by decide +kernel, rfl, by decide +kernel, by decide +kernel⟩
theorem ok_is_space (F : Fun K "is_space" "is_space" (top 20) f fd) : FnOk P w K mg base CX0 1 f fd ["octet"] (sp1 fun c => .bl (Sx.isSpace c)) := by
  refine F.ok sc20 len1 (fun cdv A outer s H vs Q E hr h => ?_)
  obtain ⟨c, rfl, k⟩ := h
  refine ⟨_, pss_one (ps_ret (pe_or (pe_cmpR op_eq (pv 0) pe_int (nomark _)) (pe_one (pe_chain op_le op_le pe_int (pv 0) pe_int)))), ?_⟩
  exact st_ret (val_or (val_eqI (c := c) (val_var rfl) val_c) (val_rng (val_var rfl))) k
theorem sc21 : FnScope ["octet"] ["octet"] (defScope (top 21)) := ⟨rfl, rfl, rfl, by decide +kernel, rfl, by decide +kernel, by decide +kernel⟩
theorem ok_is_digit (F : Fun K "is_digit" "is_digit" (top 21) f fd) : FnOk P w K mg base CX0 1 f fd ["octet"] (sp1 fun c => .bl (Sx.isDigit c)) := by
  refine F.ok sc21 len1 (fun cdv A outer s H vs Q E hr h => ?_)
  obtain ⟨c, rfl, k⟩ := h
  refine ⟨_, pss_one (ps_ret (pe_chain op_le op_le pe_int (pv 0) pe_int)), ?_⟩
  exact st_ret (val_rng (c := c) (val_var rfl)) k
theorem sc22 : FnScope ["octet"] ["octet"] (defScope (top 22)) := ⟨rfl, rfl, rfl, by decide +kernel, rfl, by decide +kernel, by decide +kernel⟩
theorem ok_begins (C : Consts K mg) (F : Fun K "begins_token" "begins_token" (top 22) f fd) : FnOk P w K mg base CX0 1 f fd ["octet"] (sp1 fun c => .bl (Sx.begTok c)) := by
  refine F.ok sc22 len1 (fun cdv A outer s H vs Q E hr h => ?_)
  obtain ⟨c, rfl, k⟩ := h
  obtain ⟨a, ga, hS⟩ := C.signs
  refine ⟨_, pss_one (ps_ret (pe_or (pe_chain op_le op_le pe_int (pv 0) pe_int) (pe_or (pe_chain op_le op_le pe_int (pv 0) pe_int) (pe_one (pe_cmpR op_in_seq (pv 0) (pe_glob rfl ga (v := .ref a) rfl) (by with_unfolding_all rfl)))))), ?_⟩
  exact st_ret (val_or (val_rng (c := c) (val_var rfl)) (val_or (val_rng (c := c) (val_var rfl)) (val_in (c := c) (l := Sx.signs) (val_var rfl) val_c (.inr (hS H))))) k
theorem sc23 : FnScope ["octet"] ["octet"] (defScope (top 23)) := ⟨rfl, rfl, rfl, by decide +kernel, rfl, by decide +kernel, by decide +kernel⟩
theorem ok_in_token (FB : FnOk P w K mg base CX0 1 fB fdB ["octet"] (sp1 fun c => .bl (Sx.begTok c))) (gB : mg "begins_token" = some (.ref fB)) (kB : PySem.W.keepIn K (.ref fB) = true) (bB : Binds K fdB ["octet"] [])
    (FD : FnOk P w K mg base CX0 1 fD fdD ["octet"] (sp1 fun c => .bl (Sx.isDigit c))) (gD : mg "is_digit" = some (.ref fD)) (kD : PySem.W.keepIn K (.ref fD) = true) (bD : Binds K fdD ["octet"] [])
    (F : Fun K "in_token" "in_token" (top 23) f fd) : FnOk P w K mg base CX0 2 f fd ["octet"] (sp1 fun c => .bl (Sx.inTok c)) := by
  refine F.ok sc23 len1 (fun cdv A outer s H vs Q E hr h => ?_)
  obtain ⟨c, rfl, k⟩ := h
  refine ⟨_, pss_one (ps_ret (pe_or (pe_call FB hr rfl gB kB bB .nil pass0 (pa_cons (pv 0) pa_nil)) (pe_one (pe_call FD hr rfl gD kD bD .nil pass0 (pa_cons (pv 0) pa_nil))))), ?_⟩
  exact st_ret (val_or (val_call1 (g := fun c => .bl (Sx.begTok c)) (c := c) (E := E0) (val_var rfl)) (val_call1 (g := fun c => .bl (Sx.isDigit c)) (c := c) (E := E0) (val_var rfl))) k
theorem sc24 : FnScope ["octet"] ["octet"] (defScope (top 24)) := ⟨rfl, rfl, rfl, by decide +kernel, rfl, by decide +kernel, by decide +kernel⟩
theorem ok_hex_worth (FD : FnOk P w K mg base CX0 1 fD fdD ["octet"] (sp1 fun c => .bl (Sx.isDigit c))) (gD : mg "is_digit" = some (.ref fD)) (kD : PySem.W.keepIn K (.ref fD) = true) (bD : Binds K fdD ["octet"] [])
    (F : Fun K "hex_worth" "hex_worth" (top 24) f fd) : FnOk P w K mg base CX0 2 f fd ["octet"] (sp1 fun c => .int (Sx.hexW c)) := by
  refine F.ok sc24 len1 (fun cdv A outer s H vs Q E hr h => ?_)
  obtain ⟨c, rfl, k⟩ := h
  refine ⟨_, pss_cons (ps_if (pt_val (pe_call FD hr rfl gD kD bD .nil pass0 (pa_cons (pv 0) pa_nil))) (pss_one (ps_ret (pe_op op_sub (pv 0) pe_int))) pss_nil)
    (pss_cons (ps_if (pt_chain op_le op_le pe_int (pv 0) pe_int) (pss_one (ps_ret (pe_op op_sub (pv 0) pe_int))) pss_nil)
    (pss_cons (ps_if (pt_chain op_le op_le pe_int (pv 0) pe_int) (pss_one (ps_ret (pe_op op_sub (pv 0) pe_int))) pss_nil)
    (pss_one (ps_ret (pe_un un_neg pe_int))))), ?_⟩
  replace k : Q (.int (Sx.hexW c)) H := k
  unfold Sx.hexW at k
  refine st_seq (st_if (ans_val (val_call1 (g := fun c => .bl (Sx.isDigit c)) (c := c) (E := E0) (val_var rfl))) (fun h1 => ?_) fun h1 => st_next ?_)
  · rw [if_pos (Sx.isDigit_iff.mp h1)] at k
    exact st_ret (val_i0 (c := c) (val_var rfl) val_c) k
  rw [if_neg (Sx.isDigit_not.mp h1)] at k
  refine st_seq (st_if (ans_test (val_rng (c := c) (val_var rfl))) (fun h2 => ?_) fun h2 => st_next ?_)
  · rw [if_pos (by simpa using h2)] at k
    exact st_ret (val_i0 (c := c) (val_var rfl) val_c) k
  rw [if_neg (by simpa using h2)] at k
  refine st_seq (st_if (ans_test (val_rng (c := c) (val_var rfl))) (fun h3 => ?_) fun h3 => st_next ?_)
  · rw [if_pos (by simpa using h3)] at k
    exact st_ret (val_i0 (c := c) (val_var rfl) val_c) k
  rw [if_neg (by simpa using h3)] at k
  exact ⟨_, rfl, k⟩
theorem sc25 : FnScope ["octet", "sign", "meant"] ["octet"] (defScope (top 25)) := ⟨rfl, rfl, rfl, by decide +kernel, rfl, by decide +kernel, by decide +kernel⟩
theorem ok_escaped (C : Consts K mg) (F : Fun K "escaped" "escaped" (top 25) f fd) : FnOk P w K mg base CX0 1 f fd ["octet"] (sp1 fun c => .int (Sx.escd c)) := by
  refine F.ok sc25 len1 (fun cdv A outer s H vs Q E hr h => ?_)
  obtain ⟨c, rfl, k⟩ := h
  obtain ⟨a, es, ga, hS, hl, hE⟩ := C.escapes
  refine ⟨_, pss_cons (ps_for PassesOwn.never rfl (pi_tup (pe_glob rfl ga (v := .ref a) rfl)) (pg_tup rfl (pgs_cons (pg_name (i := 1) sc25.nd rfl (.inl rfl)) (pgs_cons (pg_name (i := 2) sc25.nd rfl (.inl rfl)) pgs_nil)))
      (pss_one (ps_if (pt_cmpR op_eq (pv 1) (pv 0) (nomark _)) (pss_one (ps_ret (pv 2))) pss_nil)))
    (pss_one (ps_ret (pe_un un_neg pe_int))), ?_⟩
  replace k : Q (.int (Sx.escd c)) H := k
  refine ⟨a, rfl, ⟨_, hS H⟩, for_tup (K := K) (a := a) (xs := es.map V.ref) (fun i σ H' => ∃ v1 v2, σ = [some (.int c), v1, v2] ∧ H' = H ∧ ∀ j p, j < i → Sx.escapes[j]? = some p → p.1 ≠ c) ⟨none, none, rfl, rfl, fun j p h => absurd h (Nat.not_lt_zero _)⟩ (fun i σ H' _ ⟨_, _, _, e, _⟩ => by rw [e]; exact hS H) ?_ ?_⟩
  · rintro i x σ H' hi ⟨v1, v2, rfl, rfl, hno⟩
    obtain ⟨e, he, rfl⟩ : ∃ e, es[i]? = some e ∧ x = V.ref e := by
      rw [List.getElem?_map] at hi
      cases q : es[i]? with
      | none => rw [q] at hi; cases hi
      | some e => rw [q] at hi; exact ⟨e, rfl, (Option.some.inj hi).symm⟩
    obtain ⟨p, hp⟩ : ∃ p, Sx.escapes[i]? = some p := by
      have h1 : i < 10 := by
        have := (List.getElem?_eq_some_iff.mp he).1
        omega
      exact ⟨Sx.escapes[i]'h1, List.getElem?_eq_getElem h1⟩
    refine ⟨e, _, rfl, hE i e p he hp H', rfl, _, _, rfl, _, _, rfl, rfl, ?_⟩
    refine st_if (ans_test (val_eqI (c := p.1) (n := c) (val_var rfl) (val_var rfl))) (fun h1 => ?_) fun h1 => st_next ?_
    · have e1 : p.1 = c := of_decide_eq_true h1
      rw [escd_hit c i p hp e1] at k
      exact st_ret (val_var rfl) k
    · refine ⟨_, _, rfl, rfl, fun j p' hj hp' => ?_⟩
      by_cases hji : j = i
      · subst hji
        rw [hp] at hp'; cases hp'
        exact of_decide_eq_false h1
      · exact hno j p' (by omega) hp'
  · rintro σ H' ⟨v1, v2, rfl, rfl, hno⟩
    rw [escd_miss c fun j p hp => hno j p (by
      have := (List.getElem?_eq_some_iff.mp hp).1
      rw [List.length_map, hl]
      exact this) hp] at k
    exact ⟨_, rfl, k⟩
theorem sc15 : FnScope ["octet"] ["octet"] (defScope (top 15)) := ⟨rfl, rfl, rfl, by decide +kernel, rfl, by decide +kernel, by decide +kernel⟩
theorem ok_worth (F : Fun K "worth" "worth" (top 15) f fd) : FnOk P w K mg base CX0 1 f fd ["octet"] (sp1 fun c => .int (Sx.worth c)) := by
  refine F.ok sc15 len1 (fun cdv A outer s H vs Q E hr h => ?_)
  obtain ⟨c, rfl, k⟩ := h
  refine ⟨_, pss_cons (ps_if (pt_chain op_le op_le pe_int (pv 0) pe_int) (pss_one (ps_ret (pe_op op_sub (pv 0) pe_int))) pss_nil)
    (pss_cons (ps_if (pt_chain op_le op_le pe_int (pv 0) pe_int) (pss_one (ps_ret (pe_op op_sub (pv 0) pe_int))) pss_nil)
    (pss_cons (ps_if (pt_chain op_le op_le pe_int (pv 0) pe_int) (pss_one (ps_ret (pe_op op_add (pv 0) pe_int))) pss_nil)
    (pss_cons (ps_if (pt_cmpR op_eq (pv 0) pe_int (nomark _)) (pss_one (ps_ret pe_int)) pss_nil)
    (pss_cons (ps_if (pt_cmpR op_eq (pv 0) pe_int (nomark _)) (pss_one (ps_ret pe_int)) pss_nil)
    (pss_one (ps_ret (pe_un un_neg pe_int))))))), ?_⟩
  replace k : Q (.int (Sx.worth c)) H := k
  unfold Sx.worth at k
  refine st_seq (st_if (ans_test (val_rng (c := c) (val_var rfl))) (fun h2 => ?_) fun h2 => st_next ?_)
  · rw [if_pos (by simpa using h2)] at k
    exact st_ret (val_i0 (c := c) (val_var rfl) val_c) k
  rw [if_neg (by simpa using h2)] at k
  refine st_seq (st_if (ans_test (val_rng (c := c) (val_var rfl))) (fun h2 => ?_) fun h2 => st_next ?_)
  · rw [if_pos (by simpa using h2)] at k
    exact st_ret (val_i0 (c := c) (val_var rfl) val_c) k
  rw [if_neg (by simpa using h2)] at k
  refine st_seq (st_if (ans_test (val_rng (c := c) (val_var rfl))) (fun h2 => ?_) fun h2 => st_next ?_)
  · rw [if_pos (by simpa using h2)] at k
    exact st_ret (val_i0 (c := c) (val_var rfl) val_c) k
  rw [if_neg (by simpa using h2)] at k
  refine st_seq (st_if (ans_test (val_eqI (c := c) (val_var rfl) val_c)) (fun h2 => ?_) fun h2 => st_next ?_)
  · rw [if_pos (of_decide_eq_true h2)] at k
    exact k
  rw [if_neg (of_decide_eq_false h2)] at k
  refine st_seq (st_if (ans_test (val_eqI (c := c) (val_var rfl) val_c)) (fun h2 => ?_) fun h2 => st_next ?_)
  · rw [if_pos (of_decide_eq_true h2)] at k
    exact k
  rw [if_neg (of_decide_eq_false h2)] at k
  exact ⟨_, rfl, k⟩
end
end Hd
end
/-! ## Hd30 -/
section
set_option maxRecDepth 100000
set_option maxHeartbeats 4000000
set_option linter.all false
/-! What the head tells. -/
namespace Hd
open PySem PySem.Spec PyProof.Rows L2
/-! ### Unreadable -/
def oexB (K : PySem.W.Frag) (C : Addr) : Bool := (match K.lookup C with
  | some ⟨.type "type", _, .cls cd, sl⟩ => (match cd.mro, sl.toList with
    | .ref C' :: bm, [_, _, _, _, some (.builtin n), _] => C' == C && n == "ValueError.__new__" && !cd.hasDel && cd.hasDict && PySem.HandSPX.refsVE bm
    | _, _ => false)
  | _ => false) && (decide (PySem.W.findIn K (.ref C) "__setattr__" = some (some (.builtin "object.__setattr__"))) && (decide (PySem.W.subIn K (.ref C) (.type "BaseException") = some true) && (decide (PySem.W.typeIn K (.ref C) = some (.type "type")) && PySem.W.keepIn K (.ref C))))
theorem oexB_ok {K : PySem.W.Frag} {C : Addr} (q : oexB K C = true) : OexC K C := by
  unfold oexB at q
  obtain ⟨q, q1⟩ := He.ba q
  obtain ⟨q1, q2⟩ := He.ba q1
  obtain ⟨q2, q3⟩ := He.ba q2
  obtain ⟨q3, q4⟩ := He.ba q3
  refine ⟨?_, of_decide_eq_true q1, of_decide_eq_true q2, of_decide_eq_true q3, q4⟩
  split at q
  · rename_i dd cd sl ho
    split at q
    · rename_i C' bm k0 k1 k2 k3 n k5 hm hs
      simp only [Bool.and_eq_true, beq_iff_eq, Bool.not_eq_true'] at q
      obtain ⟨⟨⟨⟨rfl, rfl⟩, hdel⟩, hdi⟩, ht⟩ := q
      obtain ⟨nm, bs, mro, ns, qn, hd, sn, sub, ab, col, del⟩ := cd
      dsimp only at hm hdel hdi
      subst hm hdel hdi
      have hsl : sl = #[k0, k1, k2, k3, some (.builtin "ValueError.__new__"), k5] := by
        obtain ⟨l⟩ := sl
        simp only at hs
        rw [hs]
      subst hsl
      exact ⟨nm, qn, ns, bs, bm, sn, sub, ab, col, dd, k0, k1, k2, k3, k5, ho, ht⟩
    · cases q
  · cases q
/-! ### a property -/
def getterAt (K : PySem.W.Frag) (C : Addr) (m : Str) : Addr := match PySem.W.recIn K (He.ma K C m) "property" with
  | some (.ref g :: _) => g
  | _ => 0
def propB (K : PySem.W.Frag) (C : Addr) (m : Str) : Bool := decide (PySem.W.findIn K (.ref C) m = some (some (.ref (He.ma K C m)))) && (decide (PySem.W.specialIn K (.ref (He.ma K C m)) "__get__" = some (some (.builtin "property.__get__"))) &&
  (decide (PySem.W.takesIn K (.ref (He.ma K C m)) = some true) && (match PySem.W.recIn K (He.ma K C m) "property" with
    | some (.ref _ :: _) => true
    | _ => false)))
theorem propB_ok {K : PySem.W.Frag} {C : Addr} {m : Str} (q : propB K C m = true) : PropOf K C m (He.ma K C m) (getterAt K C m) := by
  unfold propB at q
  obtain ⟨q1, q⟩ := He.ba q
  obtain ⟨q2, q⟩ := He.ba q
  obtain ⟨q3, q4⟩ := He.ba q
  refine ⟨of_decide_eq_true q1, of_decide_eq_true q2, of_decide_eq_true q3, ?_⟩
  unfold getterAt
  split at q4
  · rename_i g r e
    rw [e]
    exact ⟨r, rfl⟩
  · cases q4
/-! ### tuples -/
def tupA (K : PySem.W.Frag) (a : Addr) (vs : List V) : Bool := match K.lookup a with
  | some ⟨.type c, _, .seq its _, _⟩ => decide (c = "tuple") && (decide (its.size ≤ sizeLine) && He.relAll vs its.toList)
  | _ => false
theorem tupA_ok {K : PySem.W.Frag} {a : Addr} {vs : List V} (h : tupA K a vs = true) (H : Hp) : SqT K H a vs := by
  unfold tupA at h
  split at h
  · rename_i c od its n sl q
    obtain ⟨h1, h2⟩ := He.ba h
    obtain ⟨h3, h4⟩ := He.ba h2
    exact .inr ⟨_, its, n, q, congrArg Value.type (of_decide_eq_true h1), rfl, of_decide_eq_true h3, He.relAll_ok h4⟩
  · cases h
def itemAt (K : PySem.W.Frag) (x : Str) (i : Nat) : Addr := match K.lookup (He.ga K x) with
  | some ⟨_, _, .seq its _, _⟩ => (match its.toList[i]? with
    | some (.ref a) => a
    | _ => 0)
  | _ => 0
def constsB (K : PySem.W.Frag) : Bool := tupA K (He.ga K "SIGNS") (Sx.signs.map V.int) && (tupA K (He.ga K "ESCAPES") (((List.range 10).map (itemAt K "ESCAPES")).map V.ref) &&
  (List.range 10).all fun i => match Sx.escapes[i]? with
    | some p => tupA K (itemAt K "ESCAPES" i) [.int p.1, .int p.2]
    | none => false)
theorem constsB_ok {K : PySem.W.Frag} {mg : Str → Option Value} (q : constsB K = true) (g1 : mg "SIGNS" = some (.ref (He.ga K "SIGNS"))) (g2 : mg "ESCAPES" = some (.ref (He.ga K "ESCAPES"))) : Consts K mg := by
  unfold constsB at q
  obtain ⟨q1, q⟩ := He.ba q
  obtain ⟨q2, q3⟩ := He.ba q
  refine ⟨⟨_, g1, fun H => tupA_ok q1 H⟩, ⟨_, (List.range 10).map (itemAt K "ESCAPES"), g2, fun H => tupA_ok q2 H, by simp, fun i e p he hp H => ?_⟩⟩
  have hi : i < 10 := by
    have := (List.getElem?_eq_some_iff.mp he).1
    simpa using this
  have h3 := List.all_eq_true.mp q3 i (List.mem_range.mpr hi)
  rw [hp] at h3
  rw [List.getElem?_map, List.getElem?_range hi] at he
  cases he
  exact tupA_ok h3 H
/-! ### the Hook -/
abbrev AlM : Type := He.AlD × Bool
def obsM (fa : List He.Fa) (fn : List He5.DefA) (ex : PySem.W.Frag → Bool) (K : PySem.W.Frag) : AlM := (He5.obsA fa fn K, ex K)
def obsMG (n : Nat) (fa : List He.Fa) (fn : List He5.DefA) (ex : PySem.W.Frag → Bool) (g : Addr → Option Obj) : AlM := obsM fa fn ex (He.frG g (He.asD g n))
def hookM (n : Nat) (fa : List He.Fa) (fn : List He5.DefA) (ex : PySem.W.Frag → Bool) : PySem.W.Hook where
  α := AlM
  obs := fun s => obsMG n fa fn ex s.heap.get?
  val := fun _ => (He5.valA fn, true)
  says := fun _ h => ∃ K : PySem.W.Frag, K.In h ∧ He5.SaysA fa fn K ∧ ex K = true
  of := fun _ _ e => ⟨_, He.frG_in, congrArg (fun z : AlM => z.1) e, congrArg (fun z : AlM => z.2) e⟩
  keeps := fun _ _ _ ⟨K, hK, c⟩ k => ⟨K, PySem.W.Frag.In.keeps hK k, c⟩
theorem obsMG_eq {n : Nat} {fa : List He.Fa} {fn : List He5.DefA} {ex : PySem.W.Frag → Bool} {g : Addr → Option Obj} {s : Shared} (h : ∀ a, g a = s.heap.get? a) : obsMG n fa fn ex g = (hookM n fa fn ex).obs s := by
  have e : g = s.heap.get? := funext h
  rw [e] <;> rfl
end Hd
end
/-! ## Hd30b -/
section
set_option maxRecDepth 100000
set_option maxHeartbeats 4000000
set_option linter.all false
/-! Where the defs stand, what is asked of the head (printed by gen31.py). -/
namespace Hd
open PySem PySem.Spec PyProof.Rows L2
/-! ### where the defs stand -/
def dG (x : Str) (i : Nat) : He5.DefA := ⟨fun K => He.ga K x, x, x, defArgs (top i), defBody (top i), defScope (top i), [], []⟩
def dM (C m q : Str) (i j : Nat) : He5.DefA := ⟨fun K => He.ma K (He.ga K C) m, m, q, defArgs (inClass (top i) j), defBody (inClass (top i) j), defScope (inClass (top i) j), [], []⟩
def dP : He5.DefA := ⟨fun K => getterAt K (He.ga K "Base64") "is_whole", "is_whole", "Base64.is_whole", defArgs (inClass (top 16) 1), defBody (inClass (top 16) 1), defScope (inClass (top 16) 1), [], []⟩
def dX : He5.DefA := ⟨fun K => He.ma K (He.ga K "Unreadable") "__init__", "__init__", "AlikeError.__init__", defArgs (inClass (top 1) 0), defBody (inClass (top 1) 0), defScope (inClass (top 1) 0), [.non], []⟩
def fnL0 : List He5.DefA := [dG "list_of" 6, dG "parts" 7, dG "walk" 8, dG "sexp_lacks" 10, dG "write_part" 11, dG "write_sexp" 12, dG "worth" 15, dG "is_space" 20, dG "is_digit" 21, dG "begins_token" 22, dG "in_token" 23, dG "hex_worth" 24, dG "escaped" 25, dG "read_sexp" 28, dG "_law_cell" 30, dG "_law_numbers" 31, dG "_law_state" 32, dG "_law_next" 33, dG "_law_many" 34, dG "_law_octets" 35]
def fnL1 : List He5.DefA := [dG "_law_value" 36, dG "_law_towered" 37, dG "_law_ascii" 38, dG "_law_same" 39, dG "_law_letter" 40, dG "_law_in_token" 41, dG "_law_is_token" 42, dG "_law_blank" 43, dG "_law_sprinkled" 44, dG "_law_hex" 45, dG "_law_base64" 46, dG "_law_quoted" 47, dG "_law_atom" 48, dG "_law_tokens" 49, dG "_law_schedule" 50, dG "_law_spoilt" 51, dG "_law_read" 52, dG "law" 53, dM "Reading" "__init__" "Reading.__init__" 27 0, dM "Reading" "peek" "Reading.peek" 27 1]
def fnL2 : List He5.DefA := [dM "Reading" "fail" "Reading.fail" 27 2, dM "Reading" "next" "Reading.next" 27 3, dM "Reading" "skip_spaces" "Reading.skip_spaces" 27 4, dM "Reading" "value" "Reading.value" 27 5, dM "Reading" "atom" "Reading.atom" 27 6, dM "Reading" "counted" "Reading.counted" 27 7, dM "Reading" "token" "Reading.token" 27 8, dM "Reading" "quoted" "Reading.quoted" 27 9, dM "Reading" "escape" "Reading.escape" 27 10, dM "Reading" "hex_digit" "Reading.hex_digit" 27 11, dM "Reading" "digits" "Reading.digits" 27 12, dM "Reading" "bars" "Reading.bars" 27 13, dM "Base64" "__init__" "Base64.__init__" 16 0, dP, dM "Base64" "take" "Base64.take" 16 2, dM "Base64" "take_pad" "Base64.take_pad" 16 3, dX]
def fnL : List He5.DefA := fnL0 ++ fnL1 ++ fnL2
def faL0 : List He.Fa := [.glo "list_of", .glo "parts", .glo "walk", .glo "sexp_lacks", .glo "write_part", .glo "write_sexp", .glo "worth", .glo "is_space", .glo "is_digit", .glo "begins_token", .glo "in_token", .glo "hex_worth", .glo "escaped", .glo "read_sexp", .glo "_law_cell", .glo "_law_numbers", .glo "_law_state", .glo "_law_next", .glo "_law_many", .glo "_law_octets"]
def faL1 : List He.Fa := [.glo "_law_value", .glo "_law_towered", .glo "_law_ascii", .glo "_law_same", .glo "_law_letter", .glo "_law_in_token", .glo "_law_is_token", .glo "_law_blank", .glo "_law_sprinkled", .glo "_law_hex", .glo "_law_base64", .glo "_law_quoted", .glo "_law_atom", .glo "_law_tokens", .glo "_law_schedule", .glo "_law_spoilt", .glo "_law_read", .glo "law", .meth "Reading" "peek", .meth "Reading" "fail"]
def faL2 : List He.Fa := [.meth "Reading" "next", .meth "Reading" "skip_spaces", .meth "Reading" "value", .meth "Reading" "atom", .meth "Reading" "counted", .meth "Reading" "token", .meth "Reading" "quoted", .meth "Reading" "escape", .meth "Reading" "hex_digit", .meth "Reading" "digits", .meth "Reading" "bars", .meth "Base64" "take", .meth "Base64" "take_pad", .glo "AlikeError", .glo "Unreadable", .glo "Base64", .glo "Reading", .glo "SIGNS", .glo "ESCAPES", .int "MOST_DEPTH" 24]
def faL3 : List He.Fa := [.int "PAD" 61, .cls "Reading", .noat "Reading" "octets", .noat "Reading" "place", .mkr "Reading", .cls "Base64", .noat "Base64" "octets", .noat "Base64" "digits", .noat "Base64" "pads", .noat "Base64" "bits", .noat "Base64" "rest", .mkr "Base64", .meth "Unreadable" "__init__", .noat "Unreadable" "what", .exm "Unreadable" "AlikeError" true, .free "len", .free "ord", .free "str", .free "list", .free "tuple"]
def faL4 : List He.Fa := [.free "range", .free "int", .free "abs", .free "isinstance", .free "bool", .free "enumerate"]
def faL : List He.Fa := faL0 ++ faL1 ++ faL2 ++ faL3 ++ faL4
def exB (K : PySem.W.Frag) : Bool := oexB K (He.ga K "Unreadable") && (propB K (He.ga K "Base64") "is_whole" && constsB K)
end Hd
end
/-! ## Hd32 -/
section
set_option maxRecDepth 100000
set_option maxHeartbeats 0
set_option linter.all false
/-! The head. -/
namespace Hd
open PySem PySem.Spec PyProof.Rows L2
abbrev lawR : PySem.W.OpenLaw := PySem.Challenge.rw_formsalike_k49_whole_sexp_canonical
abbrev R : PySem.W.OpenRow := PySem.W.OpenLaw.row lawR
abbrev qv : Program := PySem.W.view R.prog [53]
def names0 : List PySem.Str := ["AlikeError", "Unreadable", "Unwritable", "MOST_DEPTH", "list_of", "parts", "walk", "sexp_lacks", "write_part", "write_sexp", "PAD", "worth", "Base64", "SIGNS", "ESCAPES", "is_space", "is_digit", "begins_token", "in_token", "hex_worth", "escaped", "Reading", "read_sexp"]
def names1 : List PySem.Str := ["_law_cell", "_law_numbers", "_law_state", "_law_next", "_law_many", "_law_octets", "_law_value", "_law_towered", "_law_ascii", "_law_same", "_law_letter", "_law_in_token", "_law_is_token", "_law_blank", "_law_sprinkled", "_law_hex", "_law_base64", "_law_quoted", "_law_atom", "_law_tokens", "_law_schedule", "_law_spoilt", "_law_read"]
def names : List PySem.Str := names0 ++ names1
abbrev hk : PySem.W.Hook := hookM 5 faL fnL exB
def ob (s : PySem.W.SharedT) : AlM := obsMG 5 faL fnL exB (HandSHeadRun.getT s)
theorem ob_eq (s : PySem.W.SharedT) : ob s = hk.obs s.abs := obsMG_eq (HandSHeadRun.getT_eq s)
theorem run (w : World) : HandSHeadRun.RunEq R qv hk ob 6000 names w := by
  intro os
  kernel_rfl
end Hd
end
/-! ## SxSize -/
section
set_option maxRecDepth 100000
/-! How long what is read and what is written can be. -/
namespace Sx
theorem octs_len : ∀ (k : Nat) (w : Int) (r : List Int) (v : Int) (r' : List Int), octs k w r = some (v, r') → r'.length + k = r.length
  | 0, w, r, v, r', h => by
    rw [octs] at h
    obtain ⟨_, rfl⟩ := Prod.mk.inj (Option.some.inj h)
    rfl
  | k + 1, w, r, v, r', h => by
    rw [octs] at h
    by_cases c : 48 ≤ pk r ∧ pk r ≤ 55
    · rw [if_pos c] at h
      have h1 := octs_len k _ _ v r' h
      have h2 := tail_lt (r := r) (by omega)
      omega
    · rw [if_neg c] at h; cases h
theorem hexW_neg : hexW (-1) = -1 := by decide
theorem hexd_len {r : List Int} {h : Int} {r' : List Int} (e : hexd r = some (h, r')) : r'.length + 1 = r.length ∧ r' = r.tail ∧ h = hexW (pk r) ∧ 0 ≤ hexW (pk r) := by
  unfold hexd at e
  by_cases c : hexW (pk r) < 0
  · rw [if_pos c] at e; cases e
  · rw [if_neg c] at e
    obtain ⟨rfl, rfl⟩ := Prod.mk.inj (Option.some.inj e)
    exact ⟨tail_lt fun q => by rw [q, hexW_neg] at c; omega, rfl, rfl, by omega⟩
theorem escd_neg : escd (-1) = -1 := by decide
theorem esc_len {r : List Int} {xs r' : List Int} (e : esc r = some (xs, r')) : r'.length + xs.length ≤ r.length ∧ r'.length + 1 ≤ r.length := by
  unfold esc at e
  by_cases c1 : 0 ≤ escd (pk r)
  · rw [if_pos c1] at e
    obtain ⟨rfl, rfl⟩ := Prod.mk.inj (Option.some.inj e)
    have := tail_lt (r := r) fun q => by rw [q, escd_neg] at c1; omega
    simp only [List.length_singleton]; omega
  rw [if_neg c1] at e
  by_cases c2 : pk r = 10
  · rw [if_pos c2] at e
    obtain ⟨rfl, rfl⟩ := Prod.mk.inj (Option.some.inj e)
    have := tail_lt (r := r) (by omega)
    simp only [List.length_nil]; omega
  rw [if_neg c2] at e
  by_cases c3 : 48 ≤ pk r ∧ pk r ≤ 51
  · rw [if_pos c3] at e
    obtain ⟨p, hp, e⟩ := Option.map_eq_some_iff.mp e
    obtain ⟨rfl, rfl⟩ := Prod.mk.inj e
    have := octs_len 3 0 r p.1 p.2 hp
    simp only [List.length_singleton]; omega
  rw [if_neg c3] at e
  by_cases c4 : pk r ≠ 120
  · rw [if_pos c4] at e; cases e
  rw [if_neg c4] at e
  obtain ⟨p, hp, e⟩ := Option.bind_eq_some_iff.mp e
  obtain ⟨q, hq, e⟩ := Option.map_eq_some_iff.mp e
  obtain ⟨rfl, rfl⟩ := Prod.mk.inj e
  have h1 := (hexd_len (h := p.1) (r' := p.2) hp).1
  have h2 := (hexd_len (h := q.1) (r' := q.2) hq).1
  have h3 := tail_lt (r := r) (by omega)
  simp only [List.length_singleton]; omega
theorem quo_len : ∀ (n : Nat) (acc r xs r' : List Int), quo n acc r = some (xs, r') → r'.length + 1 ≤ r.length ∧ xs.length + r'.length ≤ acc.length + r.length
  | 0, _, _, _, _, h => by rw [quo] at h; cases h
  | n + 1, acc, r, xs, r', h => by
    rw [quo] at h
    by_cases c1 : pk r = 34
    · rw [if_pos c1] at h
      obtain ⟨rfl, rfl⟩ := Prod.mk.inj (Option.some.inj h)
      have := tail_lt (r := r) (by omega)
      omega
    rw [if_neg c1] at h
    by_cases c2 : pk r = 92
    · rw [if_pos c2] at h
      obtain ⟨p, hp, h⟩ := Option.bind_eq_some_iff.mp h
      have h1 := esc_len (xs := p.1) (r' := p.2) hp
      have h2 := quo_len n _ _ xs r' h
      have h3 := tail_lt (r := r) (by omega)
      simp only [List.length_append] at h2
      omega
    rw [if_neg c2] at h
    by_cases c3 : 32 ≤ pk r ∧ pk r ≤ 126
    · rw [if_pos c3] at h
      have h2 := quo_len n _ _ xs r' h
      have h3 := tail_lt (r := r) (by omega)
      simp only [List.length_append, List.length_singleton] at h2
      omega
    · rw [if_neg c3] at h; cases h
theorem hexs_len : ∀ (n : Nat) (acc r xs r' : List Int), hexs n acc r = some (xs, r') → r'.length + 1 ≤ r.length ∧ xs.length + r'.length ≤ acc.length + r.length
  | 0, _, _, _, _, h => by rw [hexs] at h; cases h
  | n + 1, acc, r, xs, r', h => by
    rw [hexs] at h
    by_cases c1 : pk r = 35
    · rw [if_pos c1] at h
      obtain ⟨rfl, rfl⟩ := Prod.mk.inj (Option.some.inj h)
      have := tail_lt (r := r) (by omega)
      omega
    rw [if_neg c1] at h
    obtain ⟨p, hp, h⟩ := Option.bind_eq_some_iff.mp h
    obtain ⟨q, hq, h⟩ := Option.bind_eq_some_iff.mp h
    have h1 := (hexd_len (h := p.1) (r' := p.2) hp).1
    have h2 := (hexd_len (h := q.1) (r' := q.2) hq).1
    have h3 := quo_len
    have h4 := hexs_len n _ _ xs r' h
    have h5 := skip_le p.2
    have h6 := skip_le q.2
    simp only [List.length_append, List.length_singleton] at h4
    omega
theorem worth_neg : worth (-1) = -1 := by decide
theorem take_ne {b b' : B} {c : Int} (h : b.take c = some b') : c ≠ -1 := by
  rintro rfl
  unfold B.take at h
  rw [if_neg (by decide), worth_neg, if_pos (by omega)] at h
  cases h
theorem take_octets {b b' : B} {c : Int} (h : b.take c = some b') : b'.octets.length ≤ b.octets.length + 1 := by
  unfold B.take B.pad at h
  by_cases c1 : c = 61
  · rw [if_pos c1] at h
    split at h
    · cases h
    · cases Option.some.inj h; exact Nat.le_succ _
  rw [if_neg c1] at h
  split at h
  · cases h
  · cases Option.some.inj h
    unfold B.digit
    split
    · simp
    · simp
theorem bars_len : ∀ (n : Nat) (b : B) (r xs r' : List Int), bars n b r = some (xs, r') → r'.length + 1 ≤ r.length ∧ xs.length + r'.length ≤ b.octets.length + r.length
  | 0, _, _, _, _, h => by rw [bars] at h; cases h
  | n + 1, b, r, xs, r', h => by
    rw [bars] at h
    by_cases c1 : pk r = 124 ∧ b.whole = true
    · rw [if_pos c1] at h
      obtain ⟨rfl, rfl⟩ := Prod.mk.inj (Option.some.inj h)
      have := tail_lt (r := r) (by omega)
      omega
    rw [if_neg c1] at h
    obtain ⟨b', hb, h⟩ := Option.bind_eq_some_iff.mp h
    have h1 := take_octets hb
    have h2 := tail_lt (take_ne hb)
    have h3 := bars_len n b' _ xs r' h
    have h4 := skip_le r.tail
    omega
theorem cnt_len : ∀ (n : Int) (f : Bool) (r : List Int), (cnt n f r).2.length ≤ r.length
  | _, _, [] => Nat.le_refl _
  | n, f, c :: r => by
    rw [cnt]
    split
    · have := cnt_len (n * 10 + c - 48) false r
      rw [List.length_cons]; omega
    · exact Nat.le_refl _
theorem cnt_lt {r : List Int} (h : isDigit (pk r) = true) : (cnt 0 true r).2.length + 1 ≤ r.length := by
  cases r with
  | nil => exact absurd h (by decide)
  | cons c r =>
    have h' : isDigit c = true := h
    rw [cnt, h']
    simp only [Bool.or_true, Bool.and_self, if_true]
    have := cnt_len (0 * 10 + c - 48) false r
    rw [List.length_cons]; omega
theorem takeWhile_len (p : Int → Bool) : ∀ r : List Int, (r.takeWhile p).length + (r.dropWhile p).length = r.length
  | [] => rfl
  | c :: r => by
    rw [List.takeWhile_cons, List.dropWhile_cons]
    have := takeWhile_len p r
    cases p c <;> simp <;> omega
theorem atom_len {r xs r' : List Int} (h : atom r = some (xs, r')) : r'.length + 1 ≤ r.length ∧ xs.length + r'.length ≤ r.length := by
  unfold atom at h
  by_cases c1 : isDigit (pk r) = true
  · rw [if_pos c1] at h
    have h0 := cnt_lt c1
    unfold counted at h
    split at h
    · rename_i h58
      have h1 := tail_lt (r := (cnt 0 true r).2) (by omega)
      split at h
      · obtain ⟨rfl, rfl⟩ := Prod.mk.inj (Option.some.inj h)
        rw [List.length_take, List.length_drop]
        omega
      · cases h
    · cases h
  rw [if_neg c1] at h
  by_cases c2 : begTok (pk r) = true
  · rw [if_pos c2] at h
    obtain ⟨rfl, rfl⟩ := Prod.mk.inj (Option.some.inj h)
    obtain ⟨c, q, rfl⟩ := pk_pos (r := r) fun z => by rw [z] at c2; exact absurd c2 (by decide)
    have h1 := takeWhile_len inTok (c :: q)
    refine ⟨?_, Nat.le_of_eq h1⟩
    have h2 : inTok c = true := by
      unfold inTok; rw [show begTok c = true from c2]; rfl
    rw [List.takeWhile_cons, h2] at h1
    simp only [if_true, List.length_cons] at h1 ⊢
    omega
  rw [if_neg c2] at h
  by_cases c3 : pk r = 34
  · rw [if_pos c3] at h
    have h1 := quo_len _ _ _ xs r' h
    have h2 := tail_lt (r := r) (by omega)
    simp only [List.length_nil] at h1; omega
  rw [if_neg c3] at h
  by_cases c4 : pk r = 35
  · rw [if_pos c4] at h
    have h1 := hexs_len _ _ _ xs r' h
    have h2 := tail_lt (r := r) (by omega)
    have h3 := skip_le r.tail
    simp only [List.length_nil] at h1; omega
  rw [if_neg c4] at h
  by_cases c5 : pk r = 124
  · rw [if_pos c5] at h
    have h1 := bars_len _ _ _ xs r' h
    have h2 := tail_lt (r := r) (by omega)
    have h3 := skip_le r.tail
    have h4 : B0.octets.length = 0 := rfl
    omega
  · rw [if_neg c5] at h; cases h
theorem items_len {l : Nat} (ih : ∀ r t r', pval l r = some (t, r') → wt t + 9 * r'.length ≤ 9 * r.length ∧ r'.length + 1 ≤ r.length) :
    ∀ (n : Nat) (r : List Int) (ts : List T) (r' : List Int), items (pval l) n r = some (ts, r') → wts ts + 9 * r'.length + 9 ≤ 9 * r.length
  | 0, _, _, _, h => by rw [items] at h; cases h
  | n + 1, r, ts, r', h => by
    rw [items] at h
    by_cases c : pk r = 41
    · rw [if_pos c] at h
      obtain ⟨rfl, rfl⟩ := Prod.mk.inj (Option.some.inj h)
      have := tail_lt (r := r) (by omega)
      rw [wts]; omega
    · rw [if_neg c] at h
      obtain ⟨p, hp, h⟩ := Option.bind_eq_some_iff.mp h
      obtain ⟨q, hq, h⟩ := Option.map_eq_some_iff.mp h
      obtain ⟨rfl, rfl⟩ := Prod.mk.inj h
      have h1 := ih r p.1 p.2 hp
      have h2 := items_len ih n _ q.1 q.2 hq
      have h3 := skip_le p.2
      rw [wts]; omega
theorem pval_len : ∀ (l : Nat) (r : List Int) (t : T) (r' : List Int), pval l r = some (t, r') → wt t + 9 * r'.length ≤ 9 * r.length ∧ r'.length + 1 ≤ r.length
  | 0, r, t, r', h => by
    rw [pval] at h
    by_cases c : pk r ≠ 40
    · rw [if_pos c] at h
      obtain ⟨q, hq, h⟩ := Option.map_eq_some_iff.mp h
      obtain ⟨rfl, rfl⟩ := Prod.mk.inj h
      have := atom_len (xs := q.1) (r' := q.2) hq
      rw [wt]; omega
    · rw [if_neg c] at h; cases h
  | l + 1, r, t, r', h => by
    rw [pval] at h
    by_cases c : pk r ≠ 40
    · rw [if_pos c] at h
      obtain ⟨q, hq, h⟩ := Option.map_eq_some_iff.mp h
      obtain ⟨rfl, rfl⟩ := Prod.mk.inj h
      have := atom_len (xs := q.1) (r' := q.2) hq
      rw [wt]; omega
    · rw [if_neg c] at h
      obtain ⟨q, hq, h⟩ := Option.map_eq_some_iff.mp h
      obtain ⟨rfl, rfl⟩ := Prod.mk.inj h
      have h1 := items_len (fun r t r' => pval_len l r t r') _ _ q.1 q.2 hq
      have h2 := skip_le r.tail
      have h3 := tail_lt (r := r) (by omega)
      rw [wt]; omega
theorem wt_read {os : List Int} {t : T} (h : readF os = some t) : wt t ≤ 9 * os.length := by
  obtain ⟨p, hp, h⟩ := Option.bind_eq_some_iff.mp h
  by_cases c : skip p.2 = []
  · rw [if_pos c] at h
    cases Option.some.inj h
    have h1 := pval_len 24 _ p.1 p.2 hp
    have h2 := skip_le os
    omega
  · rw [if_neg c] at h; cases h

theorem dec_len : ∀ (k n : Nat), n < 10 ^ (k + 1) → (dec n).length ≤ k + 1
  | 0, n, h => by rw [dec_small (by omega)]; exact Nat.le_refl _
  | k + 1, n, h => by
    by_cases c : n < 10
    · rw [dec_small c]; simp
    · rw [dec_big c, List.length_append, List.length_singleton]
      have := dec_len k (n / 10) (by rw [Nat.pow_succ] at h; omega)
      omega
mutual
theorem wr_len : ∀ t : T, wt t < 10000000 → (wr t).length ≤ wt t
  | .leaf xs, h => by
    rw [wt] at h
    have := dec_len 6 xs.length (by omega)
    rw [wr, wt, List.length_append, List.length_cons]; omega
  | .node ts, h => by
    rw [wt] at h
    have := wrs_len2 ts (by omega)
    rw [wr, wt, List.length_cons, List.length_append, List.length_singleton]; omega
theorem wrs_len2 : ∀ ts : List T, wts ts < 10000000 → (wrs ts).length ≤ wts ts
  | [], _ => Nat.le_refl _
  | t :: ts, h => by
    rw [wts] at h
    have h1 := wr_len t (by omega)
    have h2 := wrs_len2 ts (by omega)
    rw [wrs, wts, List.length_append]; omega
end
theorem wts_len : ∀ ts : List T, 8 * ts.length ≤ wts ts
  | [] => Nat.le_refl _
  | t :: ts => by
    have := wts_len ts
    have h : 8 ≤ wt t := by cases t <;> rw [wt] <;> omega
    rw [wts, List.length_cons]; omega
theorem wt_mem : ∀ {ts : List T} {t : T}, t ∈ ts → wt t ≤ wts ts
  | u :: ts, t, h => by
    rw [wts]
    rcases List.mem_cons.mp h with rfl | h
    · omega
    · have := wt_mem h; omega
end Sx
end
/-! ## SxFree -/
section
set_option maxRecDepth 100000
/-! Free texts of a value are read as the value. -/
namespace Sx
/-! ### a row with whitespace sprinkled between -/
/-- so far: nothing behind the last octet -/
inductive SprP : List Int → List Int → Prop
  | nil : SprP [] []
  | snoc {row L e : List Int} {x : Int} : SprP row L → AllSp e → SprP (row ++ [x]) (L ++ e ++ [x])
inductive Spr : List Int → List Int → Prop
  | nil {e : List Int} : AllSp e → Spr [] e
  | cons {e row L : List Int} {x : Int} : AllSp e → Spr row L → Spr (x :: row) (e ++ x :: L)
theorem SprP.done {row L : List Int} (h : SprP row L) : ∀ {row' L' : List Int}, Spr row' L' → Spr (row ++ row') (L ++ L') := by
  induction h with
  | nil => intro row' L' q; exact q
  | snoc _ he ih =>
    intro row' L' q
    rename_i row1 L1 e1 x1 _
    have := ih (Spr.cons (x := x1) he q)
    simpa using this
theorem SprP.spr {row L e : List Int} (h : SprP row L) (he : AllSp e) : Spr row (L ++ e) := by
  have := h.done (Spr.nil he)
  rwa [List.append_nil] at this

/-! ### hexadecimal -/
inductive HexRow : List Int → List Int → Prop
  | nil : HexRow [] []
  | cons {x h l : Int} {xs row : List Int} : 0 ≤ hexW h → 0 ≤ hexW l → hexW h * 16 + hexW l = x → HexRow xs row → HexRow (x :: xs) (h :: l :: row)
theorem HexRow.append {xs ys row row' : List Int} (h : HexRow xs row) (q : HexRow ys row') : HexRow (xs ++ ys) (row ++ row') := by
  induction h with
  | nil => exact q
  | cons h1 h2 h3 _ ih => exact .cons h1 h2 h3 ih
theorem hexW_some {c : Int} (h : 0 ≤ hexW c) : isSpace c = false ∧ c ≠ 35 := by
  unfold hexW at h
  split at h
  · exact ⟨isSpace_not.mpr (by omega), by omega⟩
  split at h
  · exact ⟨isSpace_not.mpr (by omega), by omega⟩
  split at h
  · exact ⟨isSpace_not.mpr (by omega), by omega⟩
  · omega
theorem hexd_cons {c : Int} {r : List Int} (h : 0 ≤ hexW c) : hexd (c :: r) = some (hexW c, r) := by
  unfold hexd
  rw [pk_cons, if_neg (by omega)]; rfl
theorem hexs_spr {xs row : List Int} (hr : HexRow xs row) : ∀ (L acc : List Int) (n : Nat) (r : List Int), Spr row L → xs.length < n → hexs n acc (skip (L ++ 35 :: r)) = some (acc ++ xs, r) := by
  induction hr with
  | nil =>
    intro L acc n r hs hn
    obtain ⟨m, rfl⟩ : ∃ m, n = m + 1 := ⟨n - 1, by omega⟩
    cases hs with
    | nil he => rw [skip_all he, skip_cons_not rfl, hexs, if_pos pk_cons, List.append_nil]; rfl
  | cons h1 h2 h3 _ ih =>
    rename_i x h l xs row _
    intro L acc n r hs hn
    rw [List.length_cons] at hn
    obtain ⟨m, rfl⟩ : ∃ m, n = m + 1 := ⟨n - 1, by omega⟩
    cases hs with
    | cons he hs =>
      rename_i e1 L1
      cases hs with
      | cons he2 hs =>
        rename_i e2 L2
        have a1 := hexW_some h1
        have a2 := hexW_some h2
        have ee : e1 ++ h :: (e2 ++ l :: L2) ++ 35 :: r = e1 ++ (h :: (e2 ++ (l :: (L2 ++ 35 :: r)))) := by simp
        rw [ee, skip_all he, skip_cons_not a1.1, hexs, pk_cons, if_neg a1.2, hexd_cons h1, Option.bind_some]
        dsimp only
        rw [skip_all he2, skip_cons_not a2.1, hexd_cons h2, Option.bind_some]
        dsimp only
        rw [h3, ih L2 (acc ++ [x]) m r hs (by omega), List.append_assoc]; rfl

/-! ### base64 -/
/-- digits and pads taken in a row -/
def run : B → List Int → Option B
  | b, [] => some b
  | b, c :: r => (b.take c).bind fun b' => run b' r
theorem run_append : ∀ (b : B) (r q : List Int), run b (r ++ q) = (run b r).bind fun b' => run b' q
  | b, [], q => rfl
  | b, c :: r, q => by
    rw [List.cons_append, run, run]
    cases b.take c with
    | none => rfl
    | some b' => exact run_append b' r q
/-- an octet of base64 -/
def isB64 (c : Int) : Prop := c = 61 ∨ 0 ≤ worth c
theorem isB64_not {c : Int} (h : isB64 c) : isSpace c = false ∧ c ≠ 124 := by
  rcases h with rfl | h
  · exact ⟨rfl, by omega⟩
  unfold worth at h
  refine ⟨isSpace_not.mpr ?_, ?_⟩ <;> (repeat' (split at h)) <;> omega
theorem bars_spr : ∀ (row L : List Int) (b b' : B) (n : Nat) (r : List Int), Spr row L → run b row = some b' → b'.whole = true → (∀ c ∈ row, isB64 c) → row.length < n → bars n b (skip (L ++ 124 :: r)) = some (b'.octets, r)
  | [], L, b, b', n, r, hs, hr, hw, hc, hn => by
    obtain ⟨m, rfl⟩ : ∃ m, n = m + 1 := ⟨n - 1, by simp at hn; omega⟩
    cases hs with
    | nil he =>
      cases Option.some.inj (show some b = some b' from hr)
      rw [skip_all he, skip_cons_not rfl, bars, if_pos ⟨pk_cons, hw⟩]; rfl
  | c :: row, L, b, b', n, r, hs, hr, hw, hc, hn => by
    rw [List.length_cons] at hn
    obtain ⟨m, rfl⟩ : ∃ m, n = m + 1 := ⟨n - 1, by omega⟩
    cases hs with
    | cons he hs =>
      rename_i e1 L1
      have a := isB64_not (hc c List.mem_cons_self)
      rw [run] at hr
      obtain ⟨b1, h1, hr⟩ := Option.bind_eq_some_iff.mp hr
      have ee : e1 ++ c :: L1 ++ 124 :: r = e1 ++ (c :: (L1 ++ 124 :: r)) := by simp
      rw [ee, skip_all he, skip_cons_not a.1, bars, pk_cons, if_neg (fun q => a.2 q.1), h1, Option.bind_some, List.tail_cons]
      exact bars_spr row L1 b1 b' m r hs hr hw (fun x hx => hc x (List.mem_cons_of_mem _ hx)) (by omega)

def al (d : Int) : Int := if d < 26 then 65 + d else if d < 52 then 71 + d else if d < 62 then d - 4 else if d = 62 then 43 else 47
theorem worth_al {d : Int} (h0 : 0 ≤ d) (h : d < 64) : worth (al d) = d := by
  unfold al worth
  by_cases c1 : d < 26
  · rw [if_pos c1, if_pos (by omega)]; omega
  rw [if_neg c1]
  by_cases c2 : d < 52
  · rw [if_pos c2, if_neg (by omega), if_pos (by omega)]; omega
  rw [if_neg c2]
  by_cases c3 : d < 62
  · rw [if_pos c3, if_neg (by omega), if_neg (by omega), if_pos (by omega)]; omega
  rw [if_neg c3]
  by_cases c4 : d = 62
  · rw [if_pos c4, if_neg (by omega), if_neg (by omega), if_neg (by omega), if_pos rfl, c4]
  · rw [if_neg c4, if_neg (by omega), if_neg (by omega), if_neg (by omega), if_neg (by omega), if_pos rfl]; omega
theorem al_ne {d : Int} (h0 : 0 ≤ d) (h : d < 64) : al d ≠ 61 := by
  unfold al
  repeat' split
  all_goals omega
theorem isB64_al {d : Int} (h0 : 0 ≤ d) (h : d < 64) : isB64 (al d) := .inr (by rw [worth_al h0 h]; exact h0)
def three (a b c : Int) : Int := ((0 * 256 + a) * 256 + b) * 256 + c
def enc : List Int → List Int
  | a :: b :: c :: r => al (three a b c / 262144) :: al (three a b c / 4096 % 64) :: al (three a b c / 64 % 64) :: al (three a b c % 64) :: enc r
  | [a, b] => [al (three a b 0 / 262144), al (three a b 0 / 4096 % 64), al (three a b 0 / 64 % 64), 61]
  | [a] => [al (three a 0 0 / 262144), al (three a 0 0 / 4096 % 64), 61, 61]
  | [] => []
def Oct (x : Int) : Prop := 0 ≤ x ∧ x < 256
theorem enc_b64 : ∀ (xs : List Int), (∀ x ∈ xs, Oct x) → ∀ c ∈ enc xs, isB64 c
  | a :: b :: c :: r, h, y, hy => by
    obtain ⟨ha1, ha2⟩ := h a (by simp)
    obtain ⟨hb1, hb2⟩ := h b (by simp)
    obtain ⟨hc1, hc2⟩ := h c (by simp)
    rw [enc] at hy
    unfold three at hy
    rcases List.mem_cons.mp hy with rfl | hy
    · exact isB64_al (by omega) (by omega)
    rcases List.mem_cons.mp hy with rfl | hy
    · exact isB64_al (by omega) (by omega)
    rcases List.mem_cons.mp hy with rfl | hy
    · exact isB64_al (by omega) (by omega)
    rcases List.mem_cons.mp hy with rfl | hy
    · exact isB64_al (by omega) (by omega)
    exact enc_b64 r (fun x hx => h x (by simp [hx])) y hy
  | [a, b], h, y, hy => by
    obtain ⟨ha1, ha2⟩ := h a (by simp)
    obtain ⟨hb1, hb2⟩ := h b (by simp)
    simp only [enc, three, List.mem_cons, List.not_mem_nil, or_false] at hy
    rcases hy with rfl | rfl | rfl | rfl
    · exact isB64_al (by omega) (by omega)
    · exact isB64_al (by omega) (by omega)
    · exact isB64_al (by omega) (by omega)
    · exact .inl rfl
  | [a], h, y, hy => by
    obtain ⟨ha1, ha2⟩ := h a (by simp)
    simp only [enc, three, List.mem_cons, List.not_mem_nil, or_false] at hy
    rcases hy with rfl | rfl | rfl | rfl
    · exact isB64_al (by omega) (by omega)
    · exact isB64_al (by omega) (by omega)
    · exact .inl rfl
    · exact .inl rfl
  | [], _, y, hy => by simp [enc] at hy
theorem enc_len : ∀ (xs : List Int), 3 * (enc xs).length ≤ 4 * xs.length + 8
  | a :: b :: c :: r => by
    have := enc_len r
    simp only [enc, List.length_cons] at this ⊢
    omega
  | [a, b] => by simp [enc]
  | [a] => by simp [enc]
  | [] => by simp [enc]
theorem take_digit {b : B} {d : Int} (h0 : 0 ≤ d) (h : d < 64) (hp : b.pads = 0) : b.take (al d) = some (b.digit d) := by
  unfold B.take
  rw [if_neg (al_ne h0 h), worth_al h0 h, if_neg (by omega)]
theorem digit_0 {o : List Int} {k p d r : Int} : (B.mk o k p 0 r).digit d = B.mk o (k + 1) p 6 (r * 64 + d) := rfl
theorem digit_6 {o : List Int} {k p d r : Int} : (B.mk o k p 6 r).digit d = B.mk (o ++ [(r * 64 + d) / 16]) (k + 1) p 4 ((r * 64 + d) % 16) := rfl
theorem digit_4 {o : List Int} {k p d r : Int} : (B.mk o k p 4 r).digit d = B.mk (o ++ [(r * 64 + d) / 4]) (k + 1) p 2 ((r * 64 + d) % 4) := rfl
theorem digit_2 {o : List Int} {k p d r : Int} : (B.mk o k p 2 r).digit d = B.mk (o ++ [(r * 64 + d) / 1]) (k + 1) p 0 ((r * 64 + d) % 1) := rfl
theorem take_pad {b : B} (h1 : 2 ≤ b.digits % 4 + b.pads) (h2 : b.digits % 4 + b.pads ≤ 3) (h3 : b.rest = 0) : b.take 61 = some { b with pads := b.pads + 1 } := by
  unfold B.take B.pad
  rw [if_pos rfl, if_neg (by omega)]
theorem run_enc : ∀ (xs : List Int), (∀ x ∈ xs, Oct x) → ∀ (o : List Int) (k : Int), k % 4 = 0 → ∃ b', run (B.mk o k 0 0 0) (enc xs) = some b' ∧ b'.whole = true ∧ b'.octets = o ++ xs
  | a :: b :: c :: r, h, o, k, hk => by
    obtain ⟨ha1, ha2⟩ := h a (by simp)
    obtain ⟨hb1, hb2⟩ := h b (by simp)
    obtain ⟨hc1, hc2⟩ := h c (by simp)
    obtain ⟨b', e, hw, ho⟩ := run_enc r (fun x hx => h x (by simp [hx])) (o ++ [a] ++ [b] ++ [c]) (k + 1 + 1 + 1 + 1) (by omega)
    refine ⟨b', ?_, hw, by rw [ho]; simp⟩
    rw [enc, run, take_digit (by unfold three; omega) (by unfold three; omega) rfl, Option.bind_some, digit_0, run, take_digit (by unfold three; omega) (by unfold three; omega) rfl, Option.bind_some, digit_6,
      run, take_digit (by unfold three; omega) (by unfold three; omega) rfl, Option.bind_some, digit_4, run, take_digit (by unfold three; omega) (by unfold three; omega) rfl, Option.bind_some, digit_2]
    unfold three
    have e1 : ((0 * 64 + ((0 * 256 + a) * 256 + b) * 256 + c) / 262144) = ((0 * 64 + ((0 * 256 + a) * 256 + b) * 256 + c) / 262144) := rfl
    have q1 : ((0 * 64 + (((0 * 256 + a) * 256 + b) * 256 + c) / 262144) * 64 + (((0 * 256 + a) * 256 + b) * 256 + c) / 4096 % 64) / 16 = a := by omega
    have q2 : ((((0 * 64 + (((0 * 256 + a) * 256 + b) * 256 + c) / 262144) * 64 + (((0 * 256 + a) * 256 + b) * 256 + c) / 4096 % 64) % 16) * 64 + (((0 * 256 + a) * 256 + b) * 256 + c) / 64 % 64) / 4 = b := by omega
    have q3 : (((((0 * 64 + (((0 * 256 + a) * 256 + b) * 256 + c) / 262144) * 64 + (((0 * 256 + a) * 256 + b) * 256 + c) / 4096 % 64) % 16) * 64 + (((0 * 256 + a) * 256 + b) * 256 + c) / 64 % 64) % 4 * 64 + (((0 * 256 + a) * 256 + b) * 256 + c) % 64) / 1 = c := by omega
    have q4 : (((((0 * 64 + (((0 * 256 + a) * 256 + b) * 256 + c) / 262144) * 64 + (((0 * 256 + a) * 256 + b) * 256 + c) / 4096 % 64) % 16) * 64 + (((0 * 256 + a) * 256 + b) * 256 + c) / 64 % 64) % 4 * 64 + (((0 * 256 + a) * 256 + b) * 256 + c) % 64) % 1 = 0 := by omega
    rw [q1, q2, q3, q4]
    exact e
  | [a, b], h, o, k, hk => by
    obtain ⟨ha1, ha2⟩ := h a (by simp)
    obtain ⟨hb1, hb2⟩ := h b (by simp)
    refine ⟨⟨o ++ [a] ++ [b], k + 1 + 1 + 1, 0 + 1, 2, 0⟩, ?_, ?_, by simp⟩
    · rw [enc, run, take_digit (by unfold three; omega) (by unfold three; omega) rfl, Option.bind_some, digit_0, run, take_digit (by unfold three; omega) (by unfold three; omega) rfl, Option.bind_some, digit_6,
        run, take_digit (by unfold three; omega) (by unfold three; omega) rfl, Option.bind_some, digit_4, run]
      unfold three
      have q1 : ((0 * 64 + (((0 * 256 + a) * 256 + b) * 256 + 0) / 262144) * 64 + (((0 * 256 + a) * 256 + b) * 256 + 0) / 4096 % 64) / 16 = a := by omega
      have q2 : ((((0 * 64 + (((0 * 256 + a) * 256 + b) * 256 + 0) / 262144) * 64 + (((0 * 256 + a) * 256 + b) * 256 + 0) / 4096 % 64) % 16) * 64 + (((0 * 256 + a) * 256 + b) * 256 + 0) / 64 % 64) / 4 = b := by omega
      have q3 : ((((0 * 64 + (((0 * 256 + a) * 256 + b) * 256 + 0) / 262144) * 64 + (((0 * 256 + a) * 256 + b) * 256 + 0) / 4096 % 64) % 16) * 64 + (((0 * 256 + a) * 256 + b) * 256 + 0) / 64 % 64) % 4 = 0 := by omega
      rw [q1, q2, q3, take_pad (by show 2 ≤ (k + 1 + 1 + 1) % 4 + 0; omega) (by show (k + 1 + 1 + 1) % 4 + 0 ≤ 3; omega) rfl, Option.bind_some, run]
    · exact decide_eq_true (by show (k + 1 + 1 + 1 + (0 + 1)) % 4 = 0; omega)
  | [a], h, o, k, hk => by
    obtain ⟨ha1, ha2⟩ := h a (by simp)
    refine ⟨⟨o ++ [a], k + 1 + 1, 0 + 1 + 1, 4, 0⟩, ?_, ?_, by simp⟩
    · rw [enc, run, take_digit (by unfold three; omega) (by unfold three; omega) rfl, Option.bind_some, digit_0, run, take_digit (by unfold three; omega) (by unfold three; omega) rfl, Option.bind_some, digit_6, run]
      unfold three
      have q1 : ((0 * 64 + (((0 * 256 + a) * 256 + 0) * 256 + 0) / 262144) * 64 + (((0 * 256 + a) * 256 + 0) * 256 + 0) / 4096 % 64) / 16 = a := by omega
      have q2 : ((0 * 64 + (((0 * 256 + a) * 256 + 0) * 256 + 0) / 262144) * 64 + (((0 * 256 + a) * 256 + 0) * 256 + 0) / 4096 % 64) % 16 = 0 := by omega
      rw [q1, q2, take_pad (by show 2 ≤ (k + 1 + 1) % 4 + 0; omega) (by show (k + 1 + 1) % 4 + 0 ≤ 3; omega) rfl, Option.bind_some, run,
        take_pad (by show 2 ≤ (k + 1 + 1) % 4 + (0 + 1); omega) (by show (k + 1 + 1) % 4 + (0 + 1) ≤ 3; omega) rfl, Option.bind_some, run]
    · exact decide_eq_true (by show (k + 1 + 1 + (0 + 1 + 1)) % 4 = 0; omega)
  | [], _, o, k, hk => ⟨_, rfl, decide_eq_true (by show (k + 0) % 4 = 0; omega), by simp⟩

/-! ### quoted -/
def QP (p xs : List Int) : Prop := ∃ k, k ≤ p.length ∧ ∀ n acc r, quo (n + k) acc (p ++ r) = quo n (acc ++ xs) r
theorem QP.nil : QP [] [] := ⟨0, Nat.le_refl _, fun n acc r => by rw [List.append_nil]; rfl⟩
theorem QP.append {p q xs ys : List Int} (h : QP p xs) (h' : QP q ys) : QP (p ++ q) (xs ++ ys) := by
  obtain ⟨k, hk, e⟩ := h
  obtain ⟨k', hk', e'⟩ := h'
  refine ⟨k' + k, by rw [List.length_append]; omega, fun n acc r => ?_⟩
  rw [List.append_assoc, ← Nat.add_assoc, e, e', List.append_assoc]
theorem QP.quo {p xs : List Int} (h : QP p xs) {N : Nat} (hN : p.length < N) (r : List Int) : Sx.quo N [] (p ++ 34 :: r) = some (xs, r) := by
  obtain ⟨k, hk, e⟩ := h
  obtain ⟨m, rfl⟩ : ∃ m, N = m + 1 + k := ⟨N - 1 - k, by omega⟩
  rw [e, Sx.quo, if_pos pk_cons]; rfl
theorem QP.esc {q xs : List Int} (h : ∀ r, Sx.esc (q ++ r) = some (xs, r)) : QP (92 :: q) xs := by
  refine ⟨1, by simp, fun n acc r => ?_⟩
  rw [Sx.quo, List.cons_append, pk_cons, if_neg (by decide), if_pos rfl, List.tail_cons, h, Option.bind_some]
theorem qp_feed : QP [92, 10] [] := QP.esc fun r => by rfl
theorem qp_escd {c o : Int} (h : escd c = o) (h0 : 0 ≤ o) : QP [92, c] [o] := QP.esc fun r => by
  unfold Sx.esc
  rw [List.cons_append, pk_cons, h, if_pos h0]; rfl
theorem qp_self {o : Int} (h1 : 32 ≤ o) (h2 : o ≤ 126) (h3 : o ≠ 34) (h4 : o ≠ 92) : QP [o] [o] := by
  refine ⟨1, by simp, fun n acc r => ?_⟩
  rw [Sx.quo, List.cons_append, pk_cons, if_neg h3, if_neg h4, if_pos ⟨h1, h2⟩]; rfl
theorem escd_digit {c : Int} (h1 : 48 ≤ c) (h2 : c ≤ 57) : escd c = -1 := by
  unfold escd
  repeat (first | rw [if_neg (by omega)] | rfl)
theorem octs_cons {k : Nat} {w c : Int} {r : List Int} (h1 : 48 ≤ c) (h2 : c ≤ 55) : octs (k + 1) w (c :: r) = octs k (w * 8 + c - 48) r := by
  rw [octs, pk_cons, if_pos ⟨h1, h2⟩, List.tail_cons]
theorem qp_octal {o : Int} (h : Oct o) : QP [92, 48 + o / 64, 48 + o / 8 % 8, 48 + o % 8] [o] := QP.esc fun r => by
  obtain ⟨h0, h1⟩ := h
  have hp : pk ([48 + o / 64, 48 + o / 8 % 8, 48 + o % 8] ++ r) = 48 + o / 64 := rfl
  unfold Sx.esc
  rw [hp, escd_digit (by omega) (by omega), if_neg (by omega), if_neg (by omega), if_pos (by omega)]
  simp only [List.cons_append, List.nil_append]
  rw [octs_cons (by omega) (by omega), octs_cons (by omega) (by omega), octs_cons (by omega) (by omega), octs]
  have e : ((0 * 8 + (48 + o / 64) - 48) * 8 + (48 + o / 8 % 8) - 48) * 8 + (48 + o % 8) - 48 = o := by omega
  rw [e]; rfl
theorem qp_hex {o h l : Int} (h1 : 0 ≤ hexW h) (h2 : 0 ≤ hexW l) (h3 : hexW h * 16 + hexW l = o) : QP [92, 120, h, l] [o] := QP.esc fun r => by
  have hp : pk ([120, h, l] ++ r) = 120 := rfl
  unfold Sx.esc
  rw [hp, show escd 120 = -1 from by decide, if_neg (by decide), if_neg (by decide), if_neg (by decide), if_neg (by decide)]
  simp only [List.cons_append, List.nil_append, List.tail_cons]
  rw [hexd_cons h1, Option.bind_some]
  dsimp only
  rw [hexd_cons h2, Option.map_some, h3]

/-! ### an atom in any of its ways -/
/-- row writes xs; isT: as a token, which must not be followed by an octet of a token -/
def Atom (xs row : List Int) (isT : Bool) : Prop :=
  (∃ c q, row = c :: q ∧ isSpace c = false ∧ c ≠ 40) ∧ ∀ r : List Int, (isT = true → inTok (pk r) = false) → atom (row ++ r) = some (xs, r)
theorem atom_token {c : Int} {q : List Int} (h : begTok c = true) (hq : ∀ x ∈ q, inTok x = true) : Atom (c :: q) (c :: q) true := by
  have hb := begTok_iff.mp h
  refine ⟨⟨c, q, rfl, isSpace_not.mpr (by omega), by omega⟩, fun r hr => ?_⟩
  have hall : ∀ x ∈ c :: q, inTok x = true := fun x hx => by
    rcases List.mem_cons.mp hx with rfl | hx
    · exact inTok_iff.mpr (by omega)
    · exact hq x hx
  have hstop : r.takeWhile inTok = [] ∧ r.dropWhile inTok = r := by
    cases r with
    | nil => exact ⟨rfl, rfl⟩
    | cons x r =>
      have := hr rfl
      rw [pk_cons] at this
      rw [List.takeWhile_cons, List.dropWhile_cons, this]
      exact ⟨rfl, rfl⟩
  have hp : pk (c :: q ++ r) = c := rfl
  have ht : ∀ {l : List Int}, (∀ x ∈ l, inTok x = true) → (l ++ r).takeWhile inTok = l ∧ (l ++ r).dropWhile inTok = r := by
    intro l
    induction l with
    | nil => intro _; exact hstop
    | cons y l ih =>
      intro hl
      obtain ⟨i1, i2⟩ := ih fun x hx => hl x (List.mem_cons_of_mem _ hx)
      rw [List.cons_append, List.takeWhile_cons, List.dropWhile_cons, hl y List.mem_cons_self]
      exact ⟨by simp [i1], by simp [i2]⟩
  obtain ⟨t1, t2⟩ := ht hall
  unfold atom token
  rw [hp, if_neg (by rw [isDigit_not.mpr (by omega)]; decide), if_pos h, t1, t2]
theorem atom_counted (xs : List Int) : Atom xs (dec xs.length ++ 58 :: xs) false := by
  obtain ⟨c, q, e, h1, h2⟩ := dec_head xs.length
  refine ⟨⟨c, q ++ 58 :: xs, by rw [e]; rfl, isSpace_not.mpr (by omega), by omega⟩, fun r _ => ?_⟩
  have := atom_written xs r
  rw [← this]; simp
theorem atom_quoted {p xs : List Int} (h : QP p xs) : Atom xs (34 :: (p ++ [34])) false := by
  refine ⟨⟨34, _, rfl, rfl, by decide⟩, fun r _ => ?_⟩
  unfold atom
  have e : 34 :: (p ++ [34]) ++ r = 34 :: (p ++ 34 :: r) := by simp
  rw [e, pk_cons, if_neg (by decide), if_neg (by decide), if_pos rfl, List.tail_cons]
  exact h.quo (by simp only [List.length_cons, List.length_append]; omega) r
theorem HexRow.len {xs row : List Int} (h : HexRow xs row) : row.length = 2 * xs.length := by
  induction h with
  | nil => rfl
  | cons _ _ _ _ ih => simp only [List.length_cons, ih]; omega
theorem Spr.len {row L : List Int} (h : Spr row L) : row.length ≤ L.length := by
  induction h with
  | nil _ => simp
  | cons _ _ ih => simp only [List.length_cons, List.length_append]; omega
theorem atom_hex {xs row L : List Int} (h : HexRow xs row) (hs : Spr row L) : Atom xs (35 :: (L ++ [35])) false := by
  refine ⟨⟨35, _, rfl, rfl, by decide⟩, fun r _ => ?_⟩
  unfold atom
  have e : 35 :: (L ++ [35]) ++ r = 35 :: (L ++ 35 :: r) := by simp
  have h1 := h.len
  have h2 := hs.len
  rw [e, pk_cons, if_neg (by decide), if_neg (by decide), if_neg (by decide), if_pos rfl, List.tail_cons, hexs_spr h L [] _ r hs (by simp only [List.length_cons, List.length_append]; omega)]
  rfl
theorem atom_b64 {xs L : List Int} (h : ∀ x ∈ xs, Oct x) (hs : Spr (enc xs) L) : Atom xs (124 :: (L ++ [124])) false := by
  refine ⟨⟨124, _, rfl, rfl, by decide⟩, fun r _ => ?_⟩
  unfold atom
  have e : 124 :: (L ++ [124]) ++ r = 124 :: (L ++ 124 :: r) := by simp
  have h2 := hs.len
  obtain ⟨b', hr, hw, ho⟩ := run_enc xs h [] 0 rfl
  rw [e, pk_cons, if_neg (by decide), if_neg (by decide), if_neg (by decide), if_neg (by decide), if_pos rfl, List.tail_cons,
    bars_spr (enc xs) L B0 b' _ r hs hr hw (enc_b64 xs h) (by simp only [List.length_cons, List.length_append]; omega), ho]
  rfl

/-! ### tokens, joined -/
structure Tk where
  row : List Int
  ev : Bool
  late : Bool
def lateNext (b : Bool) (k : Tk) : Bool := (k.ev && k.late) || (b && k.row.isEmpty)
def rowOf (b : Bool) (k : Tk) : List Int := if b = true ∧ k.row ≠ [] ∧ inTok (pk k.row) = true then 32 :: k.row else k.row
def sched : Bool → List Tk → List Int
  | _, [] => []
  | b, k :: ks => rowOf b k ++ sched (lateNext b k) ks
def tkLen : List Tk → Nat
  | [] => 0
  | k :: ks => k.row.length + 1 + tkLen ks
theorem tkLen_append : ∀ ks ls : List Tk, tkLen (ks ++ ls) = tkLen ks + tkLen ls
  | [], ls => by simp [tkLen]
  | k :: ks, ls => by rw [List.cons_append, tkLen, tkLen, tkLen_append ks ls]; omega
theorem sched_len : ∀ (b : Bool) (ks : List Tk), (sched b ks).length ≤ tkLen ks
  | _, [] => Nat.le_refl _
  | b, k :: ks => by
    have := sched_len (lateNext b k) ks
    rw [sched, tkLen, List.length_append]
    have h : (rowOf b k).length ≤ k.row.length + 1 := by
      unfold rowOf; split
      · exact Nat.le_refl _
      · exact Nat.le_succ _
    omega
/-- behind a token nothing stands that would lengthen it -/
theorem sched_late : ∀ ks : List Tk, inTok (pk (sched true ks)) = false
  | [] => by decide
  | k :: ks => by
    rw [sched]
    by_cases h : k.row = []
    · have e1 : rowOf true k = [] := by unfold rowOf; rw [if_neg (fun q => q.2.1 h), h]
      have e2 : lateNext true k = true := by unfold lateNext; rw [h]; simp
      rw [e1, e2, List.nil_append]
      exact sched_late ks
    · obtain ⟨c, q, hc⟩ : ∃ c q, k.row = c :: q := by
        cases e : k.row with
        | nil => exact absurd e h
        | cons c q => exact ⟨c, q, rfl⟩
      unfold rowOf
      by_cases ht : inTok (pk k.row) = true
      · rw [if_pos ⟨rfl, h, ht⟩]
        rw [List.cons_append, pk_cons]; decide
      · rw [if_neg (fun q => ht q.2.2), hc, List.cons_append, pk_cons]
        rw [hc, pk_cons] at ht
        exact Bool.eq_false_iff.mpr ht
theorem skip_blank {e : List Int} (he : AllSp e) (b : Bool) (K : List Tk) : ∃ b', skip (sched b (⟨e, false, false⟩ :: K)) = skip (sched b' K) := by
  refine ⟨lateNext b ⟨e, false, false⟩, ?_⟩
  rw [sched]
  have h : rowOf b ⟨e, false, false⟩ = e := by
    unfold rowOf
    rw [if_neg]
    rintro ⟨_, h1, h2⟩
    cases e with
    | nil => exact h1 rfl
    | cons c q =>
      have := he c List.mem_cons_self
      rw [isSpace_iff] at this
      rw [pk_cons, inTok_iff] at h2
      omega
  rw [h, skip_all he]
/-- the tokens ks are read as t, whatever follows -/
def Reads (t : T) (ks : List Tk) : Prop := ∀ (l : Nat), Dep l t → ∀ (b : Bool) (K : List Tk), ∃ (r : List Int) (b' : Bool), pval l (skip (sched b (ks ++ K))) = some (t, r) ∧ skip r = skip (sched b' K)
theorem pval_atom {l : Nat} {r xs r' : List Int} (h : pk r ≠ 40) (e : atom r = some (xs, r')) : pval l r = some (.leaf xs, r') := by
  cases l with
  | zero => rw [pval, if_pos h, e]; rfl
  | succ l => rw [pval, if_pos h, e]; rfl
theorem reads_leaf {xs e1 e2 row : List Int} {isT : Bool} (h1 : AllSp e1) (h2 : AllSp e2) (ha : Atom xs row isT) : Reads (.leaf xs) [⟨e1, false, false⟩, ⟨row, true, isT⟩, ⟨e2, false, false⟩] := by
  intro l _ b K
  obtain ⟨b1, e1'⟩ := skip_blank h1 b (⟨row, true, isT⟩ :: ⟨e2, false, false⟩ :: K)
  obtain ⟨⟨c, q, hc, hsp, h40⟩, hread⟩ := ha
  have hl : lateNext b1 ⟨row, true, isT⟩ = isT := by unfold lateNext; rw [hc]; simp
  obtain ⟨b2, e2'⟩ := skip_blank h2 isT K
  refine ⟨sched isT (⟨e2, false, false⟩ :: K), b2, ?_, e2'⟩
  have es : skip (sched b1 (⟨row, true, isT⟩ :: ⟨e2, false, false⟩ :: K)) = row ++ sched isT (⟨e2, false, false⟩ :: K) := by
    rw [sched, hl]
    unfold rowOf
    dsimp only
    split
    · rw [List.cons_append, skip_cons rfl, hc, List.cons_append, skip_cons_not hsp]
    · rw [hc, List.cons_append, skip_cons_not hsp]
  show pval l (skip (sched b (⟨e1, false, false⟩ :: ⟨row, true, isT⟩ :: ⟨e2, false, false⟩ :: K))) = _
  rw [e1', es]
  refine pval_atom (by rw [hc, List.cons_append, pk_cons]; exact h40) (hread _ fun hT => ?_)
  rw [hT]
  exact sched_late _
def Readss : List T → List Tk → Prop
  | [], ks => ks = []
  | t :: ts, ks => ∃ k1 k2, ks = k1 ++ k2 ∧ Reads t k1 ∧ Readss ts k2
theorem Readss.snoc : ∀ {ts : List T} {ks : List Tk}, Readss ts ks → ∀ {t : T} {k : List Tk}, Reads t k → Readss (ts ++ [t]) (ks ++ k)
  | [], ks, h, t, k, q => by
    have h' : ks = [] := h
    subst h'
    exact ⟨k, [], by simp, q, rfl⟩
  | u :: ts, ks, h, t, k, q => by
    obtain ⟨k1, k2, e, h1, h2⟩ := h
    exact ⟨k1, k2 ++ k, by rw [e, List.append_assoc], h1, Readss.snoc h2 q⟩
theorem items_reads {l : Nat} : ∀ (ts : List T) (ks : List Tk), Readss ts ks → (∀ t ∈ ts, Dep l t) → ∀ (n : Nat) (b : Bool) (K : List Tk) (r : List Int), ts.length < n → (∀ b', skip (sched b' K) = 41 :: r) →
    items (pval l) n (skip (sched b (ks ++ K))) = some (ts, r)
  | [], ks, h, _, n, b, K, r, hn, hK => by
    have h' : ks = [] := h
    subst h'
    obtain ⟨m, rfl⟩ : ∃ m, n = m + 1 := ⟨n - 1, by simp at hn; omega⟩
    rw [List.nil_append, hK b, items, if_pos pk_cons]; rfl
  | t :: ts, ks, h, hd, n, b, K, r, hn, hK => by
    obtain ⟨k1, k2, rfl, h1, h2⟩ := h
    rw [List.length_cons] at hn
    obtain ⟨m, rfl⟩ : ∃ m, n = m + 1 := ⟨n - 1, by omega⟩
    obtain ⟨r', b', e, es⟩ := h1 l (hd t List.mem_cons_self) b (k2 ++ K)
    rw [List.append_assoc, items]
    have hp : ¬ pk (skip (sched b (k1 ++ (k2 ++ K)))) = 41 := by
      intro z
      have : pval l (skip (sched b (k1 ++ (k2 ++ K)))) = none := by
        have ha : atom (skip (sched b (k1 ++ (k2 ++ K)))) = none := by
          unfold atom
          rw [z, if_neg (by decide), if_neg (by decide), if_neg (by decide), if_neg (by decide), if_neg (by decide)]
        cases l with
        | zero => rw [pval, if_pos (by omega), ha]; rfl
        | succ l => rw [pval, if_pos (by omega), ha]; rfl
      rw [this] at e; cases e
    rw [if_neg hp, e, Option.bind_some]
    dsimp only
    rw [es, items_reads ts k2 h2 (fun x hx => hd x (List.mem_cons_of_mem _ hx)) m b' K r (by omega) hK]
    rfl
theorem Readss.len : ∀ {ts : List T} {ks : List Tk}, Readss ts ks → ∀ l, (∀ t ∈ ts, Dep l t) → ∀ b, ts.length ≤ (sched b ks).length
  | [], _, _, _, _, _ => Nat.zero_le _
  | t :: ts, ks, h, l, hd, b => by
    obtain ⟨k1, k2, rfl, h1, h2⟩ := h
    have split : ∀ (ks ls : List Tk) (b : Bool), ∃ b', sched b (ks ++ ls) = sched b ks ++ sched b' ls := by
      intro ks
      induction ks with
      | nil => intro ls b; exact ⟨b, rfl⟩
      | cons k ks ih =>
        intro ls b
        obtain ⟨b', e⟩ := ih ls (lateNext b k)
        exact ⟨b', by rw [List.cons_append, sched, sched, e, List.append_assoc]⟩
    obtain ⟨b', e⟩ := split k1 k2 b
    have ih := Readss.len h2 l (fun x hx => hd x (List.mem_cons_of_mem _ hx)) b'
    obtain ⟨r, b2, e2, _⟩ := h1 l (hd t List.mem_cons_self) b []
    rw [List.append_nil] at e2
    have h3 := (pval_len l _ t r e2).2
    have h4 := skip_le (sched b k1)
    rw [e, List.length_append, List.length_cons]
    omega
theorem reads_node {ts : List T} {ks : List Tk} {e1 e2 e3 : List Int} (h1 : AllSp e1) (h2 : AllSp e2) (h3 : AllSp e3) (h : Readss ts ks) :
    Reads (.node ts) (⟨e1, false, false⟩ :: ⟨[40], true, false⟩ :: (ks ++ [⟨e2, false, false⟩, ⟨[41], true, false⟩, ⟨e3, false, false⟩])) := by
  intro l hd b K
  cases l with
  | zero => exact hd.elim
  | succ l =>
    obtain ⟨b1, e1'⟩ := skip_blank h1 b (⟨[40], true, false⟩ :: (ks ++ (⟨e2, false, false⟩ :: ⟨[41], true, false⟩ :: ⟨e3, false, false⟩ :: K)))
    obtain ⟨b3, e3'⟩ := skip_blank h3 false K
    have e40 : sched b1 (⟨[40], true, false⟩ :: (ks ++ (⟨e2, false, false⟩ :: ⟨[41], true, false⟩ :: ⟨e3, false, false⟩ :: K)))
        = 40 :: sched false (ks ++ (⟨e2, false, false⟩ :: ⟨[41], true, false⟩ :: ⟨e3, false, false⟩ :: K)) := by
      rw [sched]
      have a1 : rowOf b1 ⟨[40], true, false⟩ = [40] := by
        unfold rowOf; rw [if_neg]; rintro ⟨_, _, z⟩; exact absurd z (by decide)
      have a2 : lateNext b1 ⟨[40], true, false⟩ = false := by unfold lateNext; simp
      rw [a1, a2]; rfl
    have e41 : ∀ b', skip (sched b' (⟨e2, false, false⟩ :: ⟨[41], true, false⟩ :: ⟨e3, false, false⟩ :: K)) = 41 :: sched false (⟨e3, false, false⟩ :: K) := by
      intro b'
      obtain ⟨b2, e2'⟩ := skip_blank h2 b' (⟨[41], true, false⟩ :: ⟨e3, false, false⟩ :: K)
      rw [e2', sched]
      have a1 : rowOf b2 ⟨[41], true, false⟩ = [41] := by
        unfold rowOf; rw [if_neg]; rintro ⟨_, _, z⟩; exact absurd z (by decide)
      have a2 : lateNext b2 ⟨[41], true, false⟩ = false := by unfold lateNext; simp
      rw [a1, a2, List.cons_append, skip_cons_not rfl]; rfl
    refine ⟨sched false (⟨e3, false, false⟩ :: K), b3, ?_, e3'⟩
    have el : (⟨e1, false, false⟩ :: ⟨[40], true, false⟩ :: (ks ++ [⟨e2, false, false⟩, ⟨[41], true, false⟩, ⟨e3, false, false⟩])) ++ K
        = (⟨e1, false, false⟩ :: ⟨[40], true, false⟩ :: (ks ++ (⟨e2, false, false⟩ :: ⟨[41], true, false⟩ :: ⟨e3, false, false⟩ :: K)) : List Tk) := by simp
    rw [el, e1', e40, skip_cons_not rfl, pval, if_neg (by rw [pk_cons]; decide), List.tail_cons]
    have hlen : ts.length < (40 :: sched false (ks ++ (⟨e2, false, false⟩ :: ⟨[41], true, false⟩ :: ⟨e3, false, false⟩ :: K))).length + 1 := by
      have split : ∀ (ks ls : List Tk) (b : Bool), (sched b ks).length ≤ (sched b (ks ++ ls)).length := by
        intro ks
        induction ks with
        | nil => intro ls b; exact Nat.zero_le _
        | cons k ks ih =>
          intro ls b
          have := ih ls (lateNext b k)
          rw [List.cons_append, sched, sched, List.length_append, List.length_append]; omega
      have h1 := h.len l hd false
      have h2 := split ks (⟨e2, false, false⟩ :: ⟨[41], true, false⟩ :: ⟨e3, false, false⟩ :: K) false
      rw [List.length_cons]; omega
    rw [items_reads ts ks h hd _ false _ _ hlen e41]
    rfl
theorem read_free {t : T} {ks : List Tk} (hd : Dep 24 t) (h : Reads t ks) : readF (sched false ks) = some t := by
  obtain ⟨r, b', e, es⟩ := h 24 hd false []
  rw [List.append_nil] at e
  unfold readF
  rw [e, Option.bind_some]
  have : skip r = [] := by rw [es]; rfl
  rw [if_pos this]
end Sx
end
/-! ## Rx1 -/
section
set_option maxRecDepth 100000
set_option maxHeartbeats 2000000
set_option linter.all false
/-! A wider logic over the machine: a generator may sleep at a «yield from» over a generator. RX t Q E: with whatever
continuations, the machine comes from t to the one or the other. -/
namespace Rx
open PySem
open Sem (wp)

/-- a yield of «yield from» over a generator, within unguarded frames -/
def mutes (s : Shared) (t : Thread) : Bool :=
  match t.cur, t.code, splitAtGen t.stack with
  | .yield .., .builtin id ⟨.ref a :: _, _⟩, some (fs, _, _) =>
    id == "proto.yield_from" && !fs.any Frame.guarded && (match s.heap.get? a with | some o => o.genNumber?.isSome | none => false)
  | _, _, _ => false
def stepR (M : Model) (s : Shared) (t : Thread) : Step :=
  if (t.loud && !mutes s t) = true then .halt (.stuck "loud") s else stepK M.den M.prog M.w s t
theorem stepR_of {M : Model} {s s' : Shared} {t t' : Thread} (h : M.step s t = .go s' t') : stepR M s t = .go s' t' := by
  cases hl : t.loud with
  | true => rw [Model.step_loud M hl] at h; cases h
  | false =>
    rw [Model.step_quiet M hl] at h
    unfold stepR
    rw [hl]
    simpa using h
theorem stepR_mute {M : Model} {s : Shared} {v : Value} {g0 : Bool} {l : List Value} {k0 : Resume → Sem PySem.Fin} {p : Pos} {st fs rest : List Frame} {g : Nat} {k : GenResult → Sem PySem.Fin} {c' : Code} {p' : Pos} {a : Addr} {o : Obj} {r : List Value} {kw : List (Str × Value)}
    (h : splitAtGen st = some (fs, (g, k, c', p'), rest)) (hfs : fs.any Frame.guarded = false) (ho : s.heap.get? a = some o) (hn : o.genNumber?.isSome = true) :
    stepR M s ⟨.yield v g0 l k0, .builtin "proto.yield_from" ⟨.ref a :: r, kw⟩, p, st⟩ =
      .go (s.setGen g (.suspended k0 l (.builtin "proto.yield_from" ⟨.ref a :: r, kw⟩) p fs g0)) ⟨k (.yielded v), c', p', rest⟩ := by
  have hm : mutes s ⟨.yield v g0 l k0, .builtin "proto.yield_from" ⟨.ref a :: r, kw⟩, p, st⟩ = true := by
    unfold mutes
    simp only [h, hfs, ho, hn]
    rfl
  unfold stepR
  rw [hm]
  simp only [Bool.not_true, Bool.and_false, Bool.false_eq_true, if_false]
  obtain ⟨hp, gs, d, t, os⟩ := s
  simp only [PySem.stepK, PySem.step, h, hfs, Bool.or_false]
  rfl

inductive Comes (M : Model) : Shared → Thread → Shared → Thread → Prop
  | refl {s : Shared} {t : Thread} : Comes M s t s t
  | step {s s1 s' : Shared} {t t1 t' : Thread} : stepR M s t = .go s1 t1 → Comes M s1 t1 s' t' → Comes M s t s' t'
theorem Comes.trans {M : Model} {s s1 s' : Shared} {t t1 t' : Thread} (h : Comes M s t s1 t1) (h' : Comes M s1 t1 s' t') : Comes M s t s' t' := by
  induction h with
  | refl => exact h'
  | step e _ ih => exact .step e (ih h')
theorem Comes.one {M : Model} {s s1 s' : Shared} {t t1 t' : Thread} (h : M.step s t = .go s1 t1) (h' : Comes M s1 t1 s' t') : Comes M s t s' t' := .step (stepR_of h) h'
theorem Comes.of {M : Model} {s s' : Shared} {t t' : Thread} (h : PySem.Comes M s t s' t') : Comes M s t s' t' := by
  obtain ⟨n, hn⟩ := h
  induction n generalizing s t with
  | zero =>
    have e : Run.running s t = .running s' t' := hn
    injection e with e1 e2
    subst e1 e2
    exact .refl
  | succ n ih =>
    rw [runN_succ] at hn
    cases hs : M.step s t with
    | go s2 t2 => simp only [hs] at hn; exact .one hs (ih hn)
    | halt o s2 => simp only [hs] at hn; cases hn

section
variable {α β : Type} {M : Model} {Γ : Ctx}
/-- with whatever continuations the machine comes from t to the one that Q allows, or to the other that E allows -/
def RX (M : Model) (Γ : Ctx) (t : Sem α) (Q : α → Pos → Shared → Prop) (E : Value → Pos → Shared → Prop) (p : Pos) (s : Shared) : Prop :=
  ∀ st, Γ.Fits st → ∀ (K : α → Sem PySem.Fin) (H : Value → Sem PySem.Fin) (gd : Bool → Bool) (lv : List Value → List Value),
    (∃ a p' s', Comes M s ⟨t.wrap K H gd lv, Γ.code, p, st⟩ s' ⟨K a, Γ.code, p', st⟩ ∧ Q a p' s') ∨
    (∃ e p' s', Comes M s ⟨t.wrap K H gd lv, Γ.code, p, st⟩ s' ⟨H e, Γ.code, p', st⟩ ∧ E e p' s')
/-- the code at work comes to an end -/
def CodeX (M : Model) (Γ : Ctx) (R : Result → Shared → Prop) (p : Pos) (s : Shared) : Prop :=
  ∀ st, Γ.Fits st → ∃ r s' c' p', Comes M s ⟨M.den Γ.code, Γ.code, p, st⟩ s' ⟨leafOf r, c', p', st⟩ ∧ R r s'

theorem rx_pure {a : α} {Q : α → Pos → Shared → Prop} {E : Value → Pos → Shared → Prop} {p : Pos} {s : Shared} (h : Q a p s) : RX M Γ (.pure a) Q E p s := fun _ _ _ _ _ _ => .inl ⟨a, p, s, .refl, h⟩
theorem rx_raise {e : Value} {Q : α → Pos → Shared → Prop} {E : Value → Pos → Shared → Prop} {p : Pos} {s : Shared} (h : E e p s) : RX M Γ (.raise e) Q E p s := fun _ _ _ _ _ _ => .inr ⟨e, p, s, .refl, h⟩
theorem RX.mono {t : Sem α} {Q Q' : α → Pos → Shared → Prop} {E E' : Value → Pos → Shared → Prop} {p : Pos} {s : Shared} (h : RX M Γ t Q E p s) (hQ : ∀ a p s, Q a p s → Q' a p s) (hE : ∀ e p s, E e p s → E' e p s) : RX M Γ t Q' E' p s := fun st hf K H gd lv => by
  rcases h st hf K H gd lv with ⟨a, p', s', c, q⟩ | ⟨e, p', s', c, q⟩
  · exact .inl ⟨a, p', s', c, hQ _ _ _ q⟩
  · exact .inr ⟨e, p', s', c, hE _ _ _ q⟩
theorem rx_wrap {m : Sem α} {K1 : α → Sem β} {H1 : Value → Sem β} {gd1 : Bool → Bool} {lv1 : List Value → List Value} {Q : β → Pos → Shared → Prop} {E : Value → Pos → Shared → Prop} {p : Pos} {s : Shared}
    (h : RX M Γ m (fun a p' s' => RX M Γ (K1 a) Q E p' s') (fun e p' s' => RX M Γ (H1 e) Q E p' s') p s) : RX M Γ (m.wrap K1 H1 gd1 lv1) Q E p s := fun st hf K H gd lv => by
  rw [Sem.wrap_wrap]
  rcases h st hf (fun a => (K1 a).wrap K H gd lv) (fun e => (H1 e).wrap K H gd lv) _ _ with ⟨a, p', s', c, q⟩ | ⟨e, p', s', c, q⟩
  · rcases q st hf K H gd lv with ⟨b, p2, s2, c2, q2⟩ | ⟨b, p2, s2, c2, q2⟩
    · exact .inl ⟨b, p2, s2, c.trans c2, q2⟩
    · exact .inr ⟨b, p2, s2, c.trans c2, q2⟩
  · rcases q st hf K H gd lv with ⟨b, p2, s2, c2, q2⟩ | ⟨b, p2, s2, c2, q2⟩
    · exact .inl ⟨b, p2, s2, c.trans c2, q2⟩
    · exact .inr ⟨b, p2, s2, c.trans c2, q2⟩
theorem rx_bind {m : Sem α} {f : α → Sem β} {Q : β → Pos → Shared → Prop} {E : Value → Pos → Shared → Prop} {p : Pos} {s : Shared}
    (h : RX M Γ m (fun a p' s' => RX M Γ (f a) Q E p' s') E p s) : RX M Γ (m >>= f) Q E p s := by
  rw [Sem.bind_eq_wrap']
  exact rx_wrap (h.mono (fun _ _ _ q => q) fun _ _ _ q => rx_raise q)
theorem rx_onRaise {m : Sem α} {k : Value → Sem Unit} {Q : α → Pos → Shared → Prop} {E : Value → Pos → Shared → Prop} {p : Pos} {s : Shared}
    (h : RX M Γ m Q (fun e p' s' => RX M Γ (k e) (fun _ p2 s2 => E e p2 s2) E p' s') p s) : RX M Γ (m.onRaise k) Q E p s := by
  rw [Sem.onRaise_eq_wrap]
  refine rx_wrap (h.mono (fun _ _ _ q => rx_pure q) fun e _ _ q => ?_)
  have e2 : ((k e).bind fun _ => (Sem.raise e : Sem α)) = (k e >>= fun _ => (Sem.raise e : Sem α)) := rfl
  rw [e2]
  exact rx_bind (q.mono (fun _ _ _ z => rx_raise z) fun _ _ _ z => z)
theorem wrap_id (t : Sem α) : t.wrap .pure .raise id id = t := by
  induction t <;> simp only [Sem.wrap, id, *]

theorem codeX_of_code {R : Result → Shared → Prop} {p : Pos} {s : Shared} (h : wpCode M Γ R p s) : CodeX M Γ R p s := fun st hf => by
  obtain ⟨r, s', hr, q⟩ := h
  obtain ⟨t', c', p', pre', hc, hx⟩ := (runs_reach hr st hf).comes
  obtain ⟨rfl, rfl⟩ := hx
  exact ⟨r, s', c', p', .of hc, q⟩
theorem CodeX.mono {R R' : Result → Shared → Prop} {p : Pos} {s : Shared} (h : CodeX M Γ R p s) (hR : ∀ r s, R r s → R' r s) : CodeX M Γ R' p s := fun st hf => by
  obtain ⟨r, s', c', p', hc, q⟩ := h st hf
  exact ⟨r, s', c', p', hc, hR _ _ q⟩
theorem rx_callNode {c : Code} {hd : Option Value} {g : Bool} {l : List Value} {k : Result → Sem α} {Q : α → Pos → Shared → Prop} {E : Value → Pos → Shared → Prop} {p : Pos} {s : Shared}
    (h : CodeX M (Γ.enter c hd p) (fun r s' => RX M Γ (k r) Q E p s') p s) : RX M Γ (.call c hd g l k) Q E p s := fun st hf K H gd lv => by
  obtain ⟨r, s', c', p', hc, q⟩ := h _ (hf.enter c (fun r => (k r).wrap K H gd lv) hd (gd g) (lv l) p [])
  have c1 : Comes M s ⟨(Sem.call c hd g l k).wrap K H gd lv, Γ.code, p, st⟩ s' ⟨(k r).wrap K H gd lv, Γ.code, p, st⟩ :=
    .one (step_call ..) (hc.trans (.one (step_leaf_ret ..) .refl))
  rcases q st hf K H gd lv with ⟨b, p2, s2, c2, q2⟩ | ⟨b, p2, s2, c2, q2⟩
  · exact .inl ⟨b, p2, s2, c1.trans c2, q2⟩
  · exact .inr ⟨b, p2, s2, c1.trans c2, q2⟩
theorem codeX_of_tree {R : Result → Shared → Prop} {p : Pos} {s : Shared}
    (h : RX M Γ (M.den Γ.code) (fun fin p' s' => match fin with | .done f => R (.ok f) s' | .again c' => c'.quiet = true ∧ CodeX M (Γ.goto c') R p' s') (fun e _ s' => R (.error e) s') p s) : CodeX M Γ R p s := fun st hf => by
  have e := wrap_id (M.den Γ.code)
  rcases h st hf .pure .raise id id with ⟨fin, p', s', c, q⟩ | ⟨x, p', s', c, q⟩
  · rw [e] at c
    cases fin with
    | done f => exact ⟨.ok f, s', _, p', c, q⟩
    | again c2 =>
      obtain ⟨hq, q⟩ := q
      obtain ⟨r, s2, c3, p3, hc, q2⟩ := q st (hf.goto c2)
      exact ⟨r, s2, c3, p3, c.trans (.one (step_again _ _ _ _ _ _ hq) hc), q2⟩
  · rw [e] at c
    exact ⟨.error x, s', _, p', c, q⟩

/-- the library's logic is within this one -/
theorem rx_of_wp (t : Sem α) : ∀ (Q : α → Pos → Shared → Prop) (E : Value → Pos → Shared → Prop) (p : Pos) (s : Shared), wp M Γ t Q E p s → RX M Γ t Q E p s := by
  have go : ∀ {t t1 : Sem α} {Q : α → Pos → Shared → Prop} {E : Value → Pos → Shared → Prop} {p p1 : Pos} {s s1 : Shared},
      (∀ st, Γ.Fits st → ∀ K H gd lv, Comes M s ⟨t.wrap K H gd lv, Γ.code, p, st⟩ s1 ⟨t1.wrap K H gd lv, Γ.code, p1, st⟩) → RX M Γ t1 Q E p1 s1 → RX M Γ t Q E p s := by
    intro t t1 Q E p p1 s s1 hc h st hf K H gd lv
    rcases h st hf K H gd lv with ⟨a, p', s', c, q⟩ | ⟨e, p', s', c, q⟩
    · exact .inl ⟨a, p', s', (hc st hf K H gd lv).trans c, q⟩
    · exact .inr ⟨e, p', s', (hc st hf K H gd lv).trans c, q⟩
  induction t with
  | pure a => intro Q E p s h; exact rx_pure h
  | raise e => intro Q E p s h; exact rx_raise h
  | unsupported _ => intro Q E p s h; exact h.elim
  | finish _ => intro Q E p s h; exact h.elim
  | register _ _ _ => intro Q E p s h; exact h.elim
  | «yield» _ _ _ _ _ => intro Q E p s h; exact h.elim
  | fork _ _ _ => intro Q E p s h; exact h.elim
  | «await» _ _ _ _ _ _ => intro Q E p s h; exact h.elim
  | rule tag k ih => intro Q E p s h; exact go (fun _ _ _ _ _ _ => .one (step_rule ..) .refl) (ih () Q E p s h)
  | «at» p0 k ih => intro Q E p s h; exact go (fun _ _ _ _ _ _ => .one (step_at ..) .refl) (ih () Q E p0 s h)
  | load a part k ih => intro Q E p s h; obtain ⟨o, ho, h⟩ := h; exact go (fun _ _ _ _ _ _ => .one (step_load _ _ _ _ _ _ _ ho) .refl) (ih o Q E p s h)
  | update a part f k ih => intro Q E p s h; obtain ⟨ha, h⟩ := h; exact go (fun _ _ _ _ _ _ => .one (step_update _ _ _ _ _ _ _ _ ha) .refl) (ih () Q E p _ h)
  | loadIfAlive a k ih => intro Q E p s h; exact go (fun _ _ _ _ _ _ => .one (step_loadIfAlive ..) .refl) (ih _ Q E p s h)
  | point l k ih => intro Q E p s h; exact go (fun _ _ _ _ _ _ => .one (step_point ..) .refl) (ih () Q E p s h)
  | alloc o k ih => intro Q E p s h; exact go (fun _ _ _ _ _ _ => .one (step_alloc ..) .refl) (ih _ Q E p _ h)
  | fresh k ih => intro Q E p s h; exact go (fun _ _ _ _ _ _ => .one (step_fresh ..) .refl) (ih _ Q E p _ h)
  | ask k ih => intro Q E p s h; exact go (fun _ _ _ _ _ _ => .one (step_ask ..) .refl) (ih _ Q E p s h)
  | choose src n k ih => intro Q E p s h; obtain ⟨hn, h⟩ := h; exact go (fun _ _ _ _ _ _ => .one (step_choose _ _ _ _ _ _ _ hn) .refl) (ih _ Q E p _ h)
  | os q l k ih => intro Q E p s h; exact go (fun _ _ _ _ _ _ => .one (step_os ..) .refl) (ih _ Q E p _ h)
  | call c hd g l k ih => intro Q E p s h; exact rx_callNode (codeX_of_code (wpCode_mono (fun r s' q => ih r Q E p s' q) h))
  | handled own k ih =>
    intro Q E p s h
    refine go (fun st hf K H gd lv => .one ?_ .refl) (ih _ Q E p s h)
    show M.step _ ⟨.handled own _, _, _, _⟩ = _
    rw [step_handled]
    cases own
    · rw [hf.handled]; rfl
    · rw [hf.own]; rfl
  | genState g k ih => intro Q E p s h; obtain ⟨x, hg, h⟩ := h; exact go (fun _ _ _ _ _ _ => .one (step_genState _ _ _ _ _ _ hg) .refl) (ih _ Q E p s h)
  | newGen c k ih => intro Q E p s h; exact go (fun _ _ _ _ _ _ => .one (step_newGen ..) .refl) (ih _ Q E p _ h)
  | resume g r l k ih =>
    intro Q E p s h
    obtain ⟨res, s1, hw, h⟩ := h
    exact go (fun st hf K H gd lv => .of (wakes_comes hf (lv l) (fun x => (k x).wrap K H gd lv) hw)) (ih res Q E p s1 h)
  | stack k ih =>
    intro Q E p s h
    refine go (fun st hf K H gd lv => .one ?_ .refl) (ih _ Q E p s h)
    show M.step _ ⟨.stack _, _, _, _⟩ = _
    rw [step_stack, hf.below]
  | thread k ih => intro Q E p s h; exact go (fun _ _ _ _ _ _ => .one (step_thread ..) .refl) (ih _ Q E p s h)
end

section
variable {α β : Type} {M : Model} {A : Around} {s : Shared}
def RXA (M : Model) (A : Around) (t : Sem α) (Q : α → Shared → Prop) (E : Value → Shared → Prop) (s : Shared) : Prop :=
  ∀ Γ p, Γ.In A → RX M Γ t (fun a _ s' => Q a s') (fun e _ s' => E e s') p s
def CodeXA (M : Model) (A : Around) (c : Code) (R : Result → Shared → Prop) (s : Shared) : Prop :=
  ∀ Γ p, Γ.code = c → Γ.Below A → CodeX M Γ R p s
theorem rxa_of {t : Sem α} {Q : α → Shared → Prop} {E : Value → Shared → Prop} (h : wpAny M A t Q E s) : RXA M A t Q E s := fun Γ p hΓ => rx_of_wp t _ _ p s (h Γ p hΓ)
theorem codeXA_of {c : Code} {R : Result → Shared → Prop} (h : codeAny M A c R s) : CodeXA M A c R s := fun Γ p hc hΓ => codeX_of_code (h Γ p hc hΓ)
theorem RXA.mono {t : Sem α} {Q Q' : α → Shared → Prop} {E E' : Value → Shared → Prop} (h : RXA M A t Q E s) (hQ : ∀ a s, Q a s → Q' a s) (hE : ∀ e s, E e s → E' e s) : RXA M A t Q' E' s :=
  fun Γ p hΓ => (h Γ p hΓ).mono (fun a _ s => hQ a s) fun e _ s => hE e s
theorem CodeXA.mono {c : Code} {R R' : Result → Shared → Prop} (h : CodeXA M A c R s) (hR : ∀ r s, R r s → R' r s) : CodeXA M A c R' s := fun Γ p hc hΓ => (h Γ p hc hΓ).mono hR
theorem rxa_pure {a : α} {Q : α → Shared → Prop} {E : Value → Shared → Prop} (h : Q a s) : RXA M A (pure a) Q E s := fun _ _ _ => rx_pure h
theorem rxa_bind {m : Sem α} {f : α → Sem β} {Q : β → Shared → Prop} {E : Value → Shared → Prop} (h : RXA M A m (fun a s' => RXA M A (f a) Q E s') E s) : RXA M A (m >>= f) Q E s :=
  fun Γ p hΓ => rx_bind ((h Γ p hΓ).mono (fun a p' s' q => q Γ p' hΓ) fun _ _ _ q => q)
theorem rxa_onRaise {m : Sem α} {k : Value → Sem Unit} {Q : α → Shared → Prop} {E : Value → Shared → Prop} (h : RXA M A m Q (fun e s' => RXA M A (k e) (fun _ s2 => E e s2) E s') s) : RXA M A (m.onRaise k) Q E s :=
  fun Γ p hΓ => rx_onRaise ((h Γ p hΓ).mono (fun _ _ _ q => q) fun e p' s' q => q Γ p' hΓ)
theorem rxa_run {c : Code} {h : Option Value} {Q : Flow → Shared → Prop} {E : Value → Shared → Prop}
    (hc : CodeXA M (A.mark h) c (fun r s' => match r with | .ok f => Q f s' | .error e => E e s') s) (hnb : h ≠ some byPass := by intro x; cases x) : RXA M A (run c h) Q E s := fun Γ p hΓ => by
  refine rx_callNode ((hc _ p rfl (hΓ.enter c h p hnb)).mono fun r s' q => ?_)
  cases r with
  | ok f => exact rx_pure q
  | error e => exact rx_raise q
theorem codeXA_of_tree {c : Code} {R : Result → Shared → Prop}
    (h : RXA M (A.under c) (M.den c) (fun fin s' => match fin with | .done f => R (.ok f) s' | .again c' => c'.quiet = true ∧ CodeXA M A c' R s') (fun e s' => R (.error e) s') s) : CodeXA M A c R s := fun Γ p hc hΓ => by
  subst hc
  refine codeX_of_tree ((h Γ p hΓ.in).mono (fun fin p' s' q => ?_) fun _ _ _ q => q)
  cases fin with
  | done f => exact q
  | again c' => exact ⟨q.1, q.2 (Γ.goto c') p' rfl (hΓ.goto c')⟩
end
end Rx
end
/-! ## Rx2 -/
section
set_option maxRecDepth 100000
set_option maxHeartbeats 2000000
set_option linter.all false
/-! From the wider logic to the whole machine (schedN). -/
namespace Rx
open PySem
section
variable (den : Code → Sem PySem.Fin) (prog : Program) (w : World)

theorem mutes_shape {s : Shared} {t : Thread} (h : mutes s t = true) : ∃ v g0 l k0 a r kw p st fs b rest o, t = ⟨.yield v g0 l k0, .builtin "proto.yield_from" ⟨.ref a :: r, kw⟩, p, st⟩ ∧ splitAtGen st = some (fs, b, rest) ∧ fs.any Frame.guarded = false ∧ s.heap.get? a = some o ∧ o.genNumber?.isSome = true := by
  obtain ⟨cur, code, pos, stack⟩ := t
  unfold mutes at h
  split at h
  · rename_i v g l k id a r kw fs b rest e1 e2 e3
    dsimp only at e1 e2 e3
    subst e1 e2
    simp only [Bool.and_eq_true] at h
    obtain ⟨⟨h1, h2⟩, h3⟩ := h
    have hid : id = "proto.yield_from" := by simpa using h1
    subst hid
    cases ho : s.heap.get? a with
    | none => rw [ho] at h3; cases h3
    | some o =>
      rw [ho] at h3
      exact ⟨v, g, l, k, a, r, _, pos, stack, fs, b, rest, o, rfl, e3, by simpa using h2, ho, h3⟩
  · cases h

theorem mutes_forget (s : Shared) (t : Thread) : mutes s.forget t.forget = mutes s t := by
  obtain ⟨cur, code, pos, stack⟩ := t
  show mutes s.forget ⟨cur, code, pos, forgetAll stack⟩ = _
  unfold mutes
  simp only [splitAtGen_forgetAll]
  cases hsp : splitAtGen stack with
  | none => cases cur <;> rfl
  | some x =>
    obtain ⟨fs, b, rest⟩ := x
    simp only [Option.map_some]
    cases cur <;> try rfl
    cases code <;> try rfl
    rename_i id args
    obtain ⟨pp, kw⟩ := args
    cases pp with
    | nil => rfl
    | cons v r =>
      cases v <;> try rfl
      simp only [any_guarded_forgetAll]
      rfl

/-- a muting yield is a plain step of the whole machine -/
theorem sstep_mute {s : Shared} {t : Thread} (h : mutes s t = true) (hr : s.asleep) : sstep den prog w (.single s t) = (step den prog w s t).lift := by
  obtain ⟨v, g0, l, k0, a, r, kw, p, st, fs, b, rest, o, rfl, hsp, hg, ho, hn⟩ := mutes_shape h
  have hshow : closingShows s fs (.builtin "proto.yield_from" ⟨.ref a :: r, kw⟩) g0 = false := by
    have hd : delegateShows s (.ref a) = false := by
      unfold delegateShows
      simp only [ho]
      obtain ⟨n, e⟩ := Option.isSome_iff_exists.mp hn
      simp only [e, hr.1]
      rfl
    unfold closingShows
    simp only [hg, hd, Bool.false_or, Bool.and_false]
  have h1 : (Config.single s ⟨.yield v g0 l k0, .builtin "proto.yield_from" ⟨.ref a :: r, kw⟩, p, st⟩).collect? w.params = none := by
    simp [Config.collect?, Config.single, (nothing_to_collect _ _ _ s _ hr.1).1]
  have h2 : (Config.single s ⟨.yield v g0 l k0, .builtin "proto.yield_from" ⟨.ref a :: r, kw⟩, p, st⟩).collectable = [] := by
    simp [Config.collectable, Config.single, (nothing_to_collect w.params _ _ s _ hr.1).2]
  have h3 : (Config.single s ⟨.yield v g0 l k0, .builtin "proto.yield_from" ⟨.ref a :: r, kw⟩, p, st⟩).moves w.params.profile = [.run 0] := by
    simp [Config.moves, Config.single, movesFrom, Thread.moves, Thread.atomic, Thread.rests, Thread.tells]
  have hpick : (Config.single s ⟨.yield v g0 l k0, .builtin "proto.yield_from" ⟨.ref a :: r, kw⟩, p, st⟩).pick w = .ok (.run 0, .single s ⟨.yield v g0 l k0, .builtin "proto.yield_from" ⟨.ref a :: r, kw⟩, p, st⟩) := by
    simp only [Config.pick, h1, h2, Config.pickThread, h3]
    cases w.params.lifetimes <;> simp
  have hlife : ∀ others, lifeStep den prog w others s ⟨.yield v g0 l k0, .builtin "proto.yield_from" ⟨.ref a :: r, kw⟩, p, st⟩ = step den prog w s ⟨.yield v g0 l k0, .builtin "proto.yield_from" ⟨.ref a :: r, kw⟩, p, st⟩ := by
    intro others
    unfold lifeStep
    split
    · simp only [collectorTurn?, hsp, hshow, Thread.atItsEnd, Bool.false_and, Bool.false_eq_true, if_false]
      unfold stepCounting
      simp only [hr.2, Bool.false_and, Bool.false_eq_true, if_false]
    · unfold stepCounting
      simp only [hr.2, Bool.false_and, Bool.false_eq_true, if_false]
  have hrun : (Config.single s ⟨.yield v g0 l k0, .builtin "proto.yield_from" ⟨.ref a :: r, kw⟩, p, st⟩).run den prog w 0 = (step den prog w s ⟨.yield v g0 l k0, .builtin "proto.yield_from" ⟨.ref a :: r, kw⟩, p, st⟩).lift := by
    clear hpick h1 h2 h3 hshow h hsp hg ho hn
    simp only [Config.run, Config.single]
    simp [hlife, others_single, frozenBadly, ThreadState.insideWrite, Thread.finalizes]
    split <;> simp_all [Step.lift, Config.single]
  simp only [sstep, hpick, Config.move, hrun]

/-- what the whole machine does plainly -/
def meek (s : Shared) (t : Thread) : Prop := t.calm = true ∨ mutes s t = true
theorem meek_forget {s s' : Shared} {t t' : Thread} (hs : s.forget = s'.forget) (ht : t.forget = t'.forget) (h : meek s t) : meek s' t' := by
  rcases h with h | h
  · left
    rw [← Thread.calm_forget, ← ht, Thread.calm_forget]
    exact h
  · right
    rw [← mutes_forget, ← hs, ← ht, mutes_forget]
    exact h
theorem schedN_meek : ∀ (n : Nat) (s : Shared) (t : Thread) (s' : Shared) (t' : Thread), s.asleep → runN den prog w n s t = .running s' t' →
    (∀ k s1 t1, k < n → runN den prog w k s t = .running s1 t1 → meek s1 t1) → schedN den prog w n (.single s t) = .running (.single s' t') ∧ s'.asleep
  | 0, s, t, s', t', hr, h, _ => by
    have e : Run.running s t = .running s' t' := h
    injection e with e1 e2
    subst e1 e2
    exact ⟨rfl, hr⟩
  | n + 1, s, t, s', t', hr, h, hm => by
    have hgo : ∃ s2 t2, step den prog w s t = .go s2 t2 := by
      simp only [runN] at h
      cases hs : step den prog w s t with
      | go s2 t2 => exact ⟨s2, t2, rfl⟩
      | halt o s2 => simp only [hs] at h; cases h
    obtain ⟨s2, t2, hs⟩ := hgo
    have e : sstep den prog w (.single s t) = (step den prog w s t).lift := by
      rcases hm 0 s t (Nat.succ_pos n) rfl with hc | hc
      · rcases sstep_single den prog w s t hc hr with e | e
        · exact e
        · rw [hs] at e; cases e
      · exact sstep_mute den prog w hc hr
    simp only [runN, hs] at h
    have ih := schedN_meek n s2 t2 s' t' (by simp only [Shared.asleep, step_life den prog w s s2 t t2 hs]; exact hr) h
      (fun k s1 t1 hk hrun => hm (k + 1) s1 t1 (Nat.succ_lt_succ hk) (by simp only [runN, hs]; exact hrun))
    refine ⟨?_, ih.2⟩
    simp only [schedN, e, hs, Step.lift]
    exact ih.1
end

section
variable {M : Model}
theorem stepR_go {s s' : Shared} {t t' : Thread} (h : stepR M s t = .go s' t') : stepK M.den M.prog M.w s t = .go s' t' ∧ meek s t := by
  unfold stepR at h
  split at h
  · cases h
  · rename_i hl
    refine ⟨h, ?_⟩
    cases hm : mutes s t with
    | true => exact Or.inr hm
    | false =>
      left
      rw [hm] at hl
      have hq : t.loud = false := by
        cases hx : t.loud with
        | true => rw [hx] at hl; exact absurd rfl hl
        | false => rfl
      rw [Thread.calm_eq, hq]
      cases hrf : t.refused with
      | false => rfl
      | true =>
        obtain ⟨what, e⟩ := stepK_refused M.den M.prog M.w (s := s) hrf
        rw [e] at h; cases h
theorem Comes.runNK {s s' : Shared} {t t' : Thread} (h : Comes M s t s' t') : ∃ n, PySem.runNK M.den M.prog M.w n s t = .running s' t' ∧ ∀ k s1 t1, k < n → PySem.runNK M.den M.prog M.w k s t = .running s1 t1 → meek s1 t1 := by
  induction h with
  | refl => exact ⟨0, rfl, fun k _ _ hk => absurd hk (Nat.not_lt_zero _)⟩
  | step e _ ih =>
    obtain ⟨n, hn, hm⟩ := ih
    obtain ⟨e2, m⟩ := stepR_go e
    refine ⟨n + 1, by simp only [PySem.runNK, e2]; exact hn, fun k s1 t1 hk hrun => ?_⟩
    cases k with
    | zero =>
      have q : Run.running _ _ = Run.running s1 t1 := hrun
      injection q with q1 q2
      subst q1 q2
      exact m
    | succ k =>
      simp only [PySem.runNK, e2] at hrun
      exact hm k s1 t1 (Nat.lt_of_succ_lt_succ hk) hrun
theorem runN_of_runNK {den : Code → Sem PySem.Fin} {prog : Program} {w : World} {n : Nat} {s s' : Shared} {t t' : Thread} (h : PySem.runNK den prog w n s t = .running s' t') :
    ∃ σ tau, PySem.runN den prog w n s t = .running σ tau ∧ σ.forget = s'.forget ∧ tau.forget = t'.forget := by
  have e := runNK_same den prog w n (s₁ := s) (s₂ := s) (t₁ := t) (t₂ := t) rfl rfl
  rw [h] at e
  cases hr : PySem.runN den prog w n s t with
  | halted o σ => rw [hr] at e; simp [Run.forget] at e
  | running σ tau =>
    rw [hr] at e
    simp only [Run.forget, Run.running.injEq] at e
    exact ⟨σ, tau, rfl, e.1.symm, e.2.symm⟩
theorem runNK_of_runN {den : Code → Sem PySem.Fin} {prog : Program} {w : World} {n : Nat} {s s' : Shared} {t t' : Thread} (h : PySem.runN den prog w n s t = .running s' t') :
    ∃ σ tau, PySem.runNK den prog w n s t = .running σ tau ∧ σ.forget = s'.forget ∧ tau.forget = t'.forget := by
  have e := runNK_same den prog w n (s₁ := s) (s₂ := s) (t₁ := t) (t₂ := t) rfl rfl
  rw [h] at e
  cases hr : PySem.runNK den prog w n s t with
  | halted o σ => rw [hr] at e; simp [Run.forget] at e
  | running σ tau =>
    rw [hr] at e
    simp only [Run.forget, Run.running.injEq] at e
    exact ⟨σ, tau, rfl, e.1, e.2⟩

/-- the end: a thread that comes to a leaf with nothing left halts, in the whole machine -/
theorem ends {s s' : Shared} {t : Sem PySem.Fin} {c : Code} {p p' : Pos} {r : Result} (hreg : s.asleep) (h : Comes M s ⟨t, c, p, []⟩ s' ⟨leafOf r, c, p', []⟩) (hl : leftWithCleanup s'.gens = false) :
    ∃ n σ, PySem.runN M.den M.prog M.w n s ⟨t, c, p, []⟩ = .halted (outcomeOf r) σ ∧ schedN M.den M.prog M.w n (.single s ⟨t, c, p, []⟩) = .halted (outcomeOf r) σ ∧ σ.forget = s'.forget := by
  obtain ⟨n, hn, hm⟩ := h.runNK
  obtain ⟨σ, tau, hrun, hσ, htau⟩ := runN_of_runNK hn
  obtain ⟨cur, code, pos, stack⟩ := tau
  simp only [Thread.forget, Thread.mk.injEq, forgetAll] at htau
  obtain ⟨e1, e2, e3, e4⟩ := htau
  have hst : stack = [] := by cases stack with | nil => rfl | cons x xs => simp at e4
  subst hst e1 e2 e3
  have hmeek : ∀ k s1 t1, k < n → PySem.runN M.den M.prog M.w k s ⟨t, code, p, []⟩ = .running s1 t1 → meek s1 t1 := by
    intro k s1 t1 hk hr1
    obtain ⟨σ1, tau1, hk1, hσ1, ht1⟩ := runNK_of_runN hr1
    exact meek_forget hσ1 ht1 (hm k σ1 tau1 hk hk1)
  obtain ⟨hs, ha⟩ := schedN_meek M.den M.prog M.w n s _ σ _ hreg hrun hmeek
  have hl' : leftWithCleanup σ.gens = false := by rw [leftWithCleanup_of_forget_eq hσ]; exact hl
  have hstep : step M.den M.prog M.w σ ⟨leafOf r, code, pos, []⟩ = .halt (outcomeOf r) σ := by
    obtain ⟨hp, gs, d, tk, os⟩ := σ
    cases r with
    | ok f => simp only [leafOf, outcomeOf, step, finish, hl', Bool.false_eq_true, if_false]
    | error e => simp only [leafOf, outcomeOf, step, finish, hl', Bool.false_eq_true, if_false]
  have hcalm : Thread.calm ⟨leafOf r, code, pos, []⟩ = true := by cases r <;> rfl
  have hsst : sstep M.den M.prog M.w (.single σ ⟨leafOf r, code, pos, []⟩) = .halt (outcomeOf r) σ := by
    rcases sstep_single M.den M.prog M.w σ _ hcalm ha with e | e
    · rw [e, hstep]; rfl
    · rw [hstep] at e; cases r <;> cases e
  refine ⟨n + 1, σ, ?_, ?_, hσ⟩
  · have := runN_add1 (den := M.den) (prog := M.prog) (w := M.w) hrun
    rw [this, hstep]
  · have := schedN_add1 (den := M.den) (prog := M.prog) (w := M.w) hs
    rw [this, hsst]
where
  runN_add1 {den : Code → Sem PySem.Fin} {prog : Program} {w : World} : ∀ {n : Nat} {s s' : Shared} {t t' : Thread}, PySem.runN den prog w n s t = .running s' t' →
      PySem.runN den prog w (n + 1) s t = match step den prog w s' t' with | .go s2 t2 => .running s2 t2 | .halt o s2 => .halted o s2
    | 0, s, s', t, t', h => by
      have e : Run.running s t = .running s' t' := h
      injection e with e1 e2
      subst e1 e2
      simp only [PySem.runN]
      cases step den prog w s t <;> rfl
    | n + 1, s, s', t, t', h => by
      simp only [PySem.runN] at h
      rw [PySem.runN]
      cases hs : step den prog w s t with
      | go s2 t2 => simp only [hs] at h; exact runN_add1 h
      | halt o s2 => simp only [hs] at h; cases h
  schedN_add1 {den : Code → Sem PySem.Fin} {prog : Program} {w : World} : ∀ {n : Nat} {c c' : Config}, schedN den prog w n c = .running c' →
      schedN den prog w (n + 1) c = match sstep den prog w c' with | .go c2 => .running c2 | .halt o s2 => .halted o s2
    | 0, c, c', h => by
      have e : SRun.running c = .running c' := h
      injection e with e1
      subst e1
      simp only [schedN]
      cases sstep den prog w c <;> rfl
    | n + 1, c, c', h => by
      simp only [schedN] at h
      rw [schedN]
      cases hs : sstep den prog w c with
      | go c2 => simp only [hs] at h; exact schedN_add1 h
      | halt o s2 => simp only [hs] at h; cases h
end
open PySem.W PyProof.Rows in
/-- the claim's caller over the wider logic -/
theorem thread_ends {prog : Program} {w : World} {t : Sem PySem.Fin} {s : Shared} {R : Result → Shared → Prop} (hreg : s.asleep)
    (h : RXA (model prog w) callerA t (fun fin s' => ∃ f, fin = .done f ∧ (R (.ok f) s' ∧ leftWithCleanup s'.gens = false)) (fun e s' => R (.error e) s' ∧ leftWithCleanup s'.gens = false) s) :
    ∃ n r s' s'', runN (denote table) prog w n s ⟨t, .builtin "claim.caller" {}, default, []⟩ = .halted (outcomeOf r) s' ∧
      schedN (denote table) prog w n (.single s ⟨t, .builtin "claim.caller" {}, default, []⟩) = .halted (outcomeOf r) s' ∧ s'.forget = s''.forget ∧ R r s'' := by
  have hx := h _ default caller_in [] (Ctx.fits_of (.builtin "claim.caller" {}) []) .pure .raise id id
  rw [wrap_id] at hx
  rcases hx with ⟨fin, p', s', c, f, rfl, hR, hl⟩ | ⟨e, p', s', c, hR, hl⟩
  · obtain ⟨n, σ, h1, h2, h3⟩ := ends (r := .ok f) hreg c hl
    exact ⟨n, .ok f, σ, s', h1, h2, h3, hR⟩
  · obtain ⟨n, σ, h1, h2, h3⟩ := ends (r := .error e) hreg c hl
    exact ⟨n, .error e, σ, s', h1, h2, h3, hR⟩
end Rx
end
/-! ## Rx3 -/
section
set_option maxRecDepth 100000
set_option maxHeartbeats 4000000
set_option linter.all false
/-! The hand layer's judgements over the wider logic: for the defs that call sexp_lacks. -/
namespace Rx
open PySem PySem.Spec PyProof.Rows L2
section
variable {α β : Type} {M : Model} {A : Around} {s : Shared} {env : Env}
theorem rxa_keep {vs : List Value} {m : Sem α} {Q : α → Shared → Prop} {E : Value → Shared → Prop} (h : RXA M A m Q E s) : RXA M A (m.keep vs) Q E s := fun Γ p hΓ => by
  rw [Sem.keep_eq_wrap]
  exact rx_wrap ((h Γ p hΓ).mono (fun _ _ _ q => rx_pure q) fun _ _ _ q => rx_raise q)
theorem rxa_holding {vs : List Value} {m : Sem α} {Q : α → Shared → Prop} {E : Value → Shared → Prop} (h : RXA M A m Q E s) : RXA M A (holding vs m) Q E s := by
  rw [holding_eq_keep]
  exact rxa_keep h
theorem rxa_bw {m : Sem α} {f : α → Sem β} {Q : β → Shared → Prop} {E : Value → Shared → Prop} (h : wpAny M A m (fun a s' => RXA M A (f a) Q E s') E s) : RXA M A (m >>= f) Q E s := rxa_bind (rxa_of h)
theorem rxa_call {f : Value} {pos : List Value} {kw : List (Str × Value)} {Q : Value → Shared → Prop} {E : Value → Shared → Prop}
    (hc : CodeXA M A (.call f ⟨pos, kw⟩) (fun r s' => match r with | .ok (.ret v) => Q v s' | .ok _ => False | .error e => E e s') s) : RXA M A (call f pos kw) Q E s := by
  show RXA M A (run (.call f ⟨pos, kw⟩) none >>= _) Q E s
  refine rxa_bind (rxa_run (hc.mono fun r s' q => ?_))
  cases r with
  | error e => exact q
  | ok fl =>
    cases fl with
    | ret v => exact rxa_pure q
    | next => exact q.elim
    | brk => exact q.elim
    | cont => exact q.elim
theorem rxa_spliced_cons {x : Sem Value} {rest : List (Bool × Sem Value)} {Q : List Value → Shared → Prop} {E : Value → Shared → Prop}
    (h : RXA M A x (fun v s1 => RXA M A (spliced rest) (fun vs s2 => Q (v :: vs) s2) E s1) E s) : RXA M A (spliced ((false, x) :: rest)) Q E s := by
  rw [spliced]
  refine rxa_bind (h.mono (fun v s1 h1 => ?_) fun _ _ q => q)
  simp only [Bool.false_eq_true, if_false]
  exact rxa_bw (wpAny_pure (rxa_bind (rxa_holding (h1.mono (fun vs s2 h2 => rxa_pure h2) fun _ _ q => q))))
theorem rxa_evalArgs {f : Value} {x : Sem Value} {rest : List (Bool × Sem Value)} {Q : Args → Shared → Prop} {E : Value → Shared → Prop}
    (h : RXA M A (spliced ((false, x) :: rest)) (fun vs s' => Q ⟨vs, []⟩ s') E s) : RXA M A (evalArgs f true ((false, x) :: rest) []) Q E s := by
  unfold evalArgs
  show RXA M A (spliced ((false, x) :: rest) >>= _) Q E s
  refine rxa_bind (h.mono (fun vs s' h' => ?_) fun _ _ q => q)
  refine rxa_holding ?_
  exact rxa_of (wpAny_bind (wpAny_pure (wpAny_bind (wpAny_pure (wpAny_pure h')))))
theorem rxa_callWith {K : PySem.W.Frag} {pos : Pos} {f : Value} {x : Sem Value} {rest : List (Bool × Sem Value)} {Q : Value → Shared → Prop} {E : Value → Shared → Prop} (hk : PySem.W.keepIn K f = true) (hplain : rest.any (·.1) = false)
    (h : RXA M A (spliced ((false, x) :: rest)) (fun vs s1 => K.In s1.heap ∧ RXA M A (call f vs) Q E s1) E s) : RXA M A (callWith pos f [] ((false, x) :: rest) []) Q E s := by
  unfold callWith
  refine rxa_bind (rxa_holding (rxa_evalArgs (h.mono (fun vs s1 h1 => rxa_bw (wpAny_standAt ?_)) fun _ _ q => q)))
  obtain ⟨X, h1⟩ := h1
  obtain ⟨k, hk', L⟩ := PySem.W.keeps_K (M := M) hk s1.heap X
  have hp : (((false, x) :: rest).any (·.1) || ([] : List (Option Str × Sem Value)).any (·.1.isNone)) = false := by
    show ((false || rest.any (·.1)) || false) = false
    rw [hplain]; rfl
  simp only [hp]
  refine rxa_bw (L.here ?_)
  have tail : ∀ {t : Sem Value}, RXA M A t Q E s1 → RXA M A (t >>= fun r => holding [r] point >>= fun _ => pure r) Q E s1 :=
    fun ht => rxa_bind (ht.mono (fun r s2 hr => rxa_of (wpAny_bind (wpAny_holding (wpAny_point (wpAny_pure hr))))) fun _ _ q => q)
  have marked (mk : Value) : RXA M A (callMarked mk f ([] ++ vs) []) Q E s1 := by unfold callMarked; exact rxa_keep h1
  rcases hk' with rfl | rfl | rfl <;> dsimp only <;> first | exact tail h1 | (split <;> first | exact tail h1 | exact tail (marked _))
theorem rxa_Call_Name {id : Str} {p pos : Pos} {args : List Expr} {keywords : List Keyword} {Q : Value → Shared → Prop} {E : Value → Shared → Prop}
    (h : wpAny M A (eval (.Name id p) env) (fun f s1 => RXA M A (callWith pos f [] (backTo pos (starEach args env)) (backToKw pos (keywordEach keywords env))) Q E s1) E s) :
    RXA M A (eval (.Call (.Name id p) args keywords pos) env) Q E s := by
  rw [arm_eval_Call_Name']
  exact rxa_bw h
theorem rxa_Assign_Name {x : Str} {pos' pos : Pos} {value : Expr} {Q : Flow → Shared → Prop} {E : Value → Shared → Prop}
    (h : RXA M A (eval value env) (fun v s1 => wpAny M A (storeName env x v) (fun _ => Q .next) E s1) E s) (hs : swapsWith value (some (.Name x pos')) pos.line env = pure false) :
    RXA M A (exec (.Assign [.Name x pos'] value pos) env) Q E s := by
  rw [exec_Assign_Name env x pos' value pos hs]
  refine rxa_bw (wpAny_standAt (rxa_bind (h.mono (fun v s1 h1 => rxa_of ?_) fun _ _ q => q)))
  exact wpAny_bind (wpAny_standAt (wpAny_bind (wpAny_bindName (wpAny_mono h1 (fun _ _ q => wpAny_pure q) fun _ _ q => q))))
theorem rxa_execs_nil {Q : Flow → Shared → Prop} {E : Value → Shared → Prop} (h : Q .next s) : RXA M A (execs [] env) Q E s := rxa_of (wpAny_execs_nil h)
theorem rxa_execs_cons {st : Stmt} {rest : List Stmt} {Q : Flow → Shared → Prop} {E : Value → Shared → Prop}
    (h : RXA M A (exec st env) (fun f s' => match f with | .next => RXA M A (execs rest env) Q E s' | f => Q f s') E s) : RXA M A (execs (st :: rest) env) Q E s := by
  rw [execs_cons]
  refine rxa_bind (h.mono (fun f s' q => ?_) fun _ _ q => q)
  cases f with
  | next => exact q
  | brk => exact rxa_pure q
  | cont => exact rxa_pure q
  | ret v => exact rxa_pure q
theorem rxa_If {test : Expr} {body orelse : List Stmt} {pos : Pos} {Q : Flow → Shared → Prop} {E : Value → Shared → Prop}
    (h : RXA M A (isTrue test env (eval test env)) (fun b s2 => if b = true then RXA M A (execs body env) Q E s2 else RXA M A (execs orelse env) Q E s2) E s) :
    RXA M A (exec (.If test body orelse pos) env) Q E s := by
  rw [exec_If]
  refine rxa_bw (wpAny_standAt (rxa_bind (h.mono (fun b s' q => ?_) fun _ _ q => q)))
  cases b with
  | true => exact q
  | false => exact q
theorem rxa_isTrue_or {x y : Expr} {pos : Pos} {whole : Sem Value} {Q : Bool → Shared → Prop} {E : Value → Shared → Prop}
    (h : RXA M A (isTrue x env (eval x env)) (fun c s' => if c = true then Q true s' else RXA M A (isTrue y env (eval y env)) Q E s') E s) :
    RXA M A (isTrue (.BoolOp .Or [x, y] pos) env whole) Q E s := by
  show RXA M A (do
    match BoolOp.Or, ← isTrue x env (eval x env) with
    | .And, false => pure false
    | .Or, true => pure true
    | _, _ => allTrue .Or [y] env) Q E s
  refine rxa_bind (h.mono (fun c s' q => ?_) fun _ _ q => q)
  cases c with
  | true => exact rxa_pure q
  | false =>
    show RXA M A (do
      match BoolOp.Or, ← isTrue y env (eval y env) with
      | .And, false => pure false
      | .Or, true => pure true
      | _, _ => allTrue .Or [] env) Q E s'
    refine rxa_bind (RXA.mono (Q := Q) q (fun c s' q => ?_) fun _ _ q => q)
    cases c with
    | true => exact rxa_pure q
    | false => exact rxa_pure q
theorem rxa_isTrue_not {x : Expr} {pos : Pos} {whole : Sem Value} {Q : Bool → Shared → Prop} {E : Value → Shared → Prop} (h : RXA M A (isTrue x env (eval x env)) (fun c s' => Q (!c) s') E s) :
    RXA M A (isTrue (.UnaryOp .Not x pos) env whole) Q E s := by
  show RXA M A (do return !(← isTrue x env (eval x env))) Q E s
  exact rxa_bind (h.mono (fun c s' h' => rxa_pure h') fun _ _ q => q)
theorem rxa_isTrue_plain {e : Expr} {whole : Sem Value} {Q : Bool → Shared → Prop} {E : Value → Shared → Prop} (h : RXA M A whole (fun v s1 => wpAny M A (truthy v) Q E s1) E s)
    (he : isTrue e env whole = (do let v ← whole; standAt e.pos; holding [v] (truthy v))) : RXA M A (isTrue e env whole) Q E s := by
  rw [he]
  exact rxa_bind (h.mono (fun v s1 h1 => rxa_of (wpAny_bind (wpAny_standAt (wpAny_holding h1)))) fun _ _ q => q)
end

/-! ### judgements -/
structure PEX (X : Cx) (e : Expr) (t : TE) : Prop where
  run : ∀ (pins : List (Addr × Obj)) (s : Shared) (σ : L2.St) (H : Hp) (Q : VK), L2.Inv X pins σ H s → t σ H Q → RXA (model X.prog X.w) X.A (eval e X.env) (EP X pins σ Q) X.xe s
structure PTX (X : Cx) (e : Expr) (t : TT) : Prop where
  run : ∀ (pins : List (Addr × Obj)) (s : Shared) (σ : L2.St) (H : Hp) (Q : Bool → Hp → Prop), L2.Inv X pins σ H s → t σ H Q → RXA (model X.prog X.w) X.A (isTrue e X.env (eval e X.env)) (TP X pins σ Q) X.xe s
structure PAX (X : Cx) (es : List Expr) (t : TA) : Prop where
  run : ∀ (pos : Pos) (pins : List (Addr × Obj)) (s : Shared) (σ : L2.St) (H : Hp) (Q : List V → Hp → Prop), L2.Inv X pins σ H s → t σ H Q → RXA (model X.prog X.w) X.A (spliced (backTo pos (starEach es X.env))) (AP X pins σ Q) X.xe s
structure PSX (X : Cx) (st : Stmt) (t : TS) : Prop where
  run : ∀ (pins : List (Addr × Obj)) (s : Shared) (σ : L2.St) (H : Hp) (D : Ends), L2.Inv X pins σ H s → t D σ H → RXA (model X.prog X.w) X.A (exec st X.env) (SP X pins D) X.xe s
structure PSsX (X : Cx) (st : List Stmt) (t : TS) : Prop where
  run : ∀ (pins : List (Addr × Obj)) (s : Shared) (σ : L2.St) (H : Hp) (D : Ends), L2.Inv X pins σ H s → t D σ H → RXA (model X.prog X.w) X.A (execs st X.env) (SP X pins D) X.xe s
section
variable {X : Cx} {st : Stmt} {rest : List Stmt} {t u : TS}
theorem pex_of {e : Expr} {te : TE} (h : PE X e te) : PEX X e te := ⟨fun pins s σ H Q I q => rxa_of (h.run pins s σ H Q I q)⟩
theorem ptx_of {e : Expr} {te : TT} (h : PT X e te) : PTX X e te := ⟨fun pins s σ H Q I q => rxa_of (h.run pins s σ H Q I q)⟩
theorem pax_of {es : List Expr} {te : TA} (h : PA X es te) : PAX X es te := ⟨fun pos pins s σ H Q I q => rxa_of (h.run pos pins s σ H Q I q)⟩
theorem psx_of (h : PS X st t) : PSX X st t := ⟨fun pins s σ H D I q => rxa_of (h.run pins s σ H D I q)⟩
theorem pssx_of {sts : List Stmt} (h : PSs X sts t) : PSsX X sts t := ⟨fun pins s σ H D I q => rxa_of (h.run pins s σ H D I q)⟩
theorem pssx_cons (h1 : PSX X st t) (h2 : PSsX X rest u) : PSsX X (st :: rest) (tSeq t u) := by
  refine ⟨fun pins s σ H D I h => ?_⟩
  refine rxa_execs_cons ((h1.run pins s σ H { D with nx := u D } I h).mono (fun f s1 q => ?_) fun _ _ q => q)
  cases f with
  | next =>
    obtain ⟨σ', H', I', q⟩ := q
    exact h2.run pins s1 σ' H' D I' q
  | ret v => exact q
  | brk => exact q
  | cont => exact q
theorem pssx_one (h1 : PSX X st t) : PSsX X [st] t := by
  refine ⟨fun pins s σ H D I h => ?_⟩
  refine rxa_execs_cons ((h1.run pins s σ H D I h).mono (fun f s1 q => ?_) fun _ _ q => q)
  cases f with
  | next => exact rxa_execs_nil q
  | ret v => exact q
  | brk => exact q
  | cont => exact q
theorem psx_set {i : Nat} {x : Str} {e : Expr} {te : TE} {pos pos' : Pos} (hN : X.N.Nodup) (hi : X.N[i]? = some x) (hx : Loc X.env.scope x) (he : PEX X e te) (hs : swapsWith e (some (.Name x pos')) pos.line X.env = pure false := by rfl) (hf : X.fn x = true ∨ X.env.scope.names.lookup x = some .local := by first | exact .inl rfl | exact .inr rfl | assumption) :
    PSX X (.Assign [.Name x pos'] e pos) (tAsg te (gName i)) := by
  refine ⟨fun pins s σ H D I h => ?_⟩
  refine rxa_Assign_Name ((he.run pins s σ H _ I h).mono (fun v s1 ⟨y, H1, I1, r1, q1⟩ => ?_) fun _ _ q => q) hs
  exact store_ok I1 hN hi hx r1 (fun s2 I2 => ⟨_, H1, I2, q1⟩) hf
theorem psx_if {c : Expr} {a b : List Stmt} {tc : TT} {pos : Pos} (hc : PTX X c tc) (ha : PSsX X a t) (hb : PSsX X b u) : PSX X (.If c a b pos) (tIfS tc t u) := by
  refine ⟨fun pins s σ H D I h => ?_⟩
  refine rxa_If ((hc.run pins s σ H _ I h).mono (fun d s1 ⟨H1, I1, q1⟩ => ?_) fun _ _ q => q)
  cases d with
  | true => exact ha.run pins s1 σ H1 D I1 q1
  | false => exact hb.run pins s1 σ H1 D I1 q1
theorem ptx_or {a b : Expr} {ta tb : TT} {pos : Pos} (ha : PTX X a ta) (hb : PTX X b tb) : PTX X (.BoolOp .Or [a, b] pos) (tOr ta tb) := by
  refine ⟨fun pins s σ H Q I h => ?_⟩
  refine rxa_isTrue_or ((ha.run pins s σ H _ I h).mono (fun c s1 ⟨H1, I1, q1⟩ => ?_) fun _ _ q => q)
  cases c with
  | true => exact ⟨H1, I1, q1⟩
  | false => exact hb.run pins s1 σ H1 Q I1 q1
theorem ptx_not {a : Expr} {ta : TT} {pos : Pos} (ha : PTX X a ta) : PTX X (.UnaryOp .Not a pos) (tNot ta) := by
  refine ⟨fun pins s σ H Q I h => ?_⟩
  exact rxa_isTrue_not (ha.run pins s σ H (fun c H1 => Q (!c) H1) I h)
theorem ptx_val {e : Expr} {te : TE} (h : PEX X e te) (he : ∀ whole, isTrue e X.env whole = (do let v ← whole; standAt e.pos; holding [v] (truthy v)) := by intro _; rfl) : PTX X e (tB te) := by
  refine ⟨fun pins s σ H Q I hw => ?_⟩
  refine rxa_isTrue_plain ((h.run pins s σ H _ I hw).mono (fun v s1 ⟨x, H1, I1, r1, q1⟩ => ?_) fun _ _ q => q) (he _)
  obtain ⟨d, rfl, q⟩ := q1
  cases r1
  exact wpAny_truthy_bool ⟨H1, I1, q⟩
theorem pax_nil : PAX X [] tNil := pax_of pa_nil
theorem pax_cons {e : Expr} {es : List Expr} {te : TE} {ta : TA} (ha : PEX X e te) (hr : PAX X es ta) (hs : starEach (e :: es) X.env = (false, eval e X.env) :: starEach es X.env := by rfl) : PAX X (e :: es) (tCons te ta) := by
  refine ⟨fun pos pins s σ H Q I h => ?_⟩
  rw [hs]
  show RXA _ _ (spliced ((false, eval e X.env) :: backTo pos (starEach es X.env))) _ _ s
  refine rxa_spliced_cons ((ha.run pins s σ H _ I h).mono (fun u s1 ⟨x, H1, I1, r1, q1⟩ => ?_) fun _ _ q => q)
  exact (hr.run pos pins s1 σ H1 _ I1 q1).mono (fun us s2 ⟨xs, H2, I2, r2, q2⟩ => ⟨x :: xs, H2, I2, .cons r1 r2, q2⟩) fun _ _ q => q
end

/-! ### defs -/
structure FnX (P : Program) (w : World) (K : PySem.W.Frag) (mg : Str → Option Value) (base : Heap) (CX : CXT) (k : Nat) (f : Addr) (fd : FuncData) (ps : List Str) (sp : Sp) : Prop where
  len : ∀ vs H Q E, sp vs H Q E → vs.length = ps.length
  run : ∀ (A : Around) (outer : List Env) (s : Shared) (H : Hp) (args : Args) (us : List Value) (vs : List V) (Q : VK) (E : XK), Room k A → Env0 P w K mg base A outer s H → BindsTo s fd args (ps.zip us) → Vals vs us → sp vs H Q E →
    CodeXA (model P w) A (.call (.ref f) args) (CR CX outer P w H s Q E) s
theorem FnX.of {P : Program} {w : World} {K : PySem.W.Frag} {mg : Str → Option Value} {base : Heap} {CX : CXT} {k : Nat} {f : Addr} {fd : FuncData} {ps : List Str} {sp : Sp} (F : FnOk P w K mg base CX k f fd ps sp) : FnX P w K mg base CX k f fd ps sp :=
  ⟨F.len, fun A outer s H args us vs Q E hr e0 hb r h => codeXA_of (F.run A outer s H args us vs Q E hr e0 hb r h)⟩
section
variable {X : Cx} {k : Nat} {x : Str} {f : Addr} {fd : FuncData} {ps : List Str} {sp : Sp} {CX : CXT} {E : XK} {e : Expr} {es : List Expr} {t : TA} {p pos : Pos}
theorem pex_call (F : FnX X.prog X.w X.K X.mg X.base CX k f fd ps sp) (hr : Room k X.A) (hg : Gl X x) (hm : X.mg x = some (.ref f)) (hk : PySem.W.keepIn X.K (.ref f) = true) (hb : Binds X.K fd ps []) (hx : Passes CX X E)
    (ha : PAX X (e :: es) t) (hdb : (x == ("__debug__" : Str)) = false := by decide) (he : starEach (e :: es) X.env = (false, eval e X.env) :: starEach es X.env := by rfl) (hpl : (backTo pos (starEach es X.env)).any (·.1) = false := by rfl) :
    PEX X (.Call (.Name x p) (e :: es) [] pos) (tCall sp [] E t) := by
  refine ⟨fun pins s σ H Q I h => ?_⟩
  refine rxa_Call_Name (ld_glob I hg hm ?_ hdb)
  have h0 := ha.run pos pins s σ H _ I h
  rw [he] at h0 ⊢
  refine rxa_callWith (K := X.K) (x := eval e X.env) (rest := backTo pos (starEach es X.env)) hk hpl (RXA.mono (show RXA _ _ (spliced ((false, eval e X.env) :: backTo pos (starEach es X.env))) _ _ s from h0) (fun us s1 ⟨vs, H1, I1, r, q⟩ => ⟨I1.kIn, ?_⟩) fun _ _ q => q)
  have q' : sp (vs ++ []) H1 Q E := q
  rw [List.append_nil] at q'
  have hl : us.length = ps.length := by rw [← r.length]; exact F.len _ _ _ _ q'
  refine rxa_call ((F.run X.A X.stack s1 H1 ⟨us, []⟩ us vs Q E hr I1.env0 (by have := hb s1 us I1.kIn (by rw [List.append_nil]; exact hl); rwa [List.append_nil] at this) r q').mono fun r s' hq => ?_)
  cases r with
  | error e => exact hx pins σ H1 s1 e s' I1 hq
  | ok fl =>
    cases fl with
    | ret u => exact I1.after hq
    | next => exact False.elim hq
    | brk => exact False.elim hq
    | cont => exact False.elim hq
end
section
variable {prog : Program} {w : World} {A : Around} {E : Value → Shared → Prop} {s : Shared}
theorem codeXA_call_function {R : Result → Shared → Prop} {a : Addr} {args : Args} {o : Obj} {fd : FuncData} {body : List Stmt} (hroom : A.depth < recursionLimit) (ho : s.heap.get? a = some o)
    (hd' : o.data = .func fd) (hco : fd.scope.isCoroutine = false) (hgen : fd.scope.isGenerator = false) (hbody : fd.body = .stmts body) (hcd : s.heap.CodeRec fd.code fd.qualname)
    (h : wpAny (model prog w) A.in1 (bindArgs fd args) (fun binds s1 =>
      wpAny (model prog w) A.in1 (newFunctionEnv fd.scope fd.globals fd.closure binds (fd.qualname ++ ".<locals>.") (some a) fd.code none fd.builtins)
        (fun env s2 => s2.heap.NoLimit ∧ CodeXA (model prog w) A (.func body env) R s2) (fun e s' => R (.error e) s') s1) (fun e s' => R (.error e) s') s) :
    CodeXA (model prog w) A (.call (.ref a) args) R s := by
  refine codeXA_of_tree (rxa_of ?_)
  show wpAny _ A.in1 (callAny (.ref a) args) _ _ s
  simp only [callAny]
  refine wpAny_bind (wpAny_load ho ?_)
  obtain ⟨c, oc, vs, tq, hc, hoc, hdc, hq⟩ := hcd
  simp only [hd', callFunction, hco, hgen, hbody, hc]
  rw [hc] at h
  refine wpAny_bind (m := field (.ref c) 1) (wpAny_field hoc hdc hq (wpAny_bind (wpAny_pure ?_)))
  exact wpAny_bind (wpAny_mono h (fun binds s1 h1 => wpAny_bind (wpAny_mono h1 (fun env s2 h2 => wpAny_bind (wpAny_enterFrame h2.1 hroom
    (wpAny_pure (And.intro rfl h2.2)))) fun _ _ h' => h')) fun _ _ h' => h')
theorem codeXA_func {R : Result → Shared → Prop} {body : List Stmt} {env : Env}
    (h : RXA (model prog w) (A.deeper env) (execs body env) (fun f s' => R (.ok (.ret (match f with | .ret v => v | _ => .none))) s')
      (fun e s' => wpAny (model prog w) (A.deeper env) (leaving env e) (fun _ s2 => R (.error e) s2) (fun e' s2 => R (.error e') s2) s') s) :
    CodeXA (model prog w) A (.func body env) R s := by
  refine codeXA_of_tree ?_
  show RXA _ (A.deeper env) (do point; match ← (execs body env).onRaise (leaving env) with | .ret v => ret v | _ => ret .none) _ _ s
  refine rxa_bw (wpAny_point (rxa_bind (rxa_onRaise (h.mono (fun f s' h' => ?_) fun _ _ h' => rxa_of h'))))
  cases f <;> exact rxa_pure h'
end
theorem fnx_of {CX : CXT} {P : Program} {w : World} {K : PySem.W.Frag} {mg : Str → Option Value} {base : Heap} {k : Nat} {f : Addr} {x qual : Str} {st : Stmt} {fd : FuncData} {N ps : List Str} {sp : Sp}
    (F : Fun K x qual st f fd) (S : FnScope N ps (defScope st)) (len : ∀ vs H Q E, sp vs H Q E → vs.length = ps.length)
    (hbody : ∀ (cdv : Value) (A : Around) (outer : List Env) (s : Shared) (H : Hp) (vs : List V) (Q : VK) (E : XK), Room k (A.deeper (envOfC qual (defScope st) s.heap.objs.size f cdv)) → sp vs H Q E →
      ∃ t, PSsX (cxOf CX P w K mg base N qual (defScope st) f cdv A outer s H E) (defBody st) t ∧ t { nx := fun _ H' => Q .non H', rt := Q } (start N vs) H) :
    FnX P w K mg base CX (k + 1) f fd ps sp := by
  obtain ⟨oc, od, kV, doc, pm, an, cdv, ct, osl, rfl, lk, hcd⟩ := F.ex
  refine ⟨len, fun A outer s H args us vs Q E hr e0 hb r hsp => ?_⟩
  have hl := len _ _ _ _ hsp
  have KX : K.In s.heap := e0.mod.kin.keeps fun b o e => (e0.bs b o e).1
  have lim : s.heap.NoLimit := e0.mod.nolimit.keeps fun b o e => (e0.bs b o e).1
  have hkind : ∀ y ∈ ps.zip us, (defScope st).names.lookup y.1 = some .local ∨ ((defScope st).names.lookup y.1 = some .cell ∧ ((cellsFrom (s.heap.objs.size + 1) (defScope st).names []).lookup y.1).isSome = true) := fun ⟨n, v⟩ hy => by
    rcases S.par n (List.of_mem_zip hy).1 with q | q
    · exact .inl q
    · exact .inr ⟨q, PySem.W.cellsFrom_some _ _ _ (.inl q)⟩
  refine codeXA_call_function hr.depth (KX _ _ lk) rfl S.co S.gen rfl (PySem.W.codeRec_of KX hcd) (hb _ _ _ _ ?_)
  refine wpAny_newFunctionEnv_cells S.kind hkind fun env he s1 y => ?_
  subst he
  refine ⟨lim.keeps y.toInCall.keep, codeXA_func ?_⟩
  obtain ⟨t, ht, hq⟩ := hbody cdv A outer s H vs Q E (hr.deeper _) hsp
  have I : L2.Inv (cxOf CX P w K mg base N qual (defScope st) f cdv A outer s H E) [] (start N vs) H s1 := inv_start S hr.hd e0 hl r y
  refine (ht.run [] s1 (start N vs) H _ I hq).mono (fun fl s' hs => ?_) fun e s' hs => hs
  have fin : ∀ {σ' : L2.St} {H' : Hp} {v : V} {u : Value}, L2.Inv (cxOf CX P w K mg base N qual (defScope st) f cdv A outer s H E) [] σ' H' s' → RelV v u → Q v H' → CE outer P w H s Q u s' :=
    fun {σ' H' v u} J rv q => ⟨v, H', J.os, J.bare, J.base, J.hok, rv, q⟩
  cases fl with
  | ret u =>
    obtain ⟨v, σ', H', J, rv, q⟩ := hs
    exact fin J rv q
  | next =>
    obtain ⟨σ', H', J, q⟩ := hs
    exact fin (v := V.non) (u := Value.none) J rfl q
  | brk =>
    obtain ⟨_, _, _, q⟩ := hs
    exact False.elim q
  | cont =>
    obtain ⟨_, _, _, q⟩ := hs
    exact False.elim q
end Rx
end
/-! ## Rx4 -/
section
set_option maxRecDepth 100000
set_option maxHeartbeats 4000000
set_option linter.all false
/-! A generator's turn over the wider logic. -/
namespace Rx
open PySem PySem.Spec PyProof.Rows
section
variable {α β : Type} {M : Model} {A : Around} {c : Code} {fs : List Frame} {s : Shared} {P : End → Shared → Prop}
/-- may the machine store this yield plainly? -/
def Stores (s : Shared) : End → Prop
  | .ret _ => True
  | .susp _ g _ _ c _ fs => splitAtGen fs = none ∧ fs.any Frame.guarded = false ∧
      (g = false ∨ ∃ a r kw o, c = .builtin "proto.yield_from" ⟨.ref a :: r, kw⟩ ∧ s.heap.get? a = some o ∧ o.genNumber?.isSome = true)
/-- where a turn comes to -/
def Lands (M : Model) (s : Shared) (t : Thread) (st : List Frame) : End → Shared → Prop
  | .ret r, s' => ∃ c' p', Comes M s t s' ⟨leafOf r, c', p', st⟩
  | .susp v g l k c p fs, s' => Comes M s t s' ⟨.yield v g l k, c, p, fs ++ st⟩
/-- with whatever is below, a turn comes to its end, as P allows -/
def TX (M : Model) (A : Around) (c : Code) (t : Sem PySem.Fin) (fs : List Frame) (P : End → Shared → Prop) (s : Shared) : Prop :=
  ∀ (Γ : PySem.Ctx) (p : Pos), Γ.code = c → Γ.Woken A → ∀ st, Γ.Fits st → ∃ e s', Lands M s ⟨t, c, p, fs ++ st⟩ st e s' ∧ Stores s' e ∧ P e s'
theorem Lands.from {s s1 s' : Shared} {t t1 : Thread} {st : List Frame} {e : End} (h : Comes M s t s1 t1) (l : Lands M s1 t1 st e s') : Lands M s t st e s' := by
  cases e with
  | ret r => obtain ⟨c', p', l⟩ := l; exact ⟨c', p', h.trans l⟩
  | susp v g l2 k c p fs => exact h.trans l
theorem TX.mono {P' : End → Shared → Prop} {t : Sem PySem.Fin} (h : TX M A c t fs P s) (hP : ∀ e s, P e s → P' e s) : TX M A c t fs P' s := fun Γ p hc hΓ st hf => by
  obtain ⟨e, s', l, q, r⟩ := h Γ p hc hΓ st hf
  exact ⟨e, s', l, q, hP _ _ r⟩
theorem tx_wrap {m : Sem α} {K : α → Sem PySem.Fin} {H : Value → Sem PySem.Fin} {gd : Bool → Bool} {lv : List Value → List Value}
    (h : RXA M (A.over c fs) m (fun a s' => TX M A c (K a) fs P s') (fun x s' => TX M A c (H x) fs P s') s) : TX M A c (m.wrap K H gd lv) fs P s := fun Γ p hc hΓ st hf => by
  subst hc
  have e : (Γ.over fs).code = Γ.code := rfl
  rcases h (Γ.over fs) p (hΓ.over fs) (fs ++ st) (hf.over fs) K H gd lv with ⟨a, p', s', cm, q⟩ | ⟨x, p', s', cm, q⟩
  · obtain ⟨e1, s2, l, r⟩ := q Γ p' rfl hΓ st hf
    exact ⟨e1, s2, l.from cm, r⟩
  · obtain ⟨e1, s2, l, r⟩ := q Γ p' rfl hΓ st hf
    exact ⟨e1, s2, l.from cm, r⟩
theorem tx_bind {m : Sem α} {K : α → Sem PySem.Fin} (h : RXA M (A.over c fs) m (fun a s' => TX M A c (K a) fs P s') (fun x s' => TX M A c (.raise x) fs P s') s) : TX M A c (m >>= K) fs P s := by
  rw [Sem.bind_eq_wrap']; exact tx_wrap h
theorem tx_bw {m : Sem α} {K : α → Sem PySem.Fin} (h : wpAny M (A.over c fs) m (fun a s' => TX M A c (K a) fs P s') (fun x s' => TX M A c (.raise x) fs P s') s) : TX M A c (m >>= K) fs P s := tx_bind (rxa_of h)
theorem tx_ww {m : Sem α} {K : α → Sem PySem.Fin} {H : Value → Sem PySem.Fin} {gd : Bool → Bool} {lv : List Value → List Value}
    (h : wpAny M (A.over c fs) m (fun a s' => TX M A c (K a) fs P s') (fun x s' => TX M A c (H x) fs P s') s) : TX M A c (m.wrap K H gd lv) fs P s := tx_wrap (rxa_of h)
theorem tx_bind_wrap {m : Sem α} {f : α → Sem β} {K : β → Sem PySem.Fin} {H : Value → Sem PySem.Fin} {gd : Bool → Bool} {lv : List Value → List Value}
    (h : RXA M (A.over c fs) m (fun a s' => TX M A c ((f a).wrap K H gd lv) fs P s') (fun x s' => TX M A c (H x) fs P s') s) : TX M A c ((m >>= f).wrap K H gd lv) fs P s := by
  rw [Sem.bind_eq_wrap', Sem.wrap_wrap]; exact tx_wrap h
theorem tx_bw_wrap {m : Sem α} {f : α → Sem β} {K : β → Sem PySem.Fin} {H : Value → Sem PySem.Fin} {gd : Bool → Bool} {lv : List Value → List Value}
    (h : wpAny M (A.over c fs) m (fun a s' => TX M A c ((f a).wrap K H gd lv) fs P s') (fun x s' => TX M A c (H x) fs P s') s) : TX M A c ((m >>= f).wrap K H gd lv) fs P s := tx_bind_wrap (rxa_of h)
theorem tx_at {p' : Pos} {k : Unit → Sem PySem.Fin} (h : TX M A c (k ()) fs P s) : TX M A c (.at p' k) fs P s :=
  tx_ww (m := standAt p') (K := k) (H := .raise) (gd := id) (lv := id) (wpAny_standAt h)
theorem tx_point {l : List Value} {k : Unit → Sem PySem.Fin} (h : TX M A c (k ()) fs P s) : TX M A c (.point l k) fs P s :=
  tx_ww (m := point) (K := k) (H := .raise) (gd := id) (lv := fun _ => l) (wpAny_point h)
theorem tx_call {c' : Code} {h g l} {k : Result → Sem PySem.Fin} (hc : ∀ p, TX M A c' (M.den c') (.ret k h g l c p [] :: fs) P s) : TX M A c (.call c' h g l k) fs P s := fun Γ p e hΓ st hf => by
  subst e
  obtain ⟨e1, s2, l1, r⟩ := hc p (Γ.goto c') p rfl (hΓ.goto c') st (hf.goto c')
  exact ⟨e1, s2, l1.from (.one (step_call ..) .refl), r⟩
theorem tx_leaf {k h g l c₁ p₁ kp} (r : Result) (hk : TX M A c₁ (k r) fs P s) : TX M A c (leafOf r) (.ret k h g l c₁ p₁ kp :: fs) P s := fun Γ p e hΓ st hf => by
  subst e
  obtain ⟨e1, s2, l1, r1⟩ := hk (Γ.goto c₁) p₁ rfl (hΓ.goto c₁) st (hf.goto c₁)
  exact ⟨e1, s2, l1.from (.one (step_leaf_ret ..) .refl), r1⟩
theorem tx_again {c' : Code} (hq : c'.quiet = true) (hc : TX M A c' (M.den c') fs P s) : TX M A c (.pure (.again c')) fs P s := fun Γ p e hΓ st hf => by
  subst e
  obtain ⟨e1, s2, l1, r1⟩ := hc (Γ.goto c') p rfl (hΓ.goto c') st (hf.goto c')
  exact ⟨e1, s2, l1.from (.one (step_again _ _ _ _ _ _ hq) .refl), r1⟩
theorem tx_end (r : Result) (h : P (.ret r) s) : TX M A c (leafOf r) [] P s := fun Γ p e hΓ st hf => ⟨.ret r, s, ⟨c, p, .refl⟩, trivial, h⟩
theorem tx_yield {v g l} {k : Resume → Sem PySem.Fin} (hfs : splitAtGen fs = none) (hfg : fs.any Frame.guarded = false)
    (hg : g = false ∨ ∃ a r kw o, c = .builtin "proto.yield_from" ⟨.ref a :: r, kw⟩ ∧ s.heap.get? a = some o ∧ o.genNumber?.isSome = true)
    (h : ∀ p, P (.susp v g l k c p fs) s) : TX M A c (.yield v g l k) fs P s := fun Γ p e hΓ st hf => ⟨.susp v g l k c p fs, s, .refl, ⟨hfs, hfg, hg⟩, h p⟩
/-- the states of a generator that can go on -/
def GoesX (M : Model) (A : Around) (P : End → Shared → Prop) (gs : GenState) (s : Shared) : Prop :=
  match gs with
  | .fresh c => TX M A c (M.den c) [] P s
  | .suspended k _ c _ fs _ => TX M A c (k (.send .none)) fs P s
  | _ => False
theorem rxa_resume {g : Nat} {gs : GenState} {l : List Value} {k : GenResult → Sem α} {Q : α → Shared → Prop} {E : Value → Shared → Prop} (hg : s.gens[g]? = some gs)
    (hgo : GoesX M A P gs (s.setGen g .running)) (hk : ∀ e s1, P e s1 → RXA M A (k e.result) Q E (s1.setGen g e.genState)) : RXA M A (.resume g (.send .none) l k) Q E s := by
  intro Γ p hΓ st hf K H gd lv
  have fin : ∀ e s1 t, Lands M (s.setGen g .running) t (.gen g (fun x => (k x).wrap K H gd lv) (lv l) Γ.code p :: st) e s1 → Stores s1 e → M.step s ⟨(Sem.resume g (.send .none) l k).wrap K H gd lv, Γ.code, p, st⟩ = .go (s.setGen g .running) t → P e s1 →
      (∃ a p' s', Comes M s ⟨(Sem.resume g (.send .none) l k).wrap K H gd lv, Γ.code, p, st⟩ s' ⟨K a, Γ.code, p', st⟩ ∧ Q a s') ∨ (∃ e p' s', Comes M s ⟨(Sem.resume g (.send .none) l k).wrap K H gd lv, Γ.code, p, st⟩ s' ⟨H e, Γ.code, p', st⟩ ∧ E e s') := by
    intro e s1 t hl hs h0 hP
    have c1 : Comes M s ⟨(Sem.resume g (.send .none) l k).wrap K H gd lv, Γ.code, p, st⟩ (s1.setGen g e.genState) ⟨(k e.result).wrap K H gd lv, Γ.code, p, st⟩ := by
      refine .one h0 ?_
      cases e with
      | ret r =>
        obtain ⟨c', p', hl⟩ := hl
        exact hl.trans (.one (step_leaf_gen ..) .refl)
      | susp v g0 l0 k0 c0 p0 fs0 =>
        obtain ⟨h1, h2, h3⟩ := hs
        have hsp : splitAtGen (fs0 ++ .gen g (fun x => (k x).wrap K H gd lv) (lv l) Γ.code p :: st) = some (fs0, (g, (fun x => (k x).wrap K H gd lv), Γ.code, p), st) := by
          rw [splitAtGen_append_none _ h1, splitAtGen_gen]
          simp
        refine Comes.trans hl ?_
        have hst : (End.susp v g0 l0 k0 c0 p0 fs0).genState = .suspended k0 l0 c0 p0 fs0 g0 := by simp [End.genState, h2]
        rw [hst]
        cases hg0 : g0 with
        | false =>
          have e3 := step_yield (M := M) s1 c0 p0 (fs0 ++ .gen g (fun x => (k x).wrap K H gd lv) (lv l) Γ.code p :: st) v false l0 k0 hsp (by simp [End.quiet, h2])
          refine .one e3 ?_
          have hst2 : (End.susp v false l0 k0 c0 p0 fs0).genState = .suspended k0 l0 c0 p0 fs0 false := by simp [End.genState, h2]
          rw [hst2]
          exact .refl
        | true =>
          rcases h3 with h3 | ⟨a, r, kw, o, rfl, ho, hn⟩
          · rw [hg0] at h3; cases h3
          · exact .step (stepR_mute hsp h2 ho hn) .refl
    have q := hk e s1 hP Γ p hΓ st hf K H gd lv
    rcases q with ⟨b, p2, s2, c2, q2⟩ | ⟨b, p2, s2, c2, q2⟩
    · exact .inl ⟨b, p2, s2, c1.trans c2, q2⟩
    · exact .inr ⟨b, p2, s2, c1.trans c2, q2⟩
  cases gs with
  | fresh c =>
    obtain ⟨e, s1, hl, hs, hP⟩ := hgo (Γ.wake c p) p rfl (hΓ.wake c p) (.gen g (fun x => (k x).wrap K H gd lv) (lv l) Γ.code p :: st) (hf.wake c ..)
    exact fin e s1 _ hl hs (step_resume_fresh _ _ _ _ _ _ _ hg) hP
  | suspended k0 l0 c0 p0 fs0 cl =>
    obtain ⟨e, s1, hl, hs, hP⟩ := hgo (Γ.wake c0 p) p0 rfl (hΓ.wake c0 p) (.gen g (fun x => (k x).wrap K H gd lv) (lv l) Γ.code p :: st) (hf.wake c0 ..)
    exact fin e s1 _ hl hs (step_resume_suspended _ _ _ _ _ _ _ _ hg) hP
  | running => exact hgo.elim
  | finished => exact hgo.elim
end

/-! ### statements of a generator's body -/
section
variable {M : Model} {A : Around} {c : Code} {fs : List Frame} {s : Shared} {env : Env} {P : End → Shared → Prop}
  {K : Flow → Sem PySem.Fin} {H : Value → Sem PySem.Fin} {gd : Bool → Bool} {lv : List Value → List Value}
theorem tx_execs_nil (h : TX M A c (K .next) fs P s) : TX M A c ((execs [] env).wrap K H gd lv) fs P s := h
theorem tx_execs_cons {st : Stmt} {rest : List Stmt}
    (h : TX M A c ((exec st env).wrap (fun f => match f with | .next => (execs rest env).wrap K H gd lv | f => K f) H gd lv) fs P s) : TX M A c ((execs (st :: rest) env).wrap K H gd lv) fs P s := by rw [execs_cons_wrap]; exact h
theorem tx_Expr_Yield {e : Expr} {ypos pos : Pos} (hfs : splitAtGen fs = none) (hgd : gd false = false) (hfg : fs.any Frame.guarded = false)
    (h : wpAny M (A.over c fs) (eval e env) (fun v s' => ∀ g l k p, (∀ A' P' s'', TX M A' c (K .next) fs P' s'' → TX M A' c (k (.send .none)) fs P' s'') → g = false → P (.susp v g l k c p fs) s') (fun x s' => TX M A c (H x) fs P s') s)
    (hco : env.scope.isCoroutine = false := by rfl) (hi : interactive env = false := by rfl) :
    TX M A c ((exec (.Expr (.Yield (some e) ypos) pos) env).wrap K H gd lv) fs P s := by
  rw [exec_Expr env _ pos hi rfl]
  show TX M A c (.at pos fun _ => ((eval e env >>= fun v => (standAt ypos >>= fun _ => yieldOut env v)) >>= fun x => dropValue (.Yield (some e) ypos) pos x).wrap K H gd lv) fs P s
  have hy : ∀ v, yieldOut env v = yieldValue v := fun v => by simp only [yieldOut, hco, Bool.false_eq_true, if_false]
  simp only [hy]
  refine tx_at ?_
  rw [Sem.bind_eq_wrap', Sem.bind_eq_wrap', Sem.wrap_wrap, Sem.wrap_wrap]
  refine tx_ww (wpAny_mono h (fun v s' h' => ?_) fun _ _ x => x)
  refine tx_at (tx_yield hfs hfg (.inl hgd) fun p => ?_)
  exact h' _ _ _ _ (fun A' P' s'' q => q) hgd
end
section
variable {prog : Program} {w : World} {A : Around} {fs : List Frame} {s : Shared} {env : Env} {P : End → Shared → Prop}
theorem tx_func {body : List Stmt}
    (h : TX (model prog w) A (.func body env) ((execs body env).wrap (fun f => .pure (.done (.ret (match f with | .ret v => v | _ => .none))))
      (fun e => (leaving env e).wrap (fun _ => .raise e) .raise id id) id id) fs P s) :
    TX (model prog w) A (.func body env) ((model prog w).den (.func body env)) fs P s := by
  show TX _ A _ (.point [] fun _ => ((execs body env).onRaise (leaving env)) >>= _) fs P s
  refine tx_point ?_
  rw [Sem.onRaise_eq_wrap, Sem.bind_eq_wrap', Sem.wrap_wrap]
  rw [Sem.wrap_congr (execs body env) _ _ (K' := fun f => .pure (.done (.ret (match f with | .ret v => v | _ => .none))))
    (H' := fun e => (leaving env e).wrap (fun _ => .raise e) .raise id id) (fun f => by cases f <;> rfl)
    (fun e => by rw [Sem.bind_eq_wrap, Sem.wrap_wrap]; rfl)]
  exact h
end
end Rx
end
/-! ## Rx5 -/
section
set_option maxRecDepth 100000
set_option maxHeartbeats 4000000
set_option linter.all false
/-! A generator object: __next__; yield from. -/
namespace Rx
open PySem PySem.Spec PyProof.Rows L2
section
variable {α β : Type} {M : Model} {A : Around} {s : Shared}
theorem rxa_attempt {m : Sem α} {Q : Except Value α → Shared → Prop} {E : Value → Shared → Prop} (h : RXA M A m (fun a s' => Q (.ok a) s') (fun e s' => Q (.error e) s') s) : RXA M A m.attempt Q E s := fun Γ p hΓ => by
  unfold Sem.attempt
  rw [Sem.tryCatch_eq_wrap, Sem.bind_eq_wrap, Sem.wrap_wrap]
  exact rx_wrap ((h Γ p hΓ).mono (fun _ _ _ q => rx_pure q) fun _ _ _ q => rx_pure q)
theorem rxa_callSpecial?_slot {self : Value} {T : String} {name : Str} {id : String} {args : List Value} {kw : List (Str × Value)} {Q : Option Value → Shared → Prop} {E : Value → Shared → Prop} (hT : s.TypeIs self T) (h : Slot T name id)
    (hc : RXA M A (call (.builtin id) (self :: args) kw) (fun v s' => Q (some v) s') E s) : RXA M A (callSpecial? self name args kw) Q E s := by
  simp only [callSpecial?]
  refine rxa_bw (wpAny_specialOf hT h.lookup ?_)
  simp only [h.bind]
  exact rxa_holding (rxa_bw (wpAny_pure (rxa_bind (hc.mono (fun v s' h' => rxa_pure h') fun _ _ h' => h'))))
end
section
variable {prog : Program} {w : World} {A : Around} {s : Shared}
theorem codeXA_call_builtin {R : Result → Shared → Prop} {id : String} {args : Args} {b : Builtin} (hq : plainId id = true) (hb : entryFor table id = some b)
    (h : wpAny (model prog w) A.in1 (checkBuiltinCall id args) (fun _ s1 => RXA (model prog w) A.in1 (b args)
      (fun fin s' => match fin with | .done f => R (.ok f) s' | .again c' => c'.quiet = true ∧ CodeXA (model prog w) A c' R s') (fun e s' => R (.error e) s') s1)
      (fun e s' => R (.error e) s') s) : CodeXA (model prog w) A (.call (.builtin id) args) R s := by
  refine codeXA_of_tree ?_
  show RXA _ A.in1 (do checkBuiltinCall id args; again (.builtin id args)) _ _ s
  refine rxa_bw (wpAny_mono h (fun _ s1 h1 => rxa_pure (And.intro (plainId_quiet hq args) (codeXA_of_tree ?_))) fun _ _ h' => h')
  rw [Around.under_plainId hq args]
  show RXA _ _ (match entryFor table id with | some b => b args | none => unsupported ((withoutEnding? id "#data").getD id)) _ _ s1
  rw [hb]; exact h1
theorem rxa_call_entry {T : String} {name : Str} {id : String} {b : Builtin} {self : Value} {rest : List Value} {Q : Value → Shared → Prop} {E : Value → Shared → Prop} (h : Slot T name id) (hT : s.TypeIs self T) (hb : entryFor table id = some b)
    (hc : RXA (model prog w) A.in1 (b ⟨self :: rest, []⟩) (fun fin s' => ∃ v, fin = .done (.ret v) ∧ Q v s') E s) (ha : argsOk id ⟨self :: rest, []⟩ := by rfl) :
    RXA (model prog w) A (call (.builtin id) (self :: rest)) Q E s := by
  refine rxa_call (codeXA_call_builtin h.plain hb (h.check _ _ _ _ _ _ _ _ hT ha (hc.mono (fun fin s' h' => ?_) fun _ _ h' => h')))
  obtain ⟨v, rfl, hv⟩ := h'; exact hv
end

/-- a generator's object; a delegator may have slept over it -/
def GObj (h : Heap) (a : Addr) (g : Nat) : Prop :=
  ∃ nm qn sl, h.get? a = some { cls := .type "generator", dict := none, data := .fields #[.int g 0, nm, qn], slots := sl } ∧ (sl = #[] ∨ sl = #[some (.int 0 0)])
/-- a delegator sleeps over it -/
def GOver (h : Heap) (a : Addr) (g : Nat) : Prop :=
  ∃ nm qn, h.get? a = some { cls := .type "generator", dict := none, data := .fields #[.int g 0, nm, qn], slots := #[some (.int 1 0)] }
theorem GObj.typeIs {s : Shared} {a : Addr} {g : Nat} (x : GObj s.heap a g) : s.TypeIs (.ref a) "generator" := by
  obtain ⟨nm, qn, sl, ho, _⟩ := x
  exact ⟨_, ho, rfl⟩
theorem GObj.at {h h' : Heap} {a : Addr} {g : Nat} (x : GObj h a g) (e : ∀ o, h.get? a = some o → h'.get? a = some o) : GObj h' a g := by
  obtain ⟨nm, qn, sl, ho, q⟩ := x
  exact ⟨nm, qn, sl, e _ ho, q⟩
theorem GOver.at {h h' : Heap} {a : Addr} {g : Nat} (x : GOver h a g) (e : ∀ o, h.get? a = some o → h'.get? a = some o) : GOver h' a g := by
  obtain ⟨nm, qn, ho⟩ := x
  exact ⟨nm, qn, e _ ho⟩
section
variable {prog : Program} {w : World} {A : Around} {s : Shared}
theorem wpAny_genNumberX {M : Model} {a : Addr} {g : Nat} {Q : Nat → Shared → Prop} {E : Value → Shared → Prop} (hg : GObj s.heap a g) (h : Q g s) : wpAny M A (Builtin.Generator.genNumber (.ref a)) Q E s := by
  obtain ⟨nm, qn, sl, ho, hsl⟩ := hg
  unfold Builtin.Generator.genNumber
  refine wpAny_bind (wpAny_load ho ?_)
  rcases hsl with rfl | rfl
  · show wpAny M A (pure ((g : Int).toNat)) Q E s
    rw [Int.toNat_natCast]; exact wpAny_pure h
  · show wpAny M A (pure ((g : Int).toNat)) Q E s
    rw [Int.toNat_natCast]; exact wpAny_pure h
theorem wpAny_sleeps {M : Model} {a : Addr} {g : Nat} {Q : Unit → Shared → Prop} {E : Value → Shared → Prop} (hg : GObj s.heap a g) (h : ∀ h', GOver h' a g → Heap.SameBut a s.heap h' → Q () { s with heap := h' }) :
    wpAny M A (Builtin.Generator.sleptOver (.ref a) true) Q E s := by
  obtain ⟨nm, qn, sl, ho, hsl⟩ := hg
  unfold Builtin.Generator.sleptOver
  refine wpAny_bind (wpAny_load ho ?_)
  rcases hsl with rfl | rfl
  · show wpAny M A (setSlotAt a 0 (some (rawInt 1))) Q E s
    unfold setSlotAt
    rw [if_neg (by decide)]
    refine wpAny_updatePart ho (h _ ⟨nm, qn, ?_⟩ (Heap.SameBut.update ..))
    rw [Heap.get?_update_self _ ho rfl]
    rfl
  · show wpAny M A (setSlotAt a 0 (some (rawInt 1))) Q E s
    unfold setSlotAt
    rw [if_neg (by decide)]
    refine wpAny_updatePart ho (h _ ⟨nm, qn, ?_⟩ (Heap.SameBut.update ..))
    rw [Heap.get?_update_self _ ho rfl]
    rfl
theorem wpAny_wakesUp {M : Model} {a : Addr} {g : Nat} {Q : Unit → Shared → Prop} {E : Value → Shared → Prop} (hg : GOver s.heap a g) (h : ∀ h', GObj h' a g → Heap.SameBut a s.heap h' → Q () { s with heap := h' }) :
    wpAny M A (Builtin.Generator.sleptOver (.ref a) false) Q E s := by
  obtain ⟨nm, qn, ho⟩ := hg
  unfold Builtin.Generator.sleptOver
  refine wpAny_bind (wpAny_load ho ?_)
  show wpAny M A (setSlotAt a 0 (some (rawInt 0))) Q E s
  unfold setSlotAt
  rw [if_neg (by decide)]
  refine wpAny_updatePart ho (h _ ⟨nm, qn, _, ?_, .inr rfl⟩ (Heap.SameBut.update ..))
  rw [Heap.get?_update_self _ ho rfl]
  rfl
/-- what a turn's end gives to the one who asked -/
def Tells (P : End → Shared → Prop) (g : Nat) (Q : Value → Shared → Prop) (E : Value → Shared → Prop) : Prop :=
  ∀ e s1, P e s1 → match e with
    | .susp v _ _ _ _ _ _ => Q v (s1.setGen g e.genState)
    | .ret r => r = .ok (.ret .none) ∧ ∀ x h', StopX x h' → s1.heap.objs.size ≤ h'.objs.size → (∀ b o, s1.heap.get? b = some o → h'.get? b = some o) → E x { s1.setGen g .finished with heap := h' }
theorem next_tx {a : Addr} {g : Nat} {gs : GenState} {P : End → Shared → Prop} {Q : Option Value → Shared → Prop} {E : Value → Shared → Prop} (hh : A.handled = none) (hl : s.heap.NoLimit) (hroom : A.depth < recursionLimit)
    (hg : GObj s.heap a g) (hgs : s.gens[g]? = some gs) (hgo : GoesX (model prog w) A.in1 P gs (s.setGen g .running)) (hP : Tells P g (fun v s' => Q (some v) s') E) :
    RXA (model prog w) A (callSpecial? (.ref a) "__next__") Q E s := by
  refine rxa_callSpecial?_slot (name := Str.ofString "__next__") hg.typeIs slot_gen_next (rxa_call_entry slot_gen_next hg.typeIs entry_gen_next ?_ (args_gen_next _))
  show RXA _ A.in1 (Builtin.Generator.genWake (.ref a) (.send .none)) _ _ s
  unfold Builtin.Generator.genWake
  refine rxa_bw (wpAny_holding (wpAny_genNumberX hg (rxa_bw (wpAny_genState hgs ?_))))
  cases gs with
  | running => exact hgo.elim
  | finished => exact hgo.elim
  | _ =>
    refine rxa_bw (wpAny_roomToWake hl hroom ?_)
    show RXA _ A.in1 (.resume g (.send .none) [] _) _ _ s
    refine rxa_resume hgs hgo fun e s1 he => ?_
    have hq := hP e s1 he
    cases e with
    | ret r =>
      obtain ⟨rfl, hq⟩ := hq
      show RXA _ _ (newExc (.type "StopIteration") [] >>= _) _ _ _
      refine rxa_of (wpAny_bind ?_)
      simp only [newExc, newTuple]
      refine wpAny_bind (wpAny_newObj_type ?_ (by size_fits))
      refine wpAny_bind (m := firstArgMember _ _) (wpAny_of_eq (a := Value.none) (by first | rfl | (simp only [firstArgMember]; rfl)) ?_)
      refine wpAny_newObj_type ?_ (by size_fits)
      simp only [raiseNew]
      refine wpAny_bind (wpAny_bind (wpAny_handled ?_))
      first | rw [show A.in1.handled = none from hh] | rw [hh]
      refine wpAny_throw ?_
      refine hq _ _ ⟨_, _, _, rfl, Heap.get?_push_size _ rfl, rfl, rfl, ?_⟩ ?_ fun b o hb => Heap.get?_push_of_some _ (Heap.get?_push_of_some _ hb)
      · first
          | rfl
          | (rw [Array.getElem?_append_left (by decide)]; rfl)
          | kernel_rfl
      · rw [Heap.size_push, Heap.size_push]
        exact Nat.le_trans (Nat.le_succ _) (Nat.le_succ _)
    | susp v g0 l0 k0 c0 p0 fs0 => exact rxa_pure ⟨v, rfl, hq⟩
end
end Rx
end
/-! ## Rx6 -/
section
set_option maxRecDepth 100000
set_option maxHeartbeats 4000000
set_option linter.all false
/-! What a running generator hands out; what a sleeping one may count on. -/
namespace Rx
open PySem PySem.Spec PyProof.Rows L2
/-- where a generator stands: what it may count on (base, H), the frames below it when it runs, what may change while it sleeps, its number, the room it needs -/
structure Lev where
  P : Program
  w : World
  base : Heap
  H : Hp
  outer : List Env
  W : List Addr
  g : Nat
  n : Nat
def Lev.Ok (V : Lev) (A : Around) : Prop := Room V.n A ∧ A.frames = some V.outer
def BareTo (n : Nat) (G : Array GenState) : Prop := ∀ i x, i < n → G[i]? = some x → x.bare = true
/-- while it sleeps -/
structure Kept (W : List Addr) (g : Nat) (s s' : Shared) : Prop where
  os : s'.os = s.os
  keep : ∀ b o, b ∉ W → s.heap.get? b = some o → s'.heap.get? b = some o
  size : s.heap.objs.size ≤ s'.heap.objs.size
  gens : ∀ i, g < i → i < s.gens.size → s'.gens[i]? = s.gens[i]?
  gsz : s.gens.size ≤ s'.gens.size
  news : ∀ i x, s.gens.size ≤ i → s'.gens[i]? = some x → x.bare = true
theorem Kept.refl {W : List Addr} {g : Nat} {s : Shared} : Kept W g s s := ⟨rfl, fun _ _ _ e => e, Nat.le_refl _, fun _ _ _ => rfl, Nat.le_refl _, fun i x h e => by
  rw [Array.getElem?_eq_none h] at e; cases e⟩
theorem Kept.trans {W : List Addr} {g : Nat} {s s1 s2 : Shared} (a : Kept W g s s1) (b : Kept W g s1 s2) (hg : g < s.gens.size) : Kept W g s s2 where
  os := b.os.trans a.os
  keep := fun c o h e => b.keep c o h (a.keep c o h e)
  size := Nat.le_trans a.size b.size
  gens := fun i h1 h2 => (b.gens i h1 (Nat.lt_of_lt_of_le h2 a.gsz)).trans (a.gens i h1 h2)
  gsz := Nat.le_trans a.gsz b.gsz
  news := fun i x h e => by
    by_cases hi : i < s1.gens.size
    · rw [b.gens i (Nat.lt_of_lt_of_le hg h) hi] at e
      exact a.news i x h e
    · exact b.news i x (Nat.le_of_not_lt hi) e
/-- what a turn did: F may have changed (and the slots of the frames fr), gens below n are bare -/
structure Turned (V : Lev) (F : Addr → Prop) (n : Nat) (s s' : Shared) : Prop where
  os : s'.os = s.os
  keep : ∀ b o, s.heap.get? b = some o → V.H b = none → ¬ F b → ∃ sl, s'.heap.get? b = some { o with slots := sl } ∧ (b ∉ frs V.outer → sl = o.slots)
  size : s.heap.objs.size ≤ s'.heap.objs.size
  gsz : s.gens.size ≤ s'.gens.size
  bare : BareTo n s'.gens
  hok : HOk V.P V.w V.H s'.heap
theorem Turned.exact {V : Lev} {F : Addr → Prop} {n : Nat} {s s' : Shared} (t : Turned V F n s s') {b : Addr} {o : Obj} (e : s.heap.get? b = some o) (hH : V.H b = none) (hF : ¬ F b) (hf : b ∉ frs V.outer) : s'.heap.get? b = some o := by
  obtain ⟨sl, e1, e2⟩ := t.keep b o e hH hF
  rw [e2 hf] at e1
  exact e1
theorem Turned.of_kept {V : Lev} {F : Addr → Prop} {n : Nat} {s s' : Shared} (os : s'.os = s.os) (k : ∀ b o, ¬ F b → V.H b = none → s.heap.get? b = some o → s'.heap.get? b = some o) (size : s.heap.objs.size ≤ s'.heap.objs.size) (gsz : s.gens.size ≤ s'.gens.size) (bare : BareTo n s'.gens)
    (hok : HOk V.P V.w V.H s'.heap) : Turned V F n s s' := ⟨os, fun b o e hn h => ⟨o.slots, k b o h hn e, fun _ => rfl⟩, size, gsz, bare, hok⟩
theorem Turned.trans {V : Lev} {F F1 : Addr → Prop} {m n : Nat} {s s1 s2 : Shared} (a : Turned V F m s s1) (b : Turned V F1 n s1 s2) (hF : ∀ c, F1 c → F c ∨ s.heap.objs.size ≤ c) : Turned V F n s s2 where
  os := b.os.trans a.os
  keep := fun c o e hn h => by
    obtain ⟨sl, e1, e2⟩ := a.keep c o e hn h
    obtain ⟨sl2, e3, e4⟩ := b.keep c _ e1 hn fun q => by
      rcases hF c q with z | z
      · exact h z
      · exact absurd (Heap.lt_size e) (Nat.not_lt.mpr z)
    exact ⟨sl2, e3, fun hc => (e4 hc).trans (e2 hc)⟩
  size := Nat.le_trans a.size b.size
  gsz := Nat.le_trans a.gsz b.gsz
  bare := b.bare
  hok := b.hok
def Lev.Awake (V : Lev) (s : Shared) : Prop := BareTo (V.g + 1) s.gens ∧ s.heap.FunFrames V.base V.outer
/-- what is wanted of a turn's end: xs is to be handed out -/
def GoP (V : Lev) : List Addr → (Addr → Prop) → Shared → End → Shared → Prop
  | [], F, s, e, s' => e = .ret (.ok (.ret .none)) ∧ Turned V F (V.g + 1) s s' ∧ AllBare s'.gens
  | x :: xs, F, s, e, s' => ∃ gd l k c p fs, ∃ F' : Addr → Prop, e = .susp (.ref x) gd l k c p fs ∧ (∀ b, F' b → F b ∨ s.heap.objs.size ≤ b) ∧ Turned V F (V.g + 1) s s' ∧
      ∀ s'', Kept V.W V.g s' s'' → V.Awake s'' → ∀ A, V.Ok A → TX (model V.P V.w) A c (k (.send .none)) fs (GoP V xs F' s'') s''
def Go (V : Lev) (xs : List Addr) (F : Addr → Prop) (c : Code) (t : Sem PySem.Fin) (fs : List Frame) (s : Shared) : Prop := ∀ A, V.Ok A → TX (model V.P V.w) A c t fs (GoP V xs F s) s
theorem GoP.since {V : Lev} {xs : List Addr} {F F1 : Addr → Prop} {s s1 s' : Shared} {e : End} (h : GoP V xs F1 s1 e s') (t : Turned V F (V.g + 1) s s1) (hF : ∀ c, F1 c → F c ∨ s.heap.objs.size ≤ c) : GoP V xs F s e s' := by
  cases xs with
  | nil =>
    obtain ⟨h1, h2, h3⟩ := h
    exact ⟨h1, t.trans h2 hF, h3⟩
  | cons x xs =>
    obtain ⟨gd, l, k, c, p, fs, F', h1, h2, h3, h4⟩ := h
    refine ⟨gd, l, k, c, p, fs, F', h1, fun b q => ?_, t.trans h3 hF, h4⟩
    rcases h2 b q with z | z
    · exact hF b z
    · exact .inr (Nat.le_trans t.size z)
/-- it is stored: on a wake it hands out xs -/
def Stored (V : Lev) (xs : List Addr) (F : Addr → Prop) (s : Shared) : Prop :=
  ∃ gs, s.gens[V.g]? = some gs ∧ ∀ s'', Kept V.W V.g s s'' → V.Awake s'' → match gs with
    | .fresh c => Go V xs F c ((model V.P V.w).den c) [] s''
    | .suspended k _ c _ fs _ => Go V xs F c (k (.send .none)) fs s''
    | _ => False
theorem Stored.kept {V : Lev} {xs : List Addr} {F : Addr → Prop} {s s1 : Shared} (h : Stored V xs F s) (k : Kept V.W V.g s s1) (e : s1.gens[V.g]? = s.gens[V.g]?) : Stored V xs F s1 := by
  obtain ⟨gs, hg, hq⟩ := h
  have hlt : V.g < s.gens.size := (Array.getElem?_eq_some_iff.mp hg).1
  exact ⟨gs, e.trans hg, fun s'' k2 aw => hq s'' (k.trans k2 hlt) aw⟩
theorem Stored.lt {V : Lev} {xs : List Addr} {F : Addr → Prop} {s : Shared} (h : Stored V xs F s) : V.g < s.gens.size := by
  obtain ⟨gs, hg, _⟩ := h
  exact (Array.getElem?_eq_some_iff.mp hg).1
theorem setGen_get {s : Shared} {g i : Nat} {x : GenState} (h : i ≠ g) : (s.setGen g x).gens[i]? = s.gens[i]? := by
  show (s.gens.setIfInBounds g x)[i]? = _
  rw [Array.getElem?_setIfInBounds_ne (Ne.symm h)]
theorem setGen_sz {s : Shared} {g : Nat} {x : GenState} : (s.setGen g x).gens.size = s.gens.size := by simp [Shared.setGen]
theorem setGen_own {s : Shared} {g : Nat} {x : GenState} (h : g < s.gens.size) : (s.setGen g x).gens[g]? = some x := by
  show (s.gens.setIfInBounds g x)[g]? = some x
  simp [h]
theorem Kept.setGen {W : List Addr} {s : Shared} {g : Nat} {x : GenState} (hg : g < s.gens.size) : Kept W g s (s.setGen g x) where
  os := rfl
  keep := fun _ _ _ e => e
  size := Nat.le_refl _
  gens := fun i h _ => setGen_get (Nat.ne_of_gt h)
  gsz := by rw [setGen_sz]; exact Nat.le_refl _
  news := fun i x h e => by
    rw [Array.getElem?_eq_none (by rw [setGen_sz]; exact h)] at e; cases e
theorem BareTo.allBare {G : Array GenState} (h : AllBare G) {n : Nat} : BareTo n G := fun i x _ e => h x (Array.mem_of_getElem? e)
theorem allBare_of {G : Array GenState} {n : Nat} (h : BareTo n G) (hn : G.size ≤ n) : AllBare G := fun y hy => by
  obtain ⟨i, hi, e⟩ := Array.mem_iff_getElem.mp hy
  exact h i y (Nat.lt_of_lt_of_le hi hn) (by rw [Array.getElem?_eq_getElem hi, e])

section
variable {V : Lev} {F : Addr → Prop} {s : Shared} {a : Addr} {A : Around}
/-- the next thing of a stored generator -/
theorem stored_next {x : Addr} {xs : List Addr} (st : Stored V (x :: xs) F s) (ha : GObj s.heap a V.g) (haH : V.H a = none) (haF : ¬ F a) (haf : a ∉ frs V.outer) (nl : s.heap.NoLimit) (bare : BareTo V.g s.gens) (fun' : s.heap.FunFrames V.base V.outer)
    (ok : V.Ok A.in1) (hd : A.depth < recursionLimit) (hh : A.handled = none) :
    RXA (model V.P V.w) A (callSpecial? (.ref a) "__next__") (fun r s' => r = some (.ref x) ∧ ∃ F' : Addr → Prop, (∀ b, F' b → F b ∨ s.heap.objs.size ≤ b) ∧ Turned V F V.g s s' ∧ Stored V xs F' s' ∧ GObj s'.heap a V.g) (fun _ _ => False) s := by
  have hlt := st.lt
  obtain ⟨gs, hg, hq⟩ := st
  have hq' := hq (s.setGen V.g .running) (Kept.setGen hlt) ⟨fun i y hi e => by
    by_cases hie : i = V.g
    · subst hie
      rw [setGen_own hlt] at e; cases e; rfl
    · rw [setGen_get hie] at e
      exact bare i y (by omega) e, fun'⟩
  refine next_tx (P := GoP V (x :: xs) F (s.setGen V.g .running)) hh nl hd ha hg ?_ fun e s1 he => ?_
  · cases gs with
    | fresh c => exact hq' _ ok
    | suspended k l c p fs cl => exact hq' _ ok
    | running => exact hq'.elim
    | finished => exact hq'.elim
  · obtain ⟨gd, l, k, c, p, fs, F', rfl, h2, h3, h4⟩ := he
    have hgs1 : V.g < s1.gens.size := by
      have := h3.gsz
      rw [setGen_sz] at this
      omega
    refine ⟨rfl, F', h2, ⟨h3.os, h3.keep, h3.size, ?_, ?_, h3.hok⟩, ⟨_, setGen_own hgs1, fun s'' k2 aw => ?_⟩, ?_⟩
    · rw [setGen_sz]
      have := h3.gsz
      rw [setGen_sz] at this
      exact this
    · intro i y hi e
      rw [setGen_get (Nat.ne_of_lt hi)] at e
      exact h3.bare i y (Nat.lt_succ_of_lt hi) e
    · exact h4 s'' ((Kept.setGen hgs1).trans k2 hgs1) aw
    · obtain ⟨nm, qn, sl, ho, hs⟩ := ha
      exact ⟨nm, qn, sl, h3.exact ho haH haF haf, hs⟩
theorem stored_end (st : Stored V [] F s) (ha : GObj s.heap a V.g) (nl : s.heap.NoLimit) (bare : BareTo V.g s.gens) (fun' : s.heap.FunFrames V.base V.outer)
    (ok : V.Ok A.in1) (hd : A.depth < recursionLimit) (hh : A.handled = none) :
    RXA (model V.P V.w) A (callSpecial? (.ref a) "__next__") (fun _ _ => False) (fun e s' => StopX e s'.heap ∧ Turned V F V.g s s' ∧ AllBare s'.gens) s := by
  have hlt := st.lt
  obtain ⟨gs, hg, hq⟩ := st
  have hq' := hq (s.setGen V.g .running) (Kept.setGen hlt) ⟨fun i y hi e => by
    by_cases hie : i = V.g
    · subst hie
      rw [setGen_own hlt] at e; cases e; rfl
    · rw [setGen_get hie] at e
      exact bare i y (by omega) e, fun'⟩
  refine next_tx (P := GoP V [] F (s.setGen V.g .running)) hh nl hd ha hg ?_ fun e s1 he => ?_
  · cases gs with
    | fresh c => exact hq' _ ok
    | suspended k l c p fs cl => exact hq' _ ok
    | running => exact hq'.elim
    | finished => exact hq'.elim
  · obtain ⟨rfl, h3, h4⟩ := he
    refine ⟨rfl, fun y h' hy hz hk => ⟨hy, ⟨h3.os, fun b o e hn hb => ?_, Nat.le_trans h3.size hz, ?_, ?_, h3.hok.kept hk⟩, allBare_setGen h4 rfl⟩⟩
    · obtain ⟨sl, e1, e2⟩ := h3.keep b o e hn hb
      exact ⟨sl, hk _ _ e1, e2⟩
    · show s.gens.size ≤ (s1.setGen V.g .finished).gens.size
      rw [setGen_sz]
      have := h3.gsz
      rw [setGen_sz] at this
      exact this
    · exact BareTo.allBare (allBare_setGen h4 rfl)
end
end Rx
end
/-! ## Rx7 -/
section
set_option maxRecDepth 100000
set_option maxHeartbeats 4000000
set_option linter.all false
/-! yield from, over a generator. -/
namespace Rx
open PySem PySem.Spec PyProof.Rows L2
/-- the level of a generator that the one at V makes (at a, number g; env: V's own frame) -/
def Lev.sub (V : Lev) (env : Env) (a : Addr) (g : Nat) (n : Nat) : Lev := { V with outer := env :: V.outer, W := a :: V.W, g := g, n := n }
abbrev yfc (a : Addr) : Code := .builtin "proto.yield_from" ⟨[.ref a, .bool false, .none], []⟩
theorem over_in1 {A : Around} {c c' : Code} {fs : List Frame} {k : Result → Sem PySem.Fin} {g : Bool} {l kp : List Value} {p : Pos} (hw : c'.weight = 0) (hu : c'.cUnits = 1) :
    A.over c' (.ret k none g l c p kp :: fs) = (A.over c fs).in1 := by
  have e2 : A.depth + frameCount ((Frame.ret k none g l c p kp :: fs).map Frame.where_) + c'.weight = A.depth + frameCount (fs.map Frame.where_) + c.weight := by
    show A.depth + frameCount ((c, p) :: fs.map Frame.where_) + c'.weight = _
    rw [frameCount_cons, hw]; omega
  have e3 : pushEnvs c'.envs (pushEnvs (envsOf ((Frame.ret k none g l c p kp :: fs).map Frame.where_)) A.frames) = pushEnvs c.envs (pushEnvs (envsOf (fs.map Frame.where_)) A.frames) := by
    show pushEnvs c'.envs (pushEnvs (envsOf ((c, p) :: fs.map Frame.where_)) A.frames) = _
    rw [Code.envs_of_weight hw, envsOf_cons]
    simp only [pushEnvs_eq]
    cases A.frames <;> simp [List.append_assoc]
  have e4 : pushGuards c'.guards (pushGuards (guardsOf ((Frame.ret k none g l c p kp :: fs).map Frame.where_)) A.guards) = pushGuards c.guards (pushGuards (guardsOf (fs.map Frame.where_)) A.guards) := by
    show pushGuards c'.guards (pushGuards (guardsOf ((c, p) :: fs.map Frame.where_)) A.guards) = _
    rw [Code.guards_of_weight hw, guardsOf_cons]
    simp only [pushGuards_eq]
    cases A.guards <;> simp [List.append_assoc]
  have e5 : A.units + unitsOf ((Frame.ret k none g l c p kp :: fs).map Frame.where_) + c'.cUnits = A.units + unitsOf (fs.map Frame.where_) + c.cUnits + 1 := by
    show A.units + unitsOf ((c, p) :: fs.map Frame.where_) + c'.cUnits = _
    rw [unitsOf_cons, hu]; omega
  have e1 : (marksOver (Frame.ret k none g l c p kp :: fs) (A.handled, A.handled)).1 = (marksOver fs (A.handled, A.handled)).1 := rfl
  show (⟨(marksOver (Frame.ret k none g l c p kp :: fs) (A.handled, A.handled)).1, A.depth + frameCount ((Frame.ret k none g l c p kp :: fs).map Frame.where_) + c'.weight,
    pushEnvs c'.envs (pushEnvs (envsOf ((Frame.ret k none g l c p kp :: fs).map Frame.where_)) A.frames), pushGuards c'.guards (pushGuards (guardsOf ((Frame.ret k none g l c p kp :: fs).map Frame.where_)) A.guards),
    A.units + unitsOf ((Frame.ret k none g l c p kp :: fs).map Frame.where_) + c'.cUnits⟩ : Around) = _
  rw [e1, e2, e3, e4, e5]
  rfl
theorem den_builtin {P : Program} {w : World} {id : String} {args : Args} {b : Builtin} (hb : entryFor table id = some b) : (model P w).den (.builtin id args) = b args := by
  show (match entryFor table id with | some b => b args | none => unsupported ((withoutEnding? id "#data").getD id)) = _
  rw [hb]
theorem close_gen : typeLookup (.type "generator") "close" = pure (some (.builtin "generator.close")) := by rw [typeLookup_type, builtinLookup_eq_fast]; kernel_rfl
/-- what holds of a state while V's generator runs -/
structure Lev.Good (V : Lev) (s : Shared) : Prop where
  bs : ∀ b o, V.base.get? b = some o → s.heap.get? b = some o
  bsz : V.base.objs.size ≤ s.heap.objs.size
  hok : HOk V.P V.w V.H s.heap
  funs : s.heap.FunFrames V.base V.outer
/-- what holds of a level -/
structure Lev.Wf (V : Lev) : Prop where
  nl : V.base.NoLimit
  bH : ∀ b o, V.base.get? b = some o → V.H b = none
  Wb : ∀ b ∈ V.W, V.base.get? b = none ∧ V.H b = none
  fH : ∀ b ∈ frs V.outer, V.H b = none
  tup : ∀ b u, V.H b = some u → ∃ xs, u = .tup xs
theorem Lev.Good.nolimit {V : Lev} {s : Shared} (G : V.Good s) (wf : V.Wf) : s.heap.NoLimit := wf.nl.keeps G.bs
theorem hok_stay {P : Program} {w : World} {H : Hp} {h h' : Heap} (x : HOk P w H h) (k : ∀ b u o, H b = some u → h.get? b = some o → h'.get? b = some o) : HOk P w H h' := fun b u e =>
  (x b u e).stay (fun c v hc y => by
    rcases hc with rfl | hc
    · exact k c u v e y
    · exact k c _ v hc y) (fun _ y => y) fun _ _ y => y
theorem Lev.Good.woken {V : Lev} {s s' : Shared} (G : V.Good s) (wf : V.Wf) (k : Kept V.W V.g s s') (aw : V.Awake s') : V.Good s' where
  bs := fun b o e => k.keep b o (fun hb => by have := (wf.Wb b hb).1; rw [e] at this; cases this) (G.bs b o e)
  bsz := Nat.le_trans G.bsz k.size
  hok := hok_stay G.hok fun b u o hu e => k.keep b o (fun hb => by have := (wf.Wb b hb).2; rw [hu] at this; cases this) e
  funs := aw.2
theorem funs_of {base h h' : Heap} {l : List Env} (x : h.FunFrames base l) (k : ∀ b ∈ frs l, ∀ o, h.get? b = some o → ∃ sl, h'.get? b = some { o with slots := sl }) : h'.FunFrames base l := by
  induction l with
  | nil => exact trivial
  | cons e r ih =>
    obtain ⟨h1, ⟨L, o, h2, h3, h4, h5⟩, h6⟩ := x
    have hm : L ∈ frs (e :: r) := by
      unfold frs
      rw [List.filterMap_cons, h2]
      exact List.mem_cons_self
    obtain ⟨sl, e1⟩ := k L hm o h4
    refine ⟨h1, ⟨L, _, h2, h3, e1, h5⟩, ih h6 fun b hb o q => k b ?_ o q⟩
    unfold frs at hb ⊢
    rw [List.filterMap_cons, h2]
    exact List.mem_cons_of_mem _ hb

section
variable {V : Lev} {env : Env} {a2 : Addr} {g2 n2 : Nat} {fs : List Frame} {IH : Heap → Prop} {D : List Addr} {zs : List Addr}
/-- yield from a stored generator -/
theorem yf_go (wf : V.Wf) (hsp : splitAtGen fs = none) (hgd : fs.any Frame.guarded = false) (hL : env.frame = some env.locals) (hgg : V.g < g2)
    (hov : ∀ A, V.Ok A → ((V.sub env a2 g2 n2).Ok (A.over (yfc a2) fs).in1 ∧ (A.over (yfc a2) fs).depth < recursionLimit ∧ (A.over (yfc a2) fs).handled = none))
    (stable : ∀ h h', IH h → (∀ b ∈ D, ∀ o, h.get? b = some o → ∃ sl, h'.get? b = some { o with slots := sl } ∧ (b ≠ env.locals → sl = o.slots)) → IH h')
    (fin' : ∀ h, IH h → env.scope.kind ≠ .module ∧ V.base.get? env.locals = none ∧ ∃ o, h.get? env.locals = some o ∧ ∀ vs, o.data ≠ .fields vs)
    (hDW : ∀ b ∈ D, b ∉ V.W) (hDf : ∀ b ∈ D, b ∉ frs V.outer) (hDH : ∀ b ∈ D, V.H b = none) (ha2 : a2 ∉ D) (ha2W : a2 ∉ V.W) (hLb : V.base.get? env.locals = none) (haL : a2 ≠ env.locals) (haf : a2 ∉ frs V.outer) (haH : V.H a2 = none) (hab : V.base.get? a2 = none) (N : Nat) (hDN : ∀ b ∈ D, b < N) (hbN : ∀ b o, V.base.get? b = some o → b < N) (hHN : ∀ b u, V.H b = some u → b < N) (hfN : ∀ b ∈ frs V.outer, b < N) (hLN : env.locals < N) :
    ∀ (ys : List Addr) (F F2 : Addr → Prop) (s : Shared), Stored (V.sub env a2 g2 n2) ys F2 s → GObj s.heap a2 g2 → IH s.heap → V.Good s → BareTo g2 s.gens → (∀ b, F2 b → F b) → F a2 → F env.locals → (∀ b, F2 b → N ≤ b) → ¬ F2 a2 → N ≤ s.heap.objs.size →
      (∀ (F' : Addr → Prop) (s' : Shared), IH s'.heap → V.Good s' → AllBare s'.gens → s.heap.objs.size ≤ s'.heap.objs.size → (∀ b, F b → F' b) → (∀ b, F' b → F b ∨ s.heap.objs.size ≤ b) → V.g < s'.gens.size → ∀ A, V.Ok A → TX (model V.P V.w) A (yfc a2) (.pure (.done (.ret .none))) fs (GoP V zs F' s') s') →
      ∀ A, V.Ok A → TX (model V.P V.w) A (yfc a2) ((model V.P V.w).den (yfc a2)) fs (GoP V (ys ++ zs) F s) s := by
  have den2 : (model V.P V.w).den (yfc a2) = Builtin.«proto.yield_from» ⟨[.ref a2, .bool false, .none], []⟩ := den_builtin entry_yf
  have frs2 : frs (V.sub env a2 g2 n2).outer = env.locals :: frs V.outer := by
    show frs (env :: V.outer) = _
    unfold frs
    rw [List.filterMap_cons, hL]
  have funs2 : ∀ s : Shared, IH s.heap → V.Good s → s.heap.FunFrames V.base (V.sub env a2 g2 n2).outer := fun s hi G => by
    obtain ⟨q1, q2, o, q3, q4⟩ := fin' _ hi
    exact ⟨q1, ⟨env.locals, o, hL, q2, q3, q4⟩, G.funs⟩
  -- a turn of the other one keeps what is one's own
  have keepD : ∀ {F2 : Addr → Prop} {n : Nat} {s s' : Shared}, (∀ b, F2 b → N ≤ b) → Turned (V.sub env a2 g2 n2) F2 n s s' → IH s.heap → IH s'.heap := fun {F2 n s s'} hF t hi => by
    refine stable _ _ hi fun b hb o e => ?_
    obtain ⟨sl, e1, e2⟩ := t.keep b o e (hDH b hb) fun q => absurd (hF b q) (Nat.not_le.mpr (hDN b hb))
    refine ⟨sl, e1, fun hne => e2 fun hm => ?_⟩
    rw [frs2] at hm
    rcases List.mem_cons.mp hm with z | z
    · exact hne z
    · exact hDf b hb z
  have goodT : ∀ {F2 : Addr → Prop} {n : Nat} {s s' : Shared}, (∀ b, F2 b → N ≤ b) → Turned (V.sub env a2 g2 n2) F2 n s s' → V.Good s → V.Good s' := fun {F2 n s s'} hF t G => by
    refine ⟨fun b o e => ?_, Nat.le_trans G.bsz t.size, t.hok, ?_⟩
    · refine t.exact (G.bs b o e) (wf.bH b o e) (fun q => absurd (hF b q) (Nat.not_le.mpr (hbN b o e))) fun hm => ?_
      rw [frs2] at hm
      rcases List.mem_cons.mp hm with z | z
      · rw [z, hLb] at e; cases e
      · obtain ⟨h0, _⟩ := G.funs.mem z
        rw [e] at h0; cases h0
    · refine funs_of G.funs fun b hb o e => ?_
      obtain ⟨sl, e1, _⟩ := t.keep b o e (wf.fH b hb) fun q => absurd (hF b q) (Nat.not_le.mpr (hfN b hb))
      exact ⟨sl, e1⟩
  have upT : ∀ {F F2 : Addr → Prop} {n : Nat} {s s' : Shared}, (∀ b, F2 b → F b) → F env.locals → V.g + 1 ≤ n → Turned (V.sub env a2 g2 n2) F2 n s s' → Turned V F (V.g + 1) s s' := fun {F F2 n s s'} hF hFL hn t =>
    ⟨t.os, fun b o e hn' hb => by
      obtain ⟨sl, e1, e2⟩ := t.keep b o e hn' fun q => hb (hF b q)
      refine ⟨sl, e1, fun hm => e2 fun hm2 => ?_⟩
      rw [frs2] at hm2
      rcases List.mem_cons.mp hm2 with z | z
      · exact hb (z ▸ hFL)
      · exact hm z, t.size, t.gsz, fun i x hi e => t.bare i x (Nat.lt_of_lt_of_le hi hn) e, t.hok⟩
  intro ys
  induction ys with
  | nil =>
    intro F F2 s st ho hi G hb hF hFa hFL hFN hFn hNs fin A ok
    obtain ⟨ok2, hd, hh⟩ := hov A ok
    rw [den2]
    unfold Builtin.«proto.yield_from»
    try dsimp only
    refine tx_bw (wpAny_pure ?_)
    try dsimp only
    refine tx_bind (rxa_attempt (rxa_holding ?_))
    rw [if_neg Bool.false_ne_true, if_pos (show (Value.none == Value.none) = true from rfl)]
    refine rxa_bw (wpAny_rule (rxa_bind ?_))
    refine (stored_end (V := V.sub env a2 g2 n2) st ho (G.nolimit wf) hb (funs2 s hi G) ok2 hd hh).mono (fun _ _ q => q.elim) fun e s1 ⟨hS, t, hb1⟩ => ?_
    obtain ⟨x, o, vs, rfl, hoa, hcls, hdat, h5⟩ := hS
    try dsimp only
    refine tx_bw (wpAny_endsTurn hoa hcls ?_)
    try dsimp only
    rw [if_pos rfl]
    first
      | refine tx_bw (wpAny_rule ?_)
      | (rw [if_neg Bool.false_ne_true]; refine tx_bw (wpAny_rule ?_))
      | (rw [if_neg Bool.false_ne_true]; refine tx_bw (wpAny_pure ?_); refine tx_bw (wpAny_rule ?_))
    refine tx_bw (wpAny_field hoa hdat h5 ?_)
    have hlt := st.lt
    refine TX.mono (fin F s1 (keepD hFN t hi) (goodT hFN t G) hb1 t.size (fun _ q => q) (fun _ q => .inl q) (Nat.lt_of_lt_of_le (Nat.lt_trans hgg hlt) t.gsz) A ok) fun e s' q => ?_
    exact q.since (upT hF hFL (by exact hgg) t) fun c q => .inl q
  | cons y ys ih =>
    intro F F2 s st ho hi G hb hF hFa hFL hFN hFn hNs fin A ok
    obtain ⟨ok2, hd, hh⟩ := hov A ok
    have hlt := st.lt
    rw [den2]
    unfold Builtin.«proto.yield_from»
    try dsimp only
    refine tx_bw (wpAny_pure ?_)
    try dsimp only
    refine tx_bind (rxa_attempt (rxa_holding ?_))
    rw [if_neg Bool.false_ne_true, if_pos (show (Value.none == Value.none) = true from rfl)]
    refine rxa_bw (wpAny_rule (rxa_bind ?_))
    have ha2f : a2 ∉ frs (V.sub env a2 g2 n2).outer := fun hm => by
      rw [frs2] at hm
      rcases List.mem_cons.mp hm with z | z
      · exact haL z
      · exact haf z
    refine (stored_next (V := V.sub env a2 g2 n2) st ho haH hFn ha2f (G.nolimit wf) hb (funs2 s hi G) ok2 hd hh).mono (fun r s1 hq => ?_) fun _ _ q => q.elim
    obtain ⟨rfl, F3, hg3, t, st1, ho1⟩ := hq
    refine rxa_pure ?_
    try dsimp only
    refine tx_bw (wpAny_typeOf ho1.typeIs ?_)
    try dsimp only
    first
      | (refine tx_bw (wpAny_of_eq close_gen ?_); refine tx_bw (wpAny_pure ?_))
      | refine tx_bw (wpAny_bind (wpAny_of_eq close_gen (wpAny_pure ?_)))
      | refine tx_bw (wpAny_of_eq close_gen ?_)
    try dsimp only
    refine tx_bw (wpAny_sleeps ho1 fun h2 hov2 hsm => ?_)
    have hlt1 : g2 < s1.gens.size := st1.lt
    obtain ⟨nm, qn, hobj⟩ := id hov2
    refine tx_yield hsp hgd (.inr ⟨a2, _, _, _, rfl, hobj, rfl⟩) fun p => ?_
    have hF3N : ∀ b, F3 b → N ≤ b := fun b q => (hg3 b q).elim (hFN b) (Nat.le_trans hNs)
    have ho1' : s1.heap.objs.size = h2.objs.size := hsm.1.symm
    have ne2 : ∀ b o, s1.heap.get? b = some o → b ≠ a2 → h2.get? b = some o := fun b o e hne => (hsm.2 b hne).trans e
    have ha2N : a2 < s.heap.objs.size := by
      obtain ⟨_, _, _, q, _⟩ := ho
      exact Heap.lt_size q
    have tV : Turned V F (V.g + 1) s { s1 with heap := h2 } := by
      have t1 := upT hF hFL (by exact hgg) t
      refine ⟨t1.os, fun b o e hn' hb' => ?_, by rw [← ho1']; exact t1.size, t1.gsz, t1.bare, hok_stay t1.hok fun b u o hu e => ne2 b o e fun z => by rw [z, haH] at hu; cases hu⟩
      obtain ⟨sl, e1, e2⟩ := t1.keep b o e hn' hb'
      exact ⟨sl, ne2 b _ e1 fun z => hb' (z ▸ hFa), e2⟩
    refine ⟨_, _, _, _, _, _, fun b => F b ∨ F3 b, rfl, fun b q => ?_, tV, fun s'' k aw A' ok' => ?_⟩
    · rcases q with q | q
      · exact .inl q
      · rcases hg3 b q with z | z
        · exact .inl (hF b z)
        · exact .inr z
    -- woken
    have hi1 : IH s1.heap := keepD hFN t hi
    have G1 : V.Good s1 := goodT hFN t G
    have G2 : V.Good { s1 with heap := h2 } := ⟨fun b o e => ne2 b o (G1.bs b o e) fun z => (by rw [z, hab] at e; cases e), (by rw [← ho1']; exact G1.bsz), tV.hok, funs_of G1.funs fun b hb' o e => ⟨o.slots, ne2 b o e fun z => haf (z ▸ hb')⟩⟩
    have G3 : V.Good s'' := G2.woken wf k aw
    have hov3 : GOver s''.heap a2 g2 := hov2.at fun o e => k.keep a2 o ha2W e
    show TX _ A' (yfc a2) (Builtin.Generator.sleptOver (.ref a2) false >>= fun _ => _) fs _ s''
    refine tx_bw (wpAny_wakesUp hov3 fun h4 ho4 hsm4 => ?_)
    try dsimp only
    refine tx_bw (wpAny_pure ?_)
    have ne4 : ∀ b o, s''.heap.get? b = some o → b ≠ a2 → h4.get? b = some o := fun b o e hne => (hsm4.2 b hne).trans e
    have hsz4 : s''.heap.objs.size = h4.objs.size := hsm4.1.symm
    have all : ∀ b o, b ≠ a2 → b ∉ V.W → s1.heap.get? b = some o → h4.get? b = some o := fun b o hne hW e => ne4 b o (k.keep b o hW (ne2 b o e hne)) hne
    have K4 : Kept (V.sub env a2 g2 n2).W g2 s1 { s'' with heap := h4 } := by
      refine ⟨k.os, fun b o hb' e => all b o (fun z => hb' (z ▸ List.mem_cons_self)) (fun z => hb' (List.mem_cons_of_mem _ z)) e, ?_, fun i h1 h2' => k.gens i (Nat.lt_trans hgg h1) h2', k.gsz, k.news⟩
      rw [← hsz4, ho1']
      exact k.size
    have st4 : Stored (V.sub env a2 g2 n2) ys F3 { s'' with heap := h4 } := st1.kept K4 (k.gens g2 hgg hlt1)
    have G4 : V.Good { s'' with heap := h4 } := ⟨fun b o e => ne4 b o (G3.bs b o e) fun z => (by rw [z, hab] at e; cases e), (by rw [← hsz4]; exact G3.bsz), hok_stay G3.hok (fun b u o hu e => ne4 b o e fun z => by rw [z, haH] at hu; cases hu), funs_of G3.funs fun b hb' o e => ⟨o.slots, ne4 b o e fun z => haf (z ▸ hb')⟩⟩
    have hi4 : IH h4 := stable _ _ hi1 fun b hb' o e => ⟨o.slots, all b o (fun z => ha2 (z ▸ hb')) (hDW b hb') e, fun _ => rfl⟩
    have hsz : s.heap.objs.size ≤ h4.objs.size := by
      have := t.size
      have := k.size
      rw [← hsz4]
      exact Nat.le_trans t.size (by rw [ho1']; exact k.size)
    have b4 : BareTo g2 s''.gens := fun i x h1 e => by
      by_cases hi' : i ≤ V.g
      · exact aw.1 i x (Nat.lt_succ_of_le hi') e
      · have h3 : V.g < i := Nat.lt_of_not_le hi'
        rw [k.gens i h3 (Nat.lt_trans h1 hlt1)] at e
        exact t.bare i x h1 e
    refine tx_again (plainId_quiet plain_yf _) ?_
    refine TX.mono (ih (fun b => F b ∨ F3 b) F3 { s'' with heap := h4 } st4 ho4 hi4 G4 b4 (fun _ q => .inr q) (.inl hFa) (.inl hFL) hF3N (fun q => ?_) (Nat.le_trans hNs hsz) (fun F' s' h1 h2' h3 h4' h5 h6 h7 => ?_) A' ok') fun e s' q => ?_
    · rcases hg3 a2 q with z | z
      · exact hFn z
      · exact absurd ha2N (Nat.not_lt.mpr z)
    · refine fin F' s' h1 h2' h3 (Nat.le_trans hsz h4') (fun b q => h5 b (.inl q)) (fun b q => ?_) h7
      rcases h6 b q with (z | z) | z
      · exact .inl z
      · rcases hg3 b z with z | z
        · exact .inl (hF b z)
        · exact .inr z
      · exact .inr (Nat.le_trans hsz z)
    · refine q.since ?_ fun c q => .inl q
      refine Turned.of_kept rfl (fun b o hF' _ e => ne4 b o e fun z => hF' (.inl (z ▸ hFa))) (Nat.le_of_eq hsz4) (Nat.le_refl _) ?_ G4.hok
      exact aw.1
end
end Rx
end
/-! ## Rx8 -/
section
set_option maxRecDepth 100000
set_option maxHeartbeats 4000000
set_option linter.all false
/-! The walk over a tree of tuples. -/
namespace Rx
open PySem PySem.Spec PyProof.Rows L2 GenW
section
variable {prog : Program} {w : World} {A : Around} {c : Code} {fs : List Frame} {s : Shared} {env : Env} {P : End → Shared → Prop}
  {K : Flow → Sem PySem.Fin} {H : Value → Sem PySem.Fin} {gd : Bool → Bool} {lv : List Value → List Value}
/-- what comes behind a loop's code -/
def afterLoop (env : Env) (K : Flow → Sem PySem.Fin) (H : Value → Sem PySem.Fin) (gd : Bool → Bool) (lv : List Value → List Value) (r : Result) : Sem PySem.Fin :=
  ((match r with | .ok f => (.pure f : Sem Flow) | .error e => .raise e).onRaise (cameBack env)).wrap K H gd lv
theorem tx_For {M : Model} {target iter : Expr} {body orelse : List Stmt} {pos : Pos}
    (h : wpAny M (A.over c fs) (eval iter env) (fun x s1 => wpAny M (A.over c fs) (pyIter x) (fun it s2 => ∀ p, TX M A (.forLoop target it body orelse env) (M.den (.forLoop target it body orelse env))
      (.ret (afterLoop env K H gd lv) none (gd false) (lv []) c p [] :: fs) P s2) (fun x s' => TX M A c (H x) fs P s') s1) (fun x s' => TX M A c (H x) fs P s') s)
    (hs : ∀ x, foldedSetIterable iter env x = pure x := by intro _; rfl) : TX M A c ((exec (.For target iter body orelse pos) env).wrap K H gd lv) fs P s := by
  rw [exec_For]
  refine tx_bw_wrap (wpAny_standAt (tx_bw_wrap (wpAny_mono h (fun x s1 h1 => tx_bw_wrap (wpAny_of_eq (hs x) (tx_bw_wrap (wpAny_standAt (tx_bw_wrap (wpAny_holding (wpAny_mono h1 (fun it s2 h2 => ?_) fun _ _ q => q))))))) fun _ _ q => q)))
  exact tx_call h2
theorem tx_forLoop {body : List Stmt} {x : Str} {px : Pos} {it : Value}
    (h : wpAny (model prog w) (A.over (.forLoop (.Name x px) it body [] env) fs) (pyNext it) (fun r s1 => match r with
      | none => TX (model prog w) A (.block [] env) (.pure (.done .next)) fs P s1
      | some v => wpAny (model prog w) (A.over (.forLoop (.Name x px) it body [] env) fs) (storeName env x v) (fun _ s2 =>
          TX (model prog w) A (.forLoop (.Name x px) it body [] env) ((execs body env).wrap (fun f => match f with
            | .next | .cont => .pure (.again (.forLoop (.Name x px) it body [] env))
            | .brk => .pure (.done .next)
            | .ret v => .pure (.done (.ret v))) (fun e => (do noteFrame e env; theTreesLotGoes e : Sem Unit).wrap (fun _ => .raise e) .raise id id) id id) fs P s2) (fun _ _ => False) s1) (fun _ _ => False) s) :
    TX (model prog w) A (.forLoop (.Name x px) it body [] env) ((model prog w).den (.forLoop (.Name x px) it body [] env)) fs P s := by
  show TX _ A _ ((forTurn (.Name x px) it body [] env).onRaise (fun x => do noteFrame x env; theTreesLotGoes x)) fs P s
  unfold forTurn
  rw [Sem.onRaise_eq_wrap]
  refine tx_bw_wrap (wpAny_standAt (tx_bw_wrap (wpAny_onRaise (wpAny_mono h (fun r s1 h1 => ?_) fun _ _ q => q.elim))))
  cases r with
  | none =>
    show TX _ A _ (.pure (.again (.block [] env))) fs P s1
    refine tx_again rfl ?_
    exact h1
  | some v =>
    refine tx_bw_wrap (wpAny_pure (tx_bw_wrap ?_))
    refine wpAny_mono (wpAny_assign_Name (x := x) (pos := px) h1) (fun _ s2 h2 => ?_) fun _ _ q => q.elim
    rw [Sem.bind_eq_wrap', Sem.wrap_wrap]
    rw [Sem.wrap_congr (execs body env) _ _ (K' := fun f => match f with
            | .next | .cont => .pure (.again (.forLoop (.Name x px) it body [] env))
            | .brk => .pure (.done .next)
            | .ret v => .pure (.done (.ret v))) (H' := (fun e => (do noteFrame e env; theTreesLotGoes e : Sem Unit).wrap (fun _ => .raise e) .raise id id))
        (fun f => by cases f <;> rfl)
        (fun e => by first | exact Sem.bind_eq_wrap _ _ | (show (do noteFrame e env; theTreesLotGoes e : Sem Unit).bind (fun _ => .raise e) = _; rw [Sem.bind_eq_wrap]))]
    exact h2
/-- yield from f(..), whose value is a generator that has not begun -/
theorem tx_Expr_YieldFrom {M : Model} {e : Expr} {yp pos : Pos}
    (h : wpAny M (A.over c fs) (eval e env) (fun v s1 => ∃ T, s1.TypeIs v T ∧ (Value.type T == Value.type "coroutine") = false ∧ wpAny M (A.over c fs) (pyIter v) (fun u s2 => ∀ p, ∀ k, (∀ A' P' s3, TX M A' c (K .next) fs P' s3 → TX M A' c (k (.ok (.ret .none))) fs P' s3) →
      TX M A (.builtin "proto.yield_from" ⟨[u, .bool false, .none], []⟩) (M.den (.builtin "proto.yield_from" ⟨[u, .bool false, .none], []⟩)) (.ret k none (gd false) (lv []) c p [] :: fs) P s2) (fun _ _ => False) s1) (fun _ _ => False) s)
    (hi : interactive env = false := by rfl) : TX M A c ((exec (.Expr (.YieldFrom e yp) pos) env).wrap K H gd lv) fs P s := by
  rw [exec_Expr env _ pos hi rfl]
  show TX M A c (.at pos fun _ => ((eval e env >>= fun v => (standAt yp >>= fun _ => yieldFrom env v)) >>= fun x => dropValue (.YieldFrom e yp) pos x).wrap K H gd lv) fs P s
  refine tx_at ?_
  rw [Sem.bind_eq_wrap' (eval e env >>= _), Sem.wrap_wrap]
  refine tx_bw_wrap (wpAny_mono h (fun v s1 hv => ?_) fun _ _ q => q.elim)
  obtain ⟨T, hT, hne, hit⟩ := hv
  have hne' : ¬ ((Value.type T == Value.type "coroutine") = true) := by rw [hne]; exact Bool.false_ne_true
  refine tx_at ?_
  show TX M A c ((yieldFrom env v).wrap (fun b => (dropValue (.YieldFrom e yp) pos b).wrap K H gd lv) H _ _) fs P s1
  unfold yieldFrom
  refine tx_bw_wrap (wpAny_typeOf hT ?_)
  rw [if_neg hne']
  refine tx_bw_wrap (wpAny_holding ?_)
  refine wpAny_mono hit (fun u s2 hu => ?_) fun _ _ q => q.elim
  refine tx_call fun p => hu p _ fun A' P' s3 q => ?_
  exact q
end
end Rx
end
/-! ## Rx9 -/
section
set_option maxRecDepth 100000
set_option maxHeartbeats 4000000
set_option linter.all false
/-! The walk over a tree of tuples: the generator. -/
namespace Rx
open PySem PySem.Spec PyProof.Rows L2 GenW
/-! ### the heap's size -/
theorem runs_hsz {M : Model} {Γ : PySem.Ctx} {p : Pos} {t : Sem PySem.Fin} {fs : List Frame} {s s' : Shared} {e : End} (h : Runs M Γ p t fs s e s') : s.heap.objs.size ≤ s'.heap.objs.size := by
  induction h <;> (try simp only [Shared.setGen, Heap.size_push, Heap.size_update] at *) <;> omega
theorem wakes_hsz {M : Model} {Γ : PySem.Ctx} {p : Pos} {g : Nat} {r : Resume} {s s' : Shared} {res : GenResult} (h : Wakes M Γ p g r s res s') : s.heap.objs.size ≤ s'.heap.objs.size := by
  unfold Wakes at h
  split at h
  · exact h.elim
  · split at h
    · obtain ⟨e₁, s₁, hr, _, _, rfl⟩ := h
      have h2 : (s.setGen g .running).heap.objs.size ≤ s₁.heap.objs.size := runs_hsz hr
      exact h2
    · rw [h.2]; exact Nat.le_refl _
    · rw [h.2]; exact Nat.le_refl _
  · obtain ⟨e₁, s₁, hr, _, _, rfl⟩ := h
    have h2 : (s.setGen g .running).heap.objs.size ≤ s₁.heap.objs.size := runs_hsz hr
    exact h2
  · rw [h.2]; exact Nat.le_refl _
  · rw [h.2]; exact Nat.le_refl _
theorem wp_hsz {α : Type} (M : Model) (Γ : PySem.Ctx) (n : Nat) (t : Sem α) : ∀ (Q : α → Pos → Shared → Prop) (E : Value → Pos → Shared → Prop) (p : Pos) (s : Shared), n ≤ s.heap.objs.size → Sem.wp M Γ t Q E p s →
    Sem.wp M Γ t (fun a p' s' => n ≤ s'.heap.objs.size ∧ Q a p' s') (fun e p' s' => n ≤ s'.heap.objs.size ∧ E e p' s') p s := by
  induction t with
  | pure a => intro Q E p s hn h; exact ⟨hn, h⟩
  | raise e => intro Q E p s hn h; exact ⟨hn, h⟩
  | unsupported _ => intro Q E p s _ h; exact h
  | finish _ => intro Q E p s _ h; exact h
  | rule _ k ih => intro Q E p s hn h; exact ih () Q E p s hn h
  | «at» p' k ih => intro Q E p s hn h; exact ih () Q E p' s hn h
  | load a _ k ih => intro Q E p s hn h; obtain ⟨o, ho, h⟩ := h; exact ⟨o, ho, ih o Q E p s hn h⟩
  | update a _ f k ih => intro Q E p s hn h; exact ⟨h.1, ih () Q E p _ (by show n ≤ (s.heap.update a f).objs.size; rw [Heap.size_update]; exact hn) h.2⟩
  | loadIfAlive a k ih => intro Q E p s hn h; exact ih _ Q E p s hn h
  | point _ k ih => intro Q E p s hn h; exact ih () Q E p s hn h
  | register _ _ => intro Q E p s _ h; exact h
  | alloc o k ih => intro Q E p s hn h; exact ih _ Q E p _ (by show n ≤ (s.heap.push o).objs.size; rw [Heap.size_push]; omega) h
  | fresh k ih => intro Q E p s hn h; exact ih _ Q E p _ hn h
  | ask k ih => intro Q E p s hn h; exact ih _ Q E p s hn h
  | choose src m k ih => intro Q E p s hn h; exact ⟨h.1, ih _ Q E p _ hn h.2⟩
  | os q _ k ih => intro Q E p s hn h; exact ih _ Q E p _ hn h
  | call c hd _ _ k ih => intro Q E p s hn h; obtain ⟨r, s', hr, h⟩ := h; exact ⟨r, s', hr, ih r Q E p s' (Nat.le_trans hn (runs_hsz hr)) h⟩
  | handled own k ih => intro Q E p s hn h; exact ih _ Q E p s hn h
  | genState g k ih => intro Q E p s hn h; obtain ⟨st, hs, h⟩ := h; exact ⟨st, hs, ih _ Q E p s hn h⟩
  | newGen c k ih => intro Q E p s hn h; exact ih _ Q E p _ hn h
  | resume g r _ k ih => intro Q E p s hn h; obtain ⟨res, s', hw, h⟩ := h; exact ⟨res, s', hw, ih res Q E p s' (Nat.le_trans hn (wakes_hsz hw)) h⟩
  | yield _ _ _ _ => intro Q E p s _ h; exact h
  | stack k ih => intro Q E p s hn h; exact ih _ Q E p s hn h
  | fork _ _ => intro Q E p s _ h; exact h
  | thread k ih => intro Q E p s hn h; exact ih _ Q E p s hn h
  | await _ _ _ _ _ => intro Q E p s _ h; exact h
theorem wpAny_hsz {α : Type} {M : Model} {A : Around} {s : Shared} {t : Sem α} {Q : α → Shared → Prop} {E : Value → Shared → Prop} {n : Nat} (hn : n ≤ s.heap.objs.size)
    (h : wpAny M A t (fun a s' => n ≤ s'.heap.objs.size → Q a s') (fun e s' => n ≤ s'.heap.objs.size → E e s') s) : wpAny M A t Q E s :=
  wpAny_mono (fun Γ p hΓ => wp_hsz M Γ n t _ _ p s hn (h Γ p hΓ) : wpAny M A t (fun a s' => n ≤ s'.heap.objs.size ∧ (n ≤ s'.heap.objs.size → Q a s')) (fun e s' => n ≤ s'.heap.objs.size ∧ (n ≤ s'.heap.objs.size → E e s')) s)
    (fun _ _ x => x.2 x.1) fun _ _ x => x.2 x.1

/-! ### the tree -/
/-- the parts of a bytes tuple: none; of a list tuple: its items -/
def PartsOf (H : Hp) (a : Addr) (cs : List Addr) : Prop :=
  (∃ x, H a = some (.tup [.str "bytes", x]) ∧ cs = []) ∨ ∃ b, H a = some (.tup [.str "list", .ref b]) ∧ H b = some (.tup (cs.map .ref))
/-- the tree at a, in the order of the walk -/
def Pre (H : Hp) : Nat → Addr → List Addr → Prop
  | 0, _, _ => False
  | m + 1, a, xs => ∃ cs xss, PartsOf H a cs ∧ Paired (Pre H m) cs xss ∧ xs = a :: xss.flatten
def spParts : Sp := fun vs H Q _ => ∃ a cs, vs = [.ref a] ∧
  ((∃ x, H a = some (.tup [.str "bytes", x]) ∧ cs = ([] : List Addr) ∧ ∀ b H', H' b = some (.tup []) → (∀ c u, H c = some u → H' c = some u) → Q (.ref b) H') ∨
   ∃ b, H a = some (.tup [.str "list", .ref b]) ∧ H b = some (.tup (cs.map .ref)) ∧ Q (.ref b) H)
/-- the body of walk, with its places -/
abbrev wBody (p : Nat → Pos) : List Stmt := [.Expr (.Yield (some (.Name "value" (p 0))) (p 1)) (p 2),
  .For (.Name "part" (p 3)) (.Call (.Name "parts" (p 4)) [.Name "value" (p 5)] [] (p 6)) [.Expr (.YieldFrom (.Call (.Name "walk" (p 7)) [.Name "part" (p 8)] [] (p 9)) (p 10)) (p 11)] [] (p 12)]
/-- the setting -/
structure Ws (P : Program) (w : World) (K : PySem.W.Frag) (mg : Str → Option Value) (base : Heap) (kp : Nat) (fw fp : Addr) (fdp : FuncData) (qual : Str) (scope : Scope) (cdv : Value) (p : Nat → Pos) : Prop where
  mod : Mod K mg base
  look : ∃ (nm : Str) (params : Arguments) (dV kV doc pm : Value) (an : Option Addr) (ct oc : Value) (od : Option Addr) (osl : Array (Option Value)), K.lookup fw = some ⟨oc, od, .func (PySem.W.fnOf nm qual params (wBody p) scope dV kV doc pm an cdv ct), osl⟩ ∧
    Binds K (PySem.W.fnOf nm qual params (wBody p) scope dV kV doc pm an cdv ct) ["value"] []
  code : PySem.W.codeIn K cdv qual = true
  kw : PySem.W.keepIn K (.ref fw) = true
  kpp : PySem.W.keepIn K (.ref fp) = true
  gw : mg "walk" = some (.ref fw)
  gp : mg "parts" = some (.ref fp)
  parts : FnOk P w K mg base CX0 kp fp fdp ["value"] spParts
  bparts : Binds K fdp ["value"] []
  kind : scope.kind = .function
  co : scope.isCoroutine = false
  gen : scope.isGenerator = true
  value : scope.names.lookup ("value" : Str) = some NameKind.local
  part : scope.names.lookup ("part" : Str) = some NameKind.local
  lw : scope.names.lookup ("walk" : Str) = some NameKind.globalImplicit
  lp : scope.names.lookup ("parts" : Str) = some NameKind.globalImplicit
  plain : ∀ L : Addr, interactive (envOfC qual scope L fw cdv) = false

section
variable {P : Program} {w : World} {K : PySem.W.Frag} {mg : Str → Option Value} {base : Heap} {kp : Nat} {fw fp : Addr} {fdp : FuncData} {qual : Str} {scope : Scope} {cdv : Value} {p : Nat → Pos}
/-- walk(u): a generator that has not begun -/
theorem call_walk (S : Ws P w K mg base kp fw fp fdp qual scope cdv p) {A : Around} {s : Shared} {u : Value} {Q : Value → Shared → Prop} {E : Value → Shared → Prop} (kin : K.In s.heap) (nl : s.heap.NoLimit) (hd : A.depth < recursionLimit)
    (hQ : ∀ (s' : Shared) (a2 : Addr) (mm : Str → Option Value) (nm qn : Value), s.heap.objs.size < a2 → a2 < s'.heap.objs.size → (∀ b o, s.heap.get? b = some o → s'.heap.get? b = some o) → s'.gens = s.gens.push (.fresh (.func (wBody p) (envOfC qual scope s.heap.objs.size fw cdv))) → s'.os = s.os →
      s'.heap.get? a2 = some { cls := .type "generator", dict := none, data := .fields #[.int s.gens.size 0, nm, qn], slots := #[] } → s'.heap.Ns s.heap.objs.size mm → mm "value" = some u → Q (.ref a2) s') :
    wpAny (model P w) A (call (.ref fw) [u]) Q E s := by
  obtain ⟨nm, params, dV, kV, doc, pm, an, ct, oc, od, osl, lk, hb⟩ := S.look
  refine wpAny_call (codeAny_call_generator hd (kin _ _ lk) rfl S.co S.gen rfl (PySem.W.codeRec_of kin S.code) (hb s [u] kin rfl _ _ _ _ ?_))
  have hkind : ∀ y ∈ (["value"] : List Str).zip [u], scope.names.lookup y.1 = some .local ∨ (scope.names.lookup y.1 = some .cell ∧ ((cellsFrom (s.heap.objs.size + 1) scope.names []).lookup y.1).isSome = true) := fun y hy => by
    have e : y = (("value" : Str), u) := by simpa using hy
    subst e
    exact .inl S.value
  refine wpAny_newFunctionEnv_cells S.kind hkind fun env he s1 x => ?_
  subst he
  obtain ⟨h1, tk, es1, hk1⟩ := x.done
  subst es1
  have hns : h1.Ns s.heap.objs.size _ := x.toInCall.ns
  refine ⟨nl.keeps hk1, ?_⟩
  refine hQ _ h1.objs.size _ _ _ hns.lt ?_ (fun b o e => Heap.get?_push_of_some _ (hk1 b o e)) rfl rfl (Heap.get?_push_size _ rfl) (hns.keeps fun b o e => Heap.get?_push_of_some _ e) ?_
  · show h1.objs.size < (h1.push _).objs.size
    rw [Heap.size_push]; exact Nat.lt_succ_self _
  · exact bindL_get (P := ["value"]) (i := 0) (by simp) rfl rfl S.value
end
end Rx
end
/-! ## Rx10 -/
section
set_option maxRecDepth 100000
set_option maxHeartbeats 4000000
set_option linter.all false
/-! The walk: what it hands out. -/
namespace Rx
open PySem PySem.Spec PyProof.Rows L2 GenW
/-- a walk that begins: L is its frame's namespace, a its value -/
structure Starts (V : Lev) (L a : Addr) (s : Shared) : Prop where
  good : V.Good s
  bare : AllBare s.gens
  gl : V.g < s.gens.size
  LW : L ∉ V.W
  Lb : V.base.get? L = none
  LH : V.H L = none
  Lf : L ∉ frs V.outer
  Ws : ∀ b ∈ V.W, b < s.heap.objs.size
  ns : ∃ mm, s.heap.Ns L mm ∧ mm "value" = some (.ref a)
theorem Starts.kept {V : Lev} {L a : Addr} {s s' : Shared} (x : Starts V L a s) (wf : V.Wf) (k : Kept V.W V.g s s') (aw : V.Awake s') : Starts V L a s' where
  good := x.good.woken wf k aw
  bare := fun y hy => by
    obtain ⟨i, hi, e⟩ := Array.mem_iff_getElem.mp hy
    have e' : s'.gens[i]? = some y := by rw [Array.getElem?_eq_getElem hi, e]
    by_cases h1 : i < V.g + 1
    · exact aw.1 i y h1 e'
    · by_cases h2 : i < s.gens.size
      · rw [k.gens i (by omega) h2] at e'
        exact x.bare y (Array.mem_of_getElem? e')
      · exact k.news i y (by omega) e'
  gl := Nat.lt_of_lt_of_le x.gl k.gsz
  LW := x.LW
  Lb := x.Lb
  LH := x.LH
  Lf := x.Lf
  Ws := fun b hb => Nat.lt_of_lt_of_le (x.Ws b hb) k.size
  ns := by
    obtain ⟨mm, ⟨o, es, ep, ho, r⟩, hv⟩ := x.ns
    exact ⟨mm, ⟨o, es, ep, k.keep L o x.LW ho, r⟩, hv⟩
theorem ns_slots {h h' : Heap} {L : Addr} {m : Str → Option Value} (x : h.Ns L m) (k : ∀ o, h.get? L = some o → ∃ sl, h'.get? L = some { o with slots := sl }) : h'.Ns L m := by
  obtain ⟨o, es, ep, ho, r⟩ := x
  obtain ⟨sl, e⟩ := k o ho
  exact ⟨_, es, ep, e, r⟩
theorem paired_refs : ∀ {cs : List Addr} {its : List Value}, Vals (cs.map V.ref) its → its = cs.map Value.ref
  | [], _, .nil => rfl
  | c :: cs, _, .cons r t => by
    rw [List.map_cons, paired_refs t]
    have e : _ = Value.ref c := r
    rw [e]
theorem Turned.refl {V : Lev} {F : Addr → Prop} {n : Nat} {s : Shared} (hb : AllBare s.gens) (hok : HOk V.P V.w V.H s.heap) : Turned V F n s s :=
  Turned.of_kept rfl (fun _ _ _ _ e => e) (Nat.le_refl _) (Nat.le_refl _) (BareTo.allBare hb) hok
/-- only these changed: none that is counted on -/
theorem Starts.upto {V : Lev} {L a : Addr} {s s' : Shared} {D : Addr → Prop} (x : Starts V L a s) (hg : s'.gens = s.gens) (hz : s.heap.objs.size ≤ s'.heap.objs.size) (k : ∀ b o, ¬ D b → s.heap.get? b = some o → s'.heap.get? b = some o)
    (hDb : ∀ b o, D b → V.base.get? b = some o → False) (hDH : ∀ b u, D b → V.H b = some u → False) (hDf : ∀ b ∈ frs V.outer, ¬ D b) (ns : ∃ mm, s'.heap.Ns L mm ∧ mm "value" = some (.ref a)) : Starts V L a s' where
  good := ⟨fun b o e => k b o (fun d => hDb b o d e) (x.good.bs b o e), Nat.le_trans x.good.bsz hz, hok_stay x.good.hok fun b u o hu e => k b o (fun d => hDH b u d hu) e, funs_of x.good.funs fun b hb o e => ⟨o.slots, k b o (hDf b hb) e⟩⟩
  bare := by rw [hg]; exact x.bare
  gl := by rw [hg]; exact x.gl
  LW := x.LW
  Lb := x.Lb
  LH := x.LH
  Lf := x.Lf
  Ws := fun b hb => Nat.lt_of_lt_of_le (x.Ws b hb) hz
  ns := ns

section
variable {P : Program} {w : World} {K : PySem.W.Frag} {mg : Str → Option Value} {base : Heap} {kp : Nat} {fw fp : Addr} {fdp : FuncData} {qual : Str} {scope : Scope} {cdv : Value} {p : Nat → Pos}
/-- parts(value) in the walk's body -/
theorem eval_parts (S : Ws P w K mg base kp fw fp fdp qual scope cdv p) {V : Lev} (hP : V.P = P) (hw : V.w = w) (hb : V.base = base) (wf : V.Wf) {A : Around} {L a : Addr} {s : Shared} {cs : List Addr} {Q : Value → Shared → Prop} {E : Value → Shared → Prop} (x : Starts V L a s) (hpa : PartsOf V.H a cs)
    (hr : Room kp A) (hfr : A.frames = some (envOfC qual scope L fw cdv :: V.outer))
    (hQ : ∀ s1 T, ((∃ bx, V.H a = some (.tup [.str "bytes", bx]) ∧ cs = [] ∧ IsTup s1.heap T #[]) ∨ V.H T = some (.tup (cs.map .ref))) → Turned V (fun b => b = L) (V.g + 1) s s1 → AllBare s1.gens → (∀ o, s.heap.get? L = some o → ∃ sl, s1.heap.get? L = some { o with slots := sl }) → Q (.ref T) s1) :
    wpAny (model P w) A (eval (.Call (.Name "parts" (p 4)) [.Name "value" (p 5)] [] (p 6)) (envOfC qual scope L fw cdv)) Q E s := by
  subst hP hw hb
  obtain ⟨mm, hns, hv⟩ := x.ns
  have kin : K.In s.heap := S.mod.kin.keeps x.good.bs
  have frs2 : frs (envOfC qual scope L fw cdv :: V.outer) = L :: frs V.outer := by
    unfold frs
    rw [List.filterMap_cons]
    rfl
  refine wpAny_Call_Name_kw (Calls.Name_function_global S.kind S.lp (Calls.loadGlobal_global (S.mod.glob.keeps x.good.bs) S.gp ?_) (by decide))
  refine PySem.W.callWith_K (h₀ := s.heap) kin S.kpp (Calls.spliced_cons (wpAny_Name (wpAny_loadName_local S.kind S.value hns hv (Calls.spliced_nil ⟨kin, ?_⟩)) (by decide)))
  obtain ⟨o, es, ep, ho, hd, _⟩ := id hns
  have e0 : Env0 V.P V.w K mg V.base A (envOfC qual scope L fw cdv :: V.outer) s V.H := by
    refine ⟨hfr, S.mod, fun b o e => ⟨x.good.bs b o e, wf.bH b o e⟩, x.good.bsz, ⟨by rw [show (envOfC qual scope L fw cdv).scope.kind = .function from S.kind]; decide, ⟨L, o, rfl, x.Lb, ho, fun vs q => by rw [hd] at q; cases q⟩, x.good.funs⟩, fun b hb => ?_, x.good.hok, x.bare⟩
    rw [frs2] at hb
    rcases List.mem_cons.mp hb with z | z
    · rw [z]; exact x.LH
    · exact wf.fH b z
  refine wpAny_hsz (Nat.le_refl s.heap.objs.size) (wpAny_gsz (Nat.le_refl s.gens.size) (wpAny_call (codeAny_mono (S.parts.run A (envOfC qual scope L fw cdv :: V.outer) s V.H ⟨[.ref a], []⟩ [.ref a] [.ref a]
    (fun v H' => ∃ T, v = .ref T ∧ ((∃ bx, V.H a = some (.tup [.str "bytes", bx]) ∧ cs = [] ∧ H' T = some (.tup [])) ∨ V.H T = some (.tup (cs.map .ref))) ∧ ∀ c u, V.H c = some u → H' c = some u) E0 hr e0 (by have := S.bparts s [.ref a] kin rfl; rwa [List.append_nil] at this) (.cons rfl .nil) ?_) fun r s' hq => ?_)))
  · refine ⟨a, cs, rfl, ?_⟩
    rcases hpa with ⟨bx, h1, h2⟩ | ⟨b, h1, h2⟩
    · exact .inl ⟨bx, h1, h2, fun b H' h3 h4 => ⟨b, rfl, .inl ⟨bx, h1, h2, h3⟩, h4⟩⟩
    · exact .inr ⟨b, h1, h2, b, rfl, .inr h2, fun _ _ z => z⟩
  · cases r with
    | error e => exact False.elim hq
    | ok fl =>
      cases fl with
      | next => exact False.elim hq
      | brk => exact False.elim hq
      | cont => exact False.elim hq
      | ret u =>
        obtain ⟨v, H', os, hb', un, hok, rv, T, rfl, hT, hsub⟩ := hq
        obtain rfl : u = Value.ref T := rv
        intro hgz hhz
        have hokV : HOk V.P V.w V.H s'.heap := fun b u e => by
          obtain ⟨xs, rfl⟩ := wf.tup b u e
          exact hok b _ (hsub b _ e)
        refine hQ s' T ?_ ⟨os, fun b o e hn hF => ?_, hhz, hgz, BareTo.allBare hb', hokV⟩ hb' fun o e => ?_
        · rcases hT with ⟨bx, h1, h2, h3⟩ | hT
          · obtain ⟨_, its, rv2, ht⟩ := hok T _ h3
            cases rv2
            exact .inl ⟨bx, h1, h2, ht⟩
          · exact .inr hT
        · by_cases hm : b ∈ frs (envOfC qual scope L fw cdv :: V.outer)
          · obtain ⟨sl, e1⟩ := un.slot b o e hn hm (by simp)
            refine ⟨sl, e1, fun hm2 => ?_⟩
            rw [frs2] at hm
            rcases List.mem_cons.mp hm with z | z
            · exact absurd z hF
            · exact absurd z hm2
          · exact ⟨o.slots, un.keep b o e hn hm (by simp), fun _ => rfl⟩
        · exact un.slot L o e x.LH (by rw [frs2]; exact List.mem_cons_self) (by simp)
end
end Rx
end
/-! ## Rx11 -/
section
set_option maxRecDepth 100000
set_option maxHeartbeats 4000000
set_option linter.all false
/-! The walk hands out the tree. -/
namespace Rx
open PySem PySem.Spec PyProof.Rows L2 GenW
section
variable {P : Program} {w : World} {K : PySem.W.Frag} {mg : Str → Option Value} {base : Heap} {kp : Nat} {fw fp : Addr} {fdp : FuncData} {qual : Str} {scope : Scope} {cdv : Value} {p : Nat → Pos}
abbrev wEnv (qual : Str) (scope : Scope) (fw : Addr) (cdv : Value) (L : Addr) : Env := envOfC qual scope L fw cdv
theorem frs_wEnv {qual : Str} {scope : Scope} {fw : Addr} {cdv : Value} {L : Addr} {l : List Env} : frs (wEnv qual scope fw cdv L :: l) = L :: frs l := by
  unfold frs
  rw [List.filterMap_cons]
  rfl
abbrev wLoop (qual : Str) (scope : Scope) (fw : Addr) (cdv : Value) (p : Nat → Pos) (it L : Addr) : Code :=
  .forLoop (.Name "part" (p 3)) (.ref it) [.Expr (.YieldFrom (.Call (.Name "walk" (p 7)) [.Name "part" (p 8)] [] (p 9)) (p 10)) (p 11)] [] (wEnv qual scope fw cdv L)
/-- what the walk of a smaller tree does -/
def Hands (P : Program) (w : World) (base : Heap) (kp : Nat) (fw : Addr) (qual : Str) (scope : Scope) (cdv : Value) (p : Nat → Pos) (m : Nat) : Prop :=
  ∀ (V : Lev), V.P = P → V.w = w → V.base = base → V.Wf → m + kp + 1 ≤ V.n → ∀ (a : Addr) (xs : List Addr), Pre V.H m a xs → ∀ (L : Addr) (s : Shared), Starts V L a s →
    Go V xs (fun b => b = L) (.func (wBody p) (wEnv qual scope fw cdv L)) ((model P w).den (.func (wBody p) (wEnv qual scope fw cdv L))) [] s
theorem loop_go (S : Ws P w K mg base kp fw fp fdp qual scope cdv p) {m : Nat} (ihm : Hands P w base kp fw qual scope cdv p m) {V : Lev} (hP : V.P = P) (hw : V.w = w) (hbase : V.base = base) (wf : V.Wf) (hn : m + kp + 2 ≤ V.n) {a L T it : Addr} {cs : List Addr} {kf : Result → Sem PySem.Fin} {pp : Pos}
    (hkf : ∀ (F : Addr → Prop) (s' : Shared) (A : Around), AllBare s'.gens → HOk V.P V.w V.H s'.heap → TX (model P w) A (.func (wBody p) (wEnv qual scope fw cdv L)) (kf (.ok .next)) [] (GoP V [] F s') s')
    (hT : V.H T = some (.tup (cs.map .ref))) (hitW : it ∉ V.W) (hitf : it ∉ frs V.outer) (hitb : V.base.get? it = none) (hitH : V.H it = none) (hitL : it ≠ L) : ∀ (cs' : List Addr) (xss' : List (List Addr)) (j : Nat) (F : Addr → Prop) (s : Shared), Paired (Pre V.H m) cs' xss' → cs.drop j = cs' → IsTupIter s.heap it T j →
        Starts V L a s → F L → F it → ∀ A, V.Ok A → TX (model P w) A (wLoop qual scope fw cdv p it L) ((model P w).den (wLoop qual scope fw cdv p it L)) [.ret kf none false [] (.func (wBody p) (wEnv qual scope fw cdv L)) pp []] (GoP V xss'.flatten F s) s := by
  subst hP hw hbase
  have hov : ∀ A : Around, A.over (wLoop qual scope fw cdv p it L) [.ret kf none false [] (.func (wBody p) (wEnv qual scope fw cdv L)) pp []] = A.deeper (wEnv qual scope fw cdv L) := fun A => (over_loop rfl rfl).trans over_func
  intro cs'
  induction cs' with
  | nil =>
    intro xss' j F s hpp hdr hit x hFL hFi A ok
    cases hpp
    obtain ⟨_, its, rv, ht⟩ := x.good.hok T _ hT
    have e := paired_refs rv
    subst e
    have hnone : (cs.map Value.ref).toArray[j]? = none := by
      have h1 : cs.length ≤ j := List.drop_eq_nil_iff.mp hdr
      simp
      exact h1
    refine tx_forLoop ?_
    rw [hov]
    refine wpAny_hsz (Nat.le_refl s.heap.objs.size) (next_tuple_end (by exact ok.1.hd) hit ht hnone fun h' hk hz => ?_)
    have hok' : HOk V.P V.w V.H h' := hok_stay x.good.hok fun b u o hu e => hk b o (fun z => by rw [z, hitH] at hu; cases hu) e
    refine TX.mono (tx_leaf (.ok .next) (hkf F { s with heap := h' } A x.bare hok')) fun e s' q => q.since (Turned.of_kept rfl (fun b o hF _ e => hk b o (fun z => hF (z ▸ hFi)) e) hz (Nat.le_refl _) (BareTo.allBare x.bare) hok') fun _ z => .inl z
  | cons c cs' ih =>
    intro xss' j F s hpp0 hdr hit x hFL hFi A ok
    obtain ⟨xs0, xss', hpre, hpp, rfl⟩ : ∃ xs0 xss'', Pre V.H m c xs0 ∧ Paired (Pre V.H m) cs' xss'' ∧ xss' = xs0 :: xss'' := by
      cases hpp0 with
      | cons h t => exact ⟨_, _, h, t, rfl⟩
    obtain ⟨_, its, rv, ht⟩ := x.good.hok T _ hT
    have e := paired_refs rv
    subst e
    have hjc : cs[j]? = some c := by
      have : (cs.drop j)[0]? = some c := by rw [hdr]; rfl
      rw [List.getElem?_drop] at this
      simpa using this
    have hitem : (cs.map Value.ref).toArray[j]? = some (.ref c) := by simp [hjc]
    have hdr' : cs.drop (j + 1) = cs' := by
      rw [← List.drop_drop, hdr]; rfl
    refine tx_forLoop ?_
    rw [hov]
    refine next_tuple_item hit ht hitem fun h1 hit1 hs1 => ?_
    obtain ⟨mm, hns, hv⟩ := x.ns
    have hns1 : h1.Ns L mm := hns.sameBut hs1 (Ne.symm hitL)
    refine wpAny_storeName_local (env := wEnv qual scope fw cdv L) S.part hns1 (fun h2 hns2 hs2 => ?_) (by
      rw [show (wEnv qual scope fw cdv L).scope.kind = .function from S.kind]; rfl)
    have hit2 : IsTupIter h2 it T (j + 1) := by
      obtain ⟨o, ho, r⟩ := hit1
      exact ⟨o, (hs2.2 it hitL).trans ho, r⟩
    have ne2 : ∀ b o, ¬ (b = L ∨ b = it) → s.heap.get? b = some o → h2.get? b = some o := fun b o hb e => (hs2.2 b fun z => hb (.inl z)).trans ((hs1.2 b fun z => hb (.inr z)).trans e)
    have hz2 : h2.objs.size = s.heap.objs.size := hs2.1.trans hs1.1
    have x2 : Starts V L a { s with heap := h2, toks := s.toks + 1 } := by
      refine x.upto (D := fun b => b = L ∨ b = it) rfl (Nat.le_of_eq hz2.symm) ne2 (fun b o d e => ?_) (fun b u d e => ?_) (fun b hb d => ?_) ⟨_, hns2, ?_⟩
      · rcases d with d | d
        · rw [d, x.Lb] at e; cases e
        · rw [d, hitb] at e; cases e
      · rcases d with d | d
        · rw [d, x.LH] at e; cases e
        · rw [d, hitH] at e; cases e
      · rcases d with d | d
        · exact x.Lf (d ▸ hb)
        · exact hitf (d ▸ hb)
      · rw [if_neg (by decide)]
        exact hv
    have kin : K.In h2 := S.mod.kin.keeps x2.good.bs
    refine tx_execs_cons (tx_Expr_YieldFrom ?_ (S.plain L))
    rw [hov]
    refine wpAny_Call_Name_kw (Calls.Name_function_global S.kind S.lw (Calls.loadGlobal_global (S.mod.glob.keeps x2.good.bs) S.gw ?_) (by decide))
    refine PySem.W.callWith_K (h₀ := h2) kin S.kw (Calls.spliced_cons (wpAny_Name (wpAny_loadName_local S.kind S.part hns2 (by rw [if_pos rfl]) (Calls.spliced_nil ⟨kin, ?_⟩)) (by decide)))
    have ok1 := ok.1
    have nl2 : h2.NoLimit := wf.nl.keeps x2.good.bs
    refine call_walk S (s := { s with heap := h2, toks := s.toks + 1 }) kin nl2 (by have := ok1.dp; show A.depth + 1 < _; omega) fun s3 a2 mm3 nm qn ha2 hlt3 hk3 hg3 hos3 hobj3 hns3 hv3 => ?_
    have ty3 : s3.TypeIs (.ref a2) "generator" := ⟨_, hobj3, rfl⟩
    refine ⟨"generator", ty3, by decide, wpAny_pyIter_gen (g := s.gens.size) ⟨_, nm, qn, hobj3, rfl, rfl, rfl⟩ fun p9 k hk => ?_⟩
    have hb3 : AllBare s3.gens := by rw [hg3]; exact AllBare.push x.bare rfl
    have hg3' : s3.gens.size = s.gens.size + 1 := by rw [hg3, Array.size_push]
    have hgl := x.gl
    have hz3 : h2.objs.size ≤ s3.heap.objs.size := Nat.le_of_lt (Nat.lt_trans ha2 hlt3)
    have hok3 : HOk V.P V.w V.H s3.heap := x2.good.hok.kept hk3
    have young : ∀ b, h2.objs.size ≤ b → V.base.get? b = none ∧ V.H b = none ∧ b ∉ frs V.outer ∧ b ≠ L ∧ b ≠ it ∧ b ∉ V.W := fun b hb => by
      refine ⟨?_, x2.good.hok.fresh hb, fun hm => ?_, fun z => ?_, fun z => ?_, fun hm => absurd (x2.Ws b hm) (Nat.not_lt.mpr hb)⟩
      · cases e : V.base.get? b with
        | none => rfl
        | some o => exact absurd (Heap.lt_size (x2.good.bs b o e)) (Nat.not_lt.mpr hb)
      · obtain ⟨_, o, ho, _⟩ := x2.good.funs.mem hm
        exact absurd (Heap.lt_size ho) (Nat.not_lt.mpr hb)
      · exact absurd hns2.lt (by rw [z] at hb; exact Nat.not_lt.mpr hb)
      · obtain ⟨o, ho, _⟩ := hit2
        exact absurd (Heap.lt_size ho) (by rw [z] at hb; exact Nat.not_lt.mpr hb)
    obtain ⟨yb, yH, yf, yL, yi, yW⟩ := young a2 (Nat.le_of_lt ha2)
    obtain ⟨zb, zH, zf, zL, zi, zW⟩ := young h2.objs.size (Nat.le_refl _)
    have funs3 : s3.heap.FunFrames V.base (wEnv qual scope fw cdv L :: V.outer) := by
      obtain ⟨o, es, ep, ho, hd, _⟩ := hns2
      exact ⟨by rw [show (wEnv qual scope fw cdv L).scope.kind = .function from S.kind]; decide, ⟨L, o, rfl, x.Lb, hk3 L o ho, fun vs q => by rw [hd] at q; cases q⟩, funs_of x2.good.funs fun b _ o e => ⟨o.slots, hk3 b o e⟩⟩
    have good3 : V.Good s3 := ⟨fun b o e => hk3 b o (x2.good.bs b o e), Nat.le_trans x2.good.bsz hz3, hok3, funs_of x2.good.funs fun b _ o e => ⟨o.slots, hk3 b o e⟩⟩
    have t3 : Turned V F (V.g + 1) s s3 := Turned.of_kept hos3 (fun b o hF _ e => hk3 b o (ne2 b o (fun z => hF (z.elim (fun z => z ▸ hFL) fun z => z ▸ hFi)) e)) (by rw [← hz2]; exact hz3) (by omega) (BareTo.allBare hb3) hok3
    -- the sub-walk
    have wf2 : (V.sub (wEnv qual scope fw cdv L) a2 s.gens.size (V.n - 1)).Wf := by
      refine ⟨wf.nl, wf.bH, fun b hb => ?_, fun b hb => ?_, wf.tup⟩
      · rcases List.mem_cons.mp hb with z | z
        · rw [z]; exact ⟨yb, yH⟩
        · exact wf.Wb b z
      · rw [show frs (V.sub (wEnv qual scope fw cdv L) a2 s.gens.size (V.n - 1)).outer = L :: frs V.outer from frs_wEnv] at hb
        rcases List.mem_cons.mp hb with z | z
        · rw [z]; exact x.LH
        · exact wf.fH b z
    have starts : Starts (V.sub (wEnv qual scope fw cdv L) a2 s.gens.size (V.n - 1)) h2.objs.size c s3 := by
      refine ⟨⟨good3.bs, good3.bsz, hok3, funs3⟩, hb3, by show s.gens.size < _; omega, fun hm => ?_, zb, zH, fun hm => ?_, fun b hb => ?_, ⟨mm3, hns3, hv3⟩⟩
      · rcases List.mem_cons.mp hm with z | z
        · exact absurd ha2 (by rw [← z]; exact Nat.lt_irrefl _)
        · exact zW z
      · rw [show frs (V.sub (wEnv qual scope fw cdv L) a2 s.gens.size (V.n - 1)).outer = L :: frs V.outer from frs_wEnv] at hm
        rcases List.mem_cons.mp hm with z | z
        · exact zL z
        · exact zf z
      · rcases List.mem_cons.mp hb with z | z
        · rw [z]; exact hlt3
        · exact Nat.lt_of_lt_of_le (x2.Ws b z) hz3
    have st : Stored (V.sub (wEnv qual scope fw cdv L) a2 s.gens.size (V.n - 1)) xs0 (fun b => b = h2.objs.size) s3 :=
      ⟨_, by rw [hg3]; exact Array.getElem?_push_size .., fun s'' k2 aw => ihm (V.sub (wEnv qual scope fw cdv L) a2 s.gens.size (V.n - 1)) rfl rfl rfl wf2 (by show m + kp + 1 ≤ V.n - 1; omega) c xs0 hpre _ s'' (starts.kept wf2 k2 aw)⟩
    have hns3L : s3.heap.Ns L _ := hns2.keeps hk3
    have hit3 : IsTupIter s3.heap it T (j + 1) := by
      obtain ⟨o, ho, r⟩ := hit2
      exact ⟨o, hk3 it o ho, r⟩
    show TX _ A (yfc a2) _ (.ret k none false [] (wLoop qual scope fw cdv p it L) p9 [] :: [.ret kf none false [] (.func (wBody p) (wEnv qual scope fw cdv L)) pp []]) (GoP V (xs0 ++ xss'.flatten) F s) s3
    refine TX.mono (yf_go (V := V) (env := wEnv qual scope fw cdv L) (a2 := a2) (g2 := s.gens.size) (n2 := V.n - 1) (IH := fun h => (∃ mm, h.Ns L mm ∧ mm "value" = some (.ref a)) ∧ IsTupIter h it T (j + 1)) (D := [L, it]) (zs := xss'.flatten) wf rfl rfl rfl x.gl (fun A' ok' => ?_) (fun h h' hi hk => ?_) (fun h hi => ?_)
      (fun b hb => ?_) (fun b hb => ?_) (fun b hb => ?_) (fun hm => ?_) yW x.Lb yL yf yH yb h2.objs.size (fun b hb => ?_) (fun b o e => Heap.lt_size (x2.good.bs b o e)) (fun b u e => x2.good.hok.lt e) (fun b hb => ?_) hns2.lt
      xs0 (fun b => F b ∨ b = a2 ∨ b = h2.objs.size) (fun b => b = h2.objs.size) s3 st ⟨nm, qn, _, hobj3, .inl rfl⟩ ⟨⟨_, hns3L, by rw [if_neg (by decide)]; exact hv⟩, hit3⟩ good3 (BareTo.allBare hb3) (fun b q => .inr (.inr q)) (.inr (.inl rfl)) (.inl hFL) (fun b q => by rw [q]; exact Nat.le_refl _) (fun q => absurd ha2 (by rw [← q]; exact Nat.lt_irrefl _)) hz3
      (fun F' s' hi' G' hb' hsz' hFF hF' hg' A' ok' => ?_) A ok) fun e s' q => q.since t3 fun b q => ?_
    · have e1 : A'.over (yfc a2) (.ret k none false [] (wLoop qual scope fw cdv p it L) p9 [] :: [.ret kf none false [] (.func (wBody p) (wEnv qual scope fw cdv L)) pp []]) = (A'.deeper (wEnv qual scope fw cdv L)).in1 := by
        rw [over_in1 (plainId_weight plain_yf _) (plainId_units plain_yf _), hov]
      rw [e1]
      have r1 := ok'.1
      refine ⟨⟨⟨r1.hd, ?_, ?_⟩, Around.frames_deeper ok'.2⟩, ?_, r1.hd⟩
      · have := r1.dp
        show A'.depth + 1 + 3 * (V.n - 1) + 5 < _
        omega
      · have := r1.un
        show A'.units + 3 + 1 + 1 + 16 * (V.n - 1) + 200 < _
        omega
      · have := r1.dp
        show A'.depth + 1 < _
        omega
    · obtain ⟨⟨mm', hn', hv'⟩, o, ho, r⟩ := hi
      refine ⟨⟨mm', ns_slots hn' fun o e => ?_, hv'⟩, ?_⟩
      · obtain ⟨sl, e1, _⟩ := hk L (by simp) o e
        exact ⟨sl, e1⟩
      · obtain ⟨sl, e1, e2⟩ := hk it (by simp) o ho
        rw [e2 hitL] at e1
        exact ⟨o, e1, r⟩
    · obtain ⟨⟨mm', ⟨o, es, ep, ho, hd, _⟩, _⟩, _⟩ := hi
      exact ⟨by rw [show (wEnv qual scope fw cdv L).scope.kind = .function from S.kind]; decide, x.Lb, o, ho, fun vs q => by rw [hd] at q; cases q⟩
    · have hb' : b = L ∨ b = it := by simpa using hb
      rcases hb' with rfl | rfl
      · exact x.LW
      · exact hitW
    · have hb' : b = L ∨ b = it := by simpa using hb
      rcases hb' with rfl | rfl
      · exact x.Lf
      · exact hitf
    · have hb' : b = L ∨ b = it := by simpa using hb
      rcases hb' with rfl | rfl
      · exact x.LH
      · exact hitH
    · have hb' : a2 = L ∨ a2 = it := by simpa using hm
      rcases hb' with z | z
      · exact yL z
      · exact yi z
    · have hb' : b = L ∨ b = it := by simpa using hb
      rcases hb' with rfl | rfl
      · exact hns2.lt
      · obtain ⟨o, ho, _⟩ := hit2
        exact Heap.lt_size ho
    · obtain ⟨_, o, ho, _⟩ := x2.good.funs.mem hb
      exact Heap.lt_size ho
    · -- the sub-walk is at its end
      obtain ⟨⟨mm', hn', hv'⟩, hit'⟩ := hi'
      refine tx_leaf (.ok (.ret .none)) (hk A' _ s' ?_)
      refine tx_execs_nil (K := fun f => match f with
            | .next | .cont => .pure (.again (wLoop qual scope fw cdv p it L))
            | .brk => .pure (.done .next)
            | .ret v => .pure (.done (.ret v))) (H := (fun e => (do noteFrame e (wEnv qual scope fw cdv L); theTreesLotGoes e : Sem Unit).wrap (fun _ => .raise e) .raise id id)) (gd := id) (lv := id) (env := wEnv qual scope fw cdv L) ?_
      refine tx_again rfl ?_
      exact ih xss' (j + 1) F' s' hpp hdr' hit' ⟨G', hb', hg', x.LW, x.Lb, x.LH, x.Lf, fun b hb => Nat.lt_of_lt_of_le (x2.Ws b hb) (Nat.le_trans hz3 hsz'), ⟨mm', hn', hv'⟩⟩ (hFF _ (.inl hFL)) (hFF _ (.inl hFi)) A' ok'
    · rcases q with q | q | q
      · exact .inl q
      · exact .inr (by rw [q, ← hz2]; exact Nat.le_of_lt ha2)
      · exact .inr (by rw [q, ← hz2]; exact Nat.le_refl _)
/-- the walk hands out the tree -/
theorem walk_go (S : Ws P w K mg base kp fw fp fdp qual scope cdv p) : ∀ m, Hands P w base kp fw qual scope cdv p m := by
  intro m
  induction m with
  | zero => intro V _ _ _ _ _ a xs h; exact h.elim
  | succ m ihm =>
    intro V hP hw hbase wf hn a xs hpre L s x A ok
    subst hP hw hbase
    obtain ⟨cs, xss, hpa, hpp, rfl⟩ := hpre
    obtain ⟨mm, hns, hv⟩ := x.ns
    refine tx_func (tx_execs_cons (tx_Expr_Yield rfl rfl rfl ?_ S.co (S.plain L)))
    refine wpAny_Name (wpAny_loadName_local S.kind S.value hns hv ?_) (by decide)
    intro gd l k p9 hk hgd
    refine ⟨gd, l, k, _, p9, [], fun b => b = L, rfl, fun b q => .inl q, Turned.refl x.bare x.good.hok, fun s2 k2 aw A' ok' => hk A' _ s2 ?_⟩
    have x2 := x.kept wf k2 aw
    obtain ⟨o2, ho2⟩ : ∃ o, s2.heap.get? L = some o := by
      obtain ⟨_, ⟨o, _, _, ho, _⟩, _⟩ := x2.ns
      exact ⟨o, ho⟩
    have r1 := ok'.1
    show TX _ A' _ ((execs [.For (.Name "part" (p 3)) (.Call (.Name "parts" (p 4)) [.Name "value" (p 5)] [] (p 6)) [.Expr (.YieldFrom (.Call (.Name "walk" (p 7)) [.Name "part" (p 8)] [] (p 9)) (p 10)) (p 11)] [] (p 12)] (wEnv qual scope fw cdv L)).wrap _ _ _ _) _ _ _
    refine tx_execs_cons (tx_For ?_)
    rw [over_func]
    refine wpAny_mono (eval_parts (E := fun _ _ => False) S rfl rfl rfl wf x2 hpa ⟨r1.hd, ?_, ?_⟩ (Around.frames_deeper ok'.2) fun s3 T hT t3 hb3 hsl => ?_) (fun _ _ q => q) fun _ _ q => q.elim
    · have := r1.dp
      show A'.depth + 1 + 3 * kp + 5 < _
      omega
    · have := r1.un
      show A'.units + 3 + 16 * kp + 200 < _
      omega
    obtain ⟨mm2, hns2, hv2⟩ := x2.ns
    have hns3 : s3.heap.Ns L mm2 := ns_slots hns2 hsl
    have good3 : V.Good s3 := by
      refine ⟨fun b o e => t3.exact (x2.good.bs b o e) (wf.bH b o e) (fun z => by rw [z, x.Lb] at e; cases e) fun hm => ?_, Nat.le_trans x2.good.bsz t3.size, t3.hok, funs_of x2.good.funs fun b hb o e => ?_⟩
      · obtain ⟨q, _⟩ := x2.good.funs.mem hm
        rw [e] at q; cases q
      · obtain ⟨sl, e1, _⟩ := t3.keep b o e (wf.fH b hb) fun z => x.Lf (z ▸ hb)
        exact ⟨sl, e1⟩
    have ht : ∃ items, IsTup s3.heap T items := by
      rcases hT with ⟨_, _, _, ht⟩ | hT
      · exact ⟨_, ht⟩
      · obtain ⟨_, its, _, ht⟩ := good3.hok T _ hT
        exact ⟨_, ht⟩
    obtain ⟨items, ht⟩ := ht
    refine iter_tuple ht fun p8 => ?_
    -- what follows the loop
    have endK : ∀ (F : Addr → Prop) (s' : Shared) (A : Around), AllBare s'.gens → HOk V.P V.w V.H s'.heap → TX (model V.P V.w) A (.func (wBody p) (wEnv qual scope fw cdv L))
        ((execs [] (wEnv qual scope fw cdv L)).wrap (fun f => .pure (.done (.ret (match f with | .ret v => v | _ => .none)))) (fun e => (leaving (wEnv qual scope fw cdv L) e).wrap (fun _ => .raise e) .raise id id) id id) [] (GoP V [] F s') s' :=
      fun F s' A hb hok => tx_execs_nil (tx_end (.ok (.ret .none)) ⟨rfl, Turned.refl hb hok, hb⟩)
    have young : V.base.get? s3.heap.objs.size = none ∧ V.H s3.heap.objs.size = none ∧ s3.heap.objs.size ∉ frs V.outer ∧ s3.heap.objs.size ≠ L ∧ s3.heap.objs.size ∉ V.W := by
      refine ⟨?_, good3.hok.fresh (Nat.le_refl _), fun hm => ?_, fun z => ?_, fun hm => absurd (x2.Ws _ hm) (Nat.not_lt.mpr t3.size)⟩
      · cases e : V.base.get? s3.heap.objs.size with
        | none => rfl
        | some o => exact absurd (Heap.lt_size (good3.bs _ o e)) (Nat.lt_irrefl _)
      · obtain ⟨_, o, ho, _⟩ := good3.funs.mem hm
        exact absurd (Heap.lt_size ho) (Nat.lt_irrefl _)
      · exact absurd hns3.lt (by rw [z]; exact Nat.lt_irrefl _)
    obtain ⟨yb, yH, yf, yL, yW⟩ := young
    have hsz4 : ({ s3 with heap := s3.heap.push { cls := .type "tuple_iterator", data := .fields #[.ref T, .int 0 0] } } : Shared).heap.objs.size = s3.heap.objs.size + 1 := Heap.size_push ..
    have kp4 : ∀ b o, s3.heap.get? b = some o → ({ s3 with heap := s3.heap.push { cls := .type "tuple_iterator", data := .fields #[.ref T, .int 0 0] } } : Shared).heap.get? b = some o := fun b o e => Heap.get?_push_of_some _ e
    have hit4 : IsTupIter ({ s3 with heap := s3.heap.push { cls := .type "tuple_iterator", data := .fields #[.ref T, .int 0 0] } } : Shared).heap s3.heap.objs.size T 0 := ⟨_, Heap.get?_push_size _ rfl, rfl, rfl⟩
    have hok4 : HOk V.P V.w V.H ({ s3 with heap := s3.heap.push { cls := .type "tuple_iterator", data := .fields #[.ref T, .int 0 0] } } : Shared).heap := good3.hok.kept kp4
    have hb4 : AllBare ({ s3 with heap := s3.heap.push { cls := .type "tuple_iterator", data := .fields #[.ref T, .int 0 0] } } : Shared).gens := hb3
    have t4 : Turned V (fun b => b = L) (V.g + 1) s2 { s3 with heap := s3.heap.push { cls := .type "tuple_iterator", data := .fields #[.ref T, .int 0 0] } } :=
      t3.trans (Turned.of_kept (F := fun b => b = L) rfl (fun b o _ _ e => kp4 b o e) (by rw [hsz4]; omega) (Nat.le_refl _) (BareTo.allBare hb3) hok4) fun _ z => .inl z
    have ht4 : IsTup ({ s3 with heap := s3.heap.push { cls := .type "tuple_iterator", data := .fields #[.ref T, .int 0 0] } } : Shared).heap T items := ht.keeps kp4
    generalize ({ s3 with heap := s3.heap.push { cls := .type "tuple_iterator", data := .fields #[.ref T, .int 0 0] } } : Shared) = s4 at *
    have hz3 := t3.size
    have hF4 : ∀ b, (b = L ∨ b = s3.heap.objs.size) → b = L ∨ s2.heap.objs.size ≤ b := fun b q => q.elim .inl fun z => .inr (by rw [z]; exact hz3)
    refine TX.mono (P := GoP V xss.flatten (fun b => b = L ∨ b = s3.heap.objs.size) s4) ?_ fun e s' q => q.since t4 hF4
    rcases hT with ⟨bx, _, rfl, ht0⟩ | hT
    · cases hpp
      have hi0 : items = #[] := by
        obtain ⟨o, ho, _, n, hd⟩ := ht
        obtain ⟨o', ho', _, n', hd'⟩ := ht0
        rw [ho] at ho'; cases ho'
        rw [hd] at hd'; cases hd'; rfl
      subst hi0
      refine tx_forLoop ?_
      rw [(over_loop rfl rfl).trans over_func]
      refine wpAny_hsz (Nat.le_refl s4.heap.objs.size) (next_tuple_end (by exact r1.hd) hit4 ht4 rfl fun h' hk' hz' => ?_)
      have hok5 : HOk V.P V.w V.H h' := hok_stay hok4 fun b u o hu e => hk' b o (fun z => by rw [z, yH] at hu; cases hu) e
      refine TX.mono (tx_leaf (.ok .next) (endK (fun b => b = L ∨ b = s3.heap.objs.size) { s4 with heap := h' } A' hb4 hok5)) fun e s' q => q.since (Turned.of_kept rfl (fun b o hF _ e => hk' b o (fun z => hF (.inr z)) e) hz' (Nat.le_refl _) (BareTo.allBare hb4) hok5) fun _ z => .inl z
    · refine loop_go (a := a) S ihm rfl rfl rfl wf (by omega) ?_ hT yW yf yb yH yL cs xss 0 (fun b => b = L ∨ b = s3.heap.objs.size) s4 hpp rfl hit4 ?_ (.inl rfl) (.inr rfl) A' ok'
      · exact fun F s' A hb hok => endK F s' A hb hok
      exact ⟨⟨fun b o e => kp4 b o (good3.bs b o e), by rw [hsz4]; exact Nat.le_succ_of_le good3.bsz, hok4, funs_of good3.funs fun b _ o e => ⟨o.slots, kp4 b o e⟩⟩, hb4, by have := t4.gsz; have := x2.gl; omega, x.LW, x.Lb, x.LH, x.Lf,
        fun b hb => Nat.lt_of_lt_of_le (x2.Ws b hb) t4.size, ⟨mm2, hns3.keeps kp4, hv2⟩⟩
end
end Rx
end
/-! ## Rx12 -/
section
set_option maxRecDepth 100000
set_option maxHeartbeats 4000000
set_option linter.all false
/-! enumerate over a generator. -/
namespace Rx
open PySem PySem.Spec PyProof.Rows L2 GenW
theorem meets_enum_gen (a : Addr) (g : Nat) :
    Meets (Builtin.«enumerate.__new__» ⟨[.type "enumerate", .ref a], []⟩) (fun _ R s => s.heap.IsGen a g ∧
      R (.ok (.ret (.ref s.heap.objs.size))) { s with heap := s.heap.push { cls := .type "enumerate", data := .fields #[.none, .bool false, .ref a, rawInt 0, .none, .none] } }) :=
  .of_wp fun prog w A R s h => by
    obtain ⟨hp, gs, d, tk, os⟩ := s
    obtain ⟨hl, h⟩ := h
    have hsub := sub_enumerate
    have hL : Heap.IsGen (Shared.heap ⟨hp, gs, d, tk, os⟩) a g := hl
    wp_walk
    refine wpAny_stack_any fun st => wpAny_pure ?_
    split
    · rename_i c _ _ _ _ _
      cases (c == Value.type "enumerate")
      · wp_walk using wpAny_pyIter_gen hL
        exact ⟨_, rfl, h⟩
      · wp_walk using wpAny_pyIter_gen hL
        exact ⟨_, rfl, h⟩
    · wp_walk using wpAny_pyIter_gen hL
      exact ⟨_, rfl, h⟩
section
variable {prog : Program} {w : World} {A : Around} {E : Value → Shared → Prop} {s : Shared}
theorem call_enum_gen {a : Addr} {g : Nat} {Q : Value → Shared → Prop} (hL : s.heap.IsGen a g)
    (h : ∀ h', IsEnum h' s.heap.objs.size a 0 .none → h'.objs.size = s.heap.objs.size + 1 → (∀ b o, s.heap.get? b = some o → h'.get? b = some o) → Q (.ref s.heap.objs.size) { s with heap := h' }) :
    wpAny (model prog w) A (call (.type "enumerate") [.ref a]) Q E s := by
  refine callType_new F.called_enumerate (by decide) (F.typeCall_enumerate_1 _) (F.newCall_enumerate_1 _) (fun obj => F.args_object_init_2 obj _) F.entry_enumerate_new (meets_enum_gen a g) ⟨hL, ?_⟩
  have he : IsEnum (s.heap.push { cls := .type "enumerate", data := .fields #[.none, .bool false, .ref a, rawInt 0, .none, .none] }) s.heap.objs.size a 0 .none := Heap.get?_push_size _ rfl
  exact ⟨⟨_, he, rfl⟩, h _ he (Heap.size_push ..) fun b o x => Heap.get?_push_of_some _ x⟩
/-- behind the next of what it walks -/
theorem enum_tail {e it : Addr} {c : Int} {x old : Value} {Q : Value → Shared → Prop} (he : IsEnum s.heap e it c old)
    (hQ : ∀ h' tk, IsEnumOut h' e it (c + 1) x s.heap.objs.size → h'.get? s.heap.objs.size = some { cls := .type "tuple", data := .seq #[.int c tk, x] } → h'.objs.size = s.heap.objs.size + 1 →
      (∀ b o, b ≠ e → s.heap.get? b = some o → h'.get? b = some o) → Q (.ref s.heap.objs.size) { s with heap := h', toks := s.toks + 1 }) :
    wpAny (model prog w) A (do
      let .int i _ ← field (.ref e) 3 | unsupported "internal:enumerate.__next__"
      let given ← field (.ref e) 4
      let index ← if given == .none then mkInt i else pure given
      setField (.ref e) 3 (rawInt (i + 1)); setField (.ref e) 4 .none
      let result ← newTuple [index, x]
      if ← Builtin.SmallTypes.ownedTupleIsFree (.ref e) then
        rule "enumerate.__next__.owned-tuple-again"
        let old ← field (.ref e) 5
        setField (.ref e) 5 x
        Builtin.SmallTypes.ownedTupleHandOut (.ref e) result
        letGo [old] [result]
      ret result : Sem PySem.Fin) (fun fin s' => ∃ v, fin = .done (.ret v) ∧ Q v s') E s := by
  obtain ⟨hp, g, d, tk, os⟩ := s
  show wpAny _ _ (field (.ref e) 3 >>= _) _ _ ⟨hp, g, d, tk, os⟩
  refine wpAny_bind (wpAny_field he rfl (x := rawInt c) rfl ?_)
  show wpAny _ _ (field (.ref e) 4 >>= _) _ _ ⟨hp, g, d, tk, os⟩
  refine wpAny_bind (wpAny_field he rfl (x := .none) rfl ?_)
  show wpAny _ _ (mkInt c >>= _) _ _ ⟨hp, g, d, tk, os⟩
  refine wpAny_bind (wpAny_mkInt ?_)
  show wpAny _ _ (setField (.ref e) 3 (rawInt (c + 1)) >>= _) _ _ ⟨hp, g, d, tk + 1, os⟩
  refine wpAny_bind (wpAny_setField_rec he (by simp) fun h2 he2 hs2 => ?_)
  replace hs2 : Heap.SameBut e hp h2 := hs2
  replace he2 : IsEnum h2 e it (c + 1) old := he2
  show wpAny _ _ (setField (.ref e) 4 .none >>= _) _ _ ⟨h2, g, d, tk + 1, os⟩
  refine wpAny_bind (wpAny_setField_rec he2 (by simp) fun h3 he3 hs3 => ?_)
  replace hs3 : Heap.SameBut e h2 h3 := hs3
  replace he3 : IsEnum h3 e it (c + 1) old := he3
  show wpAny _ _ (newTuple [.int c tk, x] >>= _) _ _ ⟨h3, g, d, tk + 1, os⟩
  refine wpAny_bind (wpAny_newTuple ?_)
  have he4 : IsEnum (h3.push { cls := .type "tuple", data := .seq #[.int c tk, x] }) e it (c + 1) old := Heap.get?_push_of_some _ he3
  generalize hh4 : h3.push { cls := .type "tuple", data := .seq #[.int c tk, x] } = h4 at he4
  have hsz : h3.objs.size = hp.objs.size := by rw [hs3.1, hs2.1]
  have hel : e < hp.objs.size := Heap.lt_size he
  have ht4 : h4.get? hp.objs.size = some { cls := .type "tuple", data := .seq #[.int c tk, x] } := by rw [← hh4, ← hsz]; exact Heap.get?_push_size _ rfl
  have hz4 : h4.objs.size = hp.objs.size + 1 := by rw [← hh4, Heap.size_push, hsz]
  have hk4 : ∀ b o, b ≠ e → hp.get? b = some o → h4.get? b = some o := fun b o hbe hb => by
    rw [← hh4]; exact Heap.get?_push_of_some _ (hs3.extBut b o hbe (hs2.extBut b o hbe hb))
  show wpAny _ _ (Builtin.SmallTypes.ownedTupleIsFree (.ref e) >>= _) _ _ ⟨h4, g, d, tk + 1, os⟩
  rw [hsz]
  clear hh4 he3 hs3 he2 hs2 hsz h3 h2
  refine wpAny_bind ?_
  · unfold Builtin.SmallTypes.ownedTupleIsFree
    refine wpAny_bind (wpAny_field he4 rfl (x := .none) rfl (wpAny_pure ?_))
    simp only [if_true]
    refine wpAny_bind (wpAny_rule ?_)
    refine wpAny_bind (wpAny_field he4 rfl (x := old) rfl ?_)
    refine wpAny_bind (wpAny_setField_rec he4 (by simp) fun h5 he5 hs5 => ?_)
    replace hs5 : Heap.SameBut e h4 h5 := hs5
    replace he5 : IsEnum h5 e it (c + 1) x := he5
    show wpAny _ _ (Builtin.SmallTypes.ownedTupleHandOut (.ref e) (.ref hp.objs.size) >>= _) _ _ ⟨h5, g, d, tk + 1, os⟩
    refine wpAny_bind ?_
    · unfold Builtin.SmallTypes.ownedTupleHandOut
      refine wpAny_bind (wpAny_setField_rec he5 (by simp) fun h6 he6 hs6 => ?_)
      replace hs6 : Heap.SameBut e h5 h6 := hs6
      replace he6 : IsEnumOut h6 e it (c + 1) x hp.objs.size := he6
      refine wpAny_setField_rec he6 (by simp) fun h7 he7 hs7 => ?_
      replace hs7 : Heap.SameBut e h6 h7 := hs7
      replace he7 : IsEnumOut h7 e it (c + 1) x hp.objs.size := he7
      refine wpAny_bind (wpAny_letGo (wpAny_pure ⟨_, rfl, hQ h7 tk he7 ?_ ?_ ?_⟩))
      · exact hs7.extBut _ _ (Nat.ne_of_gt hel) (hs6.extBut _ _ (Nat.ne_of_gt hel) (hs5.extBut _ _ (Nat.ne_of_gt hel) ht4))
      · rw [hs7.1, hs6.1, hs5.1, hz4]
      · exact fun b o hbe hb => hs7.extBut b o hbe (hs6.extBut b o hbe (hs5.extBut b o hbe (hk4 b o hbe hb)))
/-- next of an enumerate, by the next of what it walks -/
theorem rxa_next_enum {e it : Addr} {c : Int} {old : Value} {Q : Option Value → Shared → Prop} {E : Value → Shared → Prop} (he : IsEnum s.heap e it c old)
    (h : RXA (model prog w) A.in1 (callSpecial? (.ref it) "__next__") (fun r s1 => ∃ x, r = some x ∧ IsEnum s1.heap e it c old ∧
        ∀ h' tk, IsEnumOut h' e it (c + 1) x s1.heap.objs.size → h'.get? s1.heap.objs.size = some { cls := .type "tuple", data := .seq #[.int c tk, x] } → h'.objs.size = s1.heap.objs.size + 1 →
          (∀ b o, b ≠ e → s1.heap.get? b = some o → h'.get? b = some o) → Q (some (.ref s1.heap.objs.size)) { s1 with heap := h', toks := s1.toks + 1 })
      (fun x s1 => StopX x s1.heap ∧ Q none s1) s) :
    RXA (model prog w) A (pyNext (.ref e)) Q E s := by
  have hT : s.TypeIs (.ref e) "enumerate" := ⟨_, he, rfl⟩
  unfold pyNext
  refine rxa_bind (rxa_attempt (rxa_callSpecial?_slot (name := Str.ofString "__next__") hT F.slot_enumerate_next
    (rxa_call_entry F.slot_enumerate_next hT F.entry_enumerate_next ?_ (F.args_enumerate_next_1 _))))
  show RXA _ A.in1 (field (.ref e) 2 >>= _) _ _ _
  refine rxa_bw (wpAny_field he rfl (x := .ref it) rfl ?_)
  refine rxa_bind ?_
  unfold Builtin.SmallTypes.nextOf
  refine rxa_bind (h.mono (fun r s1 hq => ?_) fun x s1 hq => ?_)
  · obtain ⟨x, rfl, he1, hq⟩ := hq
    refine rxa_pure (rxa_of ?_)
    refine enum_tail he1 fun h' tk a1 a2 a3 a4 => ?_
    exact rxa_pure (hq h' tk a1 a2 a3 a4)
  · obtain ⟨⟨a, o, vs, rfl, ho, hc, _, _⟩, hq⟩ := hq
    exact rxa_of (wpAny_bind (wpAny_isInstance (T := "StopIteration") (b := true) ⟨o, ho, hc⟩ isSubtype_stop (wpAny_pure hq)))
end
end Rx
end
/-! ## Rx13 -/
section
set_option maxRecDepth 100000
set_option maxHeartbeats 4000000
set_option linter.all false
/-! sexp_lacks. -/
namespace Rx
open PySem PySem.Spec PyProof.Rows L2 GenW
/-- the body of the loop, with its places -/
abbrev kTest (q : Nat → Pos) : Expr := .BoolOp .And [.Compare (.Subscript (.Name "part" (q 8)) (.Constant (.int 0) 0 (q 9)) (q 10)) [.NotEq] [.Constant (.str "bytes") 0 (q 11)] (q 12),
  .Compare (.Subscript (.Name "part" (q 13)) (.Constant (.int 0) 0 (q 14)) (q 15)) [.NotEq] [.Constant (.str "list") 0 (q 16)] (q 17)] (q 18)
abbrev kIn (q : Nat → Pos) : List Stmt := [.If (kTest q) [.Return (some (.Name "index" (q 19))) (q 20)] [] (q 21)]
abbrev kTarget (q : Nat → Pos) : Expr := .Tuple [.Name "index" (q 0), .Name "part" (q 1)] 0 (q 2)
abbrev kIter (q : Nat → Pos) : Expr := .Call (.Name "enumerate" (q 3)) [.Call (.Name "walk" (q 4)) [.Name "value" (q 5)] [] (q 6)] [] (q 7)
abbrev kBody (q : Nat → Pos) : List Stmt := [.For (kTarget q) (kIter q) (kIn q) [] (q 22), .Return (some (.Constant .none 0 (q 23))) (q 24)]
section
variable {prog : Program} {w : World} {A : Around} {E : Value → Shared → Prop} {s : Shared} {env : Env} {q : Nat → Pos}
theorem kTest_false {Q : Bool → Shared → Prop} {mm : Str → Option Value} {x : Addr} {vs : Array Value} {t : Str} {u : Tok} (hk : env.scope.kind = .function) (hp : env.kindOf "part" = some .local) (hn : s.heap.Ns env.locals mm) (hm : mm "part" = some (.ref x))
    (ht : IsTup s.heap x vs) (h0 : vs[0]? = some (.str t u)) (hz : 0 < vs.size) (hb : t = "bytes" ∨ t = "list") (hQ : ∀ tk, Q false { s with toks := tk }) :
    wpAny (model prog w) A (isTrue (kTest q) env (eval (kTest q) env)) Q E s := by
  have one : ∀ (p1 p2 p3 p4 p5 : Pos) (y : Str) (tk : Nat) (Q' : Bool → Shared → Prop), (∀ tk', Q' (t != y) { s with toks := tk' }) →
      wpAny (model prog w) A (isTrue (.Compare (.Subscript (.Name "part" p1) (.Constant (.int 0) 0 p2) p3) [.NotEq] [.Constant (.str y) 0 p4] p5) env (eval (.Compare (.Subscript (.Name "part" p1) (.Constant (.int 0) 0 p2) p3) [.NotEq] [.Constant (.str y) 0 p4] p5) env)) Q' E { s with toks := tk } := by
    intro p1 p2 p3 p4 p5 y tk Q' hQ'
    refine wpAny_isTrue_Compare1 (Subscript_ (wpAny_Name (wpAny_loadName_local hk hp hn hm (wpAny_Constant_int (item_tuple ht (by decide) (by decide) (j := 0) ?_ h0 (Calls.Constant_str (ne_str (wpAny_truthy_bool (hQ' _))))))) (by decide))) (nomark _)
    unfold seqIndex?
    simp only [show ¬ ((0 : Int) < 0) from by decide, if_false]
    rw [if_pos (by simp; exact hz)]
    rfl
  refine wpAny_isTrue_BoolOp (wpAny_allTrue_And_cons ?_)
  refine one _ _ _ _ _ _ s.toks _ fun tk1 => ?_
  by_cases h1 : t = "bytes"
  · subst h1
    simp
    exact hQ _
  · have h2 : t = "list" := hb.resolve_left h1
    subst h2
    rw [if_pos (by decide)]
    refine wpAny_allTrue_And_cons (one _ _ _ _ _ _ tk1 _ fun tk2 => ?_)
    simp
    exact hQ _
theorem kIn_next {Q : Flow → Shared → Prop} {mm : Str → Option Value} {x : Addr} {vs : Array Value} {t : Str} {u : Tok} (hk : env.scope.kind = .function) (hp : env.kindOf "part" = some .local) (hn : s.heap.Ns env.locals mm) (hm : mm "part" = some (.ref x))
    (ht : IsTup s.heap x vs) (h0 : vs[0]? = some (.str t u)) (hz : 0 < vs.size) (hb : t = "bytes" ∨ t = "list") (hQ : ∀ tk, Q .next { s with toks := tk }) : wpAny (model prog w) A (execs (kIn q) env) Q E s := by
  refine wpAny_execs_cons (wpAny_If (kTest_false hk hp hn hm ht h0 hz hb fun tk => ?_))
  exact wpAny_execs_nil (wpAny_execs_nil (hQ tk))
end
end Rx
end
/-! ## Rx14 -/
section
set_option maxRecDepth 100000
set_option maxHeartbeats 4000000
set_option linter.all false
/-! sexp_lacks: the loop. -/
namespace Rx
open PySem PySem.Spec PyProof.Rows L2 GenW
section
variable {V : Lev} {env : Env} {e a0 : Addr} {q : Nat → Pos}
theorem lacks_loop (wf : V.Wf) (hk : env.scope.kind = .function) (hpi : env.kindOf "index" = some .local) (hpp : env.kindOf "part" = some .local) (hW : V.W = [e, a0, env.locals]) (hout : ∃ outer, V.outer = env :: outer ∧ env.locals ∉ frs outer) (hfr : env.frame = some env.locals)
    (hLb : V.base.get? env.locals = none) (heL : e ≠ env.locals) (hea : e ≠ a0) (haL : a0 ≠ env.locals) (hef : e ∉ frs V.outer) (haf : a0 ∉ frs V.outer) (heH : V.H e = none) (haH : V.H a0 = none) (hLH : V.H env.locals = none) {A : Around} (ok : V.Ok A.in1.in1) (hd : A.depth < recursionLimit) (hh : A.handled = none) {R : Result → Shared → Prop} (N : Nat) (hbN : ∀ b o, V.base.get? b = some o → b < N) (hfN : ∀ b ∈ frs V.outer, b < N) :
    ∀ (xs : List Addr) (F : Addr → Prop) (i : Int) (old : Value) (mm : Str → Option Value) (s : Shared), Stored V xs F s → IsEnum s.heap e a0 i old → GObj s.heap a0 V.g → s.heap.Ns env.locals mm → V.Good s → BareTo V.g s.gens → ¬ F e → ¬ F a0 → ¬ F env.locals → (∀ b, F b → N ≤ b) → N ≤ s.heap.objs.size →
      (∀ x ∈ xs, ∃ t r, V.H x = some (.tup (.str t :: r)) ∧ (t = "bytes" ∨ t = "list")) →
      (∀ s', Turned V (fun b => F b ∨ b = e ∨ b = env.locals) V.g s s' → AllBare s'.gens → R (.ok .next) s') →
      CodeXA (model V.P V.w) A (.forLoop (kTarget q) (.ref e) (kIn q) [] env) R s := by
  intro xs
  induction xs with
  | nil =>
    intro F i old mm s st he ha hn G hb hFe hFa hFL hFN hNs hxs hR
    refine codeXA_of_tree ?_
    show RXA _ A ((forTurn (kTarget q) (.ref e) (kIn q) [] env).onRaise (fun x => do noteFrame x env; theTreesLotGoes x)) _ _ s
    refine rxa_onRaise ?_
    unfold forTurn
    refine rxa_bw (wpAny_standAt (rxa_bind (rxa_onRaise (rxa_next_enum he ?_))))
    refine (stored_end st ha (G.nolimit wf) hb G.funs ok hd hh).mono (fun _ _ z => z.elim) fun y s1 ⟨hS, t, hb1⟩ => ⟨hS, ?_⟩
    refine rxa_of (wpAny_pure ⟨rfl, codeXA_of (codeAny_block (wpAny_execs_nil (hR s1 ?_ hb1)))⟩)
    exact ⟨t.os, fun b o e1 hn' hF => t.keep b o e1 hn' fun z => hF (.inl z), t.size, t.gsz, t.bare, t.hok⟩
  | cons x xs ih =>
    intro F i old mm s st he ha hn G hb hFe hFa hFL hFN hNs hxs hR
    obtain ⟨outer, hout, hLf⟩ := hout
    have hfo : frs V.outer = env.locals :: frs outer := by
      rw [hout]
      unfold frs
      rw [List.filterMap_cons, hfr]
    refine codeXA_of_tree ?_
    show RXA _ A ((forTurn (kTarget q) (.ref e) (kIn q) [] env).onRaise (fun x => do noteFrame x env; theTreesLotGoes x)) _ _ s
    refine rxa_onRaise ?_
    unfold forTurn
    refine rxa_bw (wpAny_standAt (rxa_bind (rxa_onRaise (rxa_next_enum he ?_))))
    refine (stored_next st ha haH hFa haf (G.nolimit wf) hb G.funs ok hd hh).mono (fun r s1 hq => ?_) fun _ _ z => z.elim
    obtain ⟨rfl, F1, hF1, t, st1, ha1⟩ := hq
    have he1 : IsEnum s1.heap e a0 i old := t.exact he heH hFe hef
    refine ⟨.ref x, rfl, he1, fun h2 tk heo ht2 hz2 hk2 => ?_⟩
    refine rxa_of ?_
    obtain ⟨u, r, hHx, htb⟩ := hxs x (List.mem_cons_self ..)
    have hxne : ∀ b, V.H b = none → x ≠ b := fun b hb' z => by rw [z, hb'] at hHx; cases hHx
    obtain ⟨_, its, rv, htx⟩ := t.hok x _ hHx
    obtain ⟨u0, its', hits, tk0, rfl⟩ : ∃ u0 its', its = u0 :: its' ∧ ∃ tk0, u0 = .str u tk0 := by
      cases rv with
      | cons r0 _ => exact ⟨_, _, rfl, r0⟩
    subst hits
    have heH1 : e < s1.heap.objs.size := Heap.lt_size he1
    have hn1 : s1.heap.Ns env.locals mm := ns_slots hn fun o e1 => by
      obtain ⟨sl, e2, _⟩ := t.keep _ o e1 hLH hFL
      exact ⟨sl, e2⟩
    have hL1 : env.locals < s1.heap.objs.size := hn1.lt
    refine wpAny_bind (wpAny_letOwnedTupleGo_enum heo fun h3 he3 hs3 => ?_)
    replace hs3 : Heap.SameBut e h2 h3 := hs3
    have ht3 : h3.IsTuple s1.heap.objs.size #[.int i tk, .ref x] := ⟨_, (hs3.2 _ (Nat.ne_of_gt heH1)).trans ht2, rfl, _, rfl⟩
    have hz3 : h3.objs.size = s1.heap.objs.size + 1 := hs3.1.trans hz2
    refine wpAny_bind (wpAny_hsz (Nat.le_refl h3.objs.size) (wpAny_assign_Tuple hh ht3 rfl rfl fun h4 hx4 => ?_))
    replace hx4 : Heap.ExtBut h3.objs.size h3 h4 := hx4
    have keep2 : ∀ b o, b ≠ e → s1.heap.get? b = some o → h3.get? b = some o := fun b o hbe e1 => (hs3.2 b hbe).trans (hk2 b o hbe e1)
    have old4 : ∀ b o, b < s1.heap.objs.size → h3.get? b = some o → h4.get? b = some o := fun b o hb' e1 => hx4 b o (by rw [hz3]; exact Nat.ne_of_lt (Nat.lt_succ_of_lt hb')) e1
    have hn4 : h4.Ns env.locals mm := by
      obtain ⟨o, es, ep, ho, rr⟩ := hn1
      exact ⟨o, es, ep, old4 _ o hL1 (keep2 _ o (Ne.symm heL) ho), rr⟩
    have hpk : (env.scope.kind == .class || (env.scope.kind == .module && env.locals != env.globals)) = false := by rw [hk]; rfl
    show wpAny _ A (do holding [(.ref x)] (assign (.Name "index" (q 0)) env (.int i tk)); do holding [] (assign (.Name "part" (q 1)) env (.ref x)); pure ()) _ _ _
    refine wpAny_bind (wpAny_holding (wpAny_assign_Name (wpAny_storeName_local hpi hn4 (fun h5 hn5 hs5 => ?_) hpk)))
    replace hs5 : Heap.SameBut env.locals h4 h5 := hs5
    refine wpAny_bind (wpAny_holding (wpAny_assign_Name (wpAny_storeName_local hpp hn5 (fun h6 hn6 hs6 => wpAny_pure ?_) hpk)))
    replace hs6 : Heap.SameBut env.locals h5 h6 := hs6
    intro hz4
    replace hz4 : h3.objs.size ≤ h6.objs.size := hz4
    have up : ∀ b o, b ≠ e → b ≠ env.locals → s1.heap.get? b = some o → h6.get? b = some o := fun b o hbe hbL e1 =>
      hs6.extBut b o hbL (hs5.extBut b o hbL (old4 b o (Heap.lt_size e1) (keep2 b o hbe e1)))
    have he6 : IsEnum h6 e a0 (i + 1) (.ref x) := hs6.extBut e _ heL (hs5.extBut e _ heL (old4 e _ heH1 he3))
    have htx6 : IsTup h6 x (Value.str u tk0 :: its').toArray := by
      obtain ⟨o, ho, rr⟩ := htx
      exact ⟨o, up x o (hxne e heH) (hxne _ hLH) ho, rr⟩
    refine wpAny_bind (kIn_next (u := tk0) (t := u) hk hpp hn6 (x := x) (by rw [if_pos rfl]) htx6 rfl (by simp) htb fun tk6 => ?_)
    refine wpAny_pure ⟨rfl, ?_⟩
    have hsz : s1.heap.objs.size ≤ h6.objs.size := by omega
    have K6 : Kept V.W V.g s1 { s1 with heap := h6, toks := tk6 } := by
      refine ⟨rfl, fun b o hb' e1 => up b o (fun z => hb' (by rw [hW, z]; simp)) (fun z => hb' (by rw [hW, z]; simp)) e1, hsz, fun _ _ _ => rfl, Nat.le_refl _, fun j y hj e1 => ?_⟩
      have e1' : s1.gens[j]? = some y := e1
      rw [Array.getElem?_eq_none hj] at e1'
      cases e1'
    have st6 : Stored V xs F1 { s1 with heap := h6, toks := tk6 } := st1.kept K6 rfl
    have ha6 : GObj h6 a0 V.g := ha1.at fun o e1 => up a0 o (Ne.symm hea) haL e1
    have hok6 : HOk V.P V.w V.H h6 := hok_stay t.hok fun b y o hu e1 => up b o (fun z => by rw [z, heH] at hu; cases hu) (fun z => by rw [z, hLH] at hu; cases hu) e1
    have t6 : Turned V (fun b => F b ∨ b = e ∨ b = env.locals) V.g s { s1 with heap := h6, toks := tk6 } := by
      refine ⟨t.os, fun b o e1 hn' hF => ?_, Nat.le_trans t.size hsz, t.gsz, t.bare, hok6⟩
      obtain ⟨sl, e2, e3⟩ := t.keep b o e1 hn' fun z => hF (.inl z)
      exact ⟨sl, up b _ (fun z => hF (.inr (.inl z))) (fun z => hF (.inr (.inr z))) e2, e3⟩
    have hes : e < s.heap.objs.size := Heap.lt_size he
    have has : a0 < s.heap.objs.size := by
      obtain ⟨_, _, _, z, _⟩ := ha
      exact Heap.lt_size z
    have hLs : env.locals < s.heap.objs.size := hn.lt
    have nF : ∀ b, b < s.heap.objs.size → ¬ F b → ¬ F1 b := fun b hb' hF z => (hF1 b z).elim hF fun z => absurd hb' (Nat.not_lt.mpr z)
    have G6 : V.Good { s1 with heap := h6, toks := tk6 } := by
      refine ⟨fun b o e1 => ?_, Nat.le_trans G.bsz (Nat.le_trans t.size hsz), hok6, ?_⟩
      · have hbL : b ≠ env.locals := fun z => by rw [z, hLb] at e1; cases e1
        have hbe : b ≠ e := fun z => by
          have := G.bs b o e1
          rw [z] at e1
          have hw := (wf.Wb e (by rw [hW]; simp)).1
          rw [e1] at hw; cases hw
        refine up b o hbe hbL (t.exact (G.bs b o e1) (wf.bH b o e1) (fun z => ?_) fun hm => ?_)
        · exact absurd (hFN b z) (Nat.not_le.mpr (hbN b o e1))
        · rw [hfo] at hm
          rcases List.mem_cons.mp hm with z | z
          · exact hbL z
          · obtain ⟨z1, _⟩ := G.funs.mem (show b ∈ frs V.outer by rw [hfo]; exact List.mem_cons_of_mem _ z)
            rw [e1] at z1; cases z1
      · have fu := G.funs
        have kf : ∀ b ∈ frs outer, ∀ o, s.heap.get? b = some o → ∃ sl, h6.get? b = some { o with slots := sl } := fun b hm o e1 => by
          have hm' : b ∈ frs V.outer := by rw [hfo]; exact List.mem_cons_of_mem _ hm
          obtain ⟨sl, e2, _⟩ := t.keep b o e1 (wf.fH b hm') fun z => absurd (hFN b z) (Nat.not_le.mpr (hfN b hm'))
          exact ⟨sl, up b _ (fun z => hef (z ▸ hm')) (fun z => hLf (z ▸ hm)) e2⟩
        rw [hout] at fu ⊢
        obtain ⟨f1, _, f3⟩ := fu
        obtain ⟨o, es, ep, ho, hdd, _⟩ := id hn6
        exact ⟨f1, ⟨env.locals, o, hfr, hLb, ho, fun vs z => by rw [hdd] at z; cases z⟩, funs_of f3 kf⟩
    exact ih F1 (i + 1) (.ref x) _ { s1 with heap := h6, toks := tk6 } st6 he6 ha6 hn6 G6 t.bare (nF e hes hFe) (nF a0 has hFa) (nF _ hLs hFL) (fun b z => (hF1 b z).elim (hFN b) (Nat.le_trans hNs)) (Nat.le_trans hNs (Nat.le_trans t.size hsz)) (fun y hy => hxs y (List.mem_cons_of_mem _ hy)) fun s' t' hb' => hR s' (t6.trans t' fun b hb2 => by
      rcases hb2 with z | z | z
      · rcases hF1 b z with z | z
        · exact .inl (.inl z)
        · exact .inr z
      · exact .inl (.inr (.inl z))
      · exact .inl (.inr (.inr z))) hb'
end
end Rx
end
/-! ## Rx15 -/
section
set_option maxRecDepth 100000
set_option maxHeartbeats 4000000
set_option linter.all false
/-! sexp_lacks: the def. -/
namespace Rx
open PySem PySem.Spec PyProof.Rows L2 GenW
/-- only the tuples -/
def tupOnly (H : Hp) : Hp := fun b => match H b with | some (.tup xs) => some (.tup xs) | _ => none
theorem tupOnly_some {H : Hp} {b : Addr} {u : HO} (h : tupOnly H b = some u) : H b = some u ∧ ∃ xs, u = .tup xs := by
  unfold tupOnly at h
  split at h
  · rename_i xs e
    cases h
    exact ⟨e, xs, rfl⟩
  · cases h
theorem tupOnly_tup {H : Hp} {b : Addr} {xs : List V} (h : H b = some (.tup xs)) : tupOnly H b = some (.tup xs) := by
  unfold tupOnly
  rw [h]
theorem tupOnly_none {H : Hp} {b : Addr} (h : H b = none) : tupOnly H b = none := by
  unfold tupOnly
  rw [h]
theorem tupOnly_ok {P : Program} {w : World} {H : Hp} {h : Heap} (x : HOk P w H h) : HOk P w (tupOnly H) h := fun b u e => by
  obtain ⟨e1, xs, rfl⟩ := tupOnly_some e
  exact x b _ e1
theorem parts_head {H : Hp} {a : Addr} {cs : List Addr} (h : PartsOf H a cs) : ∃ t r, H a = some (.tup (.str t :: r)) ∧ (t = "bytes" ∨ t = "list") := by
  rcases h with ⟨x, e, _⟩ | ⟨b, e, _⟩
  · exact ⟨_, _, e, .inl rfl⟩
  · exact ⟨_, _, e, .inr rfl⟩
theorem pre_heads {H : Hp} : ∀ (m : Nat) (a : Addr) (xs : List Addr), Pre H m a xs → ∀ x ∈ xs, ∃ t r, H x = some (.tup (.str t :: r)) ∧ (t = "bytes" ∨ t = "list")
  | 0, _, _, h => h.elim
  | m + 1, a, xs, h => by
    obtain ⟨cs, xss, hp, hq, rfl⟩ := h
    intro x hx
    rcases List.mem_cons.mp hx with z | z
    · rw [z]; exact parts_head hp
    · obtain ⟨ys, hy, hxy⟩ := List.mem_flatten.mp z
      obtain ⟨c, hc⟩ := hq.right ys hy
      exact pre_heads m c ys hc x hxy
def spLacks (mx : Nat) : Sp := fun vs H Q _ => ∃ a m xs, vs = [.ref a] ∧ m ≤ mx ∧ Pre (tupOnly H) m a xs ∧ Q .non H
theorem rxa_For {M : Model} {A : Around} {env : Env} {target iter : Expr} {body orelse : List Stmt} {pos : Pos} {s : Shared} {Q : Flow → Shared → Prop} {E : Value → Shared → Prop}
    (h : wpAny M A (eval iter env) (fun x s1 => wpAny M A (pyIter x) (fun it s2 => CodeXA M A (.forLoop target it body orelse env) (fun r s' => match r with | .ok f => Q f s' | .error e => False) s2) E s1) E s)
    (hs : ∀ x, foldedSetIterable iter env x = pure x := by intro _; rfl) : RXA M A (exec (.For target iter body orelse pos) env) Q E s := by
  rw [exec_For]
  refine rxa_bw (wpAny_standAt (rxa_bw (wpAny_mono h (fun x s1 h1 => rxa_bw (wpAny_of_eq (hs x) (rxa_bw (wpAny_standAt (rxa_bw (wpAny_holding (wpAny_mono h1 (fun it s2 h2 => ?_) fun _ _ q => q))))))) fun _ _ q => q)))
  unfold runOwn
  refine rxa_onRaise (rxa_run ?_)
  rw [Around.mark_none]
  refine h2.mono fun r s' hq => ?_
  cases r with
  | ok f => exact hq
  | error e => exact hq.elim
section
variable {P : Program} {w : World} {K : PySem.W.Frag} {mg : Str → Option Value} {base : Heap} {kp : Nat} {fw fp : Addr} {fdp : FuncData} {qual : Str} {scope : Scope} {cdv : Value} {p : Nat → Pos}
theorem lacks_fnx (S : Ws P w K mg base kp fw fp fdp qual scope cdv p) {CX : CXT} {fl : Addr} {fdl : FuncData} {xl ql : Str} {st : Stmt} {N : List Str} {q : Nat → Pos} (mx : Nat) (F : L2.Fun K xl ql st fl fdl) (Sc : FnScope N ["value"] (defScope st)) (hst : defBody st = kBody q)
    (hv : (defScope st).names.lookup ("value" : Str) = some NameKind.local) (hi : (defScope st).names.lookup ("index" : Str) = some NameKind.local) (hp : (defScope st).names.lookup ("part" : Str) = some NameKind.local)
    (he : (defScope st).names.lookup ("enumerate" : Str) = some NameKind.globalImplicit) (hw : (defScope st).names.lookup ("walk" : Str) = some NameKind.globalImplicit) (hme : mg "enumerate" = none) (hbe : bootBuiltins "enumerate" = some (.type "enumerate")) :
    FnX P w K mg base CX (mx + kp + 3) fl fdl ["value"] (spLacks mx) := by
  obtain ⟨oc, od, kV, doc, pm, an, cdS, ct, osl, rfl, lk, hcd⟩ := F.ex
  refine ⟨fun vs H Q E h => ?_, fun A outer s H args us vs Q E hr e0 hb r hsp => ?_⟩
  · obtain ⟨a, m, xs, rfl, _⟩ := h
    rfl
  obtain ⟨a, m, xs, rfl, hm, hpre, hQ⟩ := hsp
  obtain ⟨u, hus, hu⟩ : ∃ u, us = [u] ∧ u = .ref a := by
    cases r with
    | cons r1 t =>
      cases t
      exact ⟨_, rfl, r1⟩
  subst hus hu
  have KX : K.In s.heap := e0.mod.kin.keeps fun b o e => (e0.bs b o e).1
  have lim : s.heap.NoLimit := e0.mod.nolimit.keeps fun b o e => (e0.bs b o e).1
  have hkind : ∀ y ∈ (["value"] : List Str).zip [Value.ref a], (defScope st).names.lookup y.1 = some .local ∨ ((defScope st).names.lookup y.1 = some .cell ∧ ((cellsFrom (s.heap.objs.size + 1) (defScope st).names []).lookup y.1).isSome = true) := fun y hy => by
    have e : y = (("value" : Str), Value.ref a) := by simpa using hy
    subst e
    exact .inl hv
  refine codeXA_call_function hr.depth (KX _ _ lk) rfl Sc.co Sc.gen rfl (PySem.W.codeRec_of KX hcd) (hb _ _ _ _ ?_)
  refine wpAny_newFunctionEnv_cells Sc.kind hkind fun env henv s1 y => ?_
  have henv' : env = envOfC ql (defScope st) s.heap.objs.size fl cdS := henv
  subst henv'
  refine ⟨lim.keeps y.toInCall.keep, codeXA_func ?_⟩
  obtain ⟨h1, tk, es1, hk1⟩ := y.done
  have hns1 : s1.heap.Ns s.heap.objs.size _ := y.toInCall.ns
  have hm1 : (bindL (envOfC ql (defScope st) s.heap.objs.size fl cdS).kindOf ((["value"] : List Str).zip [Value.ref a]) fun _ => none) "value" = some (.ref a) := bindL_get (P := ["value"]) (i := 0) (by simp) rfl rfl hv
  generalize hmm : (bindL (envOfC ql (defScope st) s.heap.objs.size fl cdS).kindOf ((["value"] : List Str).zip [Value.ref a]) fun _ => none) = mm at hns1 hm1
  subst es1
  replace hns1 : h1.Ns s.heap.objs.size mm := hns1
  have kin1 : K.In h1 := KX.keeps hk1
  have lim1 : h1.NoLimit := lim.keeps hk1
  rw [hst]
  have hzL : s.heap.objs.size < h1.objs.size := hns1.lt
  have hm0 : ∀ b o, s.heap.get? b = some o → b ≠ s.heap.objs.size := fun b o e => Nat.ne_of_lt (Heap.lt_size e)
  have hLb : base.get? s.heap.objs.size = none := by
    cases e : base.get? s.heap.objs.size with
    | none => rfl
    | some o => exact absurd rfl (hm0 _ o (e0.bs _ o e).1)
  have hLf : s.heap.objs.size ∉ frs outer := fun hmm => by
    obtain ⟨_, o, ho, _⟩ := e0.funs.mem hmm
    exact hm0 _ o ho rfl
  have hok0 : HOk P w (tupOnly H) s.heap := tupOnly_ok e0.hok
  have fo : frs (envOfC ql (defScope st) s.heap.objs.size fl cdS :: outer) = s.heap.objs.size :: frs outer := by
    unfold frs
    rw [List.filterMap_cons]
    rfl
  have gl1 : h1.Ns mainGlobals mg := (e0.mod.glob.keeps fun b o e => (e0.bs b o e).1).keeps hk1
  refine RXA.mono (Q := fun f s' => f = .ret .none ∧ s'.os = s.os ∧ AllBare s'.gens ∧ (∀ b o, s.heap.get? b = some o → tupOnly H b = none → ∃ sl, s'.heap.get? b = some { o with slots := sl } ∧ (b ∉ frs outer → sl = o.slots)) ∧ HOk P w (tupOnly H) s'.heap) (E := fun _ _ => False) ?_ (fun f s' hq => ?_) fun _ _ z => z.elim
  · have ok1 := hr
    refine rxa_execs_cons (rxa_For ?_)
    refine wpAny_Call_Name_kw (Calls.Name_function_global Sc.kind he ?_ (by decide))
    obtain ⟨mb, b1, b2⟩ := e0.mod.blt
    refine Calls.loadGlobal_builtin gl1 hme ((b1.keeps fun b o e => (e0.bs b o e).1).keeps hk1) ((b2 _ (by decide)).trans hbe) ?_
    refine PyProof.Rows.callWith_type1 (Calls.spliced_cons ?_)
    refine wpAny_Call_Name_kw (Calls.Name_function_global Sc.kind hw (Calls.loadGlobal_global gl1 S.gw ?_) (by decide))
    refine PySem.W.callWith_K (h₀ := h1) kin1 S.kw (Calls.spliced_cons (wpAny_Name (wpAny_loadName_local Sc.kind hv hns1 hm1 (Calls.spliced_nil ⟨kin1, ?_⟩)) (by decide)))
    refine call_walk S (s := { s with heap := h1, toks := tk }) kin1 lim1 (by have := ok1.dp; show A.depth + 1 < _; omega) fun s3 a0 mm3 nm qn ha0 hlt3 hk3 hg3 hos3 hobj3 hns3 hv3 => ?_
    refine Calls.spliced_nil ?_
    refine call_enum_gen (g := s.gens.size) ⟨_, nm, qn, hobj3, rfl, rfl, rfl⟩ fun h5 he5 hz5 hk5 => ?_
    refine wpAny_pyIter_enum he5 ?_
    have hg3' : s3.gens.size = s.gens.size + 1 := by rw [hg3, Array.size_push]
    have hb3 : AllBare s3.gens := by rw [hg3]; exact AllBare.push e0.bare rfl
    have kk : ∀ b o, s.heap.get? b = some o → h5.get? b = some o := fun b o e => hk5 b o (hk3 b o (hk1 b o e))
    have hok5 : HOk P w (tupOnly H) h5 := hok0.kept kk
    replace ha0 : h1.objs.size < (a0 : Nat) := ha0
    replace hlt3 : s3.heap.objs.size > a0 := hlt3
    replace hz5 : h5.objs.size = s3.heap.objs.size + 1 := hz5
    have young : ∀ b, s.heap.objs.size < b → base.get? b = none ∧ tupOnly H b = none ∧ b ∉ s.heap.objs.size :: frs outer := fun b hb' => by
      refine ⟨?_, hok0.fresh (Nat.le_of_lt hb'), fun hm2 => ?_⟩
      · cases e : base.get? b with
        | none => rfl
        | some o => exact absurd (Heap.lt_size (e0.bs _ o e).1) (Nat.not_lt.mpr (Nat.le_of_lt hb'))
      · rcases List.mem_cons.mp hm2 with z | z
        · exact Nat.ne_of_gt hb' z
        · obtain ⟨_, o, ho, _⟩ := e0.funs.mem z
          exact absurd (Heap.lt_size ho) (Nat.not_lt.mpr (Nat.le_of_lt hb'))
    have hLH : tupOnly H s.heap.objs.size = none := hok0.fresh (Nat.le_refl _)
    have heY := young s3.heap.objs.size (by omega)
    have haY := young a0 (Nat.lt_trans hzL ha0)
    have h0Y := young h1.objs.size hzL
    have funs5 : h5.FunFrames base (envOfC ql (defScope st) s.heap.objs.size fl cdS :: outer) := by
      obtain ⟨o, es, ep, ho, hd, _⟩ := id hns1
      exact ⟨by rw [show (envOfC ql (defScope st) s.heap.objs.size fl cdS).scope.kind = .function from Sc.kind]; decide, ⟨s.heap.objs.size, o, rfl, hLb, hk5 _ o (hk3 _ o ho), fun vs z => by rw [hd] at z; cases z⟩, funs_of e0.funs fun b _ o e => ⟨o.slots, kk b o e⟩⟩
    have hWf : (Lev.mk P w base (tupOnly H) (envOfC ql (defScope st) s.heap.objs.size fl cdS :: outer) [s3.heap.objs.size, a0, s.heap.objs.size] s.gens.size (mx + kp + 1)).Wf := by
      refine ⟨e0.mod.nolimit, fun b o e => tupOnly_none (e0.bs b o e).2, fun b hb' => ?_, fun b hb' => ?_, fun b u e => (tupOnly_some e).2⟩
      · have hb2 : b = s3.heap.objs.size ∨ b = a0 ∨ b = s.heap.objs.size := by simpa using hb'
        rcases hb2 with rfl | rfl | rfl
        · exact ⟨heY.1, heY.2.1⟩
        · exact ⟨haY.1, haY.2.1⟩
        · exact ⟨hLb, hLH⟩
      · rw [show frs (Lev.mk P w base (tupOnly H) (envOfC ql (defScope st) s.heap.objs.size fl cdS :: outer) [s3.heap.objs.size, a0, s.heap.objs.size] s.gens.size (mx + kp + 1)).outer = s.heap.objs.size :: frs outer from fo] at hb'
        rcases List.mem_cons.mp hb' with z | z
        · rw [z]; exact hLH
        · exact tupOnly_none (e0.frf b z)
    have good5 : (Lev.mk P w base (tupOnly H) (envOfC ql (defScope st) s.heap.objs.size fl cdS :: outer) [s3.heap.objs.size, a0, s.heap.objs.size] s.gens.size (mx + kp + 1)).Good { s3 with heap := h5 } :=
      ⟨fun b o e => kk b o (e0.bs b o e).1, by have := e0.bsz; show base.objs.size ≤ h5.objs.size; omega, hok5, funs5⟩
    have starts : Starts (Lev.mk P w base (tupOnly H) (envOfC ql (defScope st) s.heap.objs.size fl cdS :: outer) [s3.heap.objs.size, a0, s.heap.objs.size] s.gens.size (mx + kp + 1)) h1.objs.size a { s3 with heap := h5 } := by
      refine ⟨good5, hb3, by show s.gens.size < s3.gens.size; omega, fun hm2 => ?_, h0Y.1, h0Y.2.1, by show h1.objs.size ∉ frs _; rw [fo]; exact h0Y.2.2, fun b hb' => ?_, ⟨mm3, hns3.keeps hk5, hv3⟩⟩
      · have hb2 : h1.objs.size = s3.heap.objs.size ∨ h1.objs.size = (a0 : Nat) ∨ h1.objs.size = s.heap.objs.size := by simpa using hm2
        omega
      · have hb2 : b = s3.heap.objs.size ∨ b = a0 ∨ b = s.heap.objs.size := by simpa using hb'
        show b < h5.objs.size
        rcases hb2 with rfl | rfl | rfl
        · show h5.objs.size > s3.heap.objs.size
          omega
        · exact Nat.lt_trans hlt3 (by omega)
        · show h5.objs.size > s.heap.objs.size
          omega
    have st5 : Stored (Lev.mk P w base (tupOnly H) (envOfC ql (defScope st) s.heap.objs.size fl cdS :: outer) [s3.heap.objs.size, a0, s.heap.objs.size] s.gens.size (mx + kp + 1)) xs (fun b => b = h1.objs.size) { s3 with heap := h5 } :=
      ⟨_, by show s3.gens[s.gens.size]? = _; rw [hg3]; exact Array.getElem?_push_size .., fun s2 k2 aw => walk_go S m _ rfl rfl rfl hWf (by show m + kp + 1 ≤ mx + kp + 1; omega) a xs hpre _ s2 (starts.kept hWf k2 aw)⟩
    refine lacks_loop (A := A.deeper (envOfC ql (defScope st) s.heap.objs.size fl cdS)) (V := Lev.mk P w base (tupOnly H) (envOfC ql (defScope st) s.heap.objs.size fl cdS :: outer) [s3.heap.objs.size, a0, s.heap.objs.size] s.gens.size (mx + kp + 1)) (env := envOfC ql (defScope st) s.heap.objs.size fl cdS) (e := s3.heap.objs.size) (a0 := a0) hWf Sc.kind hi hp rfl ⟨outer, rfl, hLf⟩ rfl hLb
      (by show s3.heap.objs.size ≠ s.heap.objs.size; omega) (Nat.ne_of_gt hlt3) (Nat.ne_of_gt (Nat.lt_trans hzL ha0)) (by show s3.heap.objs.size ∉ frs _; rw [fo]; exact heY.2.2) (by show a0 ∉ frs _; rw [fo]; exact haY.2.2) heY.2.1 haY.2.1 hLH ⟨⟨hr.hd, ?_, ?_⟩, Around.frames_deeper e0.frames⟩ (by have := ok1.dp; show A.depth + 1 < _; omega) hr.hd
      h1.objs.size (fun b o e => ?_) (fun b hb' => ?_) xs _ 0 .none mm { s3 with heap := h5 } st5 he5 ⟨nm, qn, _, hk5 _ _ hobj3, .inl rfl⟩ ((hns1.keeps hk3).keeps hk5) good5 (BareTo.allBare hb3) (by show ¬ (s3.heap.objs.size = h1.objs.size); omega) (Nat.ne_of_gt ha0) (by show ¬ (s.heap.objs.size = h1.objs.size); omega) (fun b hb' => by rw [hb']; exact Nat.le_refl _) (by show h1.objs.size ≤ h5.objs.size; omega)
      (fun x hx => ?_) fun s' t hb' => ?_
    · have := ok1.dp
      show A.depth + 1 + 3 * (mx + kp + 1) + 5 < _
      omega
    · have := ok1.un
      show A.units + 3 + 1 + 1 + 16 * (mx + kp + 1) + 200 < _
      omega
    · exact Nat.lt_trans (Heap.lt_size (e0.bs b o e).1) hzL
    · rw [show frs (Lev.mk P w base (tupOnly H) (envOfC ql (defScope st) s.heap.objs.size fl cdS :: outer) [s3.heap.objs.size, a0, s.heap.objs.size] s.gens.size (mx + kp + 1)).outer = s.heap.objs.size :: frs outer from fo] at hb'
      rcases List.mem_cons.mp hb' with z | z
      · rw [z]; exact hzL
      · obtain ⟨_, o, ho, _⟩ := e0.funs.mem z
        exact Nat.lt_trans (Heap.lt_size ho) hzL
    · exact pre_heads m a xs hpre x hx
    · show RXA _ _ (execs [.Return (some (.Constant .none 0 (q 23))) (q 24)] _) _ _ s'
      refine rxa_of (wpAny_execs_cons (wpAny_Return_some (wpAny_Constant_none ⟨rfl, ?_, hb', fun b o e hn' => ?_, t.hok⟩)))
      · exact t.os.trans hos3
      · have hb2 : s.heap.objs.size > b := Heap.lt_size e
        obtain ⟨sl, e1, e2⟩ := t.keep b o (kk b o e) hn' (by
          intro z
          rcases z with z | z | z
          · have z' : h1.objs.size = b := z.symm
            omega
          · have z' : s3.heap.objs.size = b := z.symm
            omega
          · have z' : s.heap.objs.size = b := z.symm
            omega)
        refine ⟨sl, e1, fun hbf => e2 fun hm2 => ?_⟩
        rw [show frs (Lev.mk P w base (tupOnly H) (envOfC ql (defScope st) s.heap.objs.size fl cdS :: outer) [s3.heap.objs.size, a0, s.heap.objs.size] s.gens.size (mx + kp + 1)).outer = s.heap.objs.size :: frs outer from fo] at hm2
        rcases List.mem_cons.mp hm2 with z | z
        · have z' : s.heap.objs.size = b := z.symm
          omega
        · exact hbf z
  · obtain ⟨rfl, os, hb', keep, hokT⟩ := hq
    have hokH : HOk P w H s'.heap := fun b u e => by
      cases hu : tupOnly H b with
      | some v =>
        obtain ⟨e1, ys, rfl⟩ := tupOnly_some hu
        rw [e] at e1
        cases e1
        exact hokT b _ hu
      | none =>
        refine (e0.hok b u e).stay (fun c v hc z => ?_) (fun _ z => z) fun _ _ z => z
        have key : ∀ u', H c = some u' → tupOnly H c = none → s'.heap.get? c = some v := fun u' e1 e2 => by
          obtain ⟨sl, e3, e4⟩ := keep c v z e2
          rw [e4 fun hm2 => by rw [e0.frf c hm2] at e1; cases e1] at e3
          exact e3
        rcases hc with rfl | hc
        · exact key u e hu
        · refine key _ hc ?_
          unfold tupOnly
          rw [hc]
    refine ⟨.non, H, os, hb', ⟨fun b o e n hf _ => ?_, fun b o e n _ _ => ?_, fun b o e n _ => n, fun b o e _ => ?_, fun b ys e => e, fun b o u e => e, fun b ys e => ⟨#[], by rw [e]; simp⟩⟩, hokH, rfl, hQ⟩
    · obtain ⟨sl, e1, e2⟩ := keep b o e (tupOnly_none n)
      rw [e2 hf] at e1
      exact e1
    · obtain ⟨sl, e1, _⟩ := keep b o e (tupOnly_none n)
      exact ⟨sl, e1⟩
    · cases hu : tupOnly H b with
      | none =>
        obtain ⟨sl, e1, _⟩ := keep b o e hu
        exact ⟨_, e1⟩
      | some v =>
        obtain ⟨_, ys, rfl⟩ := tupOnly_some hu
        obtain ⟨_, its, _, o', ho', _⟩ := hokT b _ hu
        exact ⟨o', ho'⟩
end
end Rx
end
/-! ## Rx16 -/
section
set_option maxRecDepth 100000
set_option maxHeartbeats 4000000
set_option linter.all false
/-! The law's end over the wider logic. -/
noncomputable section
namespace Rx
open PySem PySem.W PySem.Calls PyProof.Rows HandSHeadRun
/-- the claim's calls, from the wider logic -/
theorem callFromX {c : ClaimW} {tree : List Value → Sem PySem.Fin} {w : World} {s : Shared} {free : Addr → Prop} {gens : Prop} {kept : Heap → Prop} (hz : s.asleep) (hgens : s.gens = #[])
    (spec : ∀ args, c.pre args = true → WData.layableAll args = true → ∀ ord : List DictEntry → List DictEntry, (∀ l, (ord l).Perm l) →
      ∃ vs s1, layAllW c.records (classAt s.heap) w.params ord args s = some (vs, s1) ∧
        RXA (model c.prog w) callerA (tree vs) (fun fin s' => ∃ f, fin = .done f ∧ (c.Ends s args vs s1 (.ok f) s' ∧ s'.os = s.os ∧ AllBare s'.gens ∧ kept s'.heap))
          (fun e s' => c.Ends s args vs s1 (.error e) s' ∧ s'.os = s.os ∧ AllBare s'.gens ∧ kept s'.heap) s1) :
    c.CallFrom (fun vs => ⟨tree vs, .builtin "claim.caller" {}, default, []⟩) w free gens kept s := fun args hpre hlay ord hord => by
  obtain ⟨vs, s1, hlaid, hx⟩ := spec args hpre hlay ord hord
  have rest := layAllW_rest _ _ _ hlaid
  obtain ⟨k, r, s', s2, hrun, hsched, hfo, ends, hos, hkp⟩ := thread_ends (prog := c.prog) (w := w) (t := tree vs) (s := s1) (R := fun r s' => c.Ends s args vs s1 r s' ∧ s'.os = s.os ∧ kept s'.heap) (Shared.asleep_of_life rest.2.2.2 hz)
    (hx.mono (fun fin s' ⟨f, e, q1, q2, q3, q4⟩ => ⟨f, e, ⟨q1, q2, q4⟩, leftWithCleanup_false_of_bare q3⟩) fun e s' ⟨q1, q2, q3, q4⟩ => ⟨⟨q1, q2, q4⟩, leftWithCleanup_false_of_bare q3⟩)
  obtain ⟨eh, _, _, eo, _⟩ := Shared.forget_eq hfo
  have ends := ends.congr eh
  have hkp : kept s'.heap := by first | exact eh ▸ hkp | (rw [eh] at hkp; exact hkp) | (rw [← eh] at hkp; exact hkp)
  rw [← eo] at hos
  refine ⟨vs, s1, hlaid, k, _, s', hsched, ?_, (fun _ i x hx => by rw [hgens] at hx; simp at hx), hkp, by rw [(runN_life _ _ _ hrun).trans rest.2.2.2], Shared.rest_eq hos⟩
  rcases ends with ⟨v, rfl, d1, d2, d3, d4, d5⟩ | ⟨e, ob, cls, rfl, d1, d2, d3, d4, d5⟩
  · exact .inl ⟨v, rfl, d1, d2, d3, fun b o y _ => d4 b o y, d5⟩
  · exact .inr ⟨e, ob, cls, rfl, d1, d2, d3, d4, fun b o y _ => d5 b o y⟩
/-- the walk from behind the top, over the wider logic -/
abbrev WalkX (q : Program) (loose : List Str) (XP : (Str → Option Value) → Heap → Prop) (YP : World → Heap → Prop) (r : RowW) (d : DefRec) : Prop :=
  ∀ (w : World) (s0 s1 : Shared) (mg mb : Str → Option Value), Ground q loose r.records XP w s0 mg mb s1.heap → YP w s1.heap → ∀ (a : Addr) (o : Obj) (pm cd doc dV kV : Value), s1.heap.get? a = some o →
    o.data = .func { docDef d.name d.params d.body d.scope pm cd doc with defaults := dV, kwdefaults := kV } → s1.heap.CodeRec cd d.name → Dflts mg s1.heap d.params [] dV kV → mg d.name = some (.ref a) → s1.gens = #[] →
    ∀ (args : List WData) (vals : List Value) (as : List Addr), r.claim.pre args = true → WData.layableAll args = true → ReadsAllW r.records (classAt s0.heap) s1.heap vals args as → WellAll w.params s1.heap vals args → (∀ a ∈ as, (a == sysModules) = false) →
      RXA (model r.prog w) callerA (PySem.call (.ref a) vals) (fun v s' => GoodWG r.claim (classAt s0.heap) (ExcName.means s0.heap) args s1 (.ok (.ret v)) s')
        (fun e s' => GoodWG r.claim (classAt s0.heap) (ExcName.means s0.heap) args s1 (.error e) s') s1
theorem holdsX {r : OpenRow} {q : Program} {loose : List Str} {Xt : Shared → Bool} {XP : (Str → Option Value) → Heap → Prop} {α : Type} {Yf : Shared → α} {Ya : World → α} {YP : World → Heap → Prop} {d : DefRec} {N : Nat}
    (left : LeftO r.prog q loose Xt Yf Ya N) (hY : ∀ w s, Yf s = Ya w → YP w s.heap) (hYk : ∀ w h h', YP w h → (∀ b o, h.get? b = some o → h'.get? b = some o) → YP w h')
    (hX : ∀ s, Xt s = true → XP (s.heap.nsMap mainGlobals) s.heap) (hXk : ∀ mg h h', XP mg h → (∀ b o, h.get? b = some o → h'.get? b = some o) → XP mg h')
    (hdef : defOf q r.name = some (d, [])) (hp : r.prog.theDef r.name = some (d.params, d.body, d.scope)) (hk : kwWritten? d.params.kwonlyargs d.params.kw_defaults = some []) (hRf : ∀ s, Xt s = true → RecFacts r.records s.heap) (hwr : (!r.writes || r.records.isEmpty) = true)
    (k1 : r.wellSaid = true) (ok : (chainsOk q && opensWell r.prog && (frees r.toRowW && r.within.isEmpty)) = true) (hb : r.prog.bare) (hw : r.toRowW.promised)
    (walk : WalkX q loose XP YP r.toRowW d) : r.Holds := by
  obtain ⟨ok, k5⟩ := Bool.and_eq_true_iff.mp ok
  obtain ⟨hch, o1⟩ := Bool.and_eq_true_iff.mp ok
  obtain ⟨k5, k6⟩ := Bool.and_eq_true_iff.mp k5
  obtain ⟨hsame, hu, ha, hap, hm⟩ := frees_parts k5
  refine ⟨k1, hw, ⟨hb, o1, by show r.makers.map _ = []; rw [hm]; rfl⟩, hw.witness, fun w => ⟨(left.behind hX hch w).1, fun s' hs' => ?_⟩⟩
  obtain ⟨s0, hf, hg0, s, hT, hz, hgens, hg, G00, y⟩ := (left.behind (XP := fun mg h => XP mg h ∧ RecFacts r.records h) (fun s hs => ⟨hX s hs, hRf s hs⟩) hch w).2 s' hs'
  have G0 : Ground q loose [] XP w s (s.heap.nsMap mainGlobals) (s.heap.nsMap builtinsNs) s.heap := ⟨G00.T, G00.B, G00.D, G00.TE, G00.TD, G00.W, G00.X.1, G00.cls, G00.has, G00.apart, G00.once, G00.K⟩
  have RF := G00.X.2
  refine ⟨s0, hf, hg0, s, hT, fun n hn => ?_, RF.1, RF.2.1, ?_⟩
  · obtain rfl : n = r.name := by split at hn <;> simp_all
    exact pinned_of_view hg G0 hdef hp hk
  have hgens : s.gens = #[] := Array.eq_empty_of_size_eq_zero (beq_iff_eq.mp hgens)
  have G : Ground q loose r.records XP w s _ _ s.heap := RF.ground G0
  have hi := ident_freeW hu ha hap
  have hwi : r.claim.within = [] := List.isEmpty_iff.mp k6
  refine callFromX (c := r.claim) hz hgens fun args hpre hlay ord hord => ?_
  obtain ⟨⟨vs, s1⟩, hlaid⟩ := Option.isSome_iff_exists.mp (layAllW_isSome (P := w.params) (ord := ord) G.has args r.args s (pre_splitW hpre).1)
  have keeps := layAllW_keeps _ _ _ hlaid
  have rest := layAllW_rest _ _ _ hlaid
  obtain ⟨as, hrd, hin, hold⟩ := reads_layAllW hord _ _ _ hlaid hlay s1.heap (fun _ _ e => e)
  have L : Laid r.records w s s1 args vs as := ⟨⟨ord, hord, hlaid⟩, hrd, hin, hold, keeps, rest.1.trans hgens, rest.2.2.1⟩
  have G1 := G.keeps hXk keeps
  obtain ⟨a, o, pm, cd, doc, dV, kV, h1, h2, h3, h4, h5⟩ := G1.fn hdef
  refine ⟨vs, s1, hlaid, ?_⟩
  show RXA _ _ (do match ← nsGet mainNs r.name with
      | some f => do ret (← PySem.call f vs)
      | none => unsupported "claim.caller:no-such-global") _ _ s1
  refine rxa_bw (wpAny_nsGet G1.T.g ?_)
  rw [h1]
  have done : ∀ res s', GoodWG r.claim (classAt s.heap) (ExcName.means s.heap) args s1 res s' → (r.claim.Ends s args vs s1 res s' ∧ s'.os = s.os ∧ AllBare s'.gens ∧ (r.writes = true → namesKept r.prog r.keeps s.heap s'.heap ∧ ∀ x ∈ r.records, ∀ a, classAt s.heap x.1 = some a → recordClass s'.heap a x.1 (x.2.map (·.1)) = true)) := fun res s' g => by
    have z := g.laid (c := r.claim) hsame hwi hi L
    exact ⟨z.1, z.2.1, z.2.2, fun q => ⟨namesKept_of hT hg r.keeps keeps g.2.1.old, noTable hwr q⟩⟩
  refine rxa_bind ((walk w s s1 _ _ G1 (hYk _ _ _ (hY w s y) keeps) a o pm cd doc dV kV h2 h3 h4 h5 (defOf_name hdef ▸ h1) L.gens args vs as hpre hlay L.reads L.well (L.low G.low)).mono (fun v s' g => rxa_pure ⟨_, rfl, done _ _ g⟩) fun e s' g => done _ _ g)
/-- the head, the walk over the wider logic -/
theorem headX {r : OpenRow} {q : Program} {H : Hook} {ob : SharedT → H.α} {M : Nat} {loose : List PySem.Str} {d : DefRec} (ho : ∀ s : SharedT, ob s = H.obs s.abs)
    (e : opening r.prog = plainProg r.prog.main.scope.names) (f : ∀ s, fenceModules? r.prog s = some s) (run : ∀ w, RunEq r q H ob M loose w)
    (hdef : defOf q r.name = some (d, [])) (hp : r.prog.theDef r.name = some (d.params, d.body, d.scope)) (hk : kwWritten? d.params.kwonlyargs d.params.kw_defaults = some [])
    (hwr : (!r.writes || r.records.isEmpty) = true) (k1 : r.wellSaid = true) (ok : (chainsOk q && opensWell r.prog && (frees r.toRowW && r.within.isEmpty)) = true) (hb : r.prog.bare) (hw : r.toRowW.promised)
    (walk : WalkX q loose (XL q []) H.says r.toRowW d) : r.Holds := by
  have left : LeftO r.prog q loose (fun s => xlAt q [] s && recOk r.toRowW.records s) H.obs H.val (M + 600) true :=
    left_one (M := M) e (Nat.ble_eq_true_of_le (by omega)) f (Nat.ble_eq_true_of_le (by omega)) fun w os => by
      have z := run w os
      have eo : ob = fun s => H.obs s.abs := funext ho
      rw [eo] at z
      simp only [endQ_eq, seenQ_eq]
      exact z
  exact holdsX (r := r) (q := q) (loose := loose) (XP := XL q []) (YP := H.says) (d := d) left H.of H.keeps (fun s z => xl_of s (Bool.and_eq_true_iff.mp z).1) XL.keeps hdef hp hk (fun s z => recFacts_of (Bool.and_eq_true_iff.mp z).2) hwr k1 ok hb hw walk
/-- from the law's call -/
theorem walkX_of {l : OpenLaw} {n : Nat} {q : Program} {loose : List Str} {XP : (Str → Option Value) → Heap → Prop} {YP : World → Heap → Prop} {d : DefRec} (hn : l.most = some n) (hdf : d.params.defaults = [])
    (call : ∀ (w : World) (s0 s1 : Shared) (mg mb : Str → Option Value) (fa : Addr) (o : Obj) (pm cd doc : Value) (a : Addr) (vs : List Value) (ns : List Int), Ground q loose [] XP w s0 mg mb s1.heap → YP w s1.heap →
      s1.heap.get? fa = some o → o.data = .func (docDef d.name d.params d.body d.scope pm cd doc) → s1.heap.CodeRec cd d.name → mg d.name = some (.ref fa) →
      s1.heap.get? a = some { cls := .type "list", data := .seq vs.toArray } → IntsAre vs ns → ns.length ≤ n → (∀ k ∈ ns, Builtin.Int.intBits k ≤ 1048576) → s1.gens = #[] →
      CodeXA (model l.prog w) callerA (.call (.ref fa) ⟨[.ref a], []⟩) (fun r s' => r = .ok (.ret (.bool true)) ∧ OldK s1.heap s'.heap ∧ s'.os = s1.os ∧ AllBare s'.gens) s1) :
    WalkX q loose XP YP l.row.toRowW d := by
  intro w s0 s1 mg mb G Y fa o pm cd doc dV kV ho hd hcd hD hmg hg args vals as hpre hlay hrd hwl hlo
  obtain rfl : dV = .none := Dflts.none hD hdf
  obtain rfl : kV = .none := Dflts.noKw hD
  obtain ⟨a, vs, ns, rfl, rfl, hobj, hints, hlen⟩ := Att.script_of hn hpre hwl
  refine rxa_call ((call w s0 s1 mg mb fa o pm cd doc a vs ns G Y ho hd hcd hmg hobj hints hlen (Att.script_bits hlay) hg).mono fun r s' hq => ?_)
  obtain ⟨rfl, h2, h3, h4⟩ := hq
  exact ⟨.inl ⟨.bool true, .bool true, [], rfl, fun _ => rfl, .bool true, Att.post_true l _, fun _ => ⟨List.Pairwise.nil, fun _ hm => (nomatch hm)⟩⟩, h2, h3, h4⟩
end Rx

namespace Rx
open PySem PySem.Spec PyProof.Rows L2
/-- the law's promise at the heap behind the top; only the script is tracked -/
theorem lawCallX {P : Program} {w : World} {K : PySem.W.Frag} {mg mb : Str → Option Value} {CX : CXT} {k : Nat} {fa a : Addr} {fd : FuncData} {x : Str} {sp : Sp} {s1 : Shared} {vs : List Value} {ns : List Int}
    (KX : K.In s1.heap) (hns : s1.heap.Ns mainGlobals mg) (hb : s1.heap.Ns builtinsNs mb) (hbb : ∀ x : Str, x ≠ "__name__" → mb x = bootBuiltins x) (hlim : s1.heap.NoLimit) (hg : s1.gens = #[])
    (ha : s1.heap.get? a = some { cls := .type "list", data := .seq vs.toArray }) (hi : IntsAre vs ns) (hl : ns.length ≤ sizeLine) (hr : Room k callerA)
    (F : ∀ base : Heap, K.In base → base.Ns mainGlobals mg → Mod K mg base → FnX P w K mg base CX k fa fd [x] sp) (hbind : ∀ (s : Shared) (u : Value), BindsTo s fd ⟨[u], []⟩ [(x, u)])
    (hsp : ∀ H : Hp, Only H → SqL K H a (ns.map V.int) → sp [.ref a] H (fun v _ => v = .bl true) fun _ _ _ => False) (hCX : ∀ H e s', CX [] H s1 (fun _ _ _ => False) e s' → False) :
    CodeXA (model P w) callerA (.call (.ref fa) ⟨[.ref a], []⟩) (fun r s' => r = .ok (.ret (.bool true)) ∧ OldK s1.heap s'.heap ∧ s'.os = s1.os ∧ AllBare s'.gens) s1 := by
  have rv := vals_ints hi
  have core : ∀ H : Hp, Only H → SqL K H a (ns.map V.int) → HOk P w H s1.heap → (∀ b u, H b = some u → b = a ∧ K.lookup a = none) →
      CodeXA (model P w) callerA (.call (.ref fa) ⟨[.ref a], []⟩) (fun r s' => r = .ok (.ret (.bool true)) ∧ OldK s1.heap s'.heap ∧ s'.os = s1.os ∧ AllBare s'.gens) s1 := by
    intro H only hS hok hA
    have at_ : ∀ {b : Addr} {o : Obj}, s1.heap.get? b = some o → (b = a → K.lookup a = none → False) → (hidT s1.heap H).get? b = some o := fun {b o} e n => by
      refine hidT_get e ?_
      cases q : H b with
      | none => rfl
      | some u => exact (n (hA b u q).1 (hA b u q).2).elim
    have nsK : ∀ {b : Addr} {m : Str → Option Value}, s1.heap.Ns b m → (hidT s1.heap H).Ns b m := fun {b m} ⟨o, es, ep, e, d, r⟩ => ⟨o, es, ep, at_ e (fun z _ => by
      subst z
      rw [ha] at e
      cases e
      have d' : Data.seq vs.toArray _ = Data.dict es ep := d
      cases d'), d, r⟩
    have hKb : K.In (hidT s1.heap H) := fun b o e => at_ (KX b o e) fun z y => by
      subst z
      rw [y] at e
      cases e
    have hM : Mod K mg (hidT s1.heap H) := ⟨hKb, nsK hns, ⟨mb, nsK hb, hbb⟩, let ⟨mc, h1, h2⟩ := hlim; ⟨mc, nsK h1, h2⟩⟩
    have e0 : Env0 P w K mg (hidT s1.heap H) callerA [] s1 H := ⟨rfl, hM, fun b o e => of_hidT e, Nat.le_of_eq (hidT_size _ _), trivial, fun b hb => absurd (show b ∈ ([] : List Addr) from hb) (by simp), hok, .of_eq hg⟩
    refine ((F _ hKb (nsK hns) hM).run callerA [] s1 H ⟨[.ref a], []⟩ [.ref a] [.ref a] _ _ hr e0 (hbind s1 (.ref a)) (.cons rfl .nil) (hsp H only hS)).mono fun r s' h => ?_
    cases r with
    | error e => exact (hCX H e s' h).elim
    | ok fl =>
      cases fl with
      | next => exact False.elim h
      | brk => exact False.elim h
      | cont => exact False.elim h
      | ret u =>
        obtain ⟨v, H', os, bare, un, hok', r', q⟩ := h
        have q' : v = .bl true := q
        subst q'
        obtain rfl : u = Value.bool true := r'
        refine ⟨rfl, OldK.of_keep fun b o e => ?_, os, bare⟩
        cases hq : H b with
        | none => exact un.keep b o e hq (by intro z; exact absurd (show b ∈ ([] : List Addr) from z) (by simp)) (by simp)
        | some u =>
          rcases only b with z | ⟨ob, xs, z⟩
          · rw [hq] at z; cases z
          · have z2 := un.frzs b ob _ z
            obtain ⟨e1, _⟩ := hok b _ z
            obtain ⟨e2, _⟩ := hok' b _ z2
            rw [e] at e1
            cases e1
            exact e2
  cases hk : K.lookup a with
  | some o =>
    have e := KX a o hk
    rw [ha] at e
    cases e
    exact core (fun _ => none) (fun _ => .inl rfl) (.inr ⟨_, vs.toArray, _, hk, rfl, rfl, rfl, by rw [List.size_toArray, hi.length]; exact hl, by simpa using rv⟩) (fun b u z => by cases z) fun b u z => by cases z
  | none =>
    have ne : ∀ b, b ≠ a → (if b = a then some (HO.frz { cls := .type "list", data := .seq vs.toArray } (.lst (ns.map V.int))) else none) = none := fun b hb => if_neg hb
    refine core (fun b => if b = a then some (.frz { cls := .type "list", data := .seq vs.toArray } (.lst (ns.map V.int))) else none) (fun b => ?_) (.inl (.inr ⟨{ cls := .type "list", data := .seq vs.toArray }, if_pos rfl⟩)) (fun b u z => ?_) (fun b u z => ?_)
    · by_cases hb : b = a
      · exact .inr ⟨_, _, if_pos hb⟩
      · exact .inl (ne b hb)
    · by_cases hb : b = a
      · subst hb
        have z' := (if_pos rfl).symm.trans z
        cases z'
        exact ⟨ha, by rw [List.length_map]; exact hl, vs, _, rv, ha⟩
      · have z' := (ne b hb).symm.trans z
        cases z'
    · by_cases hb : b = a
      · exact ⟨hb, hk⟩
      · have z' := (ne b hb).symm.trans z
        cases z'
end Rx
end
end
/-! ## Hd1 -/
section
set_option maxRecDepth 100000
set_option maxHeartbeats 4000000
set_option linter.all false
/-! Values as trees of tuples; parts; the writer. -/
namespace Hd
open PySem PySem.Spec PyProof.Rows L2 Evl
abbrev iv (l : List Int) : List V := l.map V.int
mutual
/-- the value t stands at a -/
def TreeAt (H : Hp) : Sx.T → Addr → Prop
  | .leaf xs, a => ∃ b, H a = some (.tup [.str "bytes", .ref b]) ∧ H b = some (.tup (iv xs))
  | .node ts, a => ∃ b cs, H a = some (.tup [.str "list", .ref b]) ∧ H b = some (.tup (cs.map V.ref)) ∧ TreesAt H ts cs
def TreesAt (H : Hp) : List Sx.T → List Addr → Prop
  | [], [] => True
  | t :: ts, c :: cs => TreeAt H t c ∧ TreesAt H ts cs
  | _, _ => False
end
/-- the tuples stand as before -/
def TupEx (H H' : Hp) : Prop := ∀ b xs, H b = some (.tup xs) → H' b = some (.tup xs)
theorem Ex.tup {H H' : Hp} (h : Ex H H') : TupEx H H' := fun b xs e => h b _ e
mutual
theorem TreeAt.ex {H H' : Hp} (h : TupEx H H') : ∀ {t : Sx.T} {a : Addr}, TreeAt H t a → TreeAt H' t a
  | .leaf _, _, ⟨b, e1, e2⟩ => ⟨b, h _ _ e1, h _ _ e2⟩
  | .node _, _, ⟨b, cs, e1, e2, e3⟩ => ⟨b, cs, h _ _ e1, h _ _ e2, TreesAt.ex h e3⟩
theorem TreesAt.ex {H H' : Hp} (h : TupEx H H') : ∀ {ts : List Sx.T} {cs : List Addr}, TreesAt H ts cs → TreesAt H' ts cs
  | [], [], _ => trivial
  | _ :: _, _ :: _, ⟨h1, h2⟩ => ⟨TreeAt.ex h h1, TreesAt.ex h h2⟩
  | [], _ :: _, e => e.elim
  | _ :: _, [], e => e.elim
end
theorem TreesAt.get {H : Hp} : ∀ {ts : List Sx.T} {cs : List Addr} {i : Nat} {c : Addr}, TreesAt H ts cs → cs[i]? = some c → ∃ t, ts[i]? = some t ∧ TreeAt H t c
  | [], [], _, _, _, e => by simp at e
  | t :: ts, c :: cs, 0, _, h, e => by
    simp at e
    subst e
    exact ⟨t, rfl, h.1⟩
  | t :: ts, c :: cs, i + 1, _, h, e => by
    simp at e
    obtain ⟨t', e1, e2⟩ := TreesAt.get h.2 e
    exact ⟨t', by simpa using e1, e2⟩
  | [], _ :: _, _, _, h, _ => h.elim
  | _ :: _, [], _, _, h, _ => h.elim
theorem TreesAt.length {H : Hp} : ∀ {ts : List Sx.T} {cs : List Addr}, TreesAt H ts cs → ts.length = cs.length
  | [], [], _ => rfl
  | t :: ts, c :: cs, h => by simp [TreesAt.length h.2]
  | [], _ :: _, h => h.elim
  | _ :: _, [], h => h.elim
/-! ### calls by names -/
/-- a def of the module that can be called: what it promises, where it stands -/
structure Cal (P : Program) (w : World) (K : PySem.W.Frag) (mg : Str → Option Value) (base : Heap) (CX : CXT) (k : Nat) (x : Str) (ps : List Str) (sp : Sp) : Prop where
  ex : ∃ f fd, FnOk P w K mg base CX k f fd ps sp ∧ mg x = some (.ref f) ∧ PySem.W.keepIn K (.ref f) = true ∧ Binds K fd ps []
theorem pe_cal {X : Cx} {CX : CXT} {k : Nat} {x : Str} {ps : List Str} {sp : Sp} {E : XK} {e : Expr} {es : List Expr} {t : TA} {p pos : Pos} (c : Cal X.prog X.w X.K X.mg X.base CX k x ps sp) (hr : Room k X.A) (hg : Gl X x) (hx : Passes CX X E)
    (ha : PA X (e :: es) t) (hdb : (x == ("__debug__" : Str)) = false := by decide) (he : starEach (e :: es) X.env = (false, eval e X.env) :: starEach es X.env := by rfl) (hpl : (backTo pos (starEach es X.env)).any (·.1) = false := by rfl) :
    PE X (.Call (.Name x p) (e :: es) [] pos) (tCall sp [] E t) := by
  obtain ⟨f, fd, F, g, kp, b⟩ := c.ex
  exact pe_call F hr hg g kp b .nil hx ha hdb he hpl
/-- a method -/
structure CalM (P : Program) (w : World) (K : PySem.W.Frag) (mg : Str → Option Value) (base : Heap) (CX : CXT) (k : Nat) (C : Addr) (m : Str) (ps : List Str) (sp : Sp) : Prop where
  ex : ∃ f fd, FnOk P w K mg base CX k f fd ps sp ∧ Meth K C m f ∧ Binds K fd ps []
/-! ### readings -/
section
variable {K : PySem.W.Frag} {σ : L2.St} {H : Hp} {ta tb : TE} {v : V} {a : Addr} {xs : List V} {i : Int}
theorem val_ixT (h1 : Val ta σ H (.ref a)) (h2 : Val tb σ H (.int i)) (h : SqT K H a xs) (e : atI xs i = some v) : Val (tOp (rIxT K) ta tb) σ H v := val_op h1 h2 fun Q q => ⟨a, xs, i, v, rfl, rfl, h, e, q⟩
theorem val_ixL (h1 : Val ta σ H (.ref a)) (h2 : Val tb σ H (.int i)) (h : SqL K H a xs) (e : atI xs i = some v) : Val (tOp (rIxL K) ta tb) σ H v := val_op h1 h2 fun Q q => ⟨a, xs, i, v, rfl, rfl, h, e, q⟩
theorem val_eqS {x y : Str} (h1 : Val ta σ H (.str x)) (h2 : Val tb σ H (.str y)) : Val (tOp rEq ta tb) σ H (.bl (decide (x = y))) := val_op h1 h2 fun Q q => ⟨rfl, by
  have e : decide (V.str x = V.str y) = decide (x = y) := by rw [Bool.eq_iff_iff]; simp
  rw [e]; exact q⟩
end
def PartsOf' (H : Hp) (a : Addr) (cs : List Addr) : Prop := True
/-- parts(value) -/
def spParts : Sp := fun vs H Q _ => ∃ a cs, vs = [.ref a] ∧
  ((∃ x, H a = some (.tup [.str "bytes", x]) ∧ cs = ([] : List Addr) ∧ ∀ b H', H' b = some (.tup []) → (∀ c u, H c = some u → H' c = some u) → Q (.ref b) H') ∨
   ∃ b, H a = some (.tup [.str "list", .ref b]) ∧ H b = some (.tup (cs.map .ref)) ∧ Q (.ref b) H)
section
variable {P : Program} {w : World} {K : PySem.W.Frag} {mg : Str → Option Value} {base : Heap} {f : Addr} {fd : FuncData}
theorem sc7 : FnScope ["value"] ["value"] (defScope (top 7)) := ⟨rfl, rfl, rfl, by decide +kernel, rfl, by decide +kernel, by decide +kernel⟩
theorem ok_parts (F : Fun K "parts" "parts" (top 7) f fd) : FnOk P w K mg base CX0 1 f fd ["value"] spParts := by
  refine F.ok sc7 (fun vs H Q E h => ?_) (fun cdv A outer s H vs Q E hr h => ?_)
  · obtain ⟨a, cs, rfl, _⟩ := h
    rfl
  obtain ⟨a, cs, rfl, h⟩ := h
  refine ⟨_, pss_cons (ps_if (pt_cmpR op_eq (pe_ix ix_tup (pv 0) pe_int (fun _ _ => rfl)) pe_str (nomark _)) (pss_one (ps_ret (pe_ix ix_tup (pv 0) pe_int (fun _ _ => rfl)))) pss_nil)
    (pss_cons (ps_if (pt_cmpR op_eq (pe_ix ix_tup (pv 0) pe_int (fun _ _ => rfl)) pe_str (nomark _)) pss_never pss_nil)
    (pss_one (ps_ret (pe_tup pa_nil)))), ?_⟩
  rcases h with ⟨x, e1, rfl, q⟩ | ⟨b, e1, e2, q⟩
  · refine st_seq (st_no ((ans_test (val_eqS (x := "bytes") (val_ixT (val_var rfl) val_c (SqT.of e1) rfl) val_c)).to (by decide +kernel)) (st_next ?_))
    refine st_seq (st_no ((ans_test (val_eqS (x := "bytes") (val_ixT (val_var rfl) val_c (SqT.of e1) rfl) val_c)).to (by decide +kernel)) (st_next ?_))
    exact ⟨Nat.zero_le _, fun p hp => q p _ upd_same fun c u e => by rw [upd_ne (ne_of_none e hp)]; exact e⟩
  · refine st_seq (st_yes ((ans_test (val_eqS (x := "list") (val_ixT (val_var rfl) val_c (SqT.of e1) rfl) val_c)).to (by decide +kernel)) ?_)
    exact st_ret (val_ixT (val_var rfl) val_c (SqT.of e1) rfl) q
end
end Hd
end
/-! ## Hd2 -/
section
set_option maxRecDepth 100000
set_option maxHeartbeats 4000000
set_option linter.all false
/-! Decimal digits; comprehensions; the writer. -/
namespace Hd
open PySem PySem.Spec PyProof.Rows L2 Evl
/-! ### str of a count -/
theorem digit_nat : ∀ d : Fin 10, (Nat.digitChar d.val).toNat = 48 + d.val := by decide
theorem core_dec : ∀ (fuel n : Nat) (ds : List Char), n < fuel → ((Nat.toDigitsCore 10 fuel n ds).map fun c => (c.toNat : Int)) = Sx.dec n ++ ds.map fun c => (c.toNat : Int) := by
  intro fuel
  induction fuel with
  | zero => intro n ds h; exact absurd h (Nat.not_lt_zero _)
  | succ fuel ih =>
    intro n ds h
    have hd : (Nat.digitChar (n % 10)).toNat = 48 + n % 10 := digit_nat ⟨n % 10, Nat.mod_lt _ (by decide)⟩
    unfold Nat.toDigitsCore
    by_cases h1 : n / 10 = 0
    · rw [if_pos h1]
      have h2 : n < 10 := by omega
      rw [Sx.dec_small h2, List.map_cons, hd]
      have h3 : n % 10 = n := Nat.mod_eq_of_lt h2
      rw [h3]
      simp
    · rw [if_neg h1]
      rw [ih (n / 10) _ (by omega), Sx.dec_big (n := n) (by omega), List.map_cons, hd]
      simp
theorem str_dec (n : Nat) : (Str.ofString (toString (n : Int))).cps.toList.map (fun c => ((c : Nat) : Int)) = Sx.dec n := by
  have e : Str.ofString (toString (n : Int)) = ⟨((Nat.toDigits 10 n).map Char.toNat).toArray⟩ := text_ofNat n
  rw [e]
  have := core_dec (n + 1) n [] (Nat.lt_succ_self n)
  simpa [Nat.toDigits, List.map_map, Function.comp_def] using this
/-! ### comprehensions -/
theorem map_range_more {α : Type} (n : Nat) (v : Nat → α) : (List.range (n + 1)).map v = (List.range n).map v ++ [v n] := by
  rw [List.range_succ, List.map_append]; rfl
/-- [e for x in TEXT] -/
theorem lc_str {x : Str} {g : TG} {tt : TT} {te : TE} {vs : List Nat} {σ : L2.St} {H1 : Hp} {D : Addr} {Qd : Hp → Prop} (Pv : Nat → Hp → Prop) (h0 : Pv 0 (upd H1 D (.lst [])))
    (hs : ∀ i c H, x.cps[i]? = some c → Pv i H → g (.str ⟨#[c]⟩) (wipe σ vs) H fun σ2 H2 => wipe σ2 vs = wipe σ vs ∧ tt σ2 H2 fun b H3 =>
      if b = true then te σ2 H3 fun y H4 => ∃ acc, H4 D = some (.lst acc) ∧ acc.length < sizeLine ∧ Pv (i + 1) (upd H4 D (.lst (acc ++ [y]))) else Pv (i + 1) H3) (hd : ∀ H, Pv x.cps.size H → Qd H) :
    ∃ W : Nat → Nat → Hp → Prop, (∃ m, W 0 m (upd H1 D (.lst []))) ∧ ∀ i m H, W i m H →
      ((Its x).stop i H ∧ Qd H) ∨ ((Its x).go i H ∧ ∃ Nx : Hp → Prop, (∀ H', Nx H' → ∃ m', m' < m ∧ W (i + 1) m' H') ∧ ∀ v H', (Its x).yld i H v H' → g v (wipe σ vs) H' fun σ2 H2 => wipe σ2 vs = wipe σ vs ∧ tt σ2 H2 fun b H3 =>
        if b = true then te σ2 H3 fun y H4 => ∃ acc, H4 D = some (.lst acc) ∧ acc.length < sizeLine ∧ Nx (upd H4 D (.lst (acc ++ [y]))) else Nx H3) := by
  refine ⟨fun i m H => m = x.cps.size - i ∧ i ≤ x.cps.size ∧ Pv i H, ⟨x.cps.size, by simp, Nat.zero_le _, h0⟩, ?_⟩
  rintro i m H ⟨rfl, hi, p⟩
  by_cases hlt : i < x.cps.size
  · refine .inr ⟨hlt, Pv (i + 1), fun H' p' => ⟨x.cps.size - (i + 1), by omega, rfl, hlt, p'⟩, fun v H' y => ?_⟩
    obtain ⟨rfl, c, hc, rfl⟩ := y
    exact hs i c _ hc p
  · have e : i = x.cps.size := by omega
    subst e
    exact .inl ⟨Nat.le_refl _, hd H p⟩
/-- what a comprehension over something still has made -/
def Made (H0 : Hp) (D : Addr) (v : Nat → V) (i : Nat) (H : Hp) : Prop := H0 D = none ∧ Ex H0 H ∧ H D = some (.lst ((List.range i).map v))
theorem Made.start {H0 : Hp} {D : Addr} {v : Nat → V} (h : H0 D = none) : Made H0 D v 0 (upd H0 D (.lst [])) := ⟨h, Ex.new h, upd_same⟩
theorem Made.turn {H0 H : Hp} {D : Addr} {v : Nat → V} {i : Nat} {y : V} (m : Made H0 D v i H) (hi : i < sizeLine) (e : y = v i) : ∃ acc, H D = some (.lst acc) ∧ acc.length < sizeLine ∧ Made H0 D v (i + 1) (upd H D (.lst (acc ++ [y]))) := by
  obtain ⟨h1, h2, h3⟩ := m
  exact ⟨_, h3, by rw [List.length_map, List.length_range]; exact hi, h1, Ex.mut h2 h1, by rw [upd_same, map_range_more, e]⟩
theorem Made.ex {H0 H H' : Hp} {D : Addr} {v : Nat → V} {i : Nat} (m : Made H0 D v i H) (e : Ex H H') : Made H0 D v i H' := ⟨m.1, m.2.1.trans e, e _ _ m.2.2⟩
theorem range_map_of {l : List V} {v : Nat → V} (h : ∀ i x, l[i]? = some x → v i = x) : (List.range l.length).map v = l := by
  apply List.ext_getElem?
  intro i
  by_cases hi : i < l.length
  · simp [hi, h i l[i] (List.getElem?_eq_getElem hi)]
  · simp [hi]
/-! ### the builtins' names are free -/
structure Blt (mg : Str → Option Value) : Prop where
  len : mg "len" = none
  ord : mg "ord" = none
  str : mg "str" = none
  list : mg "list" = none
  tuple : mg "tuple" = none
  range : mg "range" = none
  int : mg "int" = none
  abs : mg "abs" = none
  isinstance : mg "isinstance" = none
  bool : mg "bool" = none
  enum : mg "enumerate" = none
/-! ### new lists, of any size up to the line -/
section
variable {K : PySem.W.Frag} {σ : L2.St} {H : Hp} {ta tb : TE} {xs ys : List V} {a l : Addr}
theorem el_cat (h1 : EvL ta σ H xs) (h2 : EvL tb σ H ys) (hz : xs.length + ys.length ≤ sizeLine) : EvL (tOp rCat ta tb) σ H (xs ++ ys) := fun H1 e Q q =>
  h1 H1 e _ fun p H2 hp e2 h2' => h2 H2 (e.trans e2) _ fun r H3 _ e3 h3 => ⟨p, r, xs, ys, rfl, rfl, e3 _ _ h2', h3, hz, fun z hz' => q z _ (fresh_back (e2.trans e3) hz') ((e2.trans e3).trans (Ex.new hz')) upd_same⟩
theorem el_cat1 (h1 : Ev ta σ H (.ref l)) (h : H l = some (.lst xs)) (h2 : EvL tb σ H ys) (hz : xs.length + ys.length ≤ sizeLine) : EvL (tOp rCat ta tb) σ H (xs ++ ys) := fun H1 e Q q =>
  h1 H1 e _ fun H2 e2 => h2 H2 (e.trans e2) _ fun r H3 _ e3 h3 => ⟨l, r, xs, ys, rfl, rfl, e3 _ _ (e2 _ _ (e _ _ h)), h3, hz, fun z hz' => q z _ (fresh_back (e2.trans e3) hz') ((e2.trans e3).trans (Ex.new hz')) upd_same⟩
theorem el_listT (h1 : Ev ta σ H (.ref a)) (h : SqT K H a xs) : EvL (tCB (rListS K) (tCons ta tNil)) σ H xs := fun H1 e Q q =>
  h1 H1 e _ fun H2 e2 => ⟨a, xs, rfl, Or.inr (ex_t (e.trans e2) h), fun l hl => q l _ (fresh_back e2 hl) (e2.trans (Ex.new hl)) upd_same⟩
theorem el_lst1 {i : Int} : EvL (tLst (tCons (tC (.int i)) tNil)) σ H (iv [i]) := el_lst (ea_cons ev_c ea_nil) (by simp)
theorem ev_lenT (h1 : Ev ta σ H (.ref a)) (h : SqT K H a xs) : Ev (tCB (fun xs H Q => ∃ x n, xs = [x] ∧ LenV K x H n ∧ Q (.int n) H) (tCons ta tNil)) σ H (.int (xs.length : Int)) := fun H1 e Q q =>
  h1 H1 e _ fun H2 e2 => ⟨_, _, rfl, .inr ⟨_, ex_t (e.trans e2) h, rfl⟩, q H2 e2⟩
theorem ev_ixT {v : V} {i : Int} (h1 : Ev ta σ H (.ref a)) (h : SqT K H a xs) (h2 : Ev tb σ H (.int i)) (e : atI xs i = some v) : Ev (tOp (rIxT K) ta tb) σ H v := ev_op h1 h2 (rv_ixT h e)
theorem ev_str {n : Nat} (h1 : Ev ta σ H (.int n)) (hn : n < 100000000) : Ev (tCB (fun xs H Q => ∃ i : Int, xs = [.int i] ∧ i.natAbs.log2 < 1920 ∧ Q (.str (toString i)) H) (tCons ta tNil)) σ H (.str (Str.ofString (toString (n : Int)))) := fun H1 e Q q =>
  h1 H1 e _ fun H2 e2 => ⟨_, rfl, by
    have h0 : (n : Int).natAbs = n := rfl
    rw [h0]
    by_cases hz : n = 0
    · subst hz; decide
    · exact (Nat.log2_lt hz).mpr (Nat.lt_of_lt_of_le hn (by decide +kernel)), q H2 e2⟩
theorem el_ords {x : Str} {j : Nat} {vs : List Nat} (h : Ev ta σ H (.str x)) (hz : x.cps.size < sizeLine) (hw : ∀ v, wipe ((wipe σ vs).set j (some v)) vs = wipe σ vs) (hg : ∀ v, ((wipe σ vs).set j (some v))[j]? = some (some v)) :
    EvL (tLc (iStr ta) (gName j) tYes (tCB (fun xs H Q => ∃ x : Str, xs = [.str x] ∧ x.length = 1 ∧ Q (.int (x.cps.getD 0 0 : Nat)) H) (tCons (tVar j) tNil)) vs) σ H (iv (x.cps.toList.map fun c => ((c : Nat) : Int))) := fun H1 e Q q =>
  h H1 e _ fun H2 e2 => ⟨x, rfl, fun D hD => by
    refine lc_str (Qd := fun H' => Q (.ref D) H') (Made H2 D (fun i => .int ((x.cps.getD i 0 : Nat) : Int))) (Made.start hD) (fun i c H' hc m => ⟨hw _, iteT (B := Made H2 D (fun i => .int ((x.cps.getD i 0 : Nat) : Int)) (i + 1) H') ?_⟩) (fun H' m => ?_)
    · refine ⟨_, hg _, ⟨#[c]⟩, rfl, rfl, m.turn (Nat.lt_trans (Array.getElem?_eq_some_iff.mp hc).1 hz) ?_⟩
      show V.int _ = V.int _
      congr 2
      have h1 : x.cps[i]? = some c := hc
      simp [Array.getD_eq_getD_getElem?, h1]
    · obtain ⟨m1, m2, m3⟩ := m
      refine q D H' (fresh_back e2 m1) (e2.trans m2) ?_
      rw [m3]
      congr 2
      have e3 : x.cps.size = (iv (x.cps.toList.map fun c => ((c : Nat) : Int))).length := by simp
      rw [e3]
      refine range_map_of fun i v hv => ?_
      simp only [List.getElem?_map] at hv
      cases h1 : x.cps.toList[i]? with
      | none => rw [h1] at hv; simp at hv
      | some c =>
        rw [h1] at hv
        simp at hv
        rw [← hv]
        have h2 : x.cps[i]? = some c := by simpa using h1
        simp [Array.getD_eq_getD_getElem?, h2]⟩
end
section
variable {P : Program} {w : World} {K : PySem.W.Frag} {mg : Str → Option Value} {base : Heap} {f : Addr} {fd : FuncData}
/-- write_part(value), for values that are less deep than d -/
def spWP (d : Nat) : Sp := fun vs H Q _ => ∃ a t e, e + 1 = d ∧ vs = [.ref a] ∧ TreeAt H t a ∧ Sx.Dep e t ∧ Sx.wt t < 10000000 ∧ ∀ p H', Ex H H' → H p = none → H' p = some (.lst (iv (Sx.wr t))) → Q (.ref p) H'
theorem sc11 : FnScope ["value", "found", "item", "char"] ["value"] (defScope (top 11)) := ⟨rfl, rfl, rfl, by decide +kernel, rfl, by decide +kernel, by decide +kernel⟩
theorem lenWP {d : Nat} : ∀ vs H Q E, spWP d vs H Q E → vs.length = (["value"] : List Str).length := fun vs H Q E h => by
  obtain ⟨a, t, e, _, rfl, _⟩ := h
  rfl
theorem iv_append (a b : List Int) : iv (a ++ b) = iv a ++ iv b := List.map_append
theorem wrs_snoc : ∀ (ts : List Sx.T) (t : Sx.T), Sx.wrs (ts ++ [t]) = Sx.wrs ts ++ Sx.wr t
  | [], t => by simp [Sx.wrs]
  | u :: ts, t => by rw [List.cons_append, Sx.wrs, wrs_snoc ts t, Sx.wrs, List.append_assoc]
theorem wrs_take : ∀ (ts : List Sx.T) (i : Nat), (Sx.wrs (ts.take i)).length ≤ (Sx.wrs ts).length
  | [], i => by simp
  | u :: ts, 0 => by simp [Sx.wrs]
  | u :: ts, i + 1 => by
    have := wrs_take ts i
    simp [Sx.wrs]
    omega
theorem ok_wp0 (B : Blt mg) (F : Fun K "write_part" "write_part" (top 11) f fd) (g : mg "write_part" = some (.ref f)) (kp : PySem.W.keepIn K (.ref f) = true) (b : Binds K fd ["value"] []) : ∀ d, FnOk P w K mg base CX0 (d + 1) f fd ["value"] (spWP d) := by
  intro d
  induction d with
  | zero => 
    refine F.ok sc11 lenWP (fun cdv A outer s H vs Q E hr h => ?_)
    obtain ⟨a, t, e, h1, _⟩ := h
    exact absurd h1 (Nat.succ_ne_zero e)
  | succ d ih =>
    refine F.ok sc11 lenWP (fun cdv A outer s H vs Q E hr h => ?_)
    obtain ⟨a, t, e, h1, rfl, ht, hd, hw, k⟩ := h
    obtain rfl : e = d := Nat.succ.inj h1
    refine ⟨_, pss_cons (ps_if (pt_cmpR op_eq (pe_ix ix_tup (pv 0) pe_int (fun _ _ => rfl)) pe_str (nomark _)) (pss_one (ps_ret (pe_op op_cat (pe_op op_cat
        (pe_lc (own := [("char", 3)]) (g := gName 3) (tt := tYes) rfl sc11.nd (pi_str (pe_callTy call_str_int (by rfl) B.str (by decide +kernel) (pa_cons (pe_callB call_len (by rfl) B.len (by decide +kernel) (pa_cons (pe_ix ix_tup (pv 0) pe_int (fun _ _ => rfl)) pa_nil)) pa_nil)))
          (blkOk_by (N := ["value", "found", "item", "char"]) (sc := defScope (top 11)) (by decide +kernel)) (fun _ _ _ _ _ => pg_name (i := 3) sc11.nd rfl (Or.inl rfl)) (fun _ _ _ _ _ => pts_nil)
          (fun _ _ _ _ _ => pe_callB call_ord (by rfl) B.ord (by decide +kernel) (pa_cons (pv 3) pa_nil)))
        (pe_lst (pa_cons pe_int pa_nil))) (pe_callTy call_list_of (by rfl) B.list (by decide +kernel) (pa_cons (pe_ix ix_tup (pv 0) pe_int (fun _ _ => rfl)) pa_nil))))) pss_nil)
      (pss_cons (ps_set (i := 1) sc11.nd rfl (.inl rfl) (pe_lst (pa_cons pe_int pa_nil)))
      (pss_cons (ps_for PassesOwn.never rfl (pi_tup (pe_ix ix_tup (pv 0) pe_int (fun _ _ => rfl))) (pg_name (i := 2) sc11.nd rfl (.inl rfl))
        (pss_one (ps_expr (pe_bm PySem.F.plainAttrs_list PySem.F.slot_list_extend PySem.F.type_list_extend mt_extend (pv 1) (pa_cons (pe_call ih hr rfl g kp b .nil pass0 (pa_cons (pv 2) pa_nil)) pa_nil)))))
      (pss_one (ps_ret (pe_op op_cat (pv 1) (pe_lst (pa_cons pe_int pa_nil))))))), ?_⟩
    have hs : sizeLine = 16777216 := sizeLine_eq
    have hwl := Sx.wr_len t hw
    cases t with
    | leaf xs =>
      obtain ⟨b1, e1, e2⟩ := ht
      refine st_seq (st_yes ((ans_test (val_eqS (x := "bytes") (val_ixT (val_var rfl) val_c (SqT.of e1) rfl) val_c)).to (by decide +kernel)) ?_)
      have hx : xs.length < 10000000 := by unfold Sx.wt at hw; omega
      have hd' : (Sx.dec xs.length).length ≤ 8 := Sx.dec_len 7 _ (by omega)
      have h0 := el_ords (j := 3) (vs := [3]) (σ := [some (.ref a), none, none, none]) (ev_str (ev_lenT (K := K) (ev_ixT (K := K) (ev_var (i := 0) (H := H) rfl) (SqT.of e1) (ev_c (v := .int 1)) (v := .ref b1) rfl) (SqT.of e2)) (by
        rw [List.length_map]; omega)) (by
          have := congrArg List.length (str_dec (iv xs).length)
          simp only [List.length_map, Array.length_toList] at this
          rw [List.length_map, this]; omega) (fun v => rfl) (fun v => rfl)
      rw [str_dec, List.length_map] at h0
      have h1 := el_cat (el_cat h0 (el_lst1 (i := 58)) (by simp; omega)) (el_listT (K := K) (ev_ixT (K := K) (ev_var (i := 0) (H := H) rfl) (SqT.of e1) (ev_c (v := .int 1)) (v := .ref b1) rfl) (SqT.of e2)) (by simp; omega)
      refine s_retL h1 fun p H1 hp ex hl => k p H1 ex hp ?_
      rw [hl]
      simp [Sx.wr]
    | node ts =>
      obtain ⟨b1, cs, e1, e2, hts⟩ := ht
      refine st_seq (st_no ((ans_test (val_eqS (x := "list") (val_ixT (val_var rfl) val_c (SqT.of e1) rfl) val_c)).to (by decide +kernel)) (st_next ?_))
      refine q_asgL el_lst1 fun p H1 hp ex1 hl1 => ?_
      refine q_forT (K := K) (a := b1) (xs := cs.map V.ref) (ev_ixT (K := K) (ev_var (i := 0) rfl) (SqT.of (ex1 _ _ e1)) (ev_c (v := .int 1)) rfl) (SqT.of (ex1 _ _ e2))
        (fun i σ' H' => ∃ v2, σ' = [some (.ref a), some (.ref p), v2, none] ∧ Ex H H' ∧ H' p = some (.lst (iv (40 :: Sx.wrs (ts.take i))))) (fun H2 ex2 => ⟨none, rfl, ex1.trans ex2, ex2 _ _ hl1⟩) (fun i σ' H' _ ⟨_, _, ex2, _⟩ => SqT.of (ex2 _ _ e2)) ?_ ?_
      · rintro i x σ' H' hi ⟨v2, rfl, ex2, hl2⟩
        obtain ⟨c, hc, rfl⟩ : ∃ c, cs[i]? = some c ∧ x = V.ref c := by
          rw [List.getElem?_map] at hi
          cases q : cs[i]? with
          | none => rw [q] at hi; cases hi
          | some c => rw [q] at hi; exact ⟨c, rfl, (Option.some.inj hi).symm⟩
        obtain ⟨t, hti, htr⟩ := hts.get hc
        have hmem : t ∈ ts := List.mem_of_getElem? hti
        have hwt : Sx.wt t < 10000000 := by
          have h1 := Sx.wt_mem hmem
          have h2 : Sx.wt (.node ts) = Sx.wts ts + 8 := by rw [Sx.wt]
          omega
        obtain ⟨e', rfl, hde⟩ : ∃ e', e' + 1 = e ∧ Sx.Dep e' t := by
          cases e with
          | zero => exact hd.elim
          | succ e' => exact ⟨e', rfl, hd t hmem⟩
        have hap : Sx.wrs (ts.take (i + 1)) = Sx.wrs (ts.take i) ++ Sx.wr t := by
          rw [List.take_succ, hti]
          exact wrs_snoc _ t
        refine ⟨_, rfl, .inl ⟨rfl, _, SqL.of hl2⟩, _, rfl, ⟨c, t, e', rfl, rfl, htr.ex (Hd.Ex.tup ex2), hde, hwt, fun q H2 ex3 hq hql => ⟨p, q, _, _, rfl, rfl, ex3 _ _ hl2, hql, ?_, _, rfl, Ex.mut (ex2.trans ex3) hp, ?_⟩⟩⟩
        · have h1 := Sx.wr_len t hwt
          have h2 := Sx.wt_mem hmem
          have h3 := wrs_take ts (i + 1)
          rw [hap, List.length_append] at h3
          have h4 : (Sx.wr (.node ts)).length = (Sx.wrs ts).length + 2 := by simp [Sx.wr]
          have h5 : Sx.wt (.node ts) = Sx.wts ts + 8 := by rw [Sx.wt]
          simp only [List.length_map, List.length_cons]
          omega
        · rw [upd_same, hap, ← iv_append]
          rfl
      · rintro σ' H' ⟨v2, rfl, ex2, hl2⟩
        have h3 : ts.take (cs.map V.ref).length = ts := by
          rw [List.length_map, ← hts.length, List.take_length]
        rw [h3] at hl2
        have h4 : (Sx.wr (.node ts)).length = (Sx.wrs ts).length + 2 := by simp [Sx.wr]
        refine s_retL (el_cat1 (ev_var (i := 1) rfl) hl2 (el_lst1 (i := 41)) ?_) fun q H1 hq ex3 hql => k q H1 (ex2.trans ex3) (fresh_back ex2 hq) ?_
        · simp only [List.length_map, List.length_cons, List.length_nil]
          omega
        · rw [hql, ← iv_append]
          rw [Sx.wr]
          rfl
end
end Hd
end
/-! ## Hd3 -/
section
set_option maxRecDepth 100000
set_option maxHeartbeats 4000000
set_option linter.all false
/-! The reader: its state, its exception, peek, fail, next. -/
namespace Hd
open PySem PySem.Spec PyProof.Rows L2 Evl
section
variable {P : Program} {w : World} {K : PySem.W.Frag} {mg : Str → Option Value} {base : Heap} {f : Addr} {fd : FuncData}
/-- list_of(items) -/
def spLO : Sp := fun vs H Q _ => ∃ (l : Addr) (cs : List Addr), vs = [.ref l] ∧ SqL' H l cs ∧ ∀ a b H', Ex H H' → H' a = some (.tup [.str "list", .ref b]) → H' b = some (.tup (cs.map V.ref)) → Q (.ref a) H'
where SqL' (H : Hp) (l : Addr) (cs : List Addr) : Prop := H l = some (.lst (cs.map V.ref))
theorem sc6 : FnScope ["items"] ["items"] (defScope (top 6)) := ⟨rfl, rfl, rfl, by decide +kernel, rfl, by decide +kernel, by decide +kernel⟩
theorem ok_list_of (B : Blt mg) (F : Fun K "list_of" "list_of" (top 6) f fd) : FnOk P w K mg base CX0 1 f fd ["items"] spLO := by
  refine F.ok sc6 (fun vs H Q E h => ?_) (fun cdv A outer s H vs Q E hr h => ?_)
  · obtain ⟨l, cs, rfl, _⟩ := h
    rfl
  obtain ⟨l, cs, rfl, hl, k⟩ := h
  refine ⟨_, pss_one (ps_ret (pe_tup (pa_cons pe_str (pa_cons (pe_callTy call_tuple_of (by rfl) B.tuple (by decide +kernel) (pa_cons (pv 0) pa_nil)) pa_nil)))), ?_⟩
  refine ⟨_, rfl, l, _, rfl, .inl ⟨SqL.of hl, fun b hb => ⟨by show 2 ≤ sizeLine; decide, fun a ha => ?_⟩⟩⟩
  have hab : b ≠ a := fun e => by rw [← e, upd_same] at ha; cases ha
  exact k a b _ ((Ex.new hb).trans (Ex.new ha)) upd_same (by rw [upd_ne hab, upd_same])
/-! ### AlikeError.__init__ -/
def spXI (K : PySem.W.Frag) : Sp := fun vs H Q _ => ∃ (a C : Addr) (x : V), vs = [.ref a, x] ∧ OexC K C ∧ PySem.W.findIn K (.ref C) "what" = some none ∧ H a = some (exo a C none) ∧
  ∀ d, H d = none → d ≠ a → Q .non (upd (upd H d (exd d [("what", x)])) a (exo a C (some d)))
theorem sc1 : FnScope ["self", "what"] ["self", "what"] (defScope (inClass (top 1) 0)) := ⟨rfl, rfl, rfl, by decide +kernel, rfl, by decide +kernel, by decide +kernel⟩
theorem ok_xinit {kws : List (Str × V)} (F : FunD K "__init__" "AlikeError.__init__" (defArgs (inClass (top 1) 0)) (defBody (inClass (top 1) 0)) (defScope (inClass (top 1) 0)) [.non] kws f fd) : FnOk P w K mg base CX0 1 f fd ["self", "what"] (spXI K) := by
  refine F.ok sc1 (fun vs H Q E h => ?_) (fun cdv A outer s H vs Q E hr h => ?_)
  · obtain ⟨a, C, x, rfl, _⟩ := h
    rfl
  obtain ⟨a, C, x, rfl, T, hno, ha, k⟩ := h
  exact ⟨_, pss_one (ps_ost (pv 0) (pv 1)), x, rfl, .ref a, rfl, a, C, rfl, T, hno, .inl ⟨ha, fun dx h1 h2 => k dx h1 h2⟩⟩
end
/-- what is known of Unreadable -/
structure UnrK (P : Program) (w : World) (K : PySem.W.Frag) (mg : Str → Option Value) (base : Heap) (CU : Addr) : Prop where
  oex : OexC K CU
  gU : mg "Unreadable" = some (.ref CU)
  noW : PySem.W.findIn K (.ref CU) "what" = some none
  init : ∃ fI fd, PySem.W.findIn K (.ref CU) "__init__" = some (some (.ref fI)) ∧ PySem.W.typeIn K (.ref fI) = some (.type "function") ∧ FnOk P w K mg base CX0 1 fI fd ["self", "what"] (spXI K) ∧ Binds K fd ["self", "what"] []
/-! ### the reading's state -/
/-- all but r is kept -/
def Kb (r : Addr) (H H' : Hp) : Prop := ∀ b o, b ≠ r → H b = some o → H' b = some o
theorem Kb.refl {r : Addr} {H : Hp} : Kb r H H := fun _ _ _ h => h
theorem Kb.trans {r : Addr} {H H1 H2 : Hp} (a : Kb r H H1) (b : Kb r H1 H2) : Kb r H H2 := fun c o h e => b c o h (a c o h e)
theorem Ex.kb {r : Addr} {H H' : Hp} (e : Ex H H') : Kb r H H' := fun b o _ h => e b o h
theorem Kb.mut {r p : Addr} {o : HO} {H H' : Hp} (e : Kb r H H') (h : H p = none) : Kb r H (upd H' p o) := fun b u hb hu => by
  rw [upd_ne (ne_of_none hu h)]
  exact e b u hb hu
theorem Kb.own {r : Addr} {o : HO} {H : Hp} : Kb r H (upd H r o) := fun b u hb hu => by
  rw [upd_ne hb]
  exact hu
theorem Kb.fresh {r p : Addr} {H H' : Hp} (e : Kb r H H') (hr : ∃ o, H r = some o) (hr' : ∃ o, H' r = some o) (h : H' p = none) : H p = none := by
  cases q : H p with
  | none => rfl
  | some o =>
    by_cases z : p = r
    · obtain ⟨o', ho⟩ := hr'
      rw [z, ho] at h; cases h
    · rw [e p o z q] at h; cases h
def flds (l : Addr) (pl : Nat) : List (Str × V) := [("octets", .ref l), ("place", .int (pl : Int))]
structure RdAt (C r l : Addr) (H : Hp) (os rest : List Int) : Prop where
  ex : ∃ (dx : Addr) (pl : Nat), H r = some (.ins C dx (flds l pl)) ∧ os.drop pl = rest ∧ pl ≤ os.length
  lst : H l = some (.lst (iv os))
  sz : os.length < 10000000
theorem RdAt.is {C r l : Addr} {H : Hp} {os rest : List Int} (h : RdAt C r l H os rest) : ∃ o, H r = some o := by
  obtain ⟨dx, pl, e, _⟩ := h.ex
  exact ⟨_, e⟩
theorem RdAt.ne {C r l : Addr} {H : Hp} {os rest : List Int} (h : RdAt C r l H os rest) : l ≠ r := fun e => by
  obtain ⟨dx, pl, e1, _⟩ := h.ex
  have := h.lst
  rw [e, e1] at this
  cases this
theorem RdAt.exx {C r l : Addr} {H H' : Hp} {os rest : List Int} (h : RdAt C r l H os rest) (e : Ex H H') : RdAt C r l H' os rest := by
  obtain ⟨dx, pl, e1, e2⟩ := h.ex
  exact ⟨⟨dx, pl, e _ _ e1, e2⟩, e _ _ h.lst, h.sz⟩
theorem RdAt.mut {C r l p : Addr} {o : HO} {H : Hp} {os rest : List Int} (h : RdAt C r l H os rest) (h1 : p ≠ r) (h2 : p ≠ l) : RdAt C r l (upd H p o) os rest := by
  obtain ⟨dx, pl, e1, e2⟩ := h.ex
  exact ⟨⟨dx, pl, by rw [upd_ne (Ne.symm h1)]; exact e1, e2⟩, by rw [upd_ne (Ne.symm h2)]; exact h.lst, h.sz⟩
theorem RdAt.len {C r l : Addr} {H : Hp} {os rest : List Int} (h : RdAt C r l H os rest) : rest.length ≤ os.length := by
  obtain ⟨dx, pl, e1, e2, e3⟩ := h.ex
  rw [← e2, List.length_drop]; omega
/-- what the methods of Reading promise -/
def spR {α : Type} (C CU : Addr) (args : List V) (f : List Int → Option (α × List Int)) (Res : α → Hp → V → Hp → Prop) : Sp := fun vs H Q E => ∃ r l os rest, vs = .ref r :: args ∧ RdAt C r l H os rest ∧
  (∀ x rest' v H', f rest = some (x, rest') → Kb r H H' → RdAt C r l H' os rest' → Res x H v H' → Q v H') ∧ (f rest = none → ∀ d H', Kb r H H' → E (.ref CU) d H')
theorem len_spR {α : Type} {C CU : Addr} {args : List V} {f : List Int → Option (α × List Int)} {Res : α → Hp → V → Hp → Prop} {ps : List Str} (hl : args.length + 1 = ps.length) : ∀ vs H Q E, spR C CU args f Res vs H Q E → vs.length = ps.length := fun vs H Q E h => by
  obtain ⟨r, l, os, rest, rfl, _⟩ := h
  exact hl
def RInt (x : Int) (H : Hp) (v : V) (H' : Hp) : Prop := v = .int x
def RNon (x : Unit) (H : Hp) (v : V) (H' : Hp) : Prop := v = .non
def RLst (x : List Int) (H : Hp) (v : V) (H' : Hp) : Prop := ∃ p, v = .ref p ∧ H p = none ∧ H' p = some (.lst (iv x))
def RTree (x : Sx.T) (H : Hp) (v : V) (H' : Hp) : Prop := ∃ p, v = .ref p ∧ TreeAt H' x p
/-- the class Reading -/
structure RdK (K : PySem.W.Frag) (mg : Str → Option Value) (C : Addr) : Prop where
  cls : Cls K C
  gC : mg "Reading" = some (.ref C)
  oct : NoAttr K C "octets"
  plc : NoAttr K C "place"
section
variable {K : PySem.W.Frag} {mg : Str → Option Value} {C r l : Addr} {σ : L2.St} {H : Hp} {os rest : List Int}
theorem val_oct (R : RdK K mg C) (hs : σ[0]? = some (some (.ref r))) (h : RdAt C r l H os rest) : Val (tFld K (tVar 0) "octets") σ H (.ref l) := fun Q q => by
  obtain ⟨dx, pl, e1, e2⟩ := h.ex
  exact ⟨_, hs, r, C, dx, _, _, rfl, e1, R.cls, R.oct, rfl, q⟩
theorem val_plc (R : RdK K mg C) (hs : σ[0]? = some (some (.ref r))) {dx : Addr} {pl : Nat} (h : H r = some (.ins C dx (flds l pl))) : Val (tFld K (tVar 0) "place") σ H (.int pl) := fun Q q =>
  ⟨_, hs, r, C, dx, _, _, rfl, h, R.cls, R.plc, rfl, q⟩
theorem val_lenL {ta : TE} {a : Addr} {xs : List V} {n : Nat} (h1 : Val ta σ H (.ref a)) (h : H a = some (.lst xs)) (e : n = xs.length) : Val (tCB (fun xs H Q => ∃ x n, xs = [x] ∧ LenV K x H n ∧ Q (.int n) H) (tCons ta tNil)) σ H (.int (n : Int)) := fun Q q =>
  h1 _ ⟨_, _, rfl, .inl ⟨_, SqL.of h, e⟩, q⟩
theorem val_meth {ta : TE} {m : Str} {sp : Sp} {E : XK} {v : V} {dx : Addr} {fs : List (Str × V)} {a : Addr} (h1 : Val ta σ H (.ref a)) (h : H a = some (.ins C dx fs)) (hm : fs.lookup m = none) (hs : ∀ Q : VK, Q v H → sp [.ref a] H Q E) : Val (tMeth C m sp [] E ta tNil) σ H v := fun Q q =>
  h1 _ ⟨a, dx, fs, rfl, h, hm, hs Q q⟩
end
/-- a call of a method of the reading -/
theorem rd_meth {C CU r l : Addr} {σ : L2.St} {H : Hp} {os rest : List Int} {α : Type} {m : Str} {f : List Int → Option (α × List Int)} {Res : α → Hp → V → Hp → Prop} {E : XK} {Q : VK} (hm : (m == ("octets" : Str)) = false ∧ (m == ("place" : Str)) = false) (h : RdAt C r l H os rest)
    (k1 : ∀ x rest' v H', f rest = some (x, rest') → Kb r H H' → RdAt C r l H' os rest' → Res x H v H' → Q v H') (k2 : f rest = none → ∀ d H', Kb r H H' → E (.ref CU) d H') (hs : σ[0]? = some (some (.ref r)) := by rfl) :
    tMeth C m (spR C CU [] f Res) [] E (tVar 0) tNil σ H Q := by
  obtain ⟨dx, pl, e1, e2⟩ := h.ex
  refine ⟨_, hs, r, dx, _, rfl, e1, ?_, r, l, os, rest, rfl, h, k1, k2⟩
  show List.lookup m [(_, _), (_, _)] = none
  simp only [List.lookup, hm.1, hm.2]
theorem pe_calM0 {X : Cx} {CX : CXT} {k j : Nat} {C : Addr} {m : Str} {ps : List Str} {sp : Sp} {E : XK} {o : Expr} {ta : TE} {apos pos : Pos} {pl : Sem Bool} (c : CalM X.prog X.w X.K X.mg X.base CX j C m ps sp) (T : Cls X.K C) (hr : Room k X.A) (hj : j ≤ k) (hx : Passes CX X E) (he : PE X o ta)
    (ht : eval (.Call (.Attribute o m apos) [] [] pos) X.env = (do
      let ov ← eval o X.env
      standAt apos.atName
      let (f, first) ← holding [ov] (getMethod ov m pl)
      callWith pos f first (backTo pos (starEach [] X.env)) (backToKw pos (keywordEach [] X.env))) := by rfl) :
    PE X (.Call (.Attribute o m apos) [] [] pos) (tMeth C m sp [] E ta tNil) := by
  obtain ⟨f, fd, F, M, b⟩ := c.ex
  exact pe_meth0 he T M F (hr.mono hj) b .nil hx ht
theorem pe_calM {X : Cx} {CX : CXT} {k j : Nat} {C : Addr} {m : Str} {ps : List Str} {sp : Sp} {E : XK} {o e : Expr} {es : List Expr} {ta : TE} {t : TA} {apos pos : Pos} {pl : Sem Bool} (c : CalM X.prog X.w X.K X.mg X.base CX j C m ps sp) (T : Cls X.K C) (hr : Room k X.A) (hj : j ≤ k) (hx : Passes CX X E) (he : PE X o ta)
    (ha : PA X (e :: es) t)
    (hst : starEach (e :: es) X.env = (false, eval e X.env) :: starEach es X.env := by rfl) (hpl : (backTo pos (starEach es X.env)).any (·.1) = false := by rfl)
    (ht : eval (.Call (.Attribute o m apos) (e :: es) [] pos) X.env = (do
      let ov ← eval o X.env
      standAt apos.atName
      let (f, first) ← holding [ov] (getMethod ov m pl)
      callWith pos f first (backTo pos (starEach (e :: es) X.env)) (backToKw pos (keywordEach [] X.env))) := by rfl) :
    PE X (.Call (.Attribute o m apos) (e :: es) [] pos) (tMeth C m sp [] E ta t) := by
  obtain ⟨f, fd, F, M, b⟩ := c.ex
  exact pe_meth he T M F (hr.mono hj) b .nil hx ha hst hpl ht
section
variable {P : Program} {w : World} {K : PySem.W.Frag} {mg : Str → Option Value} {base : Heap} {f C CU : Addr} {fd : FuncData}
/-! ### peek -/
def fPeek (r : List Int) : Option (Int × List Int) := some (Sx.pk r, r)
theorem pk_drop {os : List Int} {pl : Nat} {c : Int} (h : os[pl]? = some c) : Sx.pk (os.drop pl) = c := by
  rw [List.drop_eq_getElem?_toList_append, h]
  rfl
theorem scR1 : FnScope ["self"] ["self"] (defScope (inClass (top 27) 1)) := ⟨rfl, rfl, rfl, by decide +kernel, rfl, by decide +kernel, by decide +kernel⟩
def spPeek (C : Addr) : Sp := fun vs H Q _ => ∃ r l os rest, vs = [.ref r] ∧ RdAt C r l H os rest ∧ Q (.int (Sx.pk rest)) H
theorem atI_iv {os : List Int} {i : Nat} {c : Int} (h : os[i]? = some c) : atI (iv os) (i : Int) = some (.int c) := atI_nat (by
  rw [List.getElem?_map, h]; rfl)
theorem ok_peek (B : Blt mg) (R : RdK K mg C) (F : Fun K "peek" "Reading.peek" (inClass (top 27) 1) f fd) : FnOk P w K mg base CX0 1 f fd ["self"] (spPeek C) := by
  refine F.ok scR1 (fun vs H Q E h => ?_) (fun cdv A outer s H vs Q E hr h => ?_)
  · obtain ⟨r, l, os, rest, rfl, _⟩ := h
    rfl
  obtain ⟨r, l, os, rest, rfl, h, k⟩ := h
  refine ⟨_, pss_cons (ps_if (pt_cmpR op_lt (pe_fld (pv 0) rfl) (pe_callB call_len (by rfl) B.len (by decide +kernel) (pa_cons (pe_fld (pv 0) rfl) pa_nil)) (nomark _)) (pss_one (ps_ret (pe_ix ix_list (pe_fld (pv 0) rfl) (pe_fld (pv 0) rfl) (fun _ _ => rfl)))) pss_nil)
    (pss_one (ps_ret (pe_un un_neg pe_int))), ?_⟩
  obtain ⟨dx, pl, e1, e2, e3⟩ := h.ex
  refine st_seq (st_if (ans_test (val_i0 (c := pl) (n := os.length) (val_plc R rfl e1) (val_lenL (val_oct R rfl h) h.lst (List.length_map _).symm))) (fun h1 => ?_) fun h1 => st_next ?_)
  · have h1 : pl < os.length := by simpa using h1
    refine st_ret (val_ixL (val_oct R rfl h) (val_plc R rfl e1) (SqL.of h.lst) (atI_iv (List.getElem?_eq_getElem h1))) ?_
    rw [← e2, pk_drop (List.getElem?_eq_getElem h1)] at k
    exact k
  · have h1 : ¬ pl < os.length := by simpa using h1
    have e : rest = [] := by rw [← e2]; exact List.drop_eq_nil_of_le (by omega)
    rw [e] at k
    exact ⟨_, rfl, k⟩
end
end Hd
end
/-! ## Hd4 -/
section
set_option maxRecDepth 100000
set_option maxHeartbeats 4000000
set_option linter.all false
/-! The reader: fail, next, skip_spaces, token. -/
namespace Hd
open PySem PySem.Spec PyProof.Rows L2 Evl
theorem val_add {σ : L2.St} {H : Hp} {ta tb : TE} {a b c : Int} (h1 : Val ta σ H (.int a)) (h2 : Val tb σ H (.int b)) (e : a + b = c) : Val (tOp (rI0 fun i j => .int (i + j)) ta tb) σ H (.int c) := by
  subst e
  exact val_i0 (g := fun i j => .int (i + j)) h1 h2
theorem val_sub {σ : L2.St} {H : Hp} {ta tb : TE} {a b c : Int} (h1 : Val ta σ H (.int a)) (h2 : Val tb σ H (.int b)) (e : a - b = c) : Val (tOp (rI0 fun i j => .int (i - j)) ta tb) σ H (.int c) := by
  subst e
  exact val_i0 (g := fun i j => .int (i - j)) h1 h2
section
variable {P : Program} {w : World} {K : PySem.W.Frag} {mg : Str → Option Value} {base : Heap} {f C CU : Addr} {fd : FuncData}
abbrev MR (P : Program) (w : World) (K : PySem.W.Frag) (mg : Str → Option Value) (base : Heap) (j : Nat) (C : Addr) (m : Str) (sp : Sp) : Prop := CalM P w K mg base (L2.CX P w) j C m ["self"] sp
def fFail (_ : List Int) : Option (Unit × List Int) := none
theorem sqR2 : FnScope ["self"] ["self"] (defScope (inClass (top 27) 2)) := ⟨rfl, rfl, rfl, by decide +kernel, rfl, by decide +kernel, by decide +kernel⟩
theorem ok_fail (R : RdK K mg C) (U : UnrK P w K mg base CU) (F : Fun K "fail" "Reading.fail" (inClass (top 27) 2) f fd) : FnOk P w K mg base (L2.CX P w) 3 f fd ["self"] (spR C CU [] fFail RNon) := by
  refine F.okX sqR2 (len_spR rfl) (fun cdv A outer s H vs Q E hr h => ?_)
  obtain ⟨r, l, os, rest, rfl, h, k1, k2⟩ := h
  obtain ⟨fI, fdI, iC, tI, FI, bI⟩ := U.init
  refine ⟨_, pss_one (ps_raise rfl (takes_of rfl rfl rfl rfl) (pmk_oex U.oex iC tI FI hr bI .nil pass0 (by rfl) U.gU (pa_cons (pe_fld (pv 0) rfl) pa_nil))), ?_⟩
  obtain ⟨dx, pl, e1, e2, e3⟩ := h.ex
  refine val_plc R rfl e1 _ ⟨by show 1 ≤ 1000; decide, fun a ha => ⟨a, CU, _, rfl, U.oex, U.noW, upd_same, fun d hd hda => ⟨rfl, d, [("what", V.int (pl : Int))], upd_same, ?_, ?_, ?_⟩⟩⟩
  · rw [upd_ne hda, upd_same]
  · rw [upd_ne hda] at hd
    exact hd
  · refine k2 rfl _ _ fun b o hb ho => ?_
    have hba : b ≠ a := ne_of_none ho ha
    have hbd : b ≠ d := ne_of_none ho (by rw [upd_ne hda] at hd; exact hd)
    rw [upd_ne hbd, del_ne hba, upd_ne hba, upd_ne hbd, upd_ne hba]
    exact ho
/-! ### next -/
def fNext : List Int → Option (Int × List Int)
  | [] => none
  | c :: r => some (c, r)
theorem sqR3 : FnScope ["self"] ["self"] (defScope (inClass (top 27) 3)) := ⟨rfl, rfl, rfl, by decide +kernel, rfl, by decide +kernel, by decide +kernel⟩
theorem RdAt.step {r l : Addr} {H : Hp} {os rest : List Int} {dx : Addr} {pl : Nat} (h : RdAt C r l H os rest) (e1 : H r = some (.ins C dx (flds l pl))) (pl' : Nat) (hp : pl' ≤ os.length) :
    RdAt C r l (upd H r (.ins C dx (putF "place" (.int (pl' : Int)) (flds l pl)))) os (os.drop pl') := by
  refine ⟨⟨dx, pl', ?_, rfl, hp⟩, ?_, h.sz⟩
  · rw [upd_same]
    rfl
  · rw [upd_ne h.ne]
    exact h.lst
theorem st_plc {r l : Addr} {H : Hp} {os rest : List Int} {dx : Addr} {pl : Nat} {tv : TE} {σ : L2.St} {D : Ends} (R : RdK K mg C) (h : RdAt C r l H os rest) (e1 : H r = some (.ins C dx (flds l pl))) (hs : σ[0]? = some (some (.ref r))) (pl' : Nat) (hv : Val tv σ H (.int pl')) (hp : pl' ≤ os.length)
    (k : ∀ H', H' r = some (.ins C dx (flds l pl')) → Kb r H H' → RdAt C r l H' os (os.drop pl') → (∀ b, b ≠ r → H' b = H b) → D.nx σ H') : sFld K (tVar 0) tv "place" D σ H :=
  hv _ ⟨_, hs, r, C, dx, _, rfl, e1, R.cls, R.plc, by show 2 < 1000; decide, k _ (by rw [upd_same]; rfl) Kb.own (h.step e1 pl' hp) fun b hb => upd_ne hb⟩
theorem ok_next (B : Blt mg) (R : RdK K mg C) (Cf : MR P w K mg base 3 C "fail" (spR C CU [] fFail RNon)) (F : Fun K "next" "Reading.next" (inClass (top 27) 3) f fd) : FnOk P w K mg base (L2.CX P w) 4 f fd ["self"] (spR C CU [] fNext RInt) := by
  refine F.okX sqR3 (len_spR rfl) (fun cdv A outer s H vs Q E hr h => ?_)
  obtain ⟨r, l, os, rest, rfl, h, k1, k2⟩ := h
  refine ⟨_, pss_cons (ps_if (pt_cmpR op_eq (pe_fld (pv 0) rfl) (pe_callB call_len (by rfl) B.len (by decide +kernel) (pa_cons (pe_fld (pv 0) rfl) pa_nil)) (nomark _)) (pss_one (ps_expr (pe_calM0 Cf R.cls hr (by decide) (passes_call (takes_of rfl rfl rfl rfl) (fun _ _ _ _ h => h)) (pv 0)))) pss_nil)
    (pss_cons (ps_fld (pv 0) (pe_op op_add (pe_fld (pv 0) rfl) pe_int) rfl)
    (pss_one (ps_ret (pe_ix ix_list (pe_fld (pv 0) rfl) (pe_op op_sub (pe_fld (pv 0) rfl) pe_int) (fun _ _ => rfl))))), ?_⟩
  obtain ⟨dx, pl, e1, e2, e3⟩ := h.ex
  refine st_seq (st_if (ans_test (val_eqI (c := pl) (n := os.length) (val_plc R rfl e1) (val_lenL (val_oct R rfl h) h.lst (List.length_map _).symm))) (fun h1 => ?_) fun h1 => st_next ?_)
  · have h1 : pl = os.length := by
      have := of_decide_eq_true h1
      omega
    have e : rest = [] := by rw [← e2, h1]; exact List.drop_length
    subst e
    exact rd_meth ⟨rfl, rfl⟩ h (fun x rest' v H' hf _ _ _ => nomatch hf) (fun _ d H' hk => k2 rfl d H' hk)
  · have h1 : pl < os.length := by
      have := of_decide_eq_false h1
      omega
    have hc : rest = os[pl] :: os.drop (pl + 1) := by rw [← e2]; exact List.drop_eq_getElem_cons h1
    have e1' : (pl : Int) + 1 = ((pl + 1 : Nat) : Int) := by omega
    refine st_seq (st_plc R h e1 rfl (pl + 1) (val_add (val_plc R rfl e1) val_c e1') (by omega) fun H' h1' hk h' _ => ?_)
    have e2' : ((pl + 1 : Nat) : Int) - 1 = (pl : Int) := by omega
    refine st_ret (val_ixL (i := (pl : Int)) (val_oct R rfl h') (val_sub (val_plc R rfl h1') val_c e2') (SqL.of h'.lst) (atI_iv (List.getElem?_eq_getElem h1))) ?_
    subst hc
    exact k1 _ _ _ _ rfl hk h' rfl
end
end Hd
end
/-! ## Hd5 -/
section
set_option maxRecDepth 100000
set_option maxHeartbeats 4000000
set_option linter.all false
/-! The reader: skip_spaces, token, hex_digit, digits. -/
namespace Hd
open PySem PySem.Spec PyProof.Rows L2 Evl
theorem st_while {c : TT} {tb : TS} {D : Ends} {σ : L2.St} {H : Hp} (W : Nat → L2.St → Hp → Prop) (m0 : Nat) (h0 : W m0 σ H)
    (hs : ∀ m σ H, W m σ H → ∃ x, Ans c σ H x ∧ (x = true → tb { D with nx := fun σ' H' => ∃ m', m' < m ∧ W m' σ' H', ct := fun σ' H' => ∃ m', m' < m ∧ W m' σ' H', bk := D.nx } σ H) ∧ (x = false → D.nx σ H)) : tWhile c tb D σ H :=
  ⟨W, ⟨m0, h0⟩, fun m σ H hw => by
    obtain ⟨x, ha, h1, h2⟩ := hs m σ H hw
    refine ha _ ?_
    cases x with
    | true => exact iteT ⟨_, fun _ _ h => h, h1 rfl⟩
    | false => exact iteF (h2 rfl)⟩
theorem pe_calJ {X : Cx} {CX : CXT} {j k : Nat} {x : Str} {ps : List Str} {sp : Sp} {E : XK} {e : Expr} {es : List Expr} {t : TA} {p pos : Pos} (c : Cal X.prog X.w X.K X.mg X.base CX j x ps sp) (hr : Room k X.A) (hj : j ≤ k) (hg : Gl X x) (hx : Passes CX X E)
    (ha : PA X (e :: es) t) (hdb : (x == ("__debug__" : Str)) = false := by decide) (he : starEach (e :: es) X.env = (false, eval e X.env) :: starEach es X.env := by rfl) (hpl : (backTo pos (starEach es X.env)).any (·.1) = false := by rfl) :
    PE X (.Call (.Name x p) (e :: es) [] pos) (tCall sp [] E t) := pe_cal c (hr.mono hj) hg hx ha hdb he hpl
/-- the lists that are made while the reading goes on -/
structure LoopAt (C r l p : Addr) (H0 H : Hp) (os rest acc : List Int) : Prop where
  new : H0 p = none
  kb : Kb r H0 H
  rd : RdAt C r l H os rest
  lst : H p = some (.lst (iv acc))
  pr : p ≠ r
  pl : p ≠ l
theorem LoopAt.start {C r l p : Addr} {H0 : Hp} {os rest : List Int} (h : RdAt C r l H0 os rest) (hp : H0 p = none) : LoopAt C r l p H0 (upd H0 p (.lst [])) os rest [] := by
  have h1 : p ≠ r := fun e => by
    obtain ⟨o, ho⟩ := h.is
    rw [e, ho] at hp; cases hp
  have h2 : p ≠ l := fun e => by
    rw [e, h.lst] at hp; cases hp
  exact ⟨hp, Kb.mut Kb.refl hp, h.mut h1 h2, upd_same, h1, h2⟩
theorem LoopAt.go {C r l p : Addr} {H0 H H' : Hp} {os rest rest' acc : List Int} (L : LoopAt C r l p H0 H os rest acc) (hk : Kb r H H') (h : RdAt C r l H' os rest') : LoopAt C r l p H0 H' os rest' acc :=
  ⟨L.new, L.kb.trans hk, h, hk p _ L.pr L.lst, L.pr, L.pl⟩
theorem LoopAt.set {C r l p : Addr} {H0 H : Hp} {os rest acc : List Int} (L : LoopAt C r l p H0 H os rest acc) (acc' : List Int) : LoopAt C r l p H0 (upd H p (.lst (iv acc'))) os rest acc' :=
  ⟨L.new, L.kb.mut L.new, L.rd.mut L.pr L.pl, upd_same, L.pr, L.pl⟩
theorem LoopAt.push {C r l p : Addr} {H0 H : Hp} {os rest acc : List Int} (L : LoopAt C r l p H0 H os rest acc) (c : Int) : LoopAt C r l p H0 (upd H p (.lst (iv acc ++ [.int c]))) os rest (acc ++ [c]) := by
  have h := L.set (acc ++ [c])
  rw [iv_append] at h
  exact h
section
variable {K : PySem.W.Frag} {C r l : Addr} {σ : L2.St} {H : Hp} {os rest : List Int} {E : XK}
theorem val_peek (hs : σ[0]? = some (some (.ref r))) (h : RdAt C r l H os rest) : Val (tMeth C "peek" (spPeek C) [] E (tVar 0) tNil) σ H (.int (Sx.pk rest)) := by
  obtain ⟨dx, pl, e1, e2⟩ := h.ex
  exact val_meth (val_var hs) e1 rfl fun Q q => ⟨r, l, os, rest, rfl, h, q⟩
end
section
variable {P : Program} {w : World} {K : PySem.W.Frag} {mg : Str → Option Value} {base : Heap} {f C CU : Addr} {fd : FuncData}
abbrev MQ (P : Program) (w : World) (K : PySem.W.Frag) (mg : Str → Option Value) (base : Heap) (j : Nat) (C : Addr) (m : Str) (sp : Sp) : Prop := CalM P w K mg base CX0 j C m ["self"] sp
abbrev C1 (P : Program) (w : World) (K : PySem.W.Frag) (mg : Str → Option Value) (base : Heap) (j : Nat) (x : Str) (g : Int → V) : Prop := Cal P w K mg base CX0 j x ["octet"] (sp1 g)
/-! ### skip_spaces -/
def spSkip (C : Addr) : Sp := fun vs H Q _ => ∃ r l os rest, vs = [.ref r] ∧ RdAt C r l H os rest ∧ ∀ H', Kb r H H' → RdAt C r l H' os (Sx.skip rest) → Q .non H'
theorem sqR4 : FnScope ["self"] ["self"] (defScope (inClass (top 27) 4)) := ⟨rfl, rfl, rfl, by decide +kernel, rfl, by decide +kernel, by decide +kernel⟩
theorem ok_skip (R : RdK K mg C) (Cp : MQ P w K mg base 1 C "peek" (spPeek C)) (Cs : C1 P w K mg base 1 "is_space" fun c => .bl (Sx.isSpace c)) (F : Fun K "skip_spaces" "Reading.skip_spaces" (inClass (top 27) 4) f fd) :
    FnOk P w K mg base CX0 2 f fd ["self"] (spSkip C) := by
  refine F.ok sqR4 (fun vs H Q E h => ?_) (fun cdv A outer s H vs Q E hr h => ?_)
  · obtain ⟨r, l, os, rest, rfl, _⟩ := h
    rfl
  obtain ⟨r, l, os, rest, rfl, h, k⟩ := h
  refine ⟨_, pss_one (ps_while PassesOwn.never (pt_val (pe_calJ Cs hr (by decide) (by rfl) pass0 (pa_cons (pe_calM0 Cp R.cls hr (by decide) pass0 (pv 0)) pa_nil))) (pss_one (ps_fld (pv 0) (pe_op op_add (pe_fld (pv 0) rfl) pe_int) rfl))), ?_⟩
  refine st_while (fun m σ H' => ∃ rest', m = rest'.length ∧ σ = [some (.ref r)] ∧ Kb r H H' ∧ RdAt C r l H' os rest' ∧ Sx.skip rest' = Sx.skip rest) rest.length ⟨rest, rfl, rfl, Kb.refl, h, rfl⟩ ?_
  rintro m σ H' ⟨rest', rfl, rfl, hk, h', hs⟩
  refine ⟨Sx.isSpace (Sx.pk rest'), ans_val (val_call1 (g := fun c => .bl (Sx.isSpace c)) (c := Sx.pk rest') (E := E0) (val_peek rfl h')), fun h1 => ?_, fun h1 => ?_⟩
  · obtain ⟨dx, pl, e1, e2, e3⟩ := h'.ex
    have hne : rest' ≠ [] := fun e => by
      rw [e] at h1
      exact absurd h1 (by decide)
    have h3 : pl < os.length := by
      have h4 : rest'.length ≠ 0 := fun e => hne (List.length_eq_zero_iff.mp e)
      rw [← e2, List.length_drop] at h4
      omega
    have hc : rest' = os[pl] :: os.drop (pl + 1) := by rw [← e2]; exact List.drop_eq_getElem_cons h3
    refine st_plc R h' e1 rfl (pl + 1) (val_add (val_plc R rfl e1) val_c (by omega)) (by omega) fun H2 h2 hk2 hr2 _ => ?_
    subst hc
    refine ⟨(os.drop (pl + 1)).length, by rw [List.length_cons]; omega, _, rfl, rfl, hk.trans hk2, hr2, ?_⟩
    rw [← hs]
    exact (Sx.skip_cons h1).symm
  · have h2 : Sx.skip rest' = rest' := by
      cases rest' with
      | nil => rfl
      | cons c q => exact Sx.skip_cons_not h1
    rw [h2] at hs
    subst hs
    exact k H' hk h'
theorem skip_meth {r l : Addr} {σ : L2.St} {H : Hp} {os rest : List Int} {E : XK} {Q : VK} (h : RdAt C r l H os rest) (k : ∀ H', Kb r H H' → RdAt C r l H' os (Sx.skip rest) → Q .non H') (hs : σ[0]? = some (some (.ref r)) := by rfl) :
    tMeth C "skip_spaces" (spSkip C) [] E (tVar 0) tNil σ H Q := by
  obtain ⟨dx, pl, e1, e2⟩ := h.ex
  exact ⟨_, hs, r, dx, _, rfl, e1, rfl, r, l, os, rest, rfl, h, k⟩
/-! ### token -/
def fToken (r : List Int) : Option (List Int × List Int) := some (Sx.token r)
theorem sqR8 : FnScope ["self", "found"] ["self"] (defScope (inClass (top 27) 8)) := ⟨rfl, rfl, rfl, by decide +kernel, rfl, by decide +kernel, by decide +kernel⟩
theorem ok_token (R : RdK K mg C) (Cp : MQ P w K mg base 1 C "peek" (spPeek C)) (Ci : C1 P w K mg base 2 "in_token" fun c => .bl (Sx.inTok c)) (Cn : MR P w K mg base 4 C "next" (spR C CU [] fNext RInt)) (F : Fun K "token" "Reading.token" (inClass (top 27) 8) f fd) :
    FnOk P w K mg base (L2.CX P w) 5 f fd ["self"] (spR C CU [] fToken RLst) := by
  refine F.okX sqR8 (len_spR rfl) (fun cdv A outer s H vs Q E hr h => ?_)
  obtain ⟨r, l, os, rest, rfl, h, k1, k2⟩ := h
  refine ⟨_, pss_cons (ps_set (i := 1) sqR8.nd rfl (.inl rfl) (pe_lst pa_nil)) (pss_cons (ps_while (passes_of (X := cxOf (L2.CX P w) P w K mg base ["self", "found"] "Reading.token" (defScope (inClass (top 27) 8)) f cdv A outer s H E) rfl)
      (pt_val (pe_calJ Ci hr (by decide) (by rfl) pass0 (pa_cons (pe_calM0 Cp R.cls hr (by decide) pass0 (pv 0)) pa_nil)))
      (pss_one (ps_expr (pe_bm PySem.F.plainAttrs_list PySem.F.slot_list_append PySem.F.type_list_append mt_append (pv 1) (pa_cons (pe_calM0 Cn R.cls hr (by decide) (passes_call (takes_of rfl rfl rfl rfl) (fun _ _ _ _ h => h)) (pv 0)) pa_nil)))))
    (pss_one (ps_ret (pv 1)))), ?_⟩
  refine ⟨Nat.zero_le _, fun p hp => ?_⟩
  have hs0 : sizeLine = 16777216 := sizeLine_eq
  refine st_seq (st_while (fun m σ H' => ∃ acc rest', m = rest'.length ∧ σ = [some (.ref r), some (.ref p)] ∧ LoopAt C r l p H H' os rest' acc ∧ acc ++ rest'.takeWhile Sx.inTok = rest.takeWhile Sx.inTok ∧ rest'.dropWhile Sx.inTok = rest.dropWhile Sx.inTok) rest.length
    ⟨[], rest, rfl, rfl, LoopAt.start h hp, rfl, rfl⟩ ?_)
  rintro m σ H' ⟨acc, rest', rfl, rfl, L, t1, t2⟩
  have hlen : acc.length ≤ rest.length := by
    have h1 := congrArg List.length t1
    have h2 := Sx.takeWhile_len Sx.inTok rest
    rw [List.length_append] at h1
    omega
  have hrl := h.len
  have hsz := h.sz
  refine ⟨Sx.inTok (Sx.pk rest'), ans_val (val_call1 (g := fun c => .bl (Sx.inTok c)) (c := Sx.pk rest') (E := E0) (val_peek rfl L.rd)), fun h1 => ?_, fun h1 => ?_⟩
  · cases rest' with
    | nil => exact absurd h1 (by decide)
    | cons c q =>
      have h1 : Sx.inTok c = true := h1
      refine ⟨_, rfl, .inl ⟨rfl, _, SqL.of L.lst⟩, rd_meth ⟨rfl, rfl⟩ L.rd (fun x rest2 v H2 hf hk h2 hv => ?_) (fun hf => nomatch hf)⟩
      cases hf
      cases hv
      have L2 := L.go hk h2
      refine ⟨p, _, _, rfl, rfl, L2.lst, by rw [List.length_map]; omega, q.length, by rw [List.length_cons]; omega, acc ++ [c], q, rfl, rfl, L2.push c, ?_, ?_⟩
      · rw [List.takeWhile_cons, h1] at t1
        rw [← t1, List.append_assoc]; rfl
      · rw [List.dropWhile_cons, h1] at t2
        exact t2
  · have e1 : rest'.takeWhile Sx.inTok = [] ∧ rest'.dropWhile Sx.inTok = rest' := by
      cases rest' with
      | nil => exact ⟨rfl, rfl⟩
      | cons c q =>
        have h1 : Sx.inTok c = false := h1
        rw [List.takeWhile_cons, List.dropWhile_cons, h1]
        exact ⟨rfl, rfl⟩
    rw [e1.1, List.append_nil] at t1
    rw [e1.2] at t2
    refine st_ret (val_var rfl) ?_
    subst t1 t2
    exact k1 _ _ _ _ rfl L.kb L.rd ⟨p, rfl, L.new, L.lst⟩
end
end Hd
end
/-! ## Hd6 -/
section
set_option maxRecDepth 100000
set_option maxHeartbeats 4000000
set_option linter.all false
/-! The reader: hex_digit, digits, escape. -/
namespace Hd
open PySem PySem.Spec PyProof.Rows L2 Evl
theorem fail_meth {C CU r l : Addr} {σ : L2.St} {H : Hp} {os rest : List Int} {E : XK} {Q : VK} (h : RdAt C r l H os rest) (k : ∀ d H', Kb r H H' → E (.ref CU) d H') (hs : σ[0]? = some (some (.ref r)) := by rfl) :
    tMeth C "fail" (spR C CU [] fFail RNon) [] E (tVar 0) tNil σ H Q := rd_meth ⟨rfl, rfl⟩ h (fun _ _ _ _ hf => nomatch hf) (fun _ => k) hs
theorem next_meth {C CU r l : Addr} {σ : L2.St} {H : Hp} {os rest : List Int} {c : Int} {E : XK} {Q : VK} (h : RdAt C r l H os (c :: rest)) (k : ∀ H', Kb r H H' → RdAt C r l H' os rest → Q (.int c) H') (hs : σ[0]? = some (some (.ref r)) := by rfl) :
    tMeth C "next" (spR C CU [] fNext RInt) [] E (tVar 0) tNil σ H Q := rd_meth ⟨rfl, rfl⟩ h (fun x rest' v H' hf hk h' hv => by
      cases hf
      cases hv
      exact k H' hk h') (fun hf => nomatch hf) hs
section
variable {P : Program} {w : World} {K : PySem.W.Frag} {mg : Str → Option Value} {base : Heap} {f C CU : Addr} {fd : FuncData}
theorem sqR11 : FnScope ["self"] ["self"] (defScope (inClass (top 27) 11)) := ⟨rfl, rfl, rfl, by decide +kernel, rfl, by decide +kernel, by decide +kernel⟩
theorem ok_hex_digit (R : RdK K mg C) (Cp : MQ P w K mg base 1 C "peek" (spPeek C)) (Ch : C1 P w K mg base 2 "hex_worth" fun c => .int (Sx.hexW c)) (Cf : MR P w K mg base 3 C "fail" (spR C CU [] fFail RNon)) (Cn : MR P w K mg base 4 C "next" (spR C CU [] fNext RInt))
    (F : Fun K "hex_digit" "Reading.hex_digit" (inClass (top 27) 11) f fd) : FnOk P w K mg base (L2.CX P w) 5 f fd ["self"] (spR C CU [] Sx.hexd RInt) := by
  refine F.okX sqR11 (len_spR rfl) (fun cdv A outer s H vs Q E hr h => ?_)
  obtain ⟨r, l, os, rest, rfl, h, k1, k2⟩ := h
  refine ⟨_, pss_cons (ps_if (pt_cmpR op_lt (pe_calJ Ch hr (by decide) (by rfl) pass0 (pa_cons (pe_calM0 Cp R.cls hr (by decide) pass0 (pv 0)) pa_nil)) pe_int (nomark _)) (pss_one (ps_expr (pe_calM0 Cf R.cls hr (by decide) (passes_call (takes_of rfl rfl rfl rfl) (fun _ _ _ _ h => h)) (pv 0)))) pss_nil)
    (pss_one (ps_ret (pe_calJ Ch hr (by decide) (by rfl) pass0 (pa_cons (pe_calM0 Cn R.cls hr (by decide) (passes_call (takes_of rfl rfl rfl rfl) (fun _ _ _ _ h => h)) (pv 0)) pa_nil)))), ?_⟩
  refine st_seq (st_if (ans_test (val_i0 (c := Sx.hexW (Sx.pk rest)) (n := 0) (val_call1 (g := fun c => .int (Sx.hexW c)) (c := Sx.pk rest) (E := E0) (val_peek rfl h)) val_c)) (fun h1 => ?_) fun h1 => st_next ?_)
  · have h1 : Sx.hexW (Sx.pk rest) < 0 := of_decide_eq_true h1
    exact fail_meth h (k2 (by unfold Sx.hexd; rw [if_pos h1]))
  · have h1 : ¬ Sx.hexW (Sx.pk rest) < 0 := of_decide_eq_false h1
    cases rest with
    | nil => exact absurd (by decide) h1
    | cons c q =>
      exact next_meth h fun H' hk h' => ⟨c, rfl, k1 _ _ _ _ (by unfold Sx.hexd; rw [if_neg h1]; rfl) hk h' rfl⟩
/-! ### digits -/
def fDigits (r : List Int) : Option (List Int × List Int) := Sx.hexs (r.length + 2) [] (Sx.skip r)
theorem sqR12 : FnScope ["self", "found", "high"] ["self"] (defScope (inClass (top 27) 12)) := ⟨rfl, rfl, rfl, by decide +kernel, rfl, by decide +kernel, by decide +kernel⟩
theorem ok_digits (R : RdK K mg C) (Cp : MQ P w K mg base 1 C "peek" (spPeek C)) (Cs : MQ P w K mg base 2 C "skip_spaces" (spSkip C)) (Cn : MR P w K mg base 4 C "next" (spR C CU [] fNext RInt)) (Ch : MR P w K mg base 5 C "hex_digit" (spR C CU [] Sx.hexd RInt))
    (F : Fun K "digits" "Reading.digits" (inClass (top 27) 12) f fd) : FnOk P w K mg base (L2.CX P w) 6 f fd ["self"] (spR C CU [] fDigits RLst) := by
  refine F.okX sqR12 (len_spR rfl) (fun cdv A outer s H vs Q E hr h => ?_)
  obtain ⟨r, l, os, rest, rfl, h, k1, k2⟩ := h
  refine ⟨_, pss_cons (ps_set (i := 1) sqR12.nd rfl (.inl rfl) (pe_lst pa_nil)) (pss_cons (ps_expr (pe_calM0 Cs R.cls hr (by decide) pass0 (pv 0)))
    (pss_cons (ps_while (passes_of (X := cxOf (L2.CX P w) P w K mg base _ _ _ f cdv A outer s H E) rfl) (pt_cmpR op_ne (pe_calM0 Cp R.cls hr (by decide) pass0 (pv 0)) pe_int (nomark _))
      (pss_cons (ps_set (i := 2) sqR12.nd rfl (.inl rfl) (pe_calM0 Ch R.cls hr (by decide) (passes_call (takes_of rfl rfl rfl rfl) (fun _ _ _ _ h => h)) (pv 0)))
      (pss_cons (ps_expr (pe_calM0 Cs R.cls hr (by decide) pass0 (pv 0)))
      (pss_cons (ps_expr (pe_bm PySem.F.plainAttrs_list PySem.F.slot_list_append PySem.F.type_list_append mt_append (pv 1) (pa_cons (pe_op op_add (pe_op op_mul (pv 2) pe_int) (pe_calM0 Ch R.cls hr (by decide) (passes_call (takes_of rfl rfl rfl rfl) (fun _ _ _ _ h => h)) (pv 0))) pa_nil)))
      (pss_one (ps_expr (pe_calM0 Cs R.cls hr (by decide) pass0 (pv 0))))))))
    (pss_cons (ps_expr (pe_calM0 Cn R.cls hr (by decide) (passes_call (takes_of rfl rfl rfl rfl) (fun _ _ _ _ h => h)) (pv 0)))
    (pss_one (ps_ret (pv 1)))))), ?_⟩
  refine ⟨Nat.zero_le _, fun p hp => skip_meth (LoopAt.start h hp).rd fun H1 hk1 hr1 => ?_⟩
  have L1 := (LoopAt.start h hp).go hk1 hr1
  have hs0 : sizeLine = 16777216 := sizeLine_eq
  have hrl := h.len
  have hsz := h.sz
  refine st_seq (st_while (fun m σ H' => ∃ acc rest' v2 n, m = rest'.length ∧ σ = [some (.ref r), some (.ref p), v2] ∧ LoopAt C r l p H H' os rest' acc ∧ rest'.length < n ∧ Sx.hexs n acc rest' = fDigits rest ∧ acc.length + rest'.length ≤ rest.length) (Sx.skip rest).length
    ⟨[], Sx.skip rest, none, rest.length + 2, rfl, rfl, L1, by have := Sx.skip_le rest; omega, rfl, by have := Sx.skip_le rest; simpa using this⟩ ?_)
  rintro m σ H' ⟨acc, rest', v2, n, rfl, rfl, L, hn, he, hl⟩
  obtain ⟨n, rfl⟩ : ∃ n', n = n' + 1 := ⟨n - 1, by omega⟩
  rw [Sx.hexs] at he
  refine ⟨_, ans_test (val_neI (c := Sx.pk rest') (n := 35) (val_peek rfl L.rd) val_c), fun h1 => ?_, fun h1 => ?_⟩
  · have h1 : Sx.pk rest' ≠ 35 := by simpa using h1
    rw [if_neg h1] at he
    refine rd_meth ⟨rfl, rfl⟩ L.rd (fun x r2 v H2 hf hk h2 hv => ?_) (fun hf d H2 hk => k2 (by rw [← he, hf]; rfl) d H2 (L.kb.trans hk))
    cases hv
    obtain ⟨l2, e2, ex2, ne2⟩ := Sx.hexd_len hf
    rw [hf] at he
    have La := L.go hk h2
    refine skip_meth La.rd fun H3 hk3 h3 => ?_
    have Lb := La.go hk3 h3
    have l3 := Sx.skip_le r2
    refine ⟨_, rfl, .inl ⟨rfl, _, SqL.of Lb.lst⟩, _, rfl, x, 16, rfl, rfl, .inr (by decide), ?_⟩
    refine rd_meth ⟨rfl, rfl⟩ Lb.rd (fun y r4 v H4 hf4 hk4 h4 hv4 => ?_) (fun hf4 d H4 hk4 => k2 (by rw [← he]; show Option.bind (Sx.hexd (Sx.skip r2)) _ = none; rw [hf4]; rfl) d H4 (Lb.kb.trans hk4))
    cases hv4
    obtain ⟨l4, e4, ex4, ne4⟩ := Sx.hexd_len hf4
    have Lc := Lb.go hk4 h4
    have he : Option.bind (Sx.hexd (Sx.skip r2)) (fun q => Sx.hexs n (acc ++ [x * 16 + q.1]) (Sx.skip q.2)) = fDigits rest := he
    rw [hf4] at he
    refine ⟨_, _, rfl, rfl, p, _, _, rfl, rfl, Lc.lst, by rw [List.length_map]; omega, ?_⟩
    have Ld := Lc.push (x * 16 + y)
    refine skip_meth Ld.rd fun H5 hk5 h5 => ?_
    have l5 := Sx.skip_le r4
    refine ⟨(Sx.skip r4).length, by omega, _, Sx.skip r4, _, n, rfl, rfl, Ld.go hk5 h5, by omega, he, ?_⟩
    rw [List.length_append]
    simp only [List.length_cons, List.length_nil]
    omega
  · have h1 : Sx.pk rest' = 35 := by simpa using h1
    rw [if_pos h1] at he
    cases rest' with
    | nil => exact absurd h1 (by decide)
    | cons c q =>
      refine next_meth L.rd fun H2 hk h2 => ?_
      have L2 := L.go hk h2
      exact st_ret (val_var rfl) (k1 _ _ _ _ he.symm L2.kb L2.rd ⟨p, rfl, L2.new, L2.lst⟩)
end
end Hd
end
/-! ## Hd7 -/
section
set_option maxRecDepth 100000
set_option maxHeartbeats 4000000
set_option linter.all false
/-! The reader: escape, quoted, counted. -/
namespace Hd
open PySem PySem.Spec PyProof.Rows L2 Evl
theorem val_ge {σ : L2.St} {H : Hp} {ta tb : TE} {a b : Int} (h1 : Val ta σ H (.int a)) (h2 : Val tb σ H (.int b)) : Val (tOp (rI0 fun i j => .bl (decide (j ≤ i))) ta tb) σ H (.bl (decide (b ≤ a))) := val_i0 (g := fun i j => .bl (decide (j ≤ i))) h1 h2
theorem val_lt {σ : L2.St} {H : Hp} {ta tb : TE} {a b : Int} (h1 : Val ta σ H (.int a)) (h2 : Val tb σ H (.int b)) : Val (tOp (rI0 fun i j => .bl (decide (i < j))) ta tb) σ H (.bl (decide (a < b))) := val_i0 (g := fun i j => .bl (decide (i < j))) h1 h2
theorem val_gt {σ : L2.St} {H : Hp} {ta tb : TE} {a b : Int} (h1 : Val ta σ H (.int a)) (h2 : Val tb σ H (.int b)) : Val (tOp (rI0 fun i j => .bl (decide (j < i))) ta tb) σ H (.bl (decide (b < a))) := val_i0 (g := fun i j => .bl (decide (j < i))) h1 h2
theorem val_le {σ : L2.St} {H : Hp} {ta tb : TE} {a b : Int} (h1 : Val ta σ H (.int a)) (h2 : Val tb σ H (.int b)) : Val (tOp (rI0 fun i j => .bl (decide (i ≤ j))) ta tb) σ H (.bl (decide (a ≤ b))) := val_i0 (g := fun i j => .bl (decide (i ≤ j))) h1 h2
section
variable {P : Program} {w : World} {K : PySem.W.Frag} {mg : Str → Option Value} {base : Heap} {f C CU : Addr} {fd : FuncData}
theorem sqR10 : FnScope ["self", "octet", "worth", "_", "high"] ["self"] (defScope (inClass (top 27) 10)) := ⟨rfl, rfl, rfl, by decide +kernel, rfl, by decide +kernel, by decide +kernel⟩
theorem ok_escape (B : Blt mg) (R : RdK K mg C) (Cp : MQ P w K mg base 1 C "peek" (spPeek C)) (Ce : C1 P w K mg base 1 "escaped" fun c => .int (Sx.escd c)) (Cf : MR P w K mg base 3 C "fail" (spR C CU [] fFail RNon)) (Cn : MR P w K mg base 4 C "next" (spR C CU [] fNext RInt))
    (Ch : MR P w K mg base 5 C "hex_digit" (spR C CU [] Sx.hexd RInt)) (F : Fun K "escape" "Reading.escape" (inClass (top 27) 10) f fd) : FnOk P w K mg base (L2.CX P w) 6 f fd ["self"] (spR C CU [] Sx.esc RLst) := by
  refine F.okX sqR10 (len_spR rfl) (fun cdv A outer s H vs Q E hr h => ?_)
  obtain ⟨r, l, os, rest, rfl, h, k1, k2⟩ := h
  refine ⟨_, pss_cons (ps_set (i := 1) sqR10.nd rfl (.inl rfl) (pe_calM0 Cp R.cls hr (by decide) pass0 (pv 0)))
    (pss_cons (ps_if (pt_cmpR op_ge (pe_calJ Ce hr (by decide) (by rfl) pass0 (pa_cons (pv 1) pa_nil)) pe_int (nomark _)) (pss_cons (ps_expr (pe_calM0 Cn R.cls hr (by decide) (passes_call (takes_of rfl rfl rfl rfl) (fun _ _ _ _ h => h)) (pv 0))) (pss_one (ps_ret (pe_lst (pa_cons (pe_calJ Ce hr (by decide) (by rfl) pass0 (pa_cons (pv 1) pa_nil)) pa_nil))))) pss_nil)
    (pss_cons (ps_if (pt_cmpR op_eq (pv 1) pe_int (nomark _)) (pss_cons (ps_expr (pe_calM0 Cn R.cls hr (by decide) (passes_call (takes_of rfl rfl rfl rfl) (fun _ _ _ _ h => h)) (pv 0))) (pss_one (ps_ret (pe_lst pa_nil)))) pss_nil)
    (pss_cons (ps_if (pt_chain op_le op_le pe_int (pv 1) pe_int) (pss_cons (ps_set (i := 2) sqR10.nd rfl (.inl rfl) pe_int)
        (pss_cons (ps_for (passes_of (X := cxOf (L2.CX P w) P w K mg base _ _ _ f cdv A outer s H E) rfl) rfl (pi_range1 rfl B.range (pa_cons pe_int pa_nil)) (pg_name (i := 3) sqR10.nd rfl (.inl rfl))
          (pss_cons (ps_if (pt_not (pt_chain op_le op_le pe_int (pe_calM0 Cp R.cls hr (by decide) pass0 (pv 0)) pe_int)) (pss_one (ps_expr (pe_calM0 Cf R.cls hr (by decide) (passes_call (takes_of rfl rfl rfl rfl) (fun _ _ _ _ h => h)) (pv 0)))) pss_nil)
          (pss_one (ps_set (i := 2) sqR10.nd rfl (.inl rfl) (pe_op op_sub (pe_op op_add (pe_op op_mul (pv 2) pe_int) (pe_calM0 Cn R.cls hr (by decide) (passes_call (takes_of rfl rfl rfl rfl) (fun _ _ _ _ h => h)) (pv 0))) pe_int)))))
        (pss_one (ps_ret (pe_lst (pa_cons (pv 2) pa_nil)))))) pss_nil)
    (pss_cons (ps_if (pt_cmpR op_ne (pv 1) pe_int (nomark _)) (pss_one (ps_expr (pe_calM0 Cf R.cls hr (by decide) (passes_call (takes_of rfl rfl rfl rfl) (fun _ _ _ _ h => h)) (pv 0)))) pss_nil)
    (pss_cons (ps_expr (pe_calM0 Cn R.cls hr (by decide) (passes_call (takes_of rfl rfl rfl rfl) (fun _ _ _ _ h => h)) (pv 0)))
    (pss_cons (ps_set (i := 4) sqR10.nd rfl (.inl rfl) (pe_calM0 Ch R.cls hr (by decide) (passes_call (takes_of rfl rfl rfl rfl) (fun _ _ _ _ h => h)) (pv 0)))
    (pss_one (ps_ret (pe_lst (pa_cons (pe_op op_add (pe_op op_mul (pv 4) pe_int) (pe_calM0 Ch R.cls hr (by decide) (passes_call (takes_of rfl rfl rfl rfl) (fun _ _ _ _ h => h)) (pv 0))) pa_nil)))))))))), ?_⟩
  refine st_seq (st_set (val_peek rfl h) ?_)
  have one : (1 : Nat) ≤ sizeLine := by decide
  have fresh : ∀ {H' : Hp} {p : Addr}, Kb r H H' → RdAt C r l H' os rest.tail → H' p = none → H p = none := fun hk h' hp => hk.fresh h.is h'.is hp
  refine st_seq (st_if (ans_test (val_ge (a := Sx.escd (Sx.pk rest)) (b := 0) (val_call1 (g := fun c => .int (Sx.escd c)) (c := Sx.pk rest) (E := E0) (val_var rfl)) val_c)) (fun h1 => ?_) fun h1 => st_next ?_)
  · have h1 : 0 ≤ Sx.escd (Sx.pk rest) := of_decide_eq_true h1
    cases rest with
    | nil => exact absurd h1 (by decide)
    | cons c q =>
      refine next_meth h fun H' hk h' => ⟨_, rfl, c, rfl, one, fun p hp => ?_⟩
      exact k1 _ _ _ _ (by unfold Sx.esc; rw [if_pos h1]; rfl) (hk.trans (Ex.kb (Ex.new hp))) (h'.exx (Ex.new hp)) ⟨p, rfl, hk.fresh h.is h'.is hp, upd_same⟩
  have h1 : ¬ 0 ≤ Sx.escd (Sx.pk rest) := of_decide_eq_false h1
  refine st_seq (st_if (ans_test (val_eqI (c := Sx.pk rest) (n := 10) (val_var rfl) val_c)) (fun h2 => ?_) fun h2 => st_next ?_)
  · have h2 : Sx.pk rest = 10 := of_decide_eq_true h2
    cases rest with
    | nil => exact absurd h2 (by decide)
    | cons c q =>
      refine next_meth h fun H' hk h' => ⟨Nat.zero_le _, fun p hp => ?_⟩
      exact k1 _ _ _ _ (by unfold Sx.esc; rw [if_neg h1, if_pos h2]; rfl) (hk.trans (Ex.kb (Ex.new hp))) (h'.exx (Ex.new hp)) ⟨p, rfl, hk.fresh h.is h'.is hp, upd_same⟩
  have h2 : Sx.pk rest ≠ 10 := of_decide_eq_false h2
  refine st_seq (st_if (ans_test (val_rng (c := Sx.pk rest) (n := 48) (m := 51) (val_var rfl))) (fun h3 => ?_) fun h3 => st_next ?_)
  · have h3 : 48 ≤ Sx.pk rest ∧ Sx.pk rest ≤ 51 := by simpa using h3
    have he : Sx.esc rest = (Sx.octs 3 0 rest).map fun p => ([p.1], p.2) := by unfold Sx.esc; rw [if_neg h1, if_neg h2, if_pos h3]
    refine st_seq (st_set val_c ?_)
    refine ⟨3, rfl, by decide, by decide, for_range (lo := 0) (n := 3) (fun i σ H' => ∃ w v3 rest' j, i + j = 3 ∧ σ = [some (.ref r), some (.int (Sx.pk rest)), some (.int w), v3, none] ∧ Kb r H H' ∧ RdAt C r l H' os rest' ∧ Sx.octs j w rest' = Sx.octs 3 0 rest)
      ⟨0, none, rest, 3, rfl, rfl, Kb.refl, h, rfl⟩ ?_ ?_⟩
    · rintro i σ H' hi ⟨w, v3, rest', j, hj, rfl, hk, h', ho⟩
      obtain ⟨j, rfl⟩ : ∃ j', j = j' + 1 := ⟨j - 1, by omega⟩
      rw [Sx.octs] at ho
      refine st_seq (st_if (ans_not (ans_test (val_rng (c := Sx.pk rest') (n := 48) (m := 55) (val_peek rfl h')))) (fun h4 => ?_) fun h4 => st_next ?_)
      · have h4 : ¬ (48 ≤ Sx.pk rest' ∧ Sx.pk rest' ≤ 55) := by
          simp at h4
          omega
        rw [if_neg h4] at ho
        exact fail_meth h' fun d H2 hk2 => k2 (by rw [he, ← ho]; rfl) d H2 (hk.trans hk2)
      · have h4 : 48 ≤ Sx.pk rest' ∧ Sx.pk rest' ≤ 55 := by simpa using h4
        rw [if_pos h4] at ho
        cases rest' with
        | nil => exact absurd h4.1 (by decide)
        | cons c q =>
          refine ⟨_, rfl, w, 8, rfl, rfl, .inr (by decide), next_meth h' fun H2 hk2 h2 => ?_⟩
          exact ⟨_, _, rfl, rfl, _, _, rfl, rfl, _, _, q, j, by omega, rfl, hk.trans hk2, h2, ho⟩
    · rintro σ H' ⟨w, v3, rest', j, hj, rfl, hk, h', ho⟩
      obtain rfl : j = 0 := by omega
      rw [Sx.octs] at ho
      refine ⟨_, rfl, one, fun p hp => ?_⟩
      exact k1 _ _ _ _ (by rw [he, ← ho]; rfl) (hk.trans (Ex.kb (Ex.new hp))) (h'.exx (Ex.new hp)) ⟨p, rfl, hk.fresh h.is h'.is hp, upd_same⟩
  have h3 : ¬ (48 ≤ Sx.pk rest ∧ Sx.pk rest ≤ 51) := by simpa using h3
  refine st_seq (st_if (ans_test (val_neI (c := Sx.pk rest) (n := 120) (val_var rfl) val_c)) (fun h4 => ?_) fun h4 => st_next ?_)
  · have h4 : Sx.pk rest ≠ 120 := by simpa using h4
    exact fail_meth h fun d H2 hk2 => k2 (by unfold Sx.esc; rw [if_neg h1, if_neg h2, if_neg h3, if_pos h4]) d H2 hk2
  have h4 : Sx.pk rest = 120 := by simpa using h4
  have he : Sx.esc rest = (Sx.hexd rest.tail).bind fun p => (Sx.hexd p.2).map fun q => ([p.1 * 16 + q.1], q.2) := by
    unfold Sx.esc; rw [if_neg h1, if_neg h2, if_neg h3, if_neg (fun z => z h4)]
  cases rest with
  | nil => exact absurd h4 (by decide)
  | cons c q =>
    refine next_meth h fun H1 hk1 h1' => ?_
    refine rd_meth ⟨rfl, rfl⟩ h1' (fun x r2 v H2 hf hkb h2' hv => ?_) (fun hf d H2 hkb => k2 (by rw [he]; show Option.bind (Sx.hexd q) _ = none; rw [hf]; rfl) d H2 (hk1.trans hkb))
    cases hv
    refine ⟨_, rfl, x, 16, rfl, rfl, .inr (by decide), ?_⟩
    refine rd_meth ⟨rfl, rfl⟩ h2' (fun y r3 v H3 hf3 hkc h3' hv3 => ?_) (fun hf3 d H3 hkc => k2 (by rw [he]; show Option.bind (Sx.hexd q) _ = none; rw [hf]; show Option.map _ (Sx.hexd r2) = none; rw [hf3]; rfl) d H3 ((hk1.trans hkb).trans hkc))
    cases hv3
    refine ⟨_, _, rfl, rfl, one, fun p hp => ?_⟩
    have hk := (hk1.trans hkb).trans hkc
    exact k1 _ _ _ _ (by rw [he]; show Option.bind (Sx.hexd q) _ = _; rw [hf]; show Option.map _ (Sx.hexd r2) = _; rw [hf3]; rfl) (hk.trans (Ex.kb (Ex.new hp))) (h3'.exx (Ex.new hp)) ⟨p, rfl, hk.fresh h.is h3'.is hp, upd_same⟩
/-! ### quoted -/
def fQuo (r : List Int) : Option (List Int × List Int) := Sx.quo (r.length + 2) [] r
theorem sqR9 : FnScope ["self", "found"] ["self"] (defScope (inClass (top 27) 9)) := ⟨rfl, rfl, rfl, by decide +kernel, rfl, by decide +kernel, by decide +kernel⟩
theorem ok_quoted (R : RdK K mg C) (Cp : MQ P w K mg base 1 C "peek" (spPeek C)) (Cf : MR P w K mg base 3 C "fail" (spR C CU [] fFail RNon)) (Cn : MR P w K mg base 4 C "next" (spR C CU [] fNext RInt))
    (Ce : MR P w K mg base 6 C "escape" (spR C CU [] Sx.esc RLst)) (F : Fun K "quoted" "Reading.quoted" (inClass (top 27) 9) f fd) : FnOk P w K mg base (L2.CX P w) 7 f fd ["self"] (spR C CU [] fQuo RLst) := by
  refine F.okX sqR9 (len_spR rfl) (fun cdv A outer s H vs Q E hr h => ?_)
  obtain ⟨r, l, os, rest, rfl, h, k1, k2⟩ := h
  refine ⟨_, pss_cons (ps_set (i := 1) sqR9.nd rfl (.inl rfl) (pe_lst pa_nil))
    (pss_cons (ps_while (passes_of (X := cxOf (L2.CX P w) P w K mg base _ _ _ f cdv A outer s H E) rfl) (pt_cmpR op_ne (pe_calM0 Cp R.cls hr (by decide) pass0 (pv 0)) pe_int (nomark _))
      (pss_one (ps_if (pt_cmpR op_eq (pe_calM0 Cp R.cls hr (by decide) pass0 (pv 0)) pe_int (nomark _))
        (pss_cons (ps_expr (pe_calM0 Cn R.cls hr (by decide) (passes_call (takes_of rfl rfl rfl rfl) (fun _ _ _ _ h => h)) (pv 0)))
        (pss_one (ps_expr (pe_bm PySem.F.plainAttrs_list PySem.F.slot_list_extend PySem.F.type_list_extend mt_extend (pv 1) (pa_cons (pe_calM0 Ce R.cls hr (by decide) (passes_call (takes_of rfl rfl rfl rfl) (fun _ _ _ _ h => h)) (pv 0)) pa_nil)))))
        (pss_one (ps_if (pt_chain op_le op_le pe_int (pe_calM0 Cp R.cls hr (by decide) pass0 (pv 0)) pe_int)
          (pss_one (ps_expr (pe_bm PySem.F.plainAttrs_list PySem.F.slot_list_append PySem.F.type_list_append mt_append (pv 1) (pa_cons (pe_calM0 Cn R.cls hr (by decide) (passes_call (takes_of rfl rfl rfl rfl) (fun _ _ _ _ h => h)) (pv 0)) pa_nil))))
          (pss_one (ps_expr (pe_calM0 Cf R.cls hr (by decide) (passes_call (takes_of rfl rfl rfl rfl) (fun _ _ _ _ h => h)) (pv 0)))))))))
    (pss_cons (ps_expr (pe_calM0 Cn R.cls hr (by decide) (passes_call (takes_of rfl rfl rfl rfl) (fun _ _ _ _ h => h)) (pv 0)))
    (pss_one (ps_ret (pv 1))))), ?_⟩
  refine ⟨Nat.zero_le _, fun p hp => ?_⟩
  have L1 := LoopAt.start h hp
  have hs0 : sizeLine = 16777216 := sizeLine_eq
  have hrl := h.len
  have hsz := h.sz
  refine st_seq (st_while (fun m σ H' => ∃ acc rest' n, m = rest'.length ∧ σ = [some (.ref r), some (.ref p)] ∧ LoopAt C r l p H H' os rest' acc ∧ rest'.length < n ∧ Sx.quo n acc rest' = fQuo rest ∧ acc.length + rest'.length ≤ rest.length) rest.length
    ⟨[], rest, rest.length + 2, rfl, rfl, L1, by omega, rfl, by simp⟩ ?_)
  rintro m σ H' ⟨acc, rest', n, rfl, rfl, L, hn, he, hl⟩
  obtain ⟨n, rfl⟩ : ∃ n', n = n' + 1 := ⟨n - 1, by omega⟩
  rw [Sx.quo] at he
  refine ⟨_, ans_test (val_neI (c := Sx.pk rest') (n := 34) (val_peek rfl L.rd) val_c), fun h1 => ?_, fun h1 => ?_⟩
  · have h1 : Sx.pk rest' ≠ 34 := by simpa using h1
    rw [if_neg h1] at he
    refine st_if (ans_test (val_eqI (c := Sx.pk rest') (n := 92) (val_peek rfl L.rd) val_c)) (fun h2 => ?_) fun h2 => ?_
    · have h2 : Sx.pk rest' = 92 := of_decide_eq_true h2
      rw [if_pos h2] at he
      cases rest' with
      | nil => exact absurd h2 (by decide)
      | cons c q =>
        refine next_meth L.rd fun H2 hk h2' => ?_
        have La := L.go hk h2'
        refine ⟨_, rfl, .inl ⟨rfl, _, SqL.of La.lst⟩, ?_⟩
        refine rd_meth ⟨rfl, rfl⟩ La.rd (fun x r2 v H3 hf hkb h3 hv => ?_) (fun hf d H3 hkb => k2 (by rw [← he]; show Option.bind (Sx.esc q) _ = none; rw [hf]; rfl) d H3 (La.kb.trans hkb))
        obtain ⟨p2, rfl, np2, hp2⟩ := hv
        have Lb := La.go hkb h3
        have hel := Sx.esc_len hf
        have he : Option.bind (Sx.esc q) (fun p => Sx.quo n (acc ++ p.1) p.2) = fQuo rest := he
        rw [hf] at he
        rw [List.length_cons] at hl hn
        refine ⟨p, p2, _, _, rfl, rfl, Lb.lst, hp2, by rw [List.length_map, List.length_map]; omega, r2.length, by rw [List.length_cons]; omega, acc ++ x, r2, n, rfl, rfl, ?_, by omega, he, by rw [List.length_append]; omega⟩
        rw [← iv_append]
        exact Lb.set _
    · have h2 : Sx.pk rest' ≠ 92 := of_decide_eq_false h2
      rw [if_neg h2] at he
      refine st_if (ans_test (val_rng (c := Sx.pk rest') (n := 32) (m := 126) (val_peek rfl L.rd))) (fun h3 => ?_) fun h3 => ?_
      · have h3 : 32 ≤ Sx.pk rest' ∧ Sx.pk rest' ≤ 126 := by simpa using h3
        rw [if_pos h3] at he
        cases rest' with
        | nil => exact absurd h3.1 (by decide)
        | cons c q =>
          refine ⟨_, rfl, .inl ⟨rfl, _, SqL.of L.lst⟩, next_meth L.rd fun H2 hk h2' => ?_⟩
          have La := L.go hk h2'
          rw [List.length_cons] at hl hn
          refine ⟨p, _, _, rfl, rfl, La.lst, by rw [List.length_map]; omega, q.length, by rw [List.length_cons]; omega, acc ++ [c], q, n, rfl, rfl, La.push c, by omega, he, ?_⟩
          rw [List.length_append]
          simp only [List.length_cons, List.length_nil]
          omega
      · have h3 : ¬ (32 ≤ Sx.pk rest' ∧ Sx.pk rest' ≤ 126) := by simpa using h3
        rw [if_neg h3] at he
        exact fail_meth L.rd fun d H2 hk2 => k2 he.symm d H2 (L.kb.trans hk2)
  · have h1 : Sx.pk rest' = 34 := by simpa using h1
    rw [if_pos h1] at he
    cases rest' with
    | nil => exact absurd h1 (by decide)
    | cons c q =>
      refine next_meth L.rd fun H2 hk h2 => ?_
      have L2 := L.go hk h2
      exact st_ret (val_var rfl) (k1 _ _ _ _ he.symm L2.kb L2.rd ⟨p, rfl, L2.new, L2.lst⟩)
end
end Hd
end
/-! ## Hd8 -/
section
set_option maxRecDepth 100000
set_option maxHeartbeats 4000000
set_option linter.all false
/-! The reader: counted. -/
namespace Hd
open PySem PySem.Spec PyProof.Rows L2 Evl
theorem ans_or2 {σ : L2.St} {H : Hp} {t u : TT} {b1 b2 : Bool} (h1 : Ans t σ H b1) (h2 : Ans u σ H b2) : Ans (tOr t u) σ H (b1 || b2) := by
  cases b1 with
  | true => exact ans_or1 h1
  | false => exact ans_or h1 h2
theorem st_slice {K : PySem.W.Frag} {σ : L2.St} {H : Hp} {D : Ends} {te tl th : TE} {a : Addr} {xs : List V} {lo hi : Int} {i : Nat} (h1 : Val te σ H (.ref a)) (h2 : Val tl σ H (.int lo)) (h3 : Val th σ H (.int hi)) (hs : SqL K H a xs)
    (k : ∀ p, H p = none → D.nx (σ.set i (some (.ref p))) (upd H p (.lst (cutV xs (some lo) (some hi))))) : tAsg (tSl (rSlL K) te (tPart tl) (tPart th)) (gName i) D σ H := h1 _ (h2 _ ⟨_, rfl, h3 _ ⟨_, rfl, a, xs, rfl, hs, k⟩⟩)
theorem RdAt.plc {C r l : Addr} {H : Hp} {os rest : List Int} (h : RdAt C r l H os rest) : ∃ dx, H r = some (.ins C dx (flds l (os.length - rest.length))) ∧ os.drop (os.length - rest.length) = rest := by
  obtain ⟨dx, pl, e1, e2, e3⟩ := h.ex
  have e : os.length - rest.length = pl := by rw [← e2, List.length_drop]; omega
  rw [e]
  exact ⟨dx, e1, e2⟩
section
variable {P : Program} {w : World} {K : PySem.W.Frag} {mg : Str → Option Value} {base : Heap} {f C CU : Addr} {fd : FuncData}
theorem val_place {σ : L2.St} {H : Hp} {r l : Addr} {os rest : List Int} (R : RdK K mg C) (hs : σ[0]? = some (some (.ref r))) (h : RdAt C r l H os rest) : Val (tFld K (tVar 0) "place") σ H (.int ((os.length - rest.length : Nat) : Int)) := by
  obtain ⟨dx, e1, _⟩ := h.plc
  exact val_plc R hs e1
theorem cut_of {os q : List Int} {pl k : Nat} (e : os.drop pl = q) (h : pl ≤ os.length) : cutV (iv os) (some ((pl : Nat) : Int)) (some (((pl : Nat) : Int) + (k : Nat))) = iv (q.take k) := by
  have e0 : ((pl : Nat) : Int) + (k : Nat) = ((pl + k : Nat) : Int) := by omega
  unfold cutV
  rw [e0, HT.sIx_nat, HT.sIx_nat, List.length_map, Nat.min_eq_left h, ← List.map_drop, e, ← List.map_take]
  have hq : q.length = os.length - pl := by rw [← e, List.length_drop]
  congr 1
  by_cases hk : pl + k ≤ os.length
  · rw [Nat.min_eq_left hk]
    congr 1
    omega
  · rw [Nat.min_eq_right (by omega), List.take_of_length_le (by omega), List.take_of_length_le (by omega)]
theorem sqR7 : FnScope ["self", "count", "first", "found"] ["self"] (defScope (inClass (top 27) 7)) := ⟨rfl, rfl, rfl, by decide +kernel, rfl, by decide +kernel, by decide +kernel⟩
theorem ok_counted (B : Blt mg) (R : RdK K mg C) (Cp : MQ P w K mg base 1 C "peek" (spPeek C)) (Cd : C1 P w K mg base 1 "is_digit" fun c => .bl (Sx.isDigit c)) (Cf : MR P w K mg base 3 C "fail" (spR C CU [] fFail RNon)) (Cn : MR P w K mg base 4 C "next" (spR C CU [] fNext RInt))
    (F : Fun K "counted" "Reading.counted" (inClass (top 27) 7) f fd) : FnOk P w K mg base (L2.CX P w) 5 f fd ["self"] (spR C CU [] Sx.counted RLst) := by
  refine F.okX sqR7 (len_spR rfl) (fun cdv A outer s H vs Q E hr h => ?_)
  obtain ⟨r, l, os, rest, rfl, h, k1, k2⟩ := h
  refine ⟨_, pss_cons (ps_set (i := 1) sqR7.nd rfl (.inl rfl) pe_int)
    (pss_cons (ps_set (i := 2) sqR7.nd rfl (.inl rfl) (pe_fld (pv 0) rfl))
    (pss_cons (ps_while (passes_of (X := cxOf (L2.CX P w) P w K mg base _ _ _ f cdv A outer s H E) rfl)
      (PW.pt (pw_and (pt_val (pe_calJ Cd hr (by decide) (by rfl) pass0 (pa_cons (pe_calM0 Cp R.cls hr (by decide) pass0 (pv 0)) pa_nil))) (pw_and1 (PW.pt (pw_or (pt_cmpR op_gt (pv 1) pe_int (nomark _)) (pw_or1 (pt_cmpR op_eq (pe_fld (pv 0) rfl) (pv 2) (nomark _))))))))
      (pss_one (ps_set (i := 1) sqR7.nd rfl (.inl rfl) (pe_op op_sub (pe_op op_add (pe_op op_mul (pv 1) pe_int) (pe_calM0 Cn R.cls hr (by decide) (passes_call (takes_of rfl rfl rfl rfl) (fun _ _ _ _ h => h)) (pv 0))) pe_int))))
    (pss_cons (ps_if (pt_cmpR op_ne (pe_calM0 Cp R.cls hr (by decide) pass0 (pv 0)) pe_int (nomark _)) (pss_one (ps_expr (pe_calM0 Cf R.cls hr (by decide) (passes_call (takes_of rfl rfl rfl rfl) (fun _ _ _ _ h => h)) (pv 0)))) pss_nil)
    (pss_cons (ps_expr (pe_calM0 Cn R.cls hr (by decide) (passes_call (takes_of rfl rfl rfl rfl) (fun _ _ _ _ h => h)) (pv 0)))
    (pss_cons (ps_set (i := 3) sqR7.nd rfl (.inl rfl) (pe_slice sl_list (pe_fld (pv 0) rfl) (po_some (pe_fld (pv 0) rfl)) (po_some (pe_op op_add (pe_fld (pv 0) rfl) (pv 1)))))
    (pss_cons (ps_fld (pv 0) (pe_op op_add (pe_fld (pv 0) rfl) (pe_callB call_len (by rfl) B.len (by decide +kernel) (pa_cons (pv 3) pa_nil))) rfl)
    (pss_cons (ps_if (pt_cmpR op_lt (pe_callB call_len (by rfl) B.len (by decide +kernel) (pa_cons (pv 3) pa_nil)) (pv 1) (nomark _)) (pss_one (ps_expr (pe_calM0 Cf R.cls hr (by decide) (passes_call (takes_of rfl rfl rfl rfl) (fun _ _ _ _ h => h)) (pv 0)))) pss_nil)
    (pss_one (ps_ret (pv 3)))))))))), ?_⟩
  refine st_seq (st_set val_c ?_)
  refine st_seq (st_set (val_place R rfl h) ?_)
  have hrl := h.len
  refine st_seq (st_while (fun m σ H' => ∃ n rest', m = rest'.length ∧ σ = [some (.ref r), some (.int n), some (.int ((os.length - rest.length : Nat) : Int)), none] ∧ 0 ≤ n ∧ rest'.length ≤ rest.length ∧ Kb r H H' ∧ RdAt C r l H' os rest' ∧ Sx.cnt n (decide (rest'.length = rest.length)) rest' = Sx.cnt 0 true rest) rest.length
    ⟨0, rest, rfl, rfl, by omega, Nat.le_refl _, Kb.refl, h, by rw [decide_eq_true rfl]⟩ ?_)
  rintro m σ H' ⟨n, rest', rfl, rfl, hn, hl, hk, h', hc⟩
  have hrl' := h'.len
  refine ⟨_, ans_and2 (ans_val (val_call1 (g := fun c => .bl (Sx.isDigit c)) (c := Sx.pk rest') (E := E0) (val_peek rfl h'))) (ans_or2 (ans_test (val_gt (a := n) (b := 0) (val_var rfl) val_c)) (ans_test (val_eqI (val_place R rfl h') (val_var rfl)))), fun h1 => ?_, fun h1 => ?_⟩
  · cases rest' with
    | nil => exact absurd h1 (by
        have e : Sx.isDigit (Sx.pk []) = false := rfl
        rw [e]
        simp)
    | cons c q =>
      have h1 : (Sx.isDigit c && (decide (0 < n) || decide ((c :: q).length = rest.length))) = true := by
        rw [← h1]
        have e2 : decide (((os.length - (c :: q).length : Nat) : Int) = ((os.length - rest.length : Nat) : Int)) = decide ((c :: q).length = rest.length) := by
          rw [Bool.eq_iff_iff, decide_eq_true_iff, decide_eq_true_iff]
          omega
        rw [e2]; rfl
      rw [Sx.cnt, h1] at hc
      have hd : Sx.isDigit c = true := by
        cases z : Sx.isDigit c with
        | true => rfl
        | false => rw [z] at h1; simp at h1
      have hd2 := Sx.isDigit_iff.mp hd
      refine ⟨_, rfl, n, 10, rfl, rfl, .inr (by decide), next_meth h' fun H2 hk2 h2 => ?_⟩
      rw [List.length_cons] at hl
      refine ⟨_, _, rfl, rfl, _, _, rfl, rfl, q.length, by rw [List.length_cons]; omega, n * 10 + c - 48, q, rfl, rfl, by omega, by omega, hk.trans hk2, h2, ?_⟩
      rw [decide_eq_false (by omega : ¬ q.length = rest.length)]
      exact hc
  · have hc2 : Sx.cnt n (decide (rest'.length = rest.length)) rest' = (n, rest') := by
      cases rest' with
      | nil => rfl
      | cons c q =>
        rw [Sx.cnt, if_neg]
        have e2 : decide (((os.length - (c :: q).length : Nat) : Int) = ((os.length - rest.length : Nat) : Int)) = decide ((c :: q).length = rest.length) := by
          rw [Bool.eq_iff_iff, decide_eq_true_iff, decide_eq_true_iff]
          omega
        rw [e2] at h1
        intro h3
        rw [show (Sx.isDigit (Sx.pk (c :: q)) && (decide (0 < n) || decide ((c :: q).length = rest.length))) = true from h3] at h1
        cases h1
    rw [hc2] at hc
    have hcd : Sx.counted rest = if Sx.pk rest' = 58 then if n ≤ (rest'.tail.length : Int) then some (rest'.tail.take n.toNat, rest'.tail.drop n.toNat) else none else none := by
      unfold Sx.counted
      rw [← hc]
    refine st_seq (st_if (ans_test (val_neI (c := Sx.pk rest') (n := 58) (val_peek rfl h') val_c)) (fun h2 => ?_) fun h2 => st_next ?_)
    · have h2 : Sx.pk rest' ≠ 58 := by simpa using h2
      exact fail_meth h' fun d H2 hk2 => k2 (by rw [hcd, if_neg h2]) d H2 (hk.trans hk2)
    have h2 : Sx.pk rest' = 58 := by simpa using h2
    rw [if_pos h2] at hcd
    cases rest' with
    | nil => exact absurd h2 (by decide)
    | cons c q =>
      refine next_meth h' fun H2 hk2 h2' => ?_
      obtain ⟨dx, e1, e2⟩ := h2'.plc
      have hq := h2'.len
      obtain ⟨k, rfl⟩ : ∃ k : Nat, n = k := ⟨n.toNat, by omega⟩
      refine st_seq (st_slice (K := K) (val_oct R rfl h2') (val_place R rfl h2') (val_add (b := (k : Int)) (val_place R rfl h2') (val_var rfl) rfl) (SqL.of h2'.lst) fun p hp => ?_)
      rw [cut_of e2 (by omega)]
      have hx := Ex.new (p := p) (o := .lst (iv (q.take k))) hp
      have h3 := h2'.exx hx
      obtain ⟨dx3, e13, e23⟩ := h3.plc
      have hlen : (q.take k).length = min k q.length := List.length_take
      have lp : ∀ {H3 : Hp}, H3 p = some (.lst (iv (q.take k))) → Val (tCB (fun xs H Q => ∃ x n, xs = [x] ∧ LenV K x H n ∧ Q (.int n) H) (tCons (tVar 3) tNil)) [some (.ref r), some (.int (k : Int)), some (.int ((os.length - rest.length : Nat) : Int)), some (.ref p)] H3 (.int ((min k q.length : Nat) : Int)) := fun hH => val_lenL (val_var rfl) hH (by rw [List.length_map, hlen])
      refine st_seq (st_plc R h3 e13 rfl (os.length - q.length + min k q.length) (val_add (val_place R rfl h3) (lp upd_same) (by omega)) (by omega) fun H4 h4 hk4 h4' hne => ?_)
      have hpr : p ≠ r := fun e => by rw [e, e1] at hp; cases hp
      have hlp : H4 p = some (.lst (iv (q.take k))) := by rw [hne p hpr, upd_same]
      have hd : os.drop (os.length - q.length + min k q.length) = q.drop (min k q.length) := by rw [← List.drop_drop, e2]
      rw [hd] at h4'
      have hkk := ((hk.trans hk2).trans (Ex.kb hx)).trans hk4
      refine st_seq (st_if (ans_test (val_lt (a := ((min k q.length : Nat) : Int)) (b := (k : Int)) (lp hlp) (val_var rfl))) (fun h5 => ?_) fun h5 => st_next ?_)
      · have h5 : ((min k q.length : Nat) : Int) < k := of_decide_eq_true h5
        exact fail_meth h4' fun d H5 hk5 => k2 (by rw [hcd, if_neg]; show ¬ ((k : Int) ≤ (q.length : Int)); omega) d H5 (hkk.trans hk5)
      · have h5 : ¬ ((min k q.length : Nat) : Int) < k := of_decide_eq_false h5
        have hm : min k q.length = k := by omega
        rw [hm] at h4'
        have hle : (k : Int) ≤ (q.length : Int) := by omega
        refine st_ret (val_var rfl) (k1 _ _ _ _ (by rw [hcd]; exact if_pos hle) hkk h4' ⟨p, rfl, ?_, hlp⟩)
        exact (hk.trans hk2).fresh h.is ⟨_, e1⟩ hp
end
end Hd
end
/-! ## Hd9 -/
section
set_option maxRecDepth 100000
set_option maxHeartbeats 4000000
set_option linter.all false
/-! The machine of base64. -/
namespace Hd
open PySem PySem.Spec PyProof.Rows L2 Evl
theorem val_mul {σ : L2.St} {H : Hp} {ta tb : TE} {a b c : Int} (h1 : Val ta σ H (.int a)) (h2 : Val tb σ H (.int b)) (hb : -(2 ^ 64) < b ∧ b < 2 ^ 64) (e : a * b = c) : Val (tOp (rI CMul fun i j => .int (i * j)) ta tb) σ H (.int c) := by
  subst e
  exact val_op h1 h2 fun Q q => ⟨_, _, rfl, rfl, .inr hb, q⟩
theorem val_mod {σ : L2.St} {H : Hp} {ta tb : TE} {a b c : Int} (h1 : Val ta σ H (.int a)) (h2 : Val tb σ H (.int b)) (hb : 0 < b) (e : a % b = c) : Val (tOp (rI (fun _ j => 0 < j) fun i j => .int (i % j)) ta tb) σ H (.int c) := by
  subst e
  exact val_op h1 h2 fun Q q => ⟨_, _, rfl, rfl, hb, q⟩
theorem val_div {σ : L2.St} {H : Hp} {ta tb : TE} {a b c : Int} (h1 : Val ta σ H (.int a)) (h2 : Val tb σ H (.int b)) (hb : 0 < b ∧ b < 1073741824) (e : a / b = c) : Val (tOp (rI CDiv fun i j => .int (i / j)) ta tb) σ H (.int c) := by
  subst e
  exact val_op h1 h2 fun Q q => ⟨_, _, rfl, rfl, hb, q⟩
theorem st_append {K : PySem.W.Frag} {σ : L2.St} {H : Hp} {D : Ends} {ta te : TE} {l : Addr} {xs : List V} {y : V} (h1 : Val ta σ H (.ref l)) (hl : H l = some (.lst xs)) (h2 : Val te σ H y) (hz : xs.length < sizeLine) (k : D.nx σ (upd H l (.lst (xs ++ [y])))) :
    tDrop (tBM K "list" rAppend ta (tCons te tNil)) D σ H := h1 _ ⟨.inl ⟨rfl, _, SqL.of hl⟩, h2 _ ⟨l, xs, y, rfl, rfl, hl, hz, k⟩⟩
theorem st_f5 {K : PySem.W.Frag} {σ : L2.St} {H : Hp} {D : Ends} {ta tv : TE} {C b dx : Addr} {f : Str} {y : V} {fs fs' : List (Str × V)} (hv : Val tv σ H y) (ha : Val ta σ H (.ref b)) (ho : H b = some (.ins C dx fs)) (hc : Cls K C) (hn : NoAttr K C f) (hl : fs.length < 1000) (e : putF f y fs = fs')
    (k : D.nx σ (upd H b (.ins C dx fs'))) : sFld K ta tv f D σ H := by
  subst e
  exact st_fld hv ha ho hc hn hl k
theorem val_andI {σ : L2.St} {H : Hp} {ta tb : TE} {a b c : Int} (h1 : Val ta σ H (.int a)) (h2 : Val tb σ H (.int b)) (e : Builtin.bitAnd a b = c) : Val (tOp (rI0 fun i j => .int (Builtin.bitAnd i j)) ta tb) σ H (.int c) := by
  subst e
  exact val_i0 (g := fun i j => .int (Builtin.bitAnd i j)) h1 h2
theorem val_shl {σ : L2.St} {H : Hp} {ta tb : TE} {a b c : Int} (h1 : Val ta σ H (.int a)) (h2 : Val tb σ H (.int b)) (hb : CPow a b) (e : a * 2 ^ b.toNat = c) : Val (tOp (rI CPow fun i j => .int (i * 2 ^ j.toNat)) ta tb) σ H (.int c) := by
  subst e
  exact val_op h1 h2 fun Q q => ⟨_, _, rfl, rfl, hb, q⟩
def fl5 (l : Addr) (d p b r : Int) : List (Str × V) := [("octets", .ref l), ("digits", .int d), ("pads", .int p), ("bits", .int b), ("rest", .int r)]
structure MAt (C b l : Addr) (H : Hp) (st : Sx.B) : Prop where
  ex : ∃ dx, H b = some (.ins C dx (fl5 l st.digits st.pads st.bits st.rest))
  lst : H l = some (.lst (iv st.octets))
def BOk (st : Sx.B) : Prop := 0 ≤ st.bits ∧ st.bits < 8 ∧ 0 ≤ st.rest
/-- all but the machine is as it was -/
def Mo (b l : Addr) (H H' : Hp) : Prop := ∀ x, x ≠ b → x ≠ l → H' x = H x
theorem Mo.refl {b l : Addr} {H : Hp} : Mo b l H H := fun _ _ _ => rfl
theorem Mo.trans {b l : Addr} {H H1 H2 : Hp} (h1 : Mo b l H H1) (h2 : Mo b l H1 H2) : Mo b l H H2 := fun x a c => (h2 x a c).trans (h1 x a c)
theorem Mo.b {b l : Addr} {H : Hp} {o : HO} : Mo b l H (upd H b o) := fun x h _ => upd_ne h
theorem Mo.l {b l : Addr} {H : Hp} {o : HO} : Mo b l H (upd H l o) := fun x _ h => upd_ne h
theorem MAt.ne {C b l : Addr} {H : Hp} {st : Sx.B} (h : MAt C b l H st) : l ≠ b := fun e => by
  obtain ⟨dx, e1⟩ := h.ex
  have := h.lst
  rw [e, e1] at this
  cases this
structure B64K (K : PySem.W.Frag) (mg : Str → Option Value) (C : Addr) : Prop where
  cls : Cls K C
  gC : mg "Base64" = some (.ref C)
  oct : NoAttr K C "octets"
  dig : NoAttr K C "digits"
  pad : NoAttr K C "pads"
  bit : NoAttr K C "bits"
  res : NoAttr K C "rest"
  gP : ∃ t, mg "PAD" = some (.int 61 t)
theorem ok_digit {st : Sx.B} {d : Int} (h : BOk st) (hd : 0 ≤ d) : BOk (st.digit d) := by
  obtain ⟨h1, h2, h3⟩ := h
  unfold Sx.B.digit
  split
  · exact ⟨by show 0 ≤ st.bits + 6 - 8; omega, by show st.bits + 6 - 8 < 8; omega, Int.emod_nonneg _ (by have := Int.pow_pos (n := (2:Int)) (m := (st.bits + 6 - 8).toNat) (by decide); omega)⟩
  · exact ⟨by show 0 ≤ st.bits + 6; omega, by show st.bits + 6 < 8; omega, by show 0 ≤ st.rest * 64 + d; omega⟩
theorem ok_take {st st' : Sx.B} {c : Int} (h : BOk st) (e : st.take c = some st') : BOk st' := by
  unfold Sx.B.take at e
  split at e
  · unfold Sx.B.pad at e
    split at e
    · cases e
    · cases e; exact h
  · split at e
    · cases e
    · rename_i hn
      cases e
      exact ok_digit h (by omega)
section
variable {P : Program} {w : World} {K : PySem.W.Frag} {mg : Str → Option Value} {base : Heap} {f C : Addr} {fd : FuncData}
/-! ### __init__ -/
def spBI (C : Addr) : Sp := fun vs H Q _ => ∃ x dx, vs = [.ref x] ∧ H x = some (.ins C dx []) ∧ ∀ l H', H l = none → MAt C x l H' Sx.B0 → Mo x l H H' → Q .non H'
theorem sqB0 : FnScope ["self"] ["self"] (defScope (inClass (top 16) 0)) := ⟨rfl, rfl, rfl, by decide +kernel, rfl, by decide +kernel, by decide +kernel⟩
theorem ok_binit (T : B64K K mg C) (F : Fun K "__init__" "Base64.__init__" (inClass (top 16) 0) f fd) : FnOk P w K mg base CX0 1 f fd ["self"] (spBI C) := by
  refine F.ok sqB0 (fun vs H Q E h => ?_) (fun cdv A outer s H vs Q E hr h => ?_)
  · obtain ⟨x, dx, rfl, _⟩ := h
    rfl
  obtain ⟨x, dx, rfl, hx, k⟩ := h
  refine ⟨_, pss_cons (ps_fld (pv 0) (pe_lst pa_nil) rfl) (pss_cons (ps_fld (pv 0) pe_int rfl) (pss_cons (ps_fld (pv 0) pe_int rfl) (pss_cons (ps_fld (pv 0) pe_int rfl) (pss_one (ps_fld (pv 0) pe_int rfl))))), ?_⟩
  refine ⟨Nat.zero_le _, fun l hl => ?_⟩
  have hlx : l ≠ x := fun e => by rw [e, hx] at hl; cases hl
  refine ⟨_, rfl, x, C, dx, [], rfl, by rw [upd_ne (Ne.symm hlx)]; exact hx, T.cls, T.oct, by decide, ?_⟩
  refine st_seq (st_fld val_c (val_var rfl) upd_same T.cls T.dig (by show 1 < 1000; decide) ?_)
  refine st_seq (st_fld val_c (val_var rfl) upd_same T.cls T.pad (by show 2 < 1000; decide) ?_)
  refine st_seq (st_fld val_c (val_var rfl) upd_same T.cls T.bit (by show 3 < 1000; decide) ?_)
  refine st_fld val_c (val_var rfl) upd_same T.cls T.res (by show 4 < 1000; decide) ?_
  refine k l _ hl ⟨⟨dx, by rw [upd_same]; rfl⟩, ?_⟩ fun y h1 h2 => ?_
  · rw [upd_ne hlx, upd_ne hlx, upd_ne hlx, upd_ne hlx, upd_ne hlx, upd_same]; rfl
  · rw [upd_ne h1, upd_ne h1, upd_ne h1, upd_ne h1, upd_ne h1, upd_ne h2]
/-! ### is_whole -/
def spBW (C : Addr) : Sp := fun vs H Q _ => ∃ b l st, vs = [.ref b] ∧ MAt C b l H st ∧ Q (.bl st.whole) H
theorem sqB1 : FnScope ["self"] ["self"] (defScope (inClass (top 16) 1)) := ⟨rfl, rfl, rfl, by decide +kernel, rfl, by decide +kernel, by decide +kernel⟩
theorem ok_whole (T : B64K K mg C) (F : Fun K "is_whole" "Base64.is_whole" (inClass (top 16) 1) f fd) : FnOk P w K mg base CX0 1 f fd ["self"] (spBW C) := by
  refine F.ok sqB1 (fun vs H Q E h => ?_) (fun cdv A outer s H vs Q E hr h => ?_)
  · obtain ⟨b, l, st, rfl, _⟩ := h
    rfl
  obtain ⟨b, l, st, rfl, h, k⟩ := h
  obtain ⟨dx, e1⟩ := h.ex
  refine ⟨_, pss_one (ps_ret (pe_cmpR op_eq (pe_op op_mod (pe_op op_add (pe_fld (pv 0) rfl) (pe_fld (pv 0) rfl)) pe_int) pe_int (nomark _))), ?_⟩
  exact st_ret (val_eqI (c := (st.digits + st.pads) % 4) (n := 0) (fun Q q => val_add (val_fld (val_var rfl) e1 T.cls T.dig rfl) (val_fld (val_var rfl) e1 T.cls T.pad rfl) rfl _ ⟨_, _, rfl, rfl, by show (0 : Int) < 4; decide, q⟩) val_c) k
/-! ### take_pad -/
def spBP (C : Addr) : Sp := fun vs H Q _ => ∃ b l st, vs = [.ref b] ∧ MAt C b l H st ∧ (st.pad = none → Q (.bl false) H) ∧ (∀ st' H', st.pad = some st' → MAt C b l H' st' → Mo b l H H' → Q (.bl true) H')
theorem sqB3 : FnScope ["self"] ["self"] (defScope (inClass (top 16) 3)) := ⟨rfl, rfl, rfl, by decide +kernel, rfl, by decide +kernel, by decide +kernel⟩
theorem ok_take_pad (T : B64K K mg C) (F : Fun K "take_pad" "Base64.take_pad" (inClass (top 16) 3) f fd) : FnOk P w K mg base CX0 1 f fd ["self"] (spBP C) := by
  refine F.ok sqB3 (fun vs H Q E h => ?_) (fun cdv A outer s H vs Q E hr h => ?_)
  · obtain ⟨b, l, st, rfl, _⟩ := h
    rfl
  obtain ⟨b, l, st, rfl, h, k1, k2⟩ := h
  obtain ⟨dx, e1⟩ := h.ex
  refine ⟨_, pss_cons (ps_if (PW.pt (pw_or (pt_cmpR op_lt (pe_op op_add (pe_op op_mod (pe_fld (pv 0) rfl) pe_int) (pe_fld (pv 0) rfl)) pe_int (nomark _)) (pw_or (pt_cmpR op_gt (pe_op op_add (pe_op op_mod (pe_fld (pv 0) rfl) pe_int) (pe_fld (pv 0) rfl)) pe_int (nomark _))
      (pw_or1 (pt_cmpR op_ne (pe_fld (pv 0) rfl) pe_int (nomark _)))))) (pss_one (ps_ret pe_bl)) pss_nil)
    (pss_cons (ps_fld (pv 0) (pe_op op_add (pe_fld (pv 0) rfl) pe_int) rfl) (pss_one (ps_ret pe_bl))), ?_⟩
  have vm : Val (tOp (rI0 fun i j => V.int (i + j)) (tOp (rI (fun _ j => 0 < j) fun i j => V.int (i % j)) (tFld K (tVar 0) "digits") (tC (.int 4))) (tFld K (tVar 0) "pads")) [some (.ref b)] H (.int (st.digits % 4 + st.pads)) :=
    val_add (a := st.digits % 4) (fun Q q => val_fld (v := .int st.digits) (val_var rfl) e1 T.cls T.dig rfl _ ⟨_, _, rfl, rfl, by show (0 : Int) < 4; decide, q⟩) (val_fld (val_var rfl) e1 T.cls T.pad rfl) rfl
  refine st_seq (st_if (ans_or2 (ans_test (val_lt (b := 2) vm val_c)) (ans_or2 (ans_test (val_gt (b := 3) vm val_c)) (ans_test (val_neI (c := st.rest) (n := 0) (val_fld (val_var rfl) e1 T.cls T.res rfl) val_c)))) (fun h1 => ?_) fun h1 => st_next ?_)
  · have h1 : st.digits % 4 + st.pads < 2 ∨ 3 < st.digits % 4 + st.pads ∨ st.rest ≠ 0 := by simpa using h1
    exact st_ret val_c (k1 (by unfold Sx.B.pad; rw [if_pos h1]))
  · have h1 : ¬ (st.digits % 4 + st.pads < 2 ∨ 3 < st.digits % 4 + st.pads ∨ st.rest ≠ 0) := by
      simp at h1
      omega
    refine st_seq (st_fld (val_add (val_fld (val_var rfl) e1 T.cls T.pad rfl) val_c rfl) (val_var rfl) e1 T.cls T.pad (by show 5 < 1000; decide) ?_)
    have hp : st.pad = some { st with pads := st.pads + 1 } := by unfold Sx.B.pad; rw [if_neg h1]
    show Q (V.bl true) _
    refine k2 _ _ hp ⟨⟨dx, ?_⟩, ?_⟩ fun x h4 h5 => ?_
    · rw [upd_same]; rfl
    · rw [upd_ne h.ne]
      exact h.lst
    · rw [upd_ne h4]
/-! ### take -/
def spBT (C : Addr) : Sp := fun vs H Q _ => ∃ b l st c, vs = [.ref b, .int c] ∧ MAt C b l H st ∧ BOk st ∧ st.octets.length < 10000000 ∧ (st.take c = none → Q (.bl false) H) ∧ (∀ st' H', st.take c = some st' → MAt C b l H' st' → Mo b l H H' → Q (.bl true) H')
theorem sqB2 : FnScope ["self", "octet", "digit"] ["self", "octet"] (defScope (inClass (top 16) 2)) := ⟨rfl, rfl, rfl, by decide +kernel, rfl, by decide +kernel, by decide +kernel⟩
theorem ok_btake (T : B64K K mg C) (Cw : C1 P w K mg base 1 "worth" fun c => .int (Sx.worth c)) (Cp : CalM P w K mg base CX0 1 C "take_pad" ["self"] (spBP C)) (F : Fun K "take" "Base64.take" (inClass (top 16) 2) f fd) : FnOk P w K mg base CX0 2 f fd ["self", "octet"] (spBT C) := by
  refine F.ok sqB2 (fun vs H Q E h => ?_) (fun cdv A outer s H vs Q E hr h => ?_)
  · obtain ⟨b, l, st, c, rfl, _⟩ := h
    rfl
  obtain ⟨b, l, st, c, rfl, h, ok, hz, k1, k2⟩ := h
  obtain ⟨dx, e1⟩ := h.ex
  obtain ⟨tP, gP⟩ := T.gP
  refine ⟨_, pss_cons (ps_if (pt_cmpR op_eq (pv 1) (pe_glob (by rfl) gP (v := .int 61) ⟨_, rfl⟩) (nomark _)) (pss_one (ps_ret (pe_calM0 Cp T.cls hr (by decide) pass0 (pv 0)))) pss_nil)
    (pss_cons (ps_set (i := 2) sqB2.nd rfl (.inl rfl) (pe_calJ Cw hr (by decide) (by rfl) pass0 (pa_cons (pv 1) pa_nil)))
    (pss_cons (ps_if (PW.pt (pw_or (pt_cmpR op_lt (pv 2) pe_int (nomark _)) (pw_or1 (pt_cmpR op_gt (pe_fld (pv 0) rfl) pe_int (nomark _))))) (pss_one (ps_ret pe_bl)) pss_nil)
    (pss_cons (ps_fld (pv 0) (pe_op op_add (pe_fld (pv 0) rfl) pe_int) rfl)
    (pss_cons (ps_fld (pv 0) (pe_op op_add (pe_op op_mul (pe_fld (pv 0) rfl) pe_int) (pv 2)) rfl)
    (pss_cons (ps_fld (pv 0) (pe_op op_add (pe_fld (pv 0) rfl) pe_int) rfl)
    (pss_cons (ps_if (pt_cmpR op_ge (pe_fld (pv 0) rfl) pe_int (nomark _))
      (pss_cons (ps_fld (pv 0) (pe_op op_sub (pe_fld (pv 0) rfl) pe_int) rfl)
      (pss_cons (ps_expr (pe_bm PySem.F.plainAttrs_list PySem.F.slot_list_append PySem.F.type_list_append mt_append (pe_fld (pv 0) rfl) (pa_cons (pe_op op_shr (pe_fld (pv 0) rfl) (pe_fld (pv 0) rfl)) pa_nil)))
      (pss_one (ps_fld (pv 0) (pe_op op_and (pe_fld (pv 0) rfl) (pe_op op_sub (pe_op op_shl pe_int (pe_fld (pv 0) rfl)) pe_int)) rfl)))) pss_nil)
    (pss_one (ps_ret pe_bl)))))))), ?_⟩
  refine st_seq (st_if (ans_test (val_eqI (c := c) (n := 61) (val_var rfl) val_c)) (fun h1 => ?_) fun h1 => st_next ?_)
  · have h1 : c = 61 := of_decide_eq_true h1
    have ht : st.take c = st.pad := by unfold Sx.B.take; rw [if_pos h1]
    rw [ht] at k1 k2
    exact ⟨_, rfl, b, dx, _, rfl, e1, rfl, b, l, st, rfl, h, k1, k2⟩
  have h1 : ¬ c = 61 := of_decide_eq_false h1
  refine st_seq (st_set (val_call1 (g := fun c => .int (Sx.worth c)) (c := c) (E := E0) (val_var rfl)) ?_)
  refine st_seq (st_if (ans_or2 (ans_test (val_lt (a := Sx.worth c) (b := 0) (val_var rfl) val_c)) (ans_test (val_gt (a := st.pads) (b := 0) (val_fld (val_var rfl) e1 T.cls T.pad rfl) val_c))) (fun h2 => ?_) fun h2 => st_next ?_)
  · have h2 : Sx.worth c < 0 ∨ 0 < st.pads := by simpa using h2
    exact st_ret val_c (k1 (by unfold Sx.B.take; rw [if_neg h1, if_pos h2]))
  have h2 : ¬ (Sx.worth c < 0 ∨ 0 < st.pads) := by
    simp at h2
    omega
  have ht : st.take c = some (st.digit (Sx.worth c)) := by unfold Sx.B.take; rw [if_neg h1, if_neg h2]
  obtain ⟨o1, o2, o3⟩ := ok
  have hl := h.ne
  have z5 : ∀ {d p x y : Int}, (fl5 l d p x y).length < 1000 := by
    intro d p x y
    show 5 < 1000
    decide
  refine st_seq (st_f5 (fs' := fl5 l (st.digits + 1) st.pads st.bits st.rest) (val_add (val_fld (val_var rfl) e1 T.cls T.dig rfl) val_c rfl) (val_var rfl) e1 T.cls T.dig z5 rfl ?_)
  refine st_seq (st_f5 (y := .int (st.rest * 64 + Sx.worth c)) (fs' := fl5 l (st.digits + 1) st.pads st.bits (st.rest * 64 + Sx.worth c)) (val_add (a := st.rest * 64) (val_mul (a := st.rest) (val_fld (val_var rfl) upd_same T.cls T.res rfl) val_c (by decide) rfl) (val_var rfl) rfl) (val_var rfl) upd_same T.cls T.res z5 rfl ?_)
  refine st_seq (st_f5 (y := .int (st.bits + 6)) (fs' := fl5 l (st.digits + 1) st.pads (st.bits + 6) (st.rest * 64 + Sx.worth c)) (val_add (a := st.bits) (val_fld (val_var rfl) upd_same T.cls T.bit rfl) val_c rfl) (val_var rfl) upd_same T.cls T.bit z5 rfl ?_)
  refine st_seq (st_if (ans_test (val_ge (a := st.bits + 6) (b := 8) (val_fld (val_var rfl) upd_same T.cls T.bit rfl) val_c)) (fun h3 => ?_) fun h3 => st_next ?_)
  · have h3 : 8 ≤ st.bits + 6 := of_decide_eq_true h3
    refine st_seq (st_f5 (y := .int (st.bits + 6 - 8)) (fs' := fl5 l (st.digits + 1) st.pads (st.bits + 6 - 8) (st.rest * 64 + Sx.worth c)) (val_sub (a := st.bits + 6) (val_fld (val_var rfl) upd_same T.cls T.bit rfl) val_c rfl) (val_var rfl) upd_same T.cls T.bit z5 rfl ?_)
    have hll : ∀ {o : HO} {H1 : Hp}, H1 l = some (.lst (iv st.octets)) → upd H1 b o l = some (.lst (iv st.octets)) := fun e => by rw [upd_ne hl]; exact e
    refine st_seq (st_append (K := K) (l := l) (xs := iv st.octets) (y := .int ((st.rest * 64 + Sx.worth c) / 2 ^ (st.bits + 6 - 8).toNat)) (val_fld (val_var rfl) upd_same T.cls T.oct rfl) (hll (hll (hll (hll h.lst))))
      (val_op (x := .int (st.rest * 64 + Sx.worth c)) (y := .int (st.bits + 6 - 8)) (val_fld (val_var rfl) upd_same T.cls T.res rfl) (val_fld (val_var rfl) upd_same T.cls T.bit rfl) fun Q q => ⟨_, _, rfl, rfl, by show 0 ≤ st.bits + 6 - 8; omega, q⟩)
      (by rw [List.length_map]; have : sizeLine = 16777216 := sizeLine_eq; omega) ?_)
    have hb : ∀ {H1 : Hp} {o q : HO}, upd (upd H1 b o) l q b = some o := by
      intro H1 o q
      rw [upd_ne (Ne.symm hl), upd_same]
    have hp : (0 : Int) < 2 ^ (st.bits + 6 - 8).toNat := Int.pow_pos (by decide)
    have e : Builtin.bitAnd (st.rest * 64 + Sx.worth c) (1 * 2 ^ (st.bits + 6 - 8).toNat - 1) = (st.rest * 64 + Sx.worth c) % 2 ^ (st.bits + 6 - 8).toNat := by
      rw [Int.one_mul]
      exact Bits.bitAnd_mask _ (by omega)
    refine st_f5 (y := .int ((st.rest * 64 + Sx.worth c) % 2 ^ (st.bits + 6 - 8).toNat)) (fs' := fl5 l (st.digits + 1) st.pads (st.bits + 6 - 8) ((st.rest * 64 + Sx.worth c) % 2 ^ (st.bits + 6 - 8).toNat))
      (val_andI (a := st.rest * 64 + Sx.worth c) (val_fld (val_var rfl) hb T.cls T.res rfl) (val_sub (val_shl (a := 1) (b := st.bits + 6 - 8) val_c (val_fld (val_var rfl) hb T.cls T.bit rfl) ⟨by omega, by omega, by decide⟩ rfl) val_c rfl) e) (val_var rfl) hb T.cls T.res z5 rfl ?_
    show Q (V.bl true) _
    refine k2 _ _ ht ⟨⟨dx, ?_⟩, ?_⟩ fun x h4 h5 => ?_
    · rw [upd_same]
      unfold Sx.B.digit
      rw [if_pos h3]
    · rw [upd_ne hl, upd_same]
      unfold Sx.B.digit
      rw [if_pos h3, iv_append]
      rfl
    · rw [upd_ne h4, upd_ne h5, upd_ne h4, upd_ne h4, upd_ne h4, upd_ne h4]
  · have h3 : ¬ 8 ≤ st.bits + 6 := of_decide_eq_false h3
    show Q (V.bl true) _
    refine k2 _ _ ht ⟨⟨dx, ?_⟩, ?_⟩ fun x h4 h5 => ?_
    · rw [upd_same]
      unfold Sx.B.digit
      rw [if_neg h3]
    · rw [upd_ne hl, upd_ne hl, upd_ne hl]
      unfold Sx.B.digit
      rw [if_neg h3]
      exact h.lst
    · rw [upd_ne h4, upd_ne h4, upd_ne h4]
end
end Hd
end
/-! ## Hd10 -/
section
set_option maxRecDepth 100000
set_option maxHeartbeats 4000000
set_option linter.all false
/-! The reader: bars. -/
namespace Hd
open PySem PySem.Spec PyProof.Rows L2 Evl
/-- a class of the module that is made -/
structure CalC (P : Program) (w : World) (K : PySem.W.Frag) (mg : Str → Option Value) (base : Heap) (k : Nat) (C : Addr) (ps : List Str) (sp : Sp) : Prop where
  ex : ∃ f fd, Mk K C f ∧ FnOk P w K mg base CX0 k f fd ps sp ∧ Binds K fd ps []
/-- a property -/
structure CalP (P : Program) (w : World) (K : PySem.W.Frag) (mg : Str → Option Value) (base : Heap) (k : Nat) (C : Addr) (m : Str) (sp : Sp) : Prop where
  ex : ∃ p f fd, PropOf K C m p f ∧ FnOk P w K mg base CX0 k f fd ["self"] sp ∧ Binds K fd ["self"] []
theorem pe_calP {X : Cx} {j k : Nat} {C : Addr} {m : Str} {sp : Sp} {e : Expr} {ta : TE} {pos : Pos} (c : CalP X.prog X.w X.K X.mg X.base j C m sp) (T : Cls X.K C) (hr : Room k X.A) (hj : j + 1 ≤ k) (he : PE X e ta) (hab : attributeBase e m X.env (eval e X.env) = eval e X.env) :
    PE X (.Attribute e m pos) (tProp C sp [] E0 ta) := by
  obtain ⟨p, f, fd, hp, F, b⟩ := c.ex
  exact pe_prop he T hp F (hr.mono hj) b .nil pass0 hab
theorem pe_calC0 {X : Cx} {j k : Nat} {C : Addr} {x : Str} {ps : List Str} {sp : Sp} {p pos : Pos} (c : CalC X.prog X.w X.K X.mg X.base j C ps sp) (hr : Room k X.A) (hj : j + 1 ≤ k) (hg : Gl X x) (hm : X.mg x = some (.ref C)) (hdb : (x == ("__debug__" : Str)) = false := by decide) :
    PE X (.Call (.Name x p) [] [] pos) (tMake C sp [] E0 tNil) := by
  obtain ⟨f, fd, M, F, b⟩ := c.ex
  exact pe_make0 M F (hr.mono hj) hg hm b .nil pass0 hdb
theorem pe_calC {X : Cx} {j k : Nat} {C : Addr} {x : Str} {ps : List Str} {sp : Sp} {e : Expr} {es : List Expr} {t : TA} {p pos : Pos} (c : CalC X.prog X.w X.K X.mg X.base j C ps sp) (hr : Room k X.A) (hj : j + 1 ≤ k) (hg : Gl X x) (hm : X.mg x = some (.ref C)) (ha : PA X (e :: es) t)
    (hdb : (x == ("__debug__" : Str)) = false := by decide) (he : starEach (e :: es) X.env = (false, eval e X.env) :: starEach es X.env := by rfl) (hpl : (backTo pos (starEach es X.env)).any (·.1) = false := by rfl) :
    PE X (.Call (.Name x p) (e :: es) [] pos) (tMake C sp [] E0 t) := by
  obtain ⟨f, fd, M, F, b⟩ := c.ex
  exact pe_make M F (hr.mono hj) hg hm b .nil pass0 ha hdb he hpl
/-- the machine beside the reading -/
structure BarsAt (C r l CB b lb : Addr) (H0 H : Hp) (os rest : List Int) (st : Sx.B) : Prop where
  nb : H0 b = none
  nl : H0 lb = none
  kb : Kb r H0 H
  rd : RdAt C r l H os rest
  mt : MAt CB b lb H st
  ok : BOk st
  ne : b ≠ r ∧ b ≠ l ∧ lb ≠ r ∧ lb ≠ l
theorem MAt.kb {CB b lb r : Addr} {H H' : Hp} {st : Sx.B} (h : MAt CB b lb H st) (h1 : b ≠ r) (h2 : lb ≠ r) (k : Kb r H H') : MAt CB b lb H' st := by
  obtain ⟨dx, e⟩ := h.ex
  exact ⟨⟨dx, k _ _ h1 e⟩, k _ _ h2 h.lst⟩
theorem RdAt.mo {C r l b lb : Addr} {H H' : Hp} {os rest : List Int} (h : RdAt C r l H os rest) (ne : b ≠ r ∧ b ≠ l ∧ lb ≠ r ∧ lb ≠ l) (m : Mo b lb H H') : RdAt C r l H' os rest := by
  obtain ⟨dx, pl, e1, e2⟩ := h.ex
  exact ⟨⟨dx, pl, (m r (Ne.symm ne.1) (Ne.symm ne.2.2.1)).trans e1, e2⟩, (m l (Ne.symm ne.2.1) (Ne.symm ne.2.2.2)).trans h.lst, h.sz⟩
theorem BarsAt.go {C r l CB b lb : Addr} {H0 H H' : Hp} {os rest rest' : List Int} {st : Sx.B} (h : BarsAt C r l CB b lb H0 H os rest st) (k : Kb r H H') (h' : RdAt C r l H' os rest') : BarsAt C r l CB b lb H0 H' os rest' st :=
  ⟨h.nb, h.nl, h.kb.trans k, h', h.mt.kb h.ne.1 h.ne.2.2.1 k, h.ok, h.ne⟩
theorem BarsAt.take {C r l CB b lb : Addr} {H0 H H' : Hp} {os rest : List Int} {st st' : Sx.B} (h : BarsAt C r l CB b lb H0 H os rest st) (m : MAt CB b lb H' st') (o : BOk st') (k : Mo b lb H H') : BarsAt C r l CB b lb H0 H' os rest st' :=
  ⟨h.nb, h.nl, fun x u hx hu => (k x (ne_of_none hu h.nb) (ne_of_none hu h.nl)).trans (h.kb x u hx hu), h.rd.mo h.ne k, m, o, h.ne⟩
section
variable {P : Program} {w : World} {K : PySem.W.Frag} {mg : Str → Option Value} {base : Heap} {f C CU CB : Addr} {fd : FuncData}
def fBars (r : List Int) : Option (List Int × List Int) := Sx.bars (r.length + 2) Sx.B0 (Sx.skip r)
theorem sqR13 : FnScope ["self", "machine"] ["self"] (defScope (inClass (top 27) 13)) := ⟨rfl, rfl, rfl, by decide +kernel, rfl, by decide +kernel, by decide +kernel⟩
theorem ok_bars (B : Blt mg) (R : RdK K mg C) (T : B64K K mg CB) (Ci : CalC P w K mg base 1 CB ["self"] (spBI CB)) (Cw : CalP P w K mg base 1 CB "is_whole" (spBW CB)) (Ct : CalM P w K mg base CX0 2 CB "take" ["self", "octet"] (spBT CB))
    (Cp : MQ P w K mg base 1 C "peek" (spPeek C)) (Cs : MQ P w K mg base 2 C "skip_spaces" (spSkip C)) (Cf : MR P w K mg base 3 C "fail" (spR C CU [] fFail RNon)) (Cn : MR P w K mg base 4 C "next" (spR C CU [] fNext RInt))
    (F : Fun K "bars" "Reading.bars" (inClass (top 27) 13) f fd) : FnOk P w K mg base (L2.CX P w) 5 f fd ["self"] (spR C CU [] fBars RLst) := by
  refine F.okX sqR13 (len_spR rfl) (fun cdv A outer s H vs Q E hr h => ?_)
  obtain ⟨r, l, os, rest, rfl, h, k1, k2⟩ := h
  refine ⟨_, pss_cons (ps_set (i := 1) sqR13.nd rfl (.inl rfl) (pe_calC0 Ci hr (by decide) (by rfl) T.gC))
    (pss_cons (ps_expr (pe_calM0 Cs R.cls hr (by decide) pass0 (pv 0)))
    (pss_cons (ps_while (passes_of (X := cxOf (L2.CX P w) P w K mg base _ _ _ f cdv A outer s H E) rfl)
      (PW.pt (pw_or (pt_cmpR op_ne (pe_calM0 Cp R.cls hr (by decide) pass0 (pv 0)) pe_int (nomark _)) (pw_or1 (pt_not (pt_val (pe_calP Cw T.cls hr (by decide) (pv 1) rfl))))))
      (pss_cons (ps_if (pt_not (pt_val (pe_calM Ct T.cls hr (by decide) pass0 (pv 1) (pa_cons (pe_calM0 Cp R.cls hr (by decide) pass0 (pv 0)) pa_nil)))) (pss_one (ps_expr (pe_calM0 Cf R.cls hr (by decide) (passes_call (takes_of rfl rfl rfl rfl) (fun _ _ _ _ h => h)) (pv 0)))) pss_nil)
      (pss_cons (ps_expr (pe_calM0 Cn R.cls hr (by decide) (passes_call (takes_of rfl rfl rfl rfl) (fun _ _ _ _ h => h)) (pv 0)))
      (pss_one (ps_expr (pe_calM0 Cs R.cls hr (by decide) pass0 (pv 0)))))))
    (pss_cons (ps_expr (pe_calM0 Cn R.cls hr (by decide) (passes_call (takes_of rfl rfl rfl rfl) (fun _ _ _ _ h => h)) (pv 0)))
    (pss_one (ps_ret (pe_callTy call_list_of (by rfl) B.list (by decide +kernel) (pa_cons (pe_fld (pv 1) rfl) pa_nil))))))), ?_⟩
  intro b dx nb ndx nex
  refine ⟨b, dx, rfl, upd_same, fun lb H1 hlb hM hMo => ⟨rfl, ?_⟩⟩
  have hbl : lb ≠ b := hM.ne
  have hlb2 : H lb = none := by
    have hd : lb ≠ dx := fun e => by
      rw [e, upd_ne nex, upd_same] at hlb
      cases hlb
    rw [upd_ne hbl, upd_ne hd] at hlb
    exact hlb
  have hke : Ex H (upd (upd H dx (.own b)) b (.ins CB dx [])) := (Ex.new ndx).trans (Ex.new (by rw [upd_ne (Ne.symm nex)]; exact nb))
  obtain ⟨ro, hro⟩ := h.is
  have hne : b ≠ r ∧ b ≠ l ∧ lb ≠ r ∧ lb ≠ l := ⟨fun e => (by rw [e, hro] at nb; cases nb), fun e => (by rw [e, h.lst] at nb; cases nb), fun e => (by rw [e, hro] at hlb2; cases hlb2), fun e => (by rw [e, h.lst] at hlb2; cases hlb2)⟩
  have S0 : BarsAt C r l CB b lb H H1 os rest Sx.B0 := ⟨nb, hlb2, fun x u hx hu => (hMo x (ne_of_none hu nb) (ne_of_none hu hlb2)).trans (hke _ _ hu), (h.exx hke).mo hne hMo, hM, ⟨by decide, by decide, by decide⟩, hne⟩
  refine skip_meth S0.rd fun H2 hk2 h2 => ?_
  have S1 := S0.go hk2 h2
  have hs0 : sizeLine = 16777216 := sizeLine_eq
  have hrl := h.len
  have hsz := h.sz
  refine st_seq (st_while (fun m σ H' => ∃ st rest' n, m = rest'.length ∧ σ = [some (.ref r), some (.ref b)] ∧ BarsAt C r l CB b lb H H' os rest' st ∧ rest'.length < n ∧ Sx.bars n st rest' = fBars rest ∧ st.octets.length + rest'.length ≤ rest.length) (Sx.skip rest).length
    ⟨Sx.B0, Sx.skip rest, rest.length + 2, rfl, rfl, S1, by have := Sx.skip_le rest; omega, rfl, by have := Sx.skip_le rest; simpa [Sx.B0] using this⟩ ?_)
  rintro m σ H' ⟨st, rest', n, rfl, rfl, S, hn, he, hl⟩
  obtain ⟨n, rfl⟩ : ∃ n', n = n' + 1 := ⟨n - 1, by omega⟩
  rw [Sx.bars] at he
  obtain ⟨dxb, eb⟩ := S.mt.ex
  have vw : Val (tProp CB (spBW CB) [] E0 (tVar 1)) [some (.ref r), some (.ref b)] H' (.bl st.whole) := fun Q q => ⟨_, rfl, b, dxb, _, rfl, eb, b, lb, st, rfl, S.mt, q⟩
  refine ⟨_, ans_or2 (ans_test (val_neI (c := Sx.pk rest') (n := 124) (val_peek rfl S.rd) val_c)) (ans_not (ans_val vw)), fun h1 => ?_, fun h1 => ?_⟩
  · have h1 : ¬ (Sx.pk rest' = 124 ∧ st.whole = true) := by
      intro ⟨a, c⟩
      rw [a, c] at h1
      exact absurd h1 (by decide)
    rw [if_neg h1] at he
    refine st_seq ⟨_, rfl, b, dxb, _, rfl, eb, rfl, val_peek rfl S.rd _ ⟨b, lb, st, Sx.pk rest', rfl, S.mt, S.ok, by omega, fun ht => ⟨false, rfl, iteT ?_⟩, fun st' H3 ht hM3 hMo3 => ⟨true, rfl, iteF ?_⟩⟩⟩
    · exact fail_meth S.rd fun d H3 hk3 => k2 (by rw [← he, ht]; rfl) d H3 (S.kb.trans hk3)
    · have hne := Sx.take_ne ht
      have S3 := S.take hM3 (ok_take S.ok ht) hMo3
      have ho := Sx.take_octets ht
      rw [ht] at he
      cases rest' with
      | nil => exact absurd rfl hne
      | cons c q =>
        have he : Sx.bars n st' (Sx.skip q) = fBars rest := he
        refine next_meth S3.rd fun H4 hk4 h4 => ?_
        have S4 := S3.go hk4 h4
        refine skip_meth S4.rd fun H5 hk5 h5 => ?_
        have l5 := Sx.skip_le q
        rw [List.length_cons] at hl hn
        exact ⟨(Sx.skip q).length, by rw [List.length_cons]; omega, st', _, n, rfl, rfl, S4.go hk5 h5, by omega, he, by omega⟩
  · have h1 : Sx.pk rest' = 124 ∧ st.whole = true := by simpa using h1
    rw [if_pos h1] at he
    cases rest' with
    | nil => exact absurd h1.1 (by decide)
    | cons c q =>
      refine next_meth S.rd fun H2 hk h2 => ?_
      have S2 := S.go hk h2
      obtain ⟨dxb2, eb2⟩ := S2.mt.ex
      refine val_fld (K := K) (σ := [some (.ref r), some (.ref b)]) (val_var (i := 1) rfl) eb2 T.cls T.oct rfl _ ⟨lb, _, rfl, .inl (SqL.of S2.mt.lst), fun p hp => ?_⟩
      exact k1 _ _ _ _ he.symm (S2.kb.trans (Ex.kb (Ex.new hp))) (S2.rd.exx (Ex.new hp)) ⟨p, rfl, S2.kb.fresh h.is S2.rd.is hp, upd_same⟩
end
end Hd
end
/-! ## Hd11 -/
section
set_option maxRecDepth 100000
set_option maxHeartbeats 4000000
set_option linter.all false
/-! The reader: __init__, atom, value, read_sexp. -/
namespace Hd
open PySem PySem.Spec PyProof.Rows L2 Evl
section
variable {P : Program} {w : World} {K : PySem.W.Frag} {mg : Str → Option Value} {base : Heap} {f C CU : Addr} {fd : FuncData}
/-! ### __init__ -/
def spRI (C : Addr) : Sp := fun vs H Q _ => ∃ x dx a os, vs = [.ref x, .ref a] ∧ H x = some (.ins C dx []) ∧ H a = some (.lst (iv os)) ∧ os.length < 10000000 ∧ ∀ l H', H l = none → RdAt C x l H' os os → Mo x l H H' → Q .non H'
theorem sqR0 : FnScope ["self", "octets"] ["self", "octets"] (defScope (inClass (top 27) 0)) := ⟨rfl, rfl, rfl, by decide +kernel, rfl, by decide +kernel, by decide +kernel⟩
theorem ok_rinit (B : Blt mg) (R : RdK K mg C) (F : Fun K "__init__" "Reading.__init__" (inClass (top 27) 0) f fd) : FnOk P w K mg base CX0 1 f fd ["self", "octets"] (spRI C) := by
  refine F.ok sqR0 (fun vs H Q E h => ?_) (fun cdv A outer s H vs Q E hr h => ?_)
  · obtain ⟨x, dx, a, os, rfl, _⟩ := h
    rfl
  obtain ⟨x, dx, a, os, rfl, hx, ha, hz, k⟩ := h
  refine ⟨_, pss_cons (ps_fld (pv 0) (pe_callTy call_list_of (by rfl) B.list (by decide +kernel) (pa_cons (pv 1) pa_nil)) rfl) (pss_one (ps_fld (pv 0) pe_int rfl)), ?_⟩
  refine ⟨_, rfl, a, _, rfl, .inl (SqL.of ha), fun l hl => ?_⟩
  have hlx : l ≠ x := fun e => by rw [e, hx] at hl; cases hl
  refine ⟨_, rfl, x, C, dx, [], rfl, by rw [upd_ne (Ne.symm hlx)]; exact hx, R.cls, R.oct, by decide, ?_⟩
  refine st_fld val_c (val_var rfl) upd_same R.cls R.plc (by show 1 < 1000; decide) ?_
  refine k l _ hl ⟨⟨dx, 0, ?_, rfl, Nat.zero_le _⟩, ?_, hz⟩ fun y h1 h2 => ?_
  · rw [upd_same]; rfl
  · rw [upd_ne hlx, upd_ne hlx, upd_same]
  · rw [upd_ne h1, upd_ne h1, upd_ne h2]
/-! ### atom -/
def spA (C CU : Addr) : Sp := fun vs H Q E => ∃ r l os rest, vs = [.ref r, .int (Sx.pk rest)] ∧ RdAt C r l H os rest ∧
  (∀ x rest' v H', Sx.atom rest = some (x, rest') → Kb r H H' → RdAt C r l H' os rest' → RLst x H v H' → Q v H') ∧ (Sx.atom rest = none → ∀ d H', Kb r H H' → E (.ref CU) d H')
theorem sqR6 : FnScope ["self", "octet"] ["self", "octet"] (defScope (inClass (top 27) 6)) := ⟨rfl, rfl, rfl, by decide +kernel, rfl, by decide +kernel, by decide +kernel⟩
theorem ok_atom (R : RdK K mg C) (Cd : C1 P w K mg base 1 "is_digit" fun c => .bl (Sx.isDigit c)) (Cb : C1 P w K mg base 1 "begins_token" fun c => .bl (Sx.begTok c)) (Cf : MR P w K mg base 3 C "fail" (spR C CU [] fFail RNon)) (Cn : MR P w K mg base 4 C "next" (spR C CU [] fNext RInt))
    (C1 : MR P w K mg base 5 C "counted" (spR C CU [] Sx.counted RLst)) (C2 : MR P w K mg base 5 C "token" (spR C CU [] fToken RLst)) (C3 : MR P w K mg base 7 C "quoted" (spR C CU [] fQuo RLst)) (C4 : MR P w K mg base 6 C "digits" (spR C CU [] fDigits RLst)) (C5 : MR P w K mg base 5 C "bars" (spR C CU [] fBars RLst))
    (F : Fun K "atom" "Reading.atom" (inClass (top 27) 6) f fd) : FnOk P w K mg base (L2.CX P w) 8 f fd ["self", "octet"] (spA C CU) := by
  refine F.okX sqR6 (fun vs H Q E h => ?_) (fun cdv A outer s H vs Q E hr h => ?_)
  · obtain ⟨r, l, os, rest, rfl, _⟩ := h
    rfl
  obtain ⟨r, l, os, rest, rfl, h, k1, k2⟩ := h
  refine ⟨_, pss_cons (ps_if (pt_val (pe_calJ Cd hr (by decide) (by rfl) pass0 (pa_cons (pv 1) pa_nil))) (pss_one (ps_ret (pe_calM0 C1 R.cls hr (by decide) (passes_call (takes_of rfl rfl rfl rfl) (fun _ _ _ _ h => h)) (pv 0)))) pss_nil)
    (pss_cons (ps_if (pt_val (pe_calJ Cb hr (by decide) (by rfl) pass0 (pa_cons (pv 1) pa_nil))) (pss_one (ps_ret (pe_calM0 C2 R.cls hr (by decide) (passes_call (takes_of rfl rfl rfl rfl) (fun _ _ _ _ h => h)) (pv 0)))) pss_nil)
    (pss_cons (ps_if (pt_cmpR op_notIn_seq (pv 1) (pe_tup (pa_cons pe_int (pa_cons pe_int (pa_cons pe_int pa_nil)))) (by with_unfolding_all rfl)) (pss_one (ps_expr (pe_calM0 Cf R.cls hr (by decide) (passes_call (takes_of rfl rfl rfl rfl) (fun _ _ _ _ h => h)) (pv 0)))) pss_nil)
    (pss_cons (ps_expr (pe_calM0 Cn R.cls hr (by decide) (passes_call (takes_of rfl rfl rfl rfl) (fun _ _ _ _ h => h)) (pv 0)))
    (pss_cons (ps_if (pt_cmpR op_eq (pv 1) pe_int (nomark _)) (pss_one (ps_ret (pe_calM0 C3 R.cls hr (by decide) (passes_call (takes_of rfl rfl rfl rfl) (fun _ _ _ _ h => h)) (pv 0)))) pss_nil)
    (pss_cons (ps_if (pt_cmpR op_eq (pv 1) pe_int (nomark _)) (pss_one (ps_ret (pe_calM0 C4 R.cls hr (by decide) (passes_call (takes_of rfl rfl rfl rfl) (fun _ _ _ _ h => h)) (pv 0)))) pss_nil)
    (pss_one (ps_ret (pe_calM0 C5 R.cls hr (by decide) (passes_call (takes_of rfl rfl rfl rfl) (fun _ _ _ _ h => h)) (pv 0))))))))), ?_⟩
  refine st_seq (st_if (ans_val (val_call1 (g := fun c => .bl (Sx.isDigit c)) (c := Sx.pk rest) (E := E0) (val_var rfl))) (fun h1 => ?_) fun h1 => st_next ?_)
  · have e : Sx.atom rest = Sx.counted rest := by unfold Sx.atom; rw [if_pos h1]
    rw [e] at k1 k2
    exact rd_meth ⟨rfl, rfl⟩ h k1 k2
  refine st_seq (st_if (ans_val (val_call1 (g := fun c => .bl (Sx.begTok c)) (c := Sx.pk rest) (E := E0) (val_var rfl))) (fun h2 => ?_) fun h2 => st_next ?_)
  · have e : Sx.atom rest = fToken rest := by unfold Sx.atom; rw [h1, if_neg Bool.false_ne_true, if_pos h2]; rfl
    rw [e] at k1 k2
    exact rd_meth ⟨rfl, rfl⟩ h k1 k2
  have e0 : Sx.atom rest = if Sx.pk rest = 34 then Sx.quo (rest.length + 1) [] rest.tail else if Sx.pk rest = 35 then Sx.hexs (rest.length + 1) [] (Sx.skip rest.tail) else if Sx.pk rest = 124 then Sx.bars (rest.length + 1) Sx.B0 (Sx.skip rest.tail) else none := by
    unfold Sx.atom; rw [h1, if_neg Bool.false_ne_true, h2, if_neg Bool.false_ne_true]
  refine q_when (b := !decide (Sx.pk rest ∈ [34, 35, 124])) (et_is (et_test (ev_niU (K := K) (xs := iv [34, 35, 124]) (ev_var rfl) (eu_tup (ea_cons ev_c (ea_cons ev_c (ea_cons ev_c ea_nil))) (by show 3 ≤ 100000; decide)) rfl (flat_ints _))) (by rw [inV_ints])) (fun h3 H1 ex => ?_) fun h3 H1 ex => ?_
  · have h3 : ¬ Sx.pk rest ∈ [34, 35, 124] := by simpa using h3
    have h4 : Sx.pk rest ≠ 34 ∧ Sx.pk rest ≠ 35 ∧ Sx.pk rest ≠ 124 := by
      simp only [List.mem_cons, List.not_mem_nil, or_false, not_or] at h3
      exact h3
    exact fail_meth (h.exx ex) fun d H2 hk2 => k2 (by rw [e0, if_neg h4.1, if_neg h4.2.1, if_neg h4.2.2]) d H2 ((Ex.kb ex).trans hk2)
  have h3 : Sx.pk rest ∈ [34, 35, 124] := by
    cases z : decide (Sx.pk rest ∈ [34, 35, 124]) with
    | true => exact of_decide_eq_true z
    | false => rw [z] at h3; cases h3
  have hx := h.exx ex
  cases rest with
  | nil => exact absurd h3 (by decide)
  | cons c q =>
    have h3 : c = 34 ∨ c = 35 ∨ c = 124 := by simpa [Sx.pk] using h3
    refine next_meth hx fun H2 hk2 h2' => ?_
    have kb : Kb r H H2 := (Ex.kb ex).trans hk2
    have kk1 : ∀ x rest' v H', Sx.atom (c :: q) = some (x, rest') → Kb r H2 H' → RdAt C r l H' os rest' → RLst x H2 v H' → Q v H' := fun x rest' v H' hf hk h' hv => by
      obtain ⟨p, rfl, np, hp⟩ := hv
      exact k1 x rest' _ H' hf (kb.trans hk) h' ⟨p, rfl, kb.fresh h.is h2'.is np, hp⟩
    have kk2 : Sx.atom (c :: q) = none → ∀ d H', Kb r H2 H' → E (.ref CU) d H' := fun hf d H' hk => k2 hf d H' (kb.trans hk)
    refine st_seq (st_if (ans_test (val_eqI (c := c) (n := 34) (val_var rfl) val_c)) (fun h4 => ?_) fun h4 => st_next ?_)
    · have h4 : c = 34 := of_decide_eq_true h4
      have e : Sx.atom (c :: q) = fQuo q := by rw [e0]; exact if_pos h4
      rw [e] at kk1 kk2
      exact rd_meth ⟨rfl, rfl⟩ h2' kk1 kk2
    have h4 : c ≠ 34 := of_decide_eq_false h4
    refine st_seq (st_if (ans_test (val_eqI (c := c) (n := 35) (val_var rfl) val_c)) (fun h5 => ?_) fun h5 => st_next ?_)
    · have h5 : c = 35 := of_decide_eq_true h5
      have e : Sx.atom (c :: q) = fDigits q := by rw [e0]; exact (if_neg h4).trans (if_pos h5)
      rw [e] at kk1 kk2
      exact rd_meth ⟨rfl, rfl⟩ h2' kk1 kk2
    have h5 : c ≠ 35 := of_decide_eq_false h5
    have h6 : c = 124 := by omega
    have e : Sx.atom (c :: q) = fBars q := by rw [e0]; exact (if_neg h4).trans ((if_neg h5).trans (if_pos h6))
    rw [e] at kk1 kk2
    exact rd_meth ⟨rfl, rfl⟩ h2' kk1 kk2
/-! ### value -/
theorem Kb.tup {r : Addr} {H H' : Hp} {os rest : List Int} {l : Addr} (k : Kb r H H') (h : RdAt C r l H os rest) : TupEx H H' := fun b xs e => k b _ (fun z => by
  obtain ⟨dx, pl, e1, _⟩ := h.ex
  rw [z, e1] at e; cases e) e
structure ItemsAt (C r l p : Addr) (H0 H : Hp) (os rest : List Int) (ts : List Sx.T) : Prop where
  new : H0 p = none
  kb : Kb r H0 H
  rd : RdAt C r l H os rest
  lst : ∃ cs, H p = some (.lst (cs.map V.ref)) ∧ TreesAt H ts cs
  pr : p ≠ r
  pl : p ≠ l
theorem ItemsAt.go {r l p : Addr} {H0 H H' : Hp} {os rest rest' : List Int} {ts : List Sx.T} (h : ItemsAt C r l p H0 H os rest ts) (k : Kb r H H') (h' : RdAt C r l H' os rest') : ItemsAt C r l p H0 H' os rest' ts := by
  obtain ⟨cs, e1, e2⟩ := h.lst
  exact ⟨h.new, h.kb.trans k, h', ⟨cs, k _ _ h.pr e1, e2.ex (k.tup h.rd)⟩, h.pr, h.pl⟩
theorem TreesAt.snoc {H : Hp} : ∀ {ts : List Sx.T} {cs : List Addr} {t : Sx.T} {c : Addr}, TreesAt H ts cs → TreeAt H t c → TreesAt H (ts ++ [t]) (cs ++ [c])
  | [], [], _, _, _, h => ⟨h, trivial⟩
  | _ :: _, _ :: _, _, _, ⟨h1, h2⟩, h => ⟨h1, TreesAt.snoc h2 h⟩
  | [], _ :: _, _, _, e, _ => e.elim
  | _ :: _, [], _, _, e, _ => e.elim
def spVal (C CU : Addr) (d : Nat) : Sp := fun vs H Q E => ∃ r l os rest L, L < d ∧ vs = [.ref r, .int (L : Nat)] ∧ RdAt C r l H os rest ∧
  (∀ x rest' v H', Sx.pval L rest = some (x, rest') → Kb r H H' → RdAt C r l H' os rest' → RTree x H v H' → Q v H') ∧ (Sx.pval L rest = none → ∀ d H', Kb r H H' → E (.ref CU) d H')
theorem sqR5 : FnScope ["self", "left", "octet", "items"] ["self", "left"] (defScope (inClass (top 27) 5)) := ⟨rfl, rfl, rfl, by decide +kernel, rfl, by decide +kernel, by decide +kernel⟩
theorem lenVal {d : Nat} : ∀ vs H Q E, spVal C CU d vs H Q E → vs.length = (["self", "left"] : List Str).length := fun vs H Q E h => by
  obtain ⟨r, l, os, rest, L, _, rfl, _⟩ := h
  rfl
theorem ok_value (B : Blt mg) (R : RdK K mg C) (Cp : MQ P w K mg base 1 C "peek" (spPeek C)) (Cs : MQ P w K mg base 2 C "skip_spaces" (spSkip C)) (Cf : MR P w K mg base 3 C "fail" (spR C CU [] fFail RNon)) (Cn : MR P w K mg base 4 C "next" (spR C CU [] fNext RInt))
    (Ca : CalM P w K mg base (L2.CX P w) 8 C "atom" ["self", "octet"] (spA C CU)) (Cl : Cal P w K mg base CX0 1 "list_of" ["items"] spLO) (F : Fun K "value" "Reading.value" (inClass (top 27) 5) f fd) (M : Meth K C "value" f) (b : Binds K fd ["self", "left"] []) :
    ∀ d, FnOk P w K mg base (L2.CX P w) (d + 9) f fd ["self", "left"] (spVal C CU d) := by
  intro d
  induction d with
  | zero =>
    refine F.okX sqR5 lenVal (fun cdv A outer s H vs Q E hr h => ?_)
    obtain ⟨r, l, os, rest, L, h, _⟩ := h
    exact absurd h (Nat.not_lt_zero _)
  | succ d ih =>
    refine F.okX sqR5 lenVal (fun cdv A outer s H vs Q E hr h => ?_)
    obtain ⟨r, l, os, rest, L, hL, rfl, h, k1, k2⟩ := h
    refine ⟨_, pss_cons (ps_set (i := 2) sqR5.nd rfl (.inl rfl) (pe_calM0 Cp R.cls hr (by omega) pass0 (pv 0)))
      (pss_cons (ps_if (pt_cmpR op_ne (pv 2) pe_int (nomark _)) (pss_one (ps_ret (pe_tup (pa_cons pe_str (pa_cons (pe_callTy call_tuple_of (by rfl) B.tuple (by decide +kernel) (pa_cons (pe_calM Ca R.cls hr (by omega) (passes_call (takes_of rfl rfl rfl rfl) (fun _ _ _ _ h => h)) (pv 0) (pa_cons (pv 2) pa_nil)) pa_nil)) pa_nil))))) pss_nil)
      (pss_cons (ps_if (pt_cmpR op_eq (pv 1) pe_int (nomark _)) (pss_one (ps_expr (pe_calM0 Cf R.cls hr (by omega) (passes_call (takes_of rfl rfl rfl rfl) (fun _ _ _ _ h => h)) (pv 0)))) pss_nil)
      (pss_cons (ps_expr (pe_calM0 Cn R.cls hr (by omega) (passes_call (takes_of rfl rfl rfl rfl) (fun _ _ _ _ h => h)) (pv 0)))
      (pss_cons (ps_set (i := 3) sqR5.nd rfl (.inl rfl) (pe_lst pa_nil))
      (pss_cons (ps_expr (pe_calM0 Cs R.cls hr (by omega) pass0 (pv 0)))
      (pss_cons (ps_while (passes_of (X := cxOf (L2.CX P w) P w K mg base _ _ _ f cdv A outer s H E) rfl) (pt_cmpR op_ne (pe_calM0 Cp R.cls hr (by omega) pass0 (pv 0)) pe_int (nomark _))
        (pss_cons (ps_expr (pe_bm PySem.F.plainAttrs_list PySem.F.slot_list_append PySem.F.type_list_append mt_append (pv 3) (pa_cons (pe_meth (pv 0) R.cls M ih hr b .nil (passes_call (takes_of rfl rfl rfl rfl) (fun _ _ _ _ h => h)) (pa_cons (pe_op op_sub (pv 1) pe_int) pa_nil)) pa_nil)))
        (pss_one (ps_expr (pe_calM0 Cs R.cls hr (by omega) pass0 (pv 0))))))
      (pss_cons (ps_expr (pe_calM0 Cn R.cls hr (by omega) (passes_call (takes_of rfl rfl rfl rfl) (fun _ _ _ _ h => h)) (pv 0)))
      (pss_one (ps_ret (pe_calJ Cl hr (by omega) (by rfl) pass0 (pa_cons (pv 3) pa_nil))))))))))), ?_⟩
    refine st_seq (st_set (val_peek rfl h) ?_)
    refine st_seq (st_if (ans_test (val_neI (c := Sx.pk rest) (n := 40) (val_var rfl) val_c)) (fun h1 => ?_) fun h1 => st_next ?_)
    · have h1 : Sx.pk rest ≠ 40 := by simpa using h1
      have hp : Sx.pval L rest = (Sx.atom rest).map fun p => (.leaf p.1, p.2) := by
        cases L with
        | zero => rw [Sx.pval, if_pos h1]
        | succ n => rw [Sx.pval, if_pos h1]
      obtain ⟨dx, pl, e1, _⟩ := h.ex
      refine ⟨_, rfl, r, dx, _, rfl, e1, rfl, _, rfl, r, l, os, rest, rfl, h, fun x rest' v H' hf hk h' hv => ?_, fun hf d H' hk => k2 (by rw [hp, hf]; rfl) d H' hk⟩
      obtain ⟨p, rfl, np, hpl⟩ := hv
      refine ⟨p, _, rfl, .inl ⟨SqL.of hpl, fun t ht => ⟨by show 2 ≤ sizeLine; decide, fun a ha => ?_⟩⟩⟩
      have hta : t ≠ a := fun e => by rw [← e, upd_same] at ha; cases ha
      have ex : Ex H' (upd (upd H' t (.tup (iv x))) a (.tup [.str "bytes", .ref t])) := (Ex.new ht).trans (Ex.new ha)
      exact k1 (.leaf x) rest' _ _ (by rw [hp, hf]; rfl) (hk.trans (Ex.kb ex)) (h'.exx ex) ⟨a, rfl, t, upd_same, by rw [upd_ne hta, upd_same]⟩
    have h1 : Sx.pk rest = 40 := by simpa using h1
    refine st_seq (st_if (ans_test (val_eqI (c := (L : Int)) (n := 0) (val_var rfl) val_c)) (fun h2 => ?_) fun h2 => st_next ?_)
    · have h2 : (L : Int) = 0 := of_decide_eq_true h2
      have h2 : L = 0 := by omega
      subst h2
      exact fail_meth h fun d H2 hk2 => k2 (by rw [Sx.pval, if_neg (fun z => z h1)]) d H2 hk2
    have h2 : ¬ (L : Int) = 0 := of_decide_eq_false h2
    obtain ⟨L, rfl⟩ : ∃ L', L = L' + 1 := ⟨L - 1, by omega⟩
    have hp : Sx.pval (L + 1) rest = (Sx.items (Sx.pval L) (rest.length + 1) (Sx.skip rest.tail)).map fun q => (.node q.1, q.2) := by rw [Sx.pval, if_neg (fun z => z h1)]
    cases rest with
    | nil => exact absurd h1 (by decide)
    | cons c q =>
      refine next_meth h fun H1 hk1 hr1 => ?_
      refine st_seq ⟨Nat.zero_le _, fun p hp0 => ?_⟩
      have hpr : p ≠ r := fun e => by
        obtain ⟨o, ho⟩ := hr1.is
        rw [e, ho] at hp0; cases hp0
      have hpl : p ≠ l := fun e => by rw [e, hr1.lst] at hp0; cases hp0
      have np : H p = none := hk1.fresh h.is hr1.is hp0
      have I0 : ItemsAt C r l p H (upd H1 p (.lst [])) os q [] := ⟨np, hk1.mut np, hr1.mut hpr hpl, ⟨[], upd_same, trivial⟩, hpr, hpl⟩
      refine skip_meth I0.rd fun H2 hk2 hr2 => ?_
      have I1 := I0.go hk2 hr2
      have hs0 : sizeLine = 16777216 := sizeLine_eq
      have hrl := h.len
      have hsz := h.sz
      have hsk := Sx.skip_le q
      rw [List.length_cons] at hrl
      refine st_seq (st_while (fun m σ H' => ∃ ts rest' n, m = rest'.length ∧ σ = [some (.ref r), some (.int ((L + 1 : Nat) : Int)), some (.int (Sx.pk (c :: q))), some (.ref p)] ∧ ItemsAt C r l p H H' os rest' ts ∧ rest'.length < n ∧
          (Sx.items (Sx.pval L) n rest').map (fun z => (ts ++ z.1, z.2)) = Sx.items (Sx.pval L) (q.length + 2) (Sx.skip q) ∧ ts.length + rest'.length ≤ q.length) (Sx.skip q).length
        ⟨[], Sx.skip q, q.length + 2, rfl, rfl, I1, by omega, by simp, by simpa using hsk⟩ ?_)
      rintro m σ H' ⟨ts, rest', n, rfl, rfl, I, hn, he, hl⟩
      obtain ⟨n, rfl⟩ : ∃ n', n = n' + 1 := ⟨n - 1, by omega⟩
      rw [Sx.items] at he
      obtain ⟨cs, ecs, htr⟩ := I.lst
      have hcl := htr.length
      refine ⟨_, ans_test (val_neI (c := Sx.pk rest') (n := 41) (val_peek rfl I.rd) val_c), fun h3 => ?_, fun h3 => ?_⟩
      · have h3 : Sx.pk rest' ≠ 41 := by simpa using h3
        rw [if_neg h3] at he
        obtain ⟨dx, pl, e1, _⟩ := I.rd.ex
        refine st_seq ⟨_, rfl, .inl ⟨rfl, _, SqL.of ecs⟩, ⟨_, rfl, r, dx, _, rfl, e1, rfl, val_sub (c := (L : Nat)) (val_var rfl) val_c (by omega) _ ⟨r, l, os, rest', L, by omega, rfl, I.rd, fun x r2 v H3 hf hk3 hr3 hv => ?_, fun hf d H3 hk3 => k2 ?_ d H3 (I.kb.trans hk3)⟩⟩⟩
        · obtain ⟨a, rfl, hta⟩ := hv
          have I3 := I.go hk3 hr3
          obtain ⟨cs3, ecs3, htr3⟩ := I3.lst
          have hcl3 := htr3.length
          have hpv := (Sx.pval_len L rest' x r2 hf).2
          rw [hf] at he
          refine ⟨p, _, _, rfl, rfl, ecs3, by rw [List.length_map, ← hcl3]; omega, ?_⟩
          have tx : TupEx H3 (upd H3 p (.lst (cs3.map V.ref ++ [.ref a]))) := fun y zs hy => by rw [upd_ne (fun e => by rw [e, ecs3] at hy; cases hy)]; exact hy
          have I4 : ItemsAt C r l p H (upd H3 p (.lst (cs3.map V.ref ++ [.ref a]))) os r2 (ts ++ [x]) := ⟨I.new, I3.kb.mut I.new, I3.rd.mut I.pr I.pl, ⟨cs3 ++ [a], by rw [upd_same, List.map_append]; rfl, (htr3.ex tx).snoc (hta.ex tx)⟩, I.pr, I.pl⟩
          refine skip_meth I4.rd fun H5 hk5 hr5 => ?_
          have hsk2 := Sx.skip_le r2
          refine ⟨(Sx.skip r2).length, by omega, ts ++ [x], Sx.skip r2, n, rfl, rfl, I4.go hk5 hr5, by omega, ?_, by rw [List.length_append]; simp only [List.length_cons, List.length_nil]; omega⟩
          rw [← he]
          show _ = Option.map _ (Option.map _ (Sx.items (Sx.pval L) n (Sx.skip r2)))
          rw [Option.map_map]
          congr 1
          funext z
          simp
        · rw [hp]
          show Option.map _ (Sx.items (Sx.pval L) (q.length + 2) (Sx.skip q)) = none
          rw [← he, hf]
          rfl
      · have h3 : Sx.pk rest' = 41 := by simpa using h3
        rw [if_pos h3] at he
        cases rest' with
        | nil => exact absurd h3 (by decide)
        | cons c2 q2 =>
          refine next_meth I.rd fun H4 hk4 hr4 => ?_
          have I4 := I.go hk4 hr4
          obtain ⟨cs4, ecs4, htr4⟩ := I4.lst
          refine ⟨_, rfl, p, cs4, rfl, ecs4, fun a b' H5 ex5 ha hb => ?_⟩
          refine k1 (.node ts) q2 _ _ ?_ (I4.kb.trans (Ex.kb ex5)) (I4.rd.exx ex5) ⟨a, rfl, b', cs4, ha, hb, htr4.ex (Hd.Ex.tup ex5)⟩
          rw [hp]
          show Option.map _ (Sx.items (Sx.pval L) (q.length + 2) (Sx.skip q)) = _
          rw [← he]
          simp
/-! ### read_sexp -/
def spRS (CU : Addr) : Sp := fun vs H Q E => ∃ a os, vs = [.ref a] ∧ H a = some (.lst (iv os)) ∧ os.length < 10000000 ∧
  (∀ t p H', Sx.readF os = some t → Ex H H' → TreeAt H' t p → Q (.ref p) H') ∧ (Sx.readF os = none → ∀ d H', Ex H H' → E (.ref CU) d H')
theorem sq28 : FnScope ["octets", "reading", "value"] ["octets"] (defScope (top 28)) := ⟨rfl, rfl, rfl, by decide +kernel, rfl, by decide +kernel, by decide +kernel⟩
theorem Kb.ex {r : Addr} {H0 H H' : Hp} (h : Kb r H H') (e : Ex H0 H) (n : H0 r = none) : Ex H0 H' := fun b o hb => h b o (ne_of_none hb n) (e b o hb)
theorem ok_read_sexp (B : Blt mg) (R : RdK K mg C) (gD : ∃ t, mg "MOST_DEPTH" = some (.int 24 t)) (Ci : CalC P w K mg base 1 C ["self", "octets"] (spRI C)) (Cs : MQ P w K mg base 2 C "skip_spaces" (spSkip C)) (Cf : MR P w K mg base 3 C "fail" (spR C CU [] fFail RNon))
    (Cv : CalM P w K mg base (L2.CX P w) 34 C "value" ["self", "left"] (spVal C CU 25)) (F : Fun K "read_sexp" "read_sexp" (top 28) f fd) : FnOk P w K mg base (L2.CX P w) 35 f fd ["octets"] (spRS CU) := by
  refine F.okX sq28 (fun vs H Q E h => ?_) (fun cdv A outer s H vs Q E hr h => ?_)
  · obtain ⟨a, os, rfl, _⟩ := h
    rfl
  obtain ⟨a, os, rfl, ha, hz, k1, k2⟩ := h
  obtain ⟨tD, gD⟩ := gD
  refine ⟨_, pss_cons (ps_set (i := 1) sq28.nd rfl (.inl rfl) (pe_calC Ci hr (by decide) (by rfl) R.gC (pa_cons (pv 0) pa_nil)))
    (pss_cons (ps_expr (pe_calM0 Cs R.cls hr (by decide) pass0 (pv 1)))
    (pss_cons (ps_set (i := 2) sq28.nd rfl (.inl rfl) (pe_calM Cv R.cls hr (by decide) (passes_call (takes_of rfl rfl rfl rfl) (fun _ _ _ _ h => h)) (pv 1) (pa_cons (pe_glob (by rfl) gD (v := .int 24) ⟨_, rfl⟩) pa_nil)))
    (pss_cons (ps_expr (pe_calM0 Cs R.cls hr (by decide) pass0 (pv 1)))
    (pss_cons (ps_if (pt_cmpR op_lt (pe_fld (pv 1) rfl) (pe_callB call_len (by rfl) B.len (by decide +kernel) (pa_cons (pe_fld (pv 1) rfl) pa_nil)) (nomark _)) (pss_one (ps_expr (pe_calM0 Cf R.cls hr (by decide) (passes_call (takes_of rfl rfl rfl rfl) (fun _ _ _ _ h => h)) (pv 1)))) pss_nil)
    (pss_one (ps_ret (pv 2))))))), ?_⟩
  refine ⟨_, rfl, fun r dx nr ndx nex => ?_⟩
  have hke : Ex H (upd (upd H dx (.own r)) r (.ins C dx [])) := (Ex.new ndx).trans (Ex.new (by rw [upd_ne (Ne.symm nex)]; exact nr))
  refine ⟨r, dx, a, os, rfl, upd_same, hke _ _ ha, hz, fun l H1 hl hR hM => ⟨rfl, ?_⟩⟩
  have hl0 : H l = none := by
    cases z : H l with
    | none => rfl
    | some o => rw [hke _ _ z] at hl; cases hl
  have E1 : Ex H H1 := fun b o hb => (hM b (ne_of_none hb nr) (ne_of_none hb hl0)).trans (hke _ _ hb)
  obtain ⟨dx1, pl1, i1, _⟩ := hR.ex
  refine ⟨_, rfl, r, dx1, _, rfl, i1, rfl, r, l, os, os, rfl, hR, fun H2 hk2 hR2 => ?_⟩
  have E2 := hk2.ex E1 nr
  obtain ⟨dx2, pl2, i2, _⟩ := hR2.ex
  refine ⟨_, rfl, r, dx2, _, rfl, i2, rfl, r, l, os, Sx.skip os, 24, by decide, rfl, hR2, fun t r3 v H3 hf hk3 hR3 hv => ?_, fun hf d H3 hk3 => k2 (by unfold Sx.readF; rw [hf]; rfl) d H3 (hk3.ex E2 nr)⟩
  obtain ⟨p, rfl, htp⟩ := hv
  have E3 := hk3.ex E2 nr
  obtain ⟨dx3, pl3, i3, _⟩ := hR3.ex
  refine ⟨_, rfl, r, dx3, _, rfl, i3, rfl, r, l, os, r3, rfl, hR3, fun H4 hk4 hR4 => ?_⟩
  have E4 := hk4.ex E3 nr
  have ht4 := htp.ex (hk4.tup hR3)
  obtain ⟨dx4, i4, d4⟩ := hR4.plc
  have l4 := hR4.len
  have hrd : Sx.readF os = if Sx.skip r3 = [] then some t else none := by unfold Sx.readF; rw [hf]; rfl
  have vp : Val (tFld K (tVar 1) "place") [some (.ref a), some (.ref r), some (.ref p)] H4 (.int ((os.length - (Sx.skip r3).length : Nat) : Int)) := val_fld (val_var rfl) i4 R.cls R.plc rfl
  have vo : Val (tFld K (tVar 1) "octets") [some (.ref a), some (.ref r), some (.ref p)] H4 (.ref l) := val_fld (val_var rfl) i4 R.cls R.oct rfl
  refine st_seq (st_if (ans_test (val_lt (b := (os.length : Int)) vp (val_lenL (K := K) vo hR4.lst (List.length_map _).symm))) (fun h1 => ?_) fun h1 => st_next ?_)
  · have h1 : ((os.length - (Sx.skip r3).length : Nat) : Int) < (os.length : Int) := of_decide_eq_true h1
    refine ⟨_, rfl, r, dx4, _, rfl, i4, rfl, r, l, os, _, rfl, hR4, (fun _ _ _ _ hf => nomatch hf), fun _ d H5 hk5 => k2 ?_ d H5 (hk5.ex E4 nr)⟩
    rw [hrd, if_neg]
    intro e
    rw [e] at h1
    simp at h1
  · have h1 : ¬ ((os.length - (Sx.skip r3).length : Nat) : Int) < (os.length : Int) := of_decide_eq_false h1
    have e : Sx.skip r3 = [] := List.length_eq_zero_iff.mp (by omega)
    rw [if_pos e] at hrd
    exact st_ret (val_var rfl) (k1 t p H4 hrd E4 ht4)
end
end Hd
end
/-! ## Hd12 -/
section
set_option maxRecDepth 100000
set_option maxHeartbeats 4000000
set_option linter.all false
/-! write_sexp, over the wider logic. -/
namespace Hd
open PySem PySem.Spec PyProof.Rows L2 Evl
theorem lacks_body : ∃ q, defBody (top 10) = Rx.kBody q := ⟨fun i => ([_, _, _, _, _, _, _, _, _, _, _, _, _, _, _, _, _, _, _, _, _, _, _, _, _] : List Pos).getD i ⟨0, 0, 0, 0⟩, rfl⟩
theorem walk_body : ∃ p, defBody (top 8) = Rx.wBody p := ⟨fun i => ([_, _, _, _, _, _, _, _, _, _, _, _, _] : List Pos).getD i ⟨0, 0, 0, 0⟩, rfl⟩
/-! ### a tree's walk -/
theorem parts_of {H : Hp} {t : Sx.T} {a : Addr} (h : TreeAt H t a) : ∃ cs, Rx.PartsOf (Rx.tupOnly H) a cs ∧ (match t with | .leaf _ => cs = [] | .node ts => TreesAt H ts cs) := by
  cases t with
  | leaf xs =>
    obtain ⟨b, e1, e2⟩ := h
    exact ⟨[], .inl ⟨_, Rx.tupOnly_tup e1, rfl⟩, rfl⟩
  | node ts =>
    obtain ⟨b, cs, e1, e2, e3⟩ := h
    exact ⟨cs, .inr ⟨b, Rx.tupOnly_tup e1, Rx.tupOnly_tup e2⟩, e3⟩
theorem pre_of {H : Hp} : ∀ (d : Nat) (t : Sx.T) (a : Addr), TreeAt H t a → Sx.Dep d t → ∃ xs, Rx.Pre (Rx.tupOnly H) (d + 1) a xs := by
  intro d
  induction d with
  | zero =>
    intro t a h hd
    obtain ⟨cs, hp, hc⟩ := parts_of h
    cases t with
    | node ts => exact hd.elim
    | leaf xs =>
      have hc : cs = [] := hc
      subst hc
      exact ⟨_, [], [], hp, .nil, rfl⟩
  | succ d ih =>
    intro t a h hd
    obtain ⟨cs, hp, hc⟩ := parts_of h
    have key : ∀ (ts : List Sx.T) (cs : List Addr), TreesAt H ts cs → (∀ t ∈ ts, Sx.Dep d t) → ∃ xss, Paired (Rx.Pre (Rx.tupOnly H) (d + 1)) cs xss := by
      intro ts
      induction ts with
      | nil =>
        intro cs h _
        cases cs with
        | nil => exact ⟨[], .nil⟩
        | cons c cs => exact h.elim
      | cons t ts iht =>
        intro cs h hd
        cases cs with
        | nil => exact h.elim
        | cons c cs =>
          obtain ⟨xs, hx⟩ := ih t c h.1 (hd t List.mem_cons_self)
          obtain ⟨xss, hxs⟩ := iht cs h.2 fun u hu => hd u (List.mem_cons_of_mem _ hu)
          exact ⟨xs :: xss, .cons hx hxs⟩
    cases t with
    | leaf xs =>
      have hc : cs = [] := hc
      subst hc
      exact ⟨_, [], [], hp, .nil, rfl⟩
    | node ts =>
      obtain ⟨xss, hx⟩ := key ts cs hc hd
      exact ⟨_, cs, xss, hp, hx, rfl⟩
/-- a def of the module that can be called, over the wider logic -/
structure CalX (P : Program) (w : World) (K : PySem.W.Frag) (mg : Str → Option Value) (base : Heap) (CX : CXT) (k : Nat) (x : Str) (ps : List Str) (sp : Sp) : Prop where
  ex : ∃ f fd, Rx.FnX P w K mg base CX k f fd ps sp ∧ mg x = some (.ref f) ∧ PySem.W.keepIn K (.ref f) = true ∧ Binds K fd ps []
theorem pex_cal {X : Cx} {CX : CXT} {j k : Nat} {x : Str} {ps : List Str} {sp : Sp} {E : XK} {e : Expr} {es : List Expr} {t : TA} {p pos : Pos} (c : CalX X.prog X.w X.K X.mg X.base CX j x ps sp) (hr : Room k X.A) (hj : j ≤ k) (hg : Gl X x) (hx : Passes CX X E)
    (ha : Rx.PAX X (e :: es) t) (hdb : (x == ("__debug__" : Str)) = false := by decide) (he : starEach (e :: es) X.env = (false, eval e X.env) :: starEach es X.env := by rfl) (hpl : (backTo pos (starEach es X.env)).any (·.1) = false := by rfl) :
    Rx.PEX X (.Call (.Name x p) (e :: es) [] pos) (tCall sp [] E t) := by
  obtain ⟨f, fd, F, g, kp, b⟩ := c.ex
  exact Rx.pex_call F (hr.mono hj) hg g kp b hx ha hdb he hpl
/-- write_sexp(value) -/
def spWS : Sp := fun vs H Q _ => ∃ a t, vs = [.ref a] ∧ TreeAt H t a ∧ Sx.Dep 24 t ∧ Sx.wt t < 10000000 ∧ ∀ p H', Ex H H' → H p = none → H' p = some (.lst (iv (Sx.wr t))) → Q (.ref p) H'
theorem sc12 : FnScope ["value", "lack"] ["value"] (defScope (top 12)) := ⟨rfl, rfl, rfl, by decide +kernel, rfl, by decide +kernel, by decide +kernel⟩
section
variable {P : Program} {w : World} {K : PySem.W.Frag} {mg : Str → Option Value} {base : Heap} {f : Addr} {fd : FuncData}
theorem ok_write_sexp (Cl : CalX P w K mg base CX0 29 "sexp_lacks" ["value"] (Rx.spLacks 25)) (Cw : Cal P w K mg base CX0 26 "write_part" ["value"] (spWP 25)) (F : L2.Fun K "write_sexp" "write_sexp" (top 12) f fd) :
    Rx.FnX P w K mg base CX0 30 f fd ["value"] spWS := by
  refine Rx.fnx_of F sc12 (fun vs H Q E h => ?_) (fun cdv A outer s H vs Q E hr h => ?_)
  · obtain ⟨a, t, rfl, _⟩ := h
    rfl
  obtain ⟨a, t, rfl, ht, hd, hw, k⟩ := h
  refine ⟨_, Rx.pssx_cons (Rx.psx_set (i := 1) sc12.nd rfl (.inl rfl) (pex_cal Cl hr (by decide) (by rfl) pass0 (Rx.pax_of (pa_cons (pv 0) pa_nil))))
    (Rx.pssx_cons (Rx.psx_if (Rx.ptx_of (pt_cmpR op_notN (pv 1) pe_non (nomark _))) (Rx.pssx_of pss_never) (Rx.pssx_of pss_nil))
    (Rx.pssx_one (Rx.psx_of (ps_ret (pe_calJ Cw hr (by decide) (by rfl) pass0 (pa_cons (pv 0) pa_nil)))))), ?_⟩
  obtain ⟨xs, hx⟩ := pre_of 24 t a ht hd
  refine ⟨_, rfl, a, 25, xs, rfl, Nat.le_refl _, hx, ?_⟩
  refine st_seq (st_no (ans_notN (val_var rfl) rfl) (st_next ?_))
  exact ⟨_, rfl, a, t, 24, rfl, rfl, ht, hd, hw, k⟩
end
end Hd
end
/-! ## Hd13 -/
section
set_option maxRecDepth 100000
set_option maxHeartbeats 4000000
set_option linter.all false
/-! The law's defs: cell, numbers. -/
namespace Hd
open PySem PySem.Spec PyProof.Rows L2 Evl
section
variable {K : PySem.W.Frag} {σ : L2.St} {H : Hp} {ta tb : TE} {a : Addr} {xs : List V} {n : Nat} {i : Int}
theorem val_int (h : Val ta σ H (.int i)) : Val (tCB (fun xs H Q => (∃ i, xs = [V.int i] ∧ Q (.int i) H) ∨ ∃ k, xs = [V.bl k] ∧ Q (.int (if k then 1 else 0)) H) (tCons ta tNil)) σ H (.int i) := fun Q q => h _ (.inl ⟨i, rfl, q⟩)
theorem val_abs (h : Val ta σ H (.int i)) : Val (tCB (fun xs H Q => ∃ i, xs = [V.int i] ∧ Q (.int (if i < 0 then -i else i)) H) (tCons ta tNil)) σ H (.int (if i < 0 then -i else i)) := fun Q q => h _ ⟨i, rfl, q⟩
theorem val_lenS (h1 : Val ta σ H (.ref a)) (h : SqL K H a xs) (e : n = xs.length) : Val (tCB (fun xs H Q => ∃ x n, xs = [x] ∧ LenV K x H n ∧ Q (.int n) H) (tCons ta tNil)) σ H (.int (n : Int)) := fun Q q =>
  h1 _ ⟨_, _, rfl, .inl ⟨_, h, e⟩, q⟩
theorem val_lenT (h1 : Val ta σ H (.ref a)) (h : SqT K H a xs) (e : n = xs.length) : Val (tCB (fun xs H Q => ∃ x n, xs = [x] ∧ LenV K x H n ∧ Q (.int n) H) (tCons ta tNil)) σ H (.int (n : Int)) := fun Q q =>
  h1 _ ⟨_, _, rfl, .inr ⟨_, h, e⟩, q⟩
end
theorem iv_getElem? {l : List Int} {i : Nat} {c : Int} (h : l[i]? = some c) : (iv l)[i]? = some (.int c) := by rw [List.getElem?_map, h]; rfl
section
variable {P : Program} {w : World} {K : PySem.W.Frag} {mg : Str → Option Value} {base : Heap} {f : Addr} {fd : FuncData}
/-! ### cell -/
def spCell (K : PySem.W.Frag) : Sp := fun vs H Q _ => ∃ (a : Addr) (k : Nat) (ns : List Int), vs = [.ref a, .int (k : Int)] ∧ SqL K H a (iv ns) ∧ Q (.int (ns.getD k 0)) H
theorem sc30 : FnScope ["_law_script", "_law_k"] ["_law_script", "_law_k"] (defScope (top 30)) := ⟨rfl, rfl, rfl, by decide +kernel, rfl, by decide +kernel, by decide +kernel⟩
theorem ok_cell (B : Blt mg) (F : Fun K "_law_cell" "_law_cell" (top 30) f fd) : FnOk P w K mg base CX0 1 f fd ["_law_script", "_law_k"] (spCell K) := by
  refine F.ok sc30 (fun vs H Q E h => ?_) (fun cdv A outer s H vs Q E hr h => ?_)
  · obtain ⟨a, k, ns, rfl, _⟩ := h
    rfl
  obtain ⟨a, k, ns, rfl, h, q⟩ := h
  refine ⟨_, pss_cons (ps_if (pt_cmpR op_lt (pv 1) (pe_callB call_len (by rfl) B.len (by decide +kernel) (pa_cons (pv 0) pa_nil)) (nomark _)) (pss_one (ps_ret (pe_ix ix_list (pv 0) (pv 1) (fun _ _ => rfl)))) pss_nil) (pss_one (ps_ret pe_int)), ?_⟩
  refine st_seq (st_if (ans_test (val_lt (a := (k : Int)) (b := (ns.length : Int)) (val_var rfl) (val_lenS (val_var rfl) h (List.length_map _).symm))) (fun h1 => ?_) fun h1 => st_next ?_)
  · have h1 : k < ns.length := by have := of_decide_eq_true h1; omega
    refine st_ret (val_ixL (val_var rfl) (val_var rfl) h (atI_iv (List.getElem?_eq_getElem h1))) ?_
    rw [List.getD_eq_getElem?_getD, List.getElem?_eq_getElem h1] at q
    exact q
  · have h1 : ¬ k < ns.length := by have := of_decide_eq_false h1; omega
    rw [List.getD_eq_getElem?_getD, List.getElem?_eq_none (by omega)] at q
    exact q
/-! ### numbers -/
def spNums : Sp := fun vs H Q _ => ∃ (c : Int) (m : Nat), vs = [.int c, .int (m : Int)] ∧ m ≤ 1000 ∧ ∀ p H' (l : List Int), l.length = m → H p = none → Ex H H' → H' p = some (.lst (iv l)) → Q (.ref p) H'
theorem sc31 : FnScope ["_law_cell_here", "_law_many_here", "_law_rest", "_law_size", "_law_numbers_here", "_law_k", "_law_mixed"] ["_law_cell_here", "_law_many_here"] (defScope (top 31)) := ⟨rfl, rfl, rfl, by decide +kernel, rfl, by decide +kernel, by decide +kernel⟩
theorem ok_numbers (B : Blt mg) (F : Fun K "_law_numbers" "_law_numbers" (top 31) f fd) : FnOk P w K mg base CX0 1 f fd ["_law_cell_here", "_law_many_here"] spNums := by
  refine F.ok sc31 (fun vs H Q E h => ?_) (fun cdv A outer s H vs Q E hr h => ?_)
  · obtain ⟨c, m, rfl, _⟩ := h
    rfl
  obtain ⟨c, m, rfl, hm, k⟩ := h
  refine ⟨_, pss_cons (ps_set (i := 2) sc31.nd rfl (.inl rfl) (pe_callB call_abs (by rfl) B.abs (by decide +kernel) (pa_cons (pv 0) pa_nil)))
    (pss_cons (ps_set (i := 3) sc31.nd rfl (.inl rfl) (pv 2))
    (pss_cons (ps_set (i := 4) sc31.nd rfl (.inl rfl) (pe_lst pa_nil))
    (pss_cons (ps_for PassesOwn.never rfl (pi_range1 rfl B.range (pa_cons (pv 1) pa_nil)) (pg_name (i := 5) sc31.nd rfl (.inl rfl))
      (pss_one (ps_if (PW.pt (pw_and (pt_cmpR op_ge (pv 3) (pe_op op_pow pe_int pe_int) (nomark _)) (pw_and1 (pt_cmpR op_gt (pv 2) pe_int (nomark _)))))
        (pss_cons (ps_expr (pe_bm PySem.F.plainAttrs_list PySem.F.slot_list_append PySem.F.type_list_append mt_append (pv 4) (pa_cons (pe_op op_mod (pe_callTy call_int1 (by rfl) B.int (by decide +kernel) (pa_cons (pv 2) pa_nil)) pe_int) pa_nil)))
        (pss_one (ps_set (i := 2) sc31.nd rfl (.inl rfl) (pe_op op_fdiv (pv 2) pe_int))))
        (pss_cons (ps_set (i := 6) sc31.nd rfl (.inl rfl) (pe_op op_mod (pe_callTy call_int1 (by rfl) B.int (by decide +kernel) (pa_cons (pe_op op_add (pe_op op_add (pe_op op_mul (pv 3) pe_int) (pe_op op_mul (pv 5) pe_int)) pe_int) pa_nil)) pe_int))
        (pss_cons (ps_set (i := 6) sc31.nd rfl (.inl rfl) (pe_op op_mod (pe_callTy call_int1 (by rfl) B.int (by decide +kernel) (pa_cons (pe_op op_add (pe_op op_add (pe_op op_mul (pv 6) (pv 6)) (pe_op op_mul pe_int (pv 5))) pe_int) pa_nil)) pe_int))
        (pss_one (ps_expr (pe_bm PySem.F.plainAttrs_list PySem.F.slot_list_append PySem.F.type_list_append mt_append (pv 4) (pa_cons (pe_op op_mod (pe_callTy call_int1 (by rfl) B.int (by decide +kernel) (pa_cons (pe_op op_fdiv (pv 6) pe_int) pa_nil)) pe_int) pa_nil)))))))))
    (pss_one (ps_ret (pv 4)))))), ?_⟩
  refine st_seq (st_set (val_abs (val_var rfl)) ?_)
  refine st_seq (st_set (val_var rfl) ?_)
  refine st_seq ⟨Nat.zero_le _, fun p hp => ?_⟩
  have hs0 : sizeLine = 16777216 := sizeLine_eq
  refine st_seq ⟨_, rfl, _, rfl, by omega, by omega, for_range (lo := 0) (n := m) (fun i σ H' => ∃ rest size v5 v6 l, σ = [some (.int c), some (.int (m : Int)), some (.int rest), some (.int size), some (.ref p), v5, v6] ∧ l.length = i ∧ Ex H H' ∧ H' p = some (.lst (iv l)))
    ⟨_, _, _, _, [], rfl, rfl, Ex.new hp, upd_same⟩ ?_ ?_⟩
  · rintro i σ H' hi ⟨rest, size, v5, v6, l, rfl, hl, ex, hpl⟩
    have z : l.length < sizeLine := by omega
    have done : ∀ (x : Int), (∃ l', l'.length = i + 1 ∧ Ex H (upd H' p (.lst (iv l ++ [.int x]))) ∧ upd H' p (.lst (iv l ++ [.int x])) p = some (.lst (iv l'))) := fun x => ⟨l ++ [x], by rw [List.length_append, hl]; rfl, ex.mut hp, by rw [upd_same, iv_append]; rfl⟩
    refine st_if (ans_and2 (ans_test (val_ge (a := size) (b := 10 ^ 18) (val_var rfl) (val_op val_c val_c fun Q q => ⟨10, 18, rfl, rfl, ⟨by decide, by decide, by decide⟩, q⟩))) (ans_test (val_gt (a := rest) (b := 0) (val_var rfl) val_c))) (fun h1 => ?_) fun h1 => ?_
    · refine st_seq (st_append (y := .int (rest % 1000)) (val_var rfl) hpl (val_mod (val_int (val_var rfl)) val_c (by decide) rfl) (by rw [List.length_map]; exact z) ?_)
      refine st_set (val_div (a := rest) (val_var rfl) val_c ⟨by decide, by decide⟩ rfl) ?_
      obtain ⟨l', h1, h2, h3⟩ := done (rest % 1000)
      exact ⟨_, _, _, _, l', rfl, h1, h2, h3⟩
    · refine st_seq (st_set (v := .int ((size * 48271 + (0 + (i : Int)) * 69621 + 11) % 2147483647)) (val_mod (val_int (val_add (val_add (val_mul (val_var rfl) val_c (by decide) rfl) (val_mul (val_var rfl) val_c (by decide) rfl) rfl) val_c rfl)) val_c (by decide) rfl) ?_)
      generalize hx : (size * 48271 + (0 + (i : Int)) * 69621 + 11) % 2147483647 = x
      have hx0 : 0 ≤ x ∧ x < 2147483647 := by omega
      refine st_seq (st_set (v := .int ((x * x + 40692 * (0 + (i : Int)) + 3) % 2147483629)) (val_mod (val_int (val_add (val_add (val_mul (val_var rfl) (val_var rfl) ⟨by omega, by omega⟩ rfl) (val_mul val_c (val_var rfl) ⟨by omega, by omega⟩ rfl) rfl) val_c rfl)) val_c (by decide) rfl) ?_)
      generalize hy : (x * x + 40692 * (0 + (i : Int)) + 3) % 2147483629 = y
      refine st_append (y := .int (y / 7 % 1000)) (val_var rfl) hpl (val_mod (val_int (val_div (val_var rfl) val_c ⟨by decide, by decide⟩ rfl)) val_c (by decide) rfl) (by rw [List.length_map]; exact z) ?_
      obtain ⟨l', h1, h2, h3⟩ := done (y / 7 % 1000)
      exact ⟨_, _, _, _, l', rfl, h1, h2, h3⟩
  · rintro σ H' ⟨rest, size, v5, v6, l, rfl, hl, ex, hpl⟩
    exact st_ret (val_var rfl) (k p H' l hl hp ex hpl)
end
end Hd
end
/-! ## Hd14 -/
section
set_option maxRecDepth 100000
set_option maxHeartbeats 4000000
set_option linter.all false
/-! The law's state and its draws. -/
namespace Hd
open PySem PySem.Spec PyProof.Rows L2 Evl
theorem yes_go {σ : L2.St} {H : Hp} {F G : Hp → Prop} (h : F H) : tYes σ H fun b H3 => if b = true then F H3 else G H3 := by
  show (if true = true then F H else G H)
  rw [if_pos rfl]
  exact h
/-- the state of the draws -/
def StAt (H : Hp) (st nl : Addr) (left : Int) : Prop := ∃ (at_ bud : Int) (sc : V) (l : List Int), H st = some (.lst [.ref nl, .int at_, .int left, sc, .int bud]) ∧ H nl = some (.lst (iv l)) ∧ l.length = 120
theorem StAt.is {H : Hp} {st nl : Addr} {left : Int} (h : StAt H st nl left) : ∃ o, H st = some o := by
  obtain ⟨_, _, _, _, h, _⟩ := h
  exact ⟨_, h⟩
theorem StAt.exx {H H' : Hp} {st nl : Addr} {left : Int} (h : StAt H st nl left) (e : Ex H H') : StAt H' st nl left := by
  obtain ⟨a, b, sc, l, h1, h2, h3⟩ := h
  exact ⟨a, b, sc, l, e _ _ h1, e _ _ h2, h3⟩
theorem StAt.mut {H : Hp} {st nl D : Addr} {o : HO} {left : Int} (h : StAt H st nl left) (h1 : D ≠ st) (h2 : D ≠ nl) : StAt (upd H D o) st nl left := by
  obtain ⟨a, b, sc, l, e1, e2, e3⟩ := h
  exact ⟨a, b, sc, l, by rw [upd_ne (Ne.symm h1)]; exact e1, by rw [upd_ne (Ne.symm h2)]; exact e2, e3⟩
theorem StAt.ne {H : Hp} {st nl D : Addr} {left : Int} (h : StAt H st nl left) (hD : H D = none) : D ≠ st ∧ D ≠ nl := by
  obtain ⟨a, b, sc, l, e1, e2, e3⟩ := h
  exact ⟨fun e => (by rw [e, e1] at hD; cases hD), fun e => (by rw [e, e2] at hD; cases hD)⟩
theorem StAt.tup {H H' : Hp} {st nl : Addr} {left : Int} (h : StAt H st nl left) (k : Kb st H H') : TupEx H H' := fun b xs e => k b _ (fun z => by
  obtain ⟨_, _, _, _, h, _⟩ := h
  rw [z, h] at e; cases e) e
theorem nl_ne {H : Hp} {st nl : Addr} {a b c : Int} {sc : V} {l : List Int} (h1 : H st = some (.lst [.ref nl, .int a, .int b, sc, .int c])) (h2 : H nl = some (.lst (iv l))) : nl ≠ st := fun e => by
  rw [e, h1] at h2
  cases l with
  | nil => cases h2
  | cons x l => cases h2
section
variable {P : Program} {w : World} {K : PySem.W.Frag} {mg : Str → Option Value} {base : Heap} {f : Addr} {fd : FuncData}
abbrev CA (P : Program) (w : World) (K : PySem.W.Frag) (mg : Str → Option Value) (base : Heap) (j : Nat) (x : Str) (ps : List Str) (sp : Sp) : Prop := Cal P w K mg base CX0 j x ps sp
/-! ### state -/
def spState (K : PySem.W.Frag) : Sp := fun vs H Q _ => ∃ (a : Addr) (left : Int) (ns : List Int), vs = [.ref a, .int left] ∧ SqL K H a (iv ns) ∧ ∀ p nl H', H p = none → Ex H H' → StAt H' p nl left → Q (.ref p) H'
theorem sc32 : FnScope ["_law_script", "_law_left", "_law_numbers_here", "_law_parted", "_law_k"] ["_law_script", "_law_left"] (defScope (top 32)) := ⟨rfl, rfl, rfl, by decide +kernel, rfl, by decide +kernel, by decide +kernel⟩
theorem ok_state (B : Blt mg) (Cc : CA P w K mg base 1 "_law_cell" ["_law_script", "_law_k"] (spCell K)) (Cn : CA P w K mg base 1 "_law_numbers" ["_law_cell_here", "_law_many_here"] spNums) (F : Fun K "_law_state" "_law_state" (top 32) f fd) :
    FnOk P w K mg base CX0 2 f fd ["_law_script", "_law_left"] (spState K) := by
  refine F.ok sc32 (fun vs H Q E h => ?_) (fun cdv A outer s H vs Q E hr h => ?_)
  · obtain ⟨a, left, ns, rfl, _⟩ := h
    rfl
  obtain ⟨a, left, ns, rfl, hS, k⟩ := h
  refine ⟨_, pss_cons (ps_set (i := 2) sc32.nd rfl (.inl rfl) (pe_lst pa_nil))
    (pss_cons (ps_setLc (i := 3) (own := [("_law_k", 4)]) (g := gName 4) (tt := tYes) rfl sc32.nd rfl rfl (sw_true rfl rfl rfl (by decide +kernel)) (pi_range1 (by rfl) B.range (pa_cons pe_int pa_nil))
      (blkOk_by (N := ["_law_script", "_law_left", "_law_numbers_here", "_law_parted", "_law_k"]) (sc := defScope (top 32)) (by decide +kernel)) (fun _ _ _ _ _ => pg_name (i := 4) sc32.nd rfl (Or.inl rfl)) (fun _ _ _ _ _ => pts_nil)
      (fun _ _ _ _ _ => pe_calJ Cn hr (by decide) (by rfl) pass0 (pa_cons (pe_calJ Cc hr (by decide) (by rfl) pass0 (pa_cons (pv 0) (pa_cons (pv 4) pa_nil))) (pa_cons pe_int pa_nil))))
    (pss_cons (ps_for PassesOwn.never rfl (pi_range1 (by rfl) B.range (pa_cons pe_int pa_nil)) (pg_name (i := 4) sc32.nd rfl (.inl rfl))
      (pss_cons (ps_expr (pe_bm PySem.F.plainAttrs_list PySem.F.slot_list_append PySem.F.type_list_append mt_append (pv 2) (pa_cons (pe_ix ix_list (pe_ix ix_list (pv 3) pe_int (fun _ _ => rfl)) (pv 4) (fun _ _ => rfl)) pa_nil)))
      (pss_cons (ps_expr (pe_bm PySem.F.plainAttrs_list PySem.F.slot_list_append PySem.F.type_list_append mt_append (pv 2) (pa_cons (pe_ix ix_list (pe_ix ix_list (pv 3) pe_int (fun _ _ => rfl)) (pv 4) (fun _ _ => rfl)) pa_nil)))
      (pss_one (ps_expr (pe_bm PySem.F.plainAttrs_list PySem.F.slot_list_append PySem.F.type_list_append mt_append (pv 2) (pa_cons (pe_ix ix_list (pe_ix ix_list (pv 3) pe_int (fun _ _ => rfl)) (pv 4) (fun _ _ => rfl)) pa_nil)))))))
    (pss_one (ps_ret (pe_lst (pa_cons (pv 2) (pa_cons pe_int (pa_cons (pv 1) (pa_cons (pv 0) (pa_cons pe_int pa_nil)))))))))), ?_⟩
  refine st_seq ⟨Nat.zero_le _, fun p hp => ?_⟩
  have hs0 : sizeLine = 16777216 := sizeLine_eq
  have E0 : Ex H (upd H p (.lst [])) := Ex.new hp
  refine st_seq ⟨3, rfl, by decide, by decide, fun D hD => lc_range (lo := 0) (n := 3) (fun i H' => Ex (upd H p (.lst [])) H' ∧ ∃ ps : List Addr, ps.length = i ∧ H' D = some (.lst (ps.map V.ref)) ∧ ∀ (j : Nat) q, ps[j]? = some q → q ≠ D ∧ ∃ l : List Int, l.length = 40 ∧ H' q = some (.lst (iv l)))
    ⟨Ex.new hD, [], rfl, upd_same, fun j q e => by simp at e⟩ ?_ ?_⟩
  · rintro i H' hi ⟨ex, ps, hl, hDl, hq⟩
    refine ⟨rfl, yes_go ?_⟩
    refine ⟨_, rfl, _, rfl, a, i, ns, by simp, ex_l (E0.trans ex) hS, ?_⟩
    refine ⟨_, 40, rfl, by decide, fun q H2 l hl2 hq0 ex2 hq2 => ⟨_, ex2 _ _ hDl, by rw [List.length_map]; omega, ?_⟩⟩
    have hqD : q ≠ D := fun e => by rw [e, hDl] at hq0; cases hq0
    refine ⟨(ex.trans ex2).mut hD, ps ++ [q], by rw [List.length_append, hl]; rfl, by rw [upd_same, List.map_append]; rfl, fun j q' hj => ?_⟩
    by_cases hjl : j < ps.length
    · rw [List.getElem?_append_left hjl] at hj
      obtain ⟨n1, l1, e1, e2⟩ := hq j q' hj
      exact ⟨n1, l1, e1, by rw [upd_ne n1]; exact ex2 _ _ e2⟩
    · rw [List.getElem?_append_right (by omega)] at hj
      have h0 : j - ps.length = 0 := by
        have := (List.getElem?_eq_some_iff.mp hj).1
        simp at this
        omega
      rw [h0] at hj
      cases hj
      exact ⟨hqD, l, hl2, by rw [upd_ne hqD]; exact hq2⟩
  · rintro H1 ⟨ex, ps, hl, hDl, hq⟩
    have pD : p ≠ D := fun e => by rw [← e, upd_same] at hD; cases hD
    obtain ⟨q0, h0⟩ : ∃ q, ps[0]? = some q := ⟨ps[0]'(by omega), List.getElem?_eq_getElem _⟩
    obtain ⟨q1, h1⟩ : ∃ q, ps[1]? = some q := ⟨ps[1]'(by omega), List.getElem?_eq_getElem _⟩
    obtain ⟨q2, h2⟩ : ∃ q, ps[2]? = some q := ⟨ps[2]'(by omega), List.getElem?_eq_getElem _⟩
    obtain ⟨_, l0, z0, y0⟩ := hq 0 q0 h0
    obtain ⟨_, l1, z1, y1⟩ := hq 1 q1 h1
    obtain ⟨_, l2, z2, y2⟩ := hq 2 q2 h2
    have hp1 : H1 p = some (.lst []) := ex _ _ upd_same
    have np : ∀ {q : Addr} {l : List Int}, l.length = 40 → H1 q = some (.lst (iv l)) → q ≠ p := fun {q l} hl hq e => by
      rw [e, hp1] at hq
      cases l with
      | nil => simp at hl
      | cons x l => cases hq
    refine st_seq ⟨40, rfl, by decide, by decide, for_range (lo := 0) (n := 40) (fun i σ H' => ∃ v4 l, σ = [some (.ref a), some (.int left), some (.ref p), some (.ref D), v4] ∧ l.length = 3 * i ∧ Kb p H1 H' ∧ H' p = some (.lst (iv l))) ⟨_, [], rfl, rfl, Kb.refl, hp1⟩ ?_ ?_⟩
    · rintro i σ H' hi ⟨v4, l, rfl, hl3, hk, hpl⟩
      have get : ∀ (j : Nat) (q : Addr) (lq : List Int) (hj : ps[j]? = some q) (hlq : lq.length = 40) (hq : H1 q = some (.lst (iv lq))), ∃ x, ∀ {H2 : Hp}, Kb p H1 H2 → Val (tOp (rIxL K) (tOp (rIxL K) (tVar 3) (tC (.int (j : Nat)))) (tVar 4)) [some (.ref a), some (.int left), some (.ref p), some (.ref D), some (.int (0 + (i : Int)))] H2 (.int x) := by
        intro j q lq hj hlq hq
        have hi2 : i < lq.length := by omega
        refine ⟨lq[i], fun {H2} k2 => ?_⟩
        have hx := atI_iv (List.getElem?_eq_getElem hi2)
        rw [← Int.zero_add (i : Int)] at hx
        exact val_ixL (val_ixL (i := (j : Nat)) (v := .ref q) (val_var rfl) val_c (SqL.of (k2 D _ (Ne.symm pD) hDl)) (atI_nat (by rw [List.getElem?_map, hj]; rfl))) (val_var rfl) (SqL.of (k2 q _ (np hlq hq) hq)) hx
      obtain ⟨x0, g0⟩ := get 0 q0 l0 h0 z0 y0
      obtain ⟨x1, g1⟩ := get 1 q1 l1 h1 z1 y1
      obtain ⟨x2, g2⟩ := get 2 q2 l2 h2 z2 y2
      have kb : ∀ {H2 : Hp} {o : HO}, Kb p H1 H2 → Kb p H1 (upd H2 p o) := fun k => k.trans Kb.own
      refine st_seq (st_append (val_var rfl) hpl (g0 hk) (by rw [List.length_map]; omega) ?_)
      refine st_seq (st_append (val_var rfl) upd_same (g1 (kb hk)) (by rw [List.length_append, List.length_map]; simp; omega) ?_)
      refine st_append (val_var rfl) upd_same (g2 (kb (kb hk))) (by rw [List.length_append, List.length_append, List.length_map]; simp; omega) ?_
      refine ⟨_, l ++ [x0] ++ [x1] ++ [x2], rfl, by simp; omega, kb (kb (kb hk)), ?_⟩
      rw [upd_same, iv_append, iv_append, iv_append]
      rfl
    · rintro σ H' ⟨v4, l, rfl, hl3, hk, hpl⟩
      refine ⟨_, rfl, _, rfl, _, rfl, by show 5 ≤ sizeLine; decide, fun st hst => ?_⟩
      have hpst : p ≠ st := fun e => by rw [← e, hpl] at hst; cases hst
      refine k st p _ ?_ (fun b o hb => ?_) ⟨0, 3, .ref a, l, upd_same, by rw [upd_ne hpst]; exact hpl, by omega⟩
      · cases z : H st with
        | none => rfl
        | some o => rw [hk st _ (Ne.symm hpst) (ex _ _ (E0 _ _ z))] at hst; cases hst
      · have h5 := hk b _ (ne_of_none hb hp) (ex _ _ (E0 _ _ hb))
        rw [upd_ne (ne_of_none h5 hst)]
        exact h5
/-! ### next -/
def spNext : Sp := fun vs H Q _ => ∃ (st nl : Addr) (m left : Int), vs = [.ref st, .int m] ∧ 0 < m ∧ StAt H st nl left ∧ ∀ r H', 0 ≤ r → r < m → Kb st H H' → StAt H' st nl left → Q (.int r) H'
theorem sc33 : FnScope ["_law_state_here", "_law_many_here", "_law_at"] ["_law_state_here", "_law_many_here"] (defScope (top 33)) := ⟨rfl, rfl, rfl, by decide +kernel, rfl, by decide +kernel, by decide +kernel⟩
theorem ok_next0 (B : Blt mg) (F : Fun K "_law_next" "_law_next" (top 33) f fd) : FnOk P w K mg base CX0 1 f fd ["_law_state_here", "_law_many_here"] spNext := by
  refine F.ok sc33 (fun vs H Q E h => ?_) (fun cdv A outer s H vs Q E hr h => ?_)
  · obtain ⟨st, nl, m, left, rfl, _⟩ := h
    rfl
  obtain ⟨st, nl, m, left, rfl, hm, ⟨at_, bud, sc, l, e1, e2, e3⟩, k⟩ := h
  refine ⟨_, pss_cons (ps_set (i := 2) sc33.nd rfl (.inl rfl) (pe_ix ix_list (pv 0) pe_int (fun _ _ => rfl)))
    (pss_cons (ps_asg (pe_op op_add (pv 2) pe_int) (pg_sub (pv 0) pe_int set_list))
    (pss_one (ps_ret (pe_op op_mod (pe_callTy call_int1 (by rfl) B.int (by decide +kernel) (pa_cons (pe_op op_add (pe_ix ix_list (pe_ix ix_list (pv 0) pe_int (fun _ _ => rfl)) (pe_op op_mod (pe_callTy call_int1 (by rfl) B.int (by decide +kernel) (pa_cons (pv 2) pa_nil)) pe_int) (fun _ _ => rfl)) (pe_op op_mul pe_int (pe_op op_fdiv (pv 2) pe_int))) pa_nil)) (pv 1))))), ?_⟩
  refine st_seq (st_set (val_ixL (K := K) (val_var rfl) val_c (SqL.of e1) (i := 1) (v := .int at_) rfl) ?_)
  have hne := nl_ne e1 e2
  refine st_seq (val_add (val_var (σ := [some (.ref st), some (.int m), some (.int at_)]) (i := 2) rfl) val_c rfl _ ⟨_, rfl, st, _, 1, 1, rfl, rfl, e1, rfl, ?_⟩)
  have e1' : upd H st (.lst [.ref nl, .int (at_ + 1), .int left, sc, .int bud]) st = some (.lst [.ref nl, .int (at_ + 1), .int left, sc, .int bud]) := upd_same
  have e2' : upd H st (.lst [.ref nl, .int (at_ + 1), .int left, sc, .int bud]) nl = some (.lst (iv l)) := by rw [upd_ne hne]; exact e2
  have hi : (at_ % 120).toNat < l.length := by omega
  have hx := atI_iv (List.getElem?_eq_getElem hi)
  have hc : (((at_ % 120).toNat : Nat) : Int) = at_ % 120 := by omega
  rw [hc] at hx
  refine st_ret (val_mod (val_int (val_add (val_ixL (K := K) (i := at_ % 120) (val_ixL (K := K) (i := 0) (v := .ref nl) (val_var rfl) val_c (SqL.of e1') rfl) (val_mod (val_int (val_var rfl)) val_c (by decide) rfl) (SqL.of e2') hx) (val_op (x := .int 7) val_c (val_div (val_var rfl) val_c ⟨by decide, by decide⟩ rfl) fun Q q => ⟨_, _, rfl, rfl, .inl (by decide), q⟩) rfl)) (val_var rfl) hm rfl) ?_
  exact k _ _ (Int.emod_nonneg _ (by omega)) (Int.emod_lt_of_pos _ hm) Kb.own ⟨at_ + 1, bud, sc, l, e1', e2', e3⟩
end
end Hd
end
/-! ## Hd15 -/
section
set_option maxRecDepth 100000
set_option maxHeartbeats 4000000
set_option linter.all false
/-! The law's draws: many, octets. -/
namespace Hd
open PySem PySem.Spec PyProof.Rows L2 Evl
section
variable {σ : L2.St} {H : Hp} {tb : TE} {st nl : Addr} {left m c : Int} {i : Nat} {E : XK}
theorem next_draw {Q : VK} (hs : σ[i]? = some (some (.ref st))) (hb : Val tb σ H (.int m)) (hm : 0 < m) (h : StAt H st nl left) (k : ∀ r H', 0 ≤ r → r < m → Kb st H H' → StAt H' st nl left → Q (.int r) H') :
    tCall spNext [] E (tCons (tVar i) (tCons tb tNil)) σ H Q := ⟨_, hs, hb _ ⟨st, nl, m, left, rfl, hm, h, k⟩⟩
theorem dec_int {r c : Int} : decide (V.int r = V.int c) = decide (r = c) := by rw [Bool.eq_iff_iff]; simp
theorem next_eq {Q : Bool → Hp → Prop} (hs : σ[i]? = some (some (.ref st))) (hb : Val tb σ H (.int m)) (hm : 0 < m) (h : StAt H st nl left) (k : ∀ r H', 0 ≤ r → r < m → Kb st H H' → StAt H' st nl left → Q (decide (r = c)) H') :
    tTest (tOp rEq (tCall spNext [] E (tCons (tVar i) (tCons tb tNil))) (tC (.int c))) σ H Q :=
  next_draw hs hb hm h fun r H' h1 h2 hk h' => ⟨rfl, _, rfl, by rw [dec_int]; exact k r H' h1 h2 hk h'⟩
theorem next_lt {Q : Bool → Hp → Prop} (hs : σ[i]? = some (some (.ref st))) (hb : Val tb σ H (.int m)) (hm : 0 < m) (h : StAt H st nl left) (k : ∀ r H', 0 ≤ r → r < m → Kb st H H' → StAt H' st nl left → Q (decide (r < c)) H') :
    tTest (tOp (rI0 fun i j => .bl (decide (i < j))) (tCall spNext [] E (tCons (tVar i) (tCons tb tNil))) (tC (.int c))) σ H Q :=
  next_draw hs hb hm h fun r H' h1 h2 hk h' => ⟨_, _, rfl, rfl, _, rfl, k r H' h1 h2 hk h'⟩
theorem next_gt {Q : Bool → Hp → Prop} (hs : σ[i]? = some (some (.ref st))) (hb : Val tb σ H (.int m)) (hm : 0 < m) (h : StAt H st nl left) (k : ∀ r H', 0 ≤ r → r < m → Kb st H H' → StAt H' st nl left → Q (decide (c < r)) H') :
    tTest (tOp (rI0 fun i j => .bl (decide (j < i))) (tCall spNext [] E (tCons (tVar i) (tCons tb tNil))) (tC (.int c))) σ H Q :=
  next_draw hs hb hm h fun r H' h1 h2 hk h' => ⟨_, _, rfl, rfl, _, rfl, k r H' h1 h2 hk h'⟩
theorem st_ifAnd {t u : TT} {s1 s2 : TS} {D : Ends} {b : Bool} (h : Ans t σ H b) (h1 : b = true → u σ H fun c H1 => if c = true then s1 D σ H1 else s2 D σ H1) (h2 : b = false → s2 D σ H) : tIfS (tAnd t u) s1 s2 D σ H := by
  refine h _ ?_
  cases b with
  | true => exact iteT (h1 rfl)
  | false =>
    refine iteF ?_
    exact iteF (h2 rfl)
theorem st_ifOr {t u : TT} {s1 s2 : TS} {D : Ends} {b : Bool} (h : Ans t σ H b) (h1 : b = true → s1 D σ H) (h2 : b = false → u σ H fun c H1 => if c = true then s1 D σ H1 else s2 D σ H1) : tIfS (tOr t u) s1 s2 D σ H := by
  refine h _ ?_
  cases b with
  | true =>
    refine iteT ?_
    exact iteT (h1 rfl)
  | false => exact iteF (h2 rfl)
theorem or_go {t u : TT} {b : Bool} {Q : Bool → Hp → Prop} (h : Ans t σ H b) (h1 : b = true → Q true H) (h2 : b = false → u σ H Q) : tOr t u σ H Q := by
  refine h _ ?_
  cases b with
  | true => exact iteT (h1 rfl)
  | false => exact iteF (h2 rfl)
theorem ite_dec {p : Prop} [Decidable p] {A B : Prop} (h1 : p → A) (h2 : ¬ p → B) : if decide p = true then A else B := by
  by_cases h : p
  · rw [if_pos (decide_eq_true h)]
    exact h1 h
  · rw [if_neg (by rw [decide_eq_false h]; exact Bool.false_ne_true)]
    exact h2 h
/-- state[i] = v -/
theorem st_store {D : Ends} {ta tv ti : TE} {l : Addr} {xs : List V} {y : V} {j : Int} {n : Nat} (hv : Val tv σ H y) (ha : Val ta σ H (.ref l)) (hi : Val ti σ H (.int j)) (hl : H l = some (.lst xs)) (hj : ixN xs.length j = some n) (k : D.nx σ (upd H l (.lst (xs.set n y)))) :
    tAsg tv (gSub ta ti rSetL) D σ H := hv _ (ha _ (hi _ ⟨l, xs, j, n, rfl, rfl, hl, hj, k⟩))
theorem st_storeE {D : Ends} {ta tv ti : TE} {l : Addr} {xs : List V} {y : V} {j : Int} (xs' : List V) {n : Nat} (hv : Val tv σ H y) (ha : Val ta σ H (.ref l)) (hi : Val ti σ H (.int j)) (hl : H l = some (.lst xs)) (hj : ixN xs.length j = some n) (e : xs.set n y = xs') (k : D.nx σ (upd H l (.lst xs'))) :
    tAsg tv (gSub ta ti rSetL) D σ H := by
  subst e
  exact st_store hv ha hi hl hj k
end
section
variable {P : Program} {w : World} {K : PySem.W.Frag} {mg : Str → Option Value} {base : Heap} {f : Addr} {fd : FuncData}
/-! ### many -/
def spMany : Sp := fun vs H Q _ => ∃ (st nl : Addr) (m left : Int), vs = [.ref st, .int m] ∧ 25 ≤ m ∧ StAt H st nl left ∧ ∀ r H', 0 ≤ r → r < m → Kb st H H' → StAt H' st nl left → Q (.int r) H'
theorem sc34 : FnScope ["_law_state_here", "_law_most"] ["_law_state_here", "_law_most"] (defScope (top 34)) := ⟨rfl, rfl, rfl, by decide +kernel, rfl, by decide +kernel, by decide +kernel⟩
abbrev CNx (P : Program) (w : World) (K : PySem.W.Frag) (mg : Str → Option Value) (base : Heap) : Prop := Cal P w K mg base CX0 1 "_law_next" ["_law_state_here", "_law_many_here"] spNext
theorem ok_many (Cn : CNx P w K mg base) (F : Fun K "_law_many" "_law_many" (top 34) f fd) : FnOk P w K mg base CX0 2 f fd ["_law_state_here", "_law_most"] spMany := by
  refine F.ok sc34 (fun vs H Q E h => ?_) (fun cdv A outer s H vs Q E hr h => ?_)
  · obtain ⟨st, nl, m, left, rfl, _⟩ := h
    rfl
  obtain ⟨st, nl, m, left, rfl, hm, hst, k⟩ := h
  refine ⟨_, pss_cons (ps_if (PW.pt (pw_and (pt_cmpR op_gt (pe_ix ix_list (pv 0) pe_int (fun _ _ => rfl)) pe_int (nomark _)) (pw_and1 (pt_cmpR op_eq (pe_calJ Cn hr (by decide) (by rfl) pass0 (pa_cons (pv 0) (pa_cons pe_int pa_nil))) pe_int (nomark _)))))
      (pss_cons (ps_asg (pe_op op_sub (pe_ix ix_list (pv 0) pe_int (fun _ _ => rfl)) pe_int) (pg_sub (pv 0) pe_int set_list))
      (pss_one (ps_ret (pe_op op_add pe_int (pe_calJ Cn hr (by decide) (by rfl) pass0 (pa_cons (pv 0) (pa_cons (pe_op op_sub (pv 1) pe_int) pa_nil))))))) pss_nil)
    (pss_one (ps_ret (pe_calJ Cn hr (by decide) (by rfl) pass0 (pa_cons (pv 0) (pa_cons pe_int pa_nil))))), ?_⟩
  have low : ∀ {H1 : Hp}, Kb st H H1 → StAt H1 st nl left → tRet (tCall spNext [] E0 (tCons (tVar 0) (tCons (tC (.int 5)) tNil))) { nx := fun _ H' => Q .non H', rt := Q } [some (.ref st), some (.int m)] H1 := fun {H1} hk h1 =>
    next_draw (i := 0) rfl val_c (by decide) h1 fun r H' r0 r1 hk' h' => k r H' r0 (by omega) (hk.trans hk') h'
  have hst' := hst
  obtain ⟨at_, bud, sc, l, e1, e2, e3⟩ := hst'
  refine st_seq (st_ifAnd (ans_test (val_gt (a := bud) (b := 0) (val_ixL (K := K) (i := 4) (val_var rfl) val_c (SqL.of e1) rfl) val_c)) (fun h1 => ?_) fun h1 => st_next (low Kb.refl hst))
  refine next_eq (i := 0) rfl val_c (by decide) hst fun r H1 r0 r1 hk1 h1' => ite_dec (fun hr1 => ?_) fun hr1 => st_next (low hk1 h1')
  obtain ⟨at_, bud, sc, l, e1, e2, e3⟩ := h1'
  refine st_seq (st_store (y := .int (bud - 1)) (n := 4) (val_sub (val_ixL (K := K) (i := 4) (v := .int bud) (val_var rfl) val_c (SqL.of e1) rfl) val_c rfl) (val_var rfl) val_c e1 rfl ?_)
  have h2 : StAt (upd H1 st (.lst [.ref nl, .int at_, .int left, sc, .int (bud - 1)])) st nl left := ⟨at_, bud - 1, sc, l, upd_same, by rw [upd_ne (nl_ne e1 e2)]; exact e2, e3⟩
  refine next_draw (i := 0) rfl (val_sub (c := m - 20) (val_var rfl) val_c rfl) (by omega) h2 fun r2 H2 r3 r4 hk2 h3 => ⟨20, r2, rfl, rfl, ?_⟩
  exact k _ H2 (by omega) (by omega) ((hk1.trans Kb.own).trans hk2) h3
end
end Hd
end
/-! ## Hd16 -/
section
set_option maxRecDepth 100000
set_option maxHeartbeats 4000000
set_option linter.all false
/-! The law's draws: octets, value, towered. -/
namespace Hd
open PySem PySem.Spec PyProof.Rows L2 Evl
/-- a list that is made while things are drawn -/
structure Dw (st nl D : Addr) (H0 H : Hp) (left : Int) : Prop where
  new : H0 D = none
  kb : Kb st H0 H
  sa : StAt H st nl left
  ds : D ≠ st
  dn : D ≠ nl
theorem Dw.start {st nl D : Addr} {H : Hp} {left : Int} {o : HO} (h : StAt H st nl left) (hD : H D = none) : Dw st nl D H (upd H D o) left :=
  ⟨hD, Kb.mut Kb.refl hD, h.mut (h.ne hD).1 (h.ne hD).2, (h.ne hD).1, (h.ne hD).2⟩
theorem Dw.go {st nl D : Addr} {H0 H H' : Hp} {left left' : Int} (h : Dw st nl D H0 H left) (k : Kb st H H') (s : StAt H' st nl left') : Dw st nl D H0 H' left' := ⟨h.new, h.kb.trans k, s, h.ds, h.dn⟩
theorem Dw.set {st nl D : Addr} {H0 H : Hp} {left : Int} {o : HO} (h : Dw st nl D H0 H left) : Dw st nl D H0 (upd H D o) left := ⟨h.new, h.kb.mut h.new, h.sa.mut h.ds h.dn, h.ds, h.dn⟩
theorem st_retCB {r : List V → Hp → VK → Prop} {te : TE} {D : Ends} {σ : L2.St} {H : Hp} (h : te σ H fun v H1 => r [v] H1 D.rt) : tRet (tCB r (tCons te tNil)) D σ H := h
theorem nx_go {t : TS} {D' : Ends} {rt : VK} {bk ct : L2.St → Hp → Prop} {σ : L2.St} {H : Hp} (h : t D' σ H) : Ends.nx { nx := t D', rt := rt, bk := bk, ct := ct } σ H := h
theorem lc_draw {σ : L2.St} {H : Hp} {st nl : Addr} {left n : Int} {ta : TA} {te : TE} {j : Nat} {vs : List Nat} {Q : VK} (Pv : Nat → List V → Hp → Int → Prop) (hn : ∀ Q' : List V → Hp → Prop, Q' [.int n] H → ta σ H Q') (n0 : 0 ≤ n) (n1 : n ≤ 1000) (hst : StAt H st nl left)
    (hw : ∀ x, wipe ((wipe σ vs).set j (some x)) vs = wipe σ vs) (h0 : ∀ D, H D = none → Pv 0 [] (upd H D (.lst [])) left)
    (hs : ∀ D (i : Nat) acc H' left', (i : Int) < n → Dw st nl D H H' left' → H' D = some (.lst acc) → acc.length = i → Pv i acc H' left' → ∀ Q' : VK,
      (∀ y H4 left4, Kb st H' H4 → StAt H4 st nl left4 → Pv (i + 1) (acc ++ [y]) (upd H4 D (.lst (acc ++ [y]))) left4 → Q' y H4) → te ((wipe σ vs).set j (some (.int (i : Int)))) H' Q')
    (hd : ∀ D acc H' left', Dw st nl D H H' left' → H' D = some (.lst acc) → acc.length = n.toNat → Pv n.toNat acc H' left' → Q (.ref D) H') : tLc (iRng1 ta) (gName j) tYes te vs σ H Q := by
  have hs0 : sizeLine = 16777216 := sizeLine_eq
  refine hn _ ⟨n, rfl, by omega, by omega, fun D hD => lc_range (lo := 0) (n := n.toNat) (fun i H' => ∃ acc left', Dw st nl D H H' left' ∧ H' D = some (.lst acc) ∧ acc.length = i ∧ Pv i acc H' left') ⟨[], left, Dw.start hst hD, upd_same, rfl, h0 D hD⟩ ?_ ?_⟩
  · rintro i H' hi ⟨acc, left', dw, hDl, hl, pv⟩
    refine ⟨hw _, yes_go ?_⟩
    have e0 : (0 : Int) + (i : Int) = (i : Int) := Int.zero_add _
    rw [e0]
    refine hs D i acc H' left' (by omega) dw hDl hl pv _ fun y H4 left4 k4 s4 pv4 => ?_
    exact ⟨acc, k4 _ _ dw.ds hDl, by omega, acc ++ [y], left4, (dw.go k4 s4).set, upd_same, by rw [List.length_append, hl]; rfl, pv4⟩
  · rintro H' ⟨acc, left', dw, hDl, hl, pv⟩
    exact hd D acc H' left' dw hDl hl pv
section
variable {P : Program} {w : World} {K : PySem.W.Frag} {mg : Str → Option Value} {base : Heap} {f : Addr} {fd : FuncData}
/-! ### octets -/
def spOct : Sp := fun vs H Q _ => ∃ (st nl : Addr) (left : Int), vs = [.ref st] ∧ StAt H st nl left ∧ ∀ xs p H', (∀ x ∈ xs, Sx.Oct x) → xs.length < 280 → Kb st H H' → StAt H' st nl left → H p = none → H' p = some (.tup (iv xs)) → Q (.ref p) H'
abbrev N35 : List Str := ["_law_state_here", "_law_many_here", "_law_low", "_law_span", "_law_k"]
theorem sc35 : FnScope N35 ["_law_state_here"] (defScope (top 35)) := ⟨rfl, rfl, rfl, by decide +kernel, rfl, by decide +kernel, by decide +kernel⟩
theorem ok_octets (B : Blt mg) (Cn : CNx P w K mg base) (Cm : CA P w K mg base 2 "_law_many" ["_law_state_here", "_law_most"] spMany) (F : Fun K "_law_octets" "_law_octets" (top 35) f fd) : FnOk P w K mg base CX0 3 f fd ["_law_state_here"] spOct := by
  refine F.ok sc35 (fun vs H Q E h => ?_) (fun cdv A outer s H vs Q E hr h => ?_)
  · obtain ⟨st, nl, left, rfl, _⟩ := h
    rfl
  obtain ⟨st, nl, left, rfl, hst, k⟩ := h
  refine ⟨_, pss_cons (ps_set (i := 1) sc35.nd rfl (.inl rfl) (pe_calJ Cm hr (by decide) (by rfl) pass0 (pa_cons (pv 0) (pa_cons pe_int pa_nil))))
    (pss_cons (ps_asg (pe_ix ix_list (pe_lst (pa_cons (pe_tup (pa_cons pe_int (pa_cons pe_int pa_nil))) (pa_cons (pe_tup (pa_cons pe_int (pa_cons pe_int pa_nil))) (pa_cons (pe_tup (pa_cons pe_int (pa_cons pe_int pa_nil))) (pa_cons (pe_tup (pa_cons pe_int (pa_cons pe_int pa_nil)))
        (pa_cons (pe_tup (pa_cons pe_int (pa_cons pe_int pa_nil))) pa_nil)))))) (pe_calJ Cn hr (by decide) (by rfl) pass0 (pa_cons (pv 0) (pa_cons pe_int pa_nil))) (fun _ _ => rfl))
      (pg_tup (by rfl) (pgs_cons (pg_name (i := 2) sc35.nd rfl (.inr rfl)) (pgs_cons (pg_name (i := 3) sc35.nd rfl (.inr rfl)) pgs_nil))))
    (pss_one (ps_ret (pe_callTy call_tuple_of (by rfl) B.tuple (by decide +kernel) (pa_cons (pe_lc (own := [("_law_k", 4)]) (g := gName 4) (tt := tYes) rfl sc35.nd (pi_range1 (by rfl) B.range (pa_cons (pv 1) pa_nil))
      (blkOk_by (N := N35) (sc := defScope (top 35)) (by decide +kernel)) (fun _ _ _ _ _ => pg_name (i := 4) sc35.nd rfl (Or.inl rfl)) (fun _ _ _ _ _ => pts_nil)
      (fun _ _ _ _ _ => pe_op op_add (pv 2) (pe_calJ Cn hr (by decide) (by rfl) pass0 (pa_cons (pv 0) (pa_cons (pv 3) pa_nil))))) pa_nil))))), ?_⟩
  refine ⟨_, rfl, st, nl, 280, left, rfl, by decide, hst, fun n H1 n0 n1 hk1 hs1 => ?_⟩
  have two : (2 : Nat) ≤ sizeLine := by decide
  refine st_seq ⟨two, fun t0 z0 => ⟨two, fun t1 z1 => ⟨two, fun t2 z2 => ⟨two, fun t3 z3 => ⟨two, fun t4 z4 => ⟨by show 5 ≤ sizeLine; decide, fun l zl => ?_⟩⟩⟩⟩⟩⟩
  have x0 := Ex.new (o := .tup [V.int 0, V.int 256]) z0
  have x1 := Ex.new (o := .tup [V.int 32, V.int 95]) z1
  have x2 := Ex.new (o := .tup [V.int 97, V.int 26]) z2
  have x3 := Ex.new (o := .tup [V.int 42, V.int 49]) z3
  have x4 := Ex.new (o := .tup [V.int 48, V.int 10]) z4
  have xl := Ex.new (o := .lst [V.ref t0, V.ref t1, V.ref t2, V.ref t3, V.ref t4]) zl
  have c0 := (((((x1.trans x2).trans x3).trans x4).trans xl) t0 _ upd_same)
  have c1 := ((((x2.trans x3).trans x4).trans xl) t1 _ upd_same)
  have c2 := (((x3.trans x4).trans xl) t2 _ upd_same)
  have c3 := ((x4.trans xl) t3 _ upd_same)
  have c4 := (xl t4 _ upd_same)
  have ex : Ex H1 _ := ((((x0.trans x1).trans x2).trans x3).trans x4).trans xl
  have hs2 := hs1.exx ex
  refine next_draw (σ := [some (.ref st), some (.int n), none, none, none]) (i := 0) rfl val_c (by decide) hs2 fun r H2 r0 r1 hk2 hs3 => ?_
  have hlst : l ≠ st := (hs1.exx ((((x0.trans x1).trans x2).trans x3).trans x4)).ne zl |>.1
  have hl2 := hk2 l _ hlst upd_same
  have tu := hs2.tup hk2
  obtain ⟨t, lo, sp, hat, ht, b0, b1, b2⟩ : ∃ (t : Addr) (lo sp : Int), atI [V.ref t0, V.ref t1, V.ref t2, V.ref t3, V.ref t4] r = some (.ref t) ∧ H2 t = some (.tup [.int lo, .int sp]) ∧ 0 ≤ lo ∧ 0 < sp ∧ lo + sp ≤ 256 := by
    have h5 : r = 0 ∨ r = 1 ∨ r = 2 ∨ r = 3 ∨ r = 4 := by omega
    rcases h5 with rfl | rfl | rfl | rfl | rfl
    · exact ⟨t0, _, _, rfl, tu _ _ c0, by decide, by decide, by decide⟩
    · exact ⟨t1, _, _, rfl, tu _ _ c1, by decide, by decide, by decide⟩
    · exact ⟨t2, _, _, rfl, tu _ _ c2, by decide, by decide, by decide⟩
    · exact ⟨t3, _, _, rfl, tu _ _ c3, by decide, by decide, by decide⟩
    · exact ⟨t4, _, _, rfl, tu _ _ c4, by decide, by decide, by decide⟩
  refine ⟨l, _, r, _, rfl, rfl, SqL.of hl2, hat, ?_⟩
  refine ⟨t, _, rfl, SqT.of ht, rfl, _, _, rfl, _, _, rfl, rfl, ?_⟩
  have hkk : Kb st H H2 := (hk1.trans (Ex.kb ex)).trans hk2
  refine nx_go ?_
  refine st_retCB ?_
  refine lc_draw (left := left) (n := n) (fun i acc H' left' => left' = left ∧ ∃ xs, acc = iv xs ∧ ∀ x ∈ xs, Sx.Oct x) (fun Q' q => ⟨_, rfl, q⟩) n0 (by omega) hs3 (fun x => rfl)
    (fun D hD => ⟨rfl, [], rfl, fun x hx => nomatch hx⟩) (fun D i acc H' left' hi dw hDl hl pv Q' q => ?_) (fun D acc H' left' dw hDl hl pv => ?_)
  · obtain ⟨rfl, xs, rfl, hx⟩ := pv
    refine ⟨_, rfl, next_draw (i := 0) (m := sp) rfl (val_var rfl) b1 dw.sa fun r2 H3 r3 r4 hk3 hs4 => ⟨_, _, rfl, rfl, ?_⟩⟩
    refine q _ H3 left' hk3 hs4 ⟨rfl, xs ++ [lo + r2], by rw [iv_append]; rfl, fun x hx' => ?_⟩
    rcases List.mem_append.mp hx' with h | h
    · exact hx x h
    · rw [List.mem_singleton.mp h]
      exact ⟨by omega, by omega⟩
  · obtain ⟨rfl, xs, rfl, hx⟩ := pv
    rw [List.length_map] at hl
    refine ⟨D, _, rfl, .inl ⟨SqL.of hDl, fun p hp => ?_⟩⟩
    have kbp : Kb st H2 _ := dw.kb.trans (Ex.kb (Ex.new (o := .tup (iv xs)) hp))
    exact k xs p _ hx (by omega) (hkk.trans kbp) (dw.sa.exx (Ex.new hp)) ((hkk.trans dw.kb).fresh hst.is dw.sa.is hp) upd_same
end
end Hd
end
/-! ## Hd17 -/
section
set_option maxRecDepth 100000
set_option maxHeartbeats 4000000
set_option linter.all false
/-! The law's draws: value, towered. -/
namespace Hd
open PySem PySem.Spec PyProof.Rows L2 Evl
/-- the leaves are octets -/
inductive OctT : Sx.T → Prop
  | leaf {xs : List Int} : (∀ x ∈ xs, Sx.Oct x) → xs.length < 280 → OctT (.leaf xs)
  | node {ts : List Sx.T} : (∀ t ∈ ts, OctT t) → OctT (.node ts)
theorem dep_leaf {d : Nat} {xs : List Int} : Sx.Dep d (.leaf xs) := by cases d <;> trivial
theorem dep_mono : ∀ (d : Nat) (t : Sx.T), Sx.Dep d t → Sx.Dep (d + 1) t := by
  intro d
  induction d with
  | zero =>
    intro t h
    cases t with
    | leaf xs => trivial
    | node ts => exact h.elim
  | succ d ih =>
    intro t h
    cases t with
    | leaf xs => trivial
    | node ts => exact fun t ht => ih t (h t ht)
theorem dep_le {d : Nat} {t : Sx.T} (h : Sx.Dep d t) : ∀ {e : Nat}, d ≤ e → Sx.Dep e t := by
  intro e he
  induction he with
  | refl => exact h
  | step _ ih => exact dep_mono _ t ih
theorem wts_snoc : ∀ (ts : List Sx.T) (t : Sx.T), Sx.wts (ts ++ [t]) = Sx.wts ts + Sx.wt t
  | [], t => by simp [Sx.wts]
  | u :: ts, t => by rw [List.cons_append, Sx.wts, wts_snoc ts t, Sx.wts]; omega
theorem st_retTag {s : Str} {r : List V → Hp → VK → Prop} {te : TE} {D : Ends} {σ : L2.St} {H : Hp} (h : te σ H fun v H1 => r [v] H1 fun u H2 => 2 ≤ sizeLine ∧ ∀ a, H2 a = none → D.rt (.ref a) (upd H2 a (.tup [.str s, u]))) :
    tRet (tTup (tCons (tC (.str s)) (tCons (tCB r (tCons te tNil)) tNil))) D σ H := h
section
variable {P : Program} {w : World} {K : PySem.W.Frag} {mg : Str → Option Value} {base : Heap} {f : Addr} {fd : FuncData}
def spV (d : Nat) : Sp := fun vs H Q _ => ∃ (st nl : Addr) (left : Int) (dp : Nat), dp < d ∧ vs = [.ref st, .int (dp : Int)] ∧ StAt H st nl left ∧
  ∀ t p left' H', TreeAt H' t p → Sx.Dep dp t → OctT t → left' ≤ left → Sx.wt t + 9000 * left'.toNat ≤ 300 + 9000 * left.toNat → Kb st H H' → StAt H' st nl left' → Q (.ref p) H'
abbrev N36 : List Str := ["_law_state_here", "_law_deep", "_law_many_here", "_law_k"]
theorem sc36 : FnScope N36 ["_law_state_here", "_law_deep"] (defScope (top 36)) := ⟨rfl, rfl, rfl, by decide +kernel, rfl, by decide +kernel, by decide +kernel⟩
theorem len_spV {d : Nat} : ∀ vs H Q E, spV d vs H Q E → vs.length = (["_law_state_here", "_law_deep"] : List Str).length := fun vs H Q E h => by
  obtain ⟨st, nl, left, dp, _, rfl, _⟩ := h
  rfl
theorem ok_lvalue (B : Blt mg) (Cn : CNx P w K mg base) (Cm : CA P w K mg base 2 "_law_many" ["_law_state_here", "_law_most"] spMany) (Co : CA P w K mg base 3 "_law_octets" ["_law_state_here"] spOct) (F : Fun K "_law_value" "_law_value" (top 36) f fd)
    (g : mg "_law_value" = some (.ref f)) (kp : PySem.W.keepIn K (.ref f) = true) (b : Binds K fd ["_law_state_here", "_law_deep"] []) : ∀ d, FnOk P w K mg base CX0 (d + 4) f fd ["_law_state_here", "_law_deep"] (spV d) := by
  intro d
  induction d with
  | zero =>
    refine F.ok sc36 len_spV (fun cdv A outer s H vs Q E hr h => ?_)
    obtain ⟨st, nl, left, dp, h, _⟩ := h
    exact absurd h (Nat.not_lt_zero _)
  | succ d ih =>
    refine F.ok sc36 len_spV (fun cdv A outer s H vs Q E hr h => ?_)
    obtain ⟨st, nl, left, dp, hd, rfl, hst, k⟩ := h
    refine ⟨_, pss_cons (ps_asg (pe_op op_sub (pe_ix ix_list (pv 0) pe_int (fun _ _ => rfl)) pe_int) (pg_sub (pv 0) pe_int set_list))
      (pss_cons (ps_if (PW.pt (pw_or (pt_cmpR op_eq (pv 1) pe_int (nomark _)) (pw_or (pt_cmpR op_le (pe_ix ix_list (pv 0) pe_int (fun _ _ => rfl)) pe_int (nomark _)) (pw_or1 (pt_cmpR op_lt (pe_calJ Cn hr (by omega) (by rfl) pass0 (pa_cons (pv 0) (pa_cons pe_int pa_nil))) pe_int (nomark _))))))
        (pss_one (ps_ret (pe_tup (pa_cons pe_str (pa_cons (pe_calJ Co hr (by omega) (by rfl) pass0 (pa_cons (pv 0) pa_nil)) pa_nil))))) pss_nil)
      (pss_cons (ps_set (i := 2) sc36.nd rfl (.inl rfl) (pe_calJ Cm hr (by omega) (by rfl) pass0 (pa_cons (pv 0) (pa_cons pe_int pa_nil))))
      (pss_one (ps_ret (pe_tup (pa_cons pe_str (pa_cons (pe_callTy call_tuple_of (by rfl) B.tuple (by decide +kernel) (pa_cons (pe_lc (own := [("_law_k", 3)]) (g := gName 3) (tt := tYes) rfl sc36.nd (pi_range1 (by rfl) B.range (pa_cons (pv 2) pa_nil))
        (blkOk_by (N := N36) (sc := defScope (top 36)) (by decide +kernel)) (fun _ _ _ _ _ => pg_name (i := 3) sc36.nd rfl (Or.inl rfl)) (fun _ _ _ _ _ => pts_nil)
        (fun _ _ _ _ _ => pe_call ih hr (by rfl) g kp b .nil pass0 (pa_cons (pv 0) (pa_cons (pe_op op_sub (pv 1) pe_int) pa_nil)))) pa_nil)) pa_nil))))))), ?_⟩
    have hst0 := hst
    obtain ⟨at_, bud, sc, l, e1, e2, e3⟩ := hst0
    refine st_seq (st_storeE [.ref nl, .int at_, .int (left - 1), sc, .int bud] (y := .int (left - 1)) (n := 2) (val_sub (val_ixL (K := K) (i := 2) (v := .int left) (val_var rfl) val_c (SqL.of e1) rfl) val_c rfl) (val_var rfl) val_c e1 rfl rfl ?_)
    have e1' : upd H st (.lst [.ref nl, .int at_, .int (left - 1), sc, .int bud]) st = some (.lst [.ref nl, .int at_, .int (left - 1), sc, .int bud]) := upd_same
    have h1 : StAt (upd H st (.lst [.ref nl, .int at_, .int (left - 1), sc, .int bud])) st nl (left - 1) := ⟨at_, bud, sc, l, e1', by rw [upd_ne (nl_ne e1 e2)]; exact e2, e3⟩
    have k1 : Kb st H (upd H st (.lst [.ref nl, .int at_, .int (left - 1), sc, .int bud])) := Kb.own
    refine nx_go ?_
    generalize upd H st (.lst [.ref nl, .int at_, .int (left - 1), sc, .int bud]) = H1 at e1' h1 k1 ⊢
    have leaf : ∀ {H2 : Hp} {nx : L2.St → Hp → Prop}, Kb st H H2 → StAt H2 st nl (left - 1) → tRet (tTup (tCons (tC (.str "bytes")) (tCons (tCall spOct [] E0 (tCons (tVar 0) tNil)) tNil))) { nx := nx, rt := Q } [some (.ref st), some (.int (dp : Int)), none, none] H2 := by
      intro H2 nx hk hs
      refine ⟨_, rfl, st, nl, left - 1, rfl, hs, fun xs p H3 hx hl hk3 hs3 hp0 hp => ⟨by show 2 ≤ sizeLine; decide, fun a ha => ?_⟩⟩
      have hxn := Ex.new (o := .tup [V.str "bytes", V.ref p]) ha
      refine k (.leaf xs) a (left - 1) _ ⟨p, upd_same, hxn _ _ hp⟩ dep_leaf (.leaf hx hl) (by omega) ?_ ((hk.trans hk3).trans (Ex.kb hxn)) (hs3.exx hxn)
      rw [Sx.wt]
      omega
    refine st_seq (st_ifOr (ans_test (val_eqI (c := (dp : Int)) (n := 0) (val_var rfl) val_c)) (fun _ => leaf k1 h1) fun hdp => or_go (ans_test (val_le (a := left - 1) (b := 0) (val_ixL (K := K) (i := 2) (val_var rfl) val_c (SqL.of e1') rfl) val_c)) (fun _ => iteT (leaf k1 h1)) fun hlf => ?_)
    refine next_lt (i := 0) rfl val_c (by decide) h1 fun r H2 r0 r1 hk2 h2 => ite_dec (fun _ => leaf (k1.trans hk2) h2) fun _ => st_next ?_
    have hdp : ¬ (dp : Int) = 0 := of_decide_eq_false hdp
    have hlf : ¬ left - 1 ≤ 0 := of_decide_eq_false hlf
    obtain ⟨dp, rfl⟩ : ∃ e, dp = e + 1 := ⟨dp - 1, by omega⟩
    refine nx_go ?_
    refine ⟨_, rfl, st, nl, 30, left - 1, rfl, by decide, h2, fun n H3 n0 n1 hk3 h3 => ?_⟩
    refine nx_go ?_
    refine st_retTag ?_
    have hkk : Kb st H H3 := (k1.trans hk2).trans hk3
    refine lc_draw (left := left - 1) (n := n) (fun i acc H' left' => ∃ cs ts, acc = cs.map V.ref ∧ TreesAt H' ts cs ∧ (∀ t ∈ ts, Sx.Dep dp t ∧ OctT t) ∧ Sx.wts ts + 9000 * left'.toNat ≤ 300 * i + 9000 * (left - 1).toNat ∧ left' ≤ left - 1) (fun Q' q => ⟨_, rfl, q⟩) n0 (by omega) h3 (fun x => rfl)
      (fun D hD => ⟨[], [], rfl, trivial, (fun t ht => nomatch ht), by simp [Sx.wts], by omega⟩) (fun D i acc H' left' hi dw hDl hl pv Q' q => ?_) (fun D acc H' left' dw hDl hl pv => ?_)
    · obtain ⟨cs, ts, rfl, htr, hall, hw, hle⟩ := pv
      refine ⟨_, rfl, val_sub (c := (dp : Int)) (val_var rfl) val_c (by omega) _ ⟨st, nl, left', dp, by omega, rfl, dw.sa, fun t p left4 H4 ht hdt hot hl4 hw4 hk4 hs4 => ?_⟩⟩
      have tx : TupEx H4 (upd H4 D (.lst (cs.map V.ref ++ [V.ref p]))) := fun y zs hy => by
        rw [upd_ne (fun e => by rw [e, hk4 D _ dw.ds hDl] at hy; cases hy)]
        exact hy
      refine q _ H4 left4 hk4 hs4 ⟨cs ++ [p], ts ++ [t], by rw [List.map_append]; rfl, ((htr.ex (dw.sa.tup hk4)).ex tx).snoc (ht.ex tx), fun u hu => ?_, ?_, by omega⟩
      · rcases List.mem_append.mp hu with h | h
        · exact hall u h
        · rw [List.mem_singleton.mp h]
          exact ⟨hdt, hot⟩
      · rw [wts_snoc]
        omega
    · obtain ⟨cs, ts, rfl, htr, hall, hw, hle⟩ := pv
      refine ⟨D, _, rfl, .inl ⟨SqL.of hDl, fun p hp => ⟨by show 2 ≤ sizeLine; decide, fun a ha => ?_⟩⟩⟩
      have x1 := Ex.new (o := .tup (cs.map V.ref)) hp
      have x2 := Ex.new (o := .tup [V.str "list", V.ref p]) ha
      have ex := x1.trans x2
      refine k (.node ts) a left' _ ⟨p, cs, upd_same, x2 _ _ upd_same, htr.ex (Hd.Ex.tup ex)⟩ (fun t ht => (hall t ht).1) (.node fun t ht => (hall t ht).2) (by omega) ?_ ((hkk.trans dw.kb).trans (Ex.kb ex)) (dw.sa.exx ex)
      rw [Sx.wt]
      omega
end
end Hd
end
/-! ## Hd18 -/
section
set_option maxRecDepth 100000
set_option maxHeartbeats 4000000
set_option linter.all false
/-! The law's towered; ascii; letters and tokens. -/
namespace Hd
open PySem PySem.Spec PyProof.Rows L2 Evl
/-! ### data -/
def idl (l : List Int) : List PyData := l.map PyData.int
theorem dp_ints {K : PySem.W.Frag} {H : Hp} : ∀ l : List Int, DpAll K H (iv l) (idl l)
  | [] => .nil
  | x :: l => .cons (.int x) (dp_ints l)
theorem lay_ints : ∀ l : List Int, PyData.canLayAll0 (idl l) = true
  | [] => by simp [idl, PyData.canLayAll0]
  | x :: l => by
    have := lay_ints l
    simp [idl, PyData.canLayAll0, PyData.canLay0] at this ⊢
    exact this
theorem depth_ints : ∀ l : List Int, PyData.depthAll (idl l) ≤ 1
  | [] => by simp [idl, PyData.depthAll]
  | x :: l => by
    have h := depth_ints l
    have e : idl (x :: l) = PyData.int x :: idl l := rfl
    rw [e]
    simp only [PyData.depthAll, PyData.depth]
    omega
theorem shaped_ints (l : List Int) : SeqAt.shaped (.list (idl l)) = true := by
  have h1 := depth_ints l
  have h2 : PyData.depth (.list (idl l)) ≤ 64 := by
    simp only [PyData.depth]
    omega
  show (PyData.canLay0 (.list (idl l)) && decide (PyData.depth (.list (idl l)) ≤ 64)) = true
  rw [Bool.and_eq_true]
  exact ⟨by simp only [PyData.canLay0]; exact lay_ints l, decide_eq_true h2⟩
theorem eqvAll_ints : ∀ l m : List Int, PyData.eqvAll (idl l) (idl m) = decide (l = m)
  | [], [] => by simp [idl, PyData.eqvAll]
  | [], y :: m => by simp [idl, PyData.eqvAll]
  | x :: l, [] => by simp [idl, PyData.eqvAll]
  | x :: l, y :: m => by
    have h := eqvAll_ints l m
    have e1 : idl (x :: l) = PyData.int x :: idl l := rfl
    have e2 : idl (y :: m) = PyData.int y :: idl m := rfl
    rw [e1, e2]
    simp only [PyData.eqvAll, PyData.eqv, h]
    rw [Bool.eq_iff_iff]
    simp
theorem eqv_ints (l m : List Int) : PyData.eqv (.list (idl l)) (.list (idl m)) = decide (l = m) := by
  simp only [PyData.eqv]
  exact eqvAll_ints l m
section
variable {P : Program} {w : World} {K : PySem.W.Frag} {mg : Str → Option Value} {base : Heap} {f : Addr} {fd : FuncData}
/-! ### towered -/
def spTow : Sp := fun vs H Q _ => ∃ (st nl a : Addr) (left : Int) (t : Sx.T), vs = [.ref st, .ref a] ∧ StAt H st nl left ∧ TreeAt H t a ∧ Sx.Dep 4 t ∧ OctT t ∧
  ∀ t' p H', TreeAt H' t' p → Sx.Dep 24 t' → OctT t' → Sx.wt t' ≤ Sx.wt t + 480 → Kb st H H' → StAt H' st nl left → Q (.ref p) H'
abbrev N37 : List Str := ["_law_state_here", "_law_value_here", "_law_k"]
theorem sc37 : FnScope N37 ["_law_state_here", "_law_value_here"] (defScope (top 37)) := ⟨rfl, rfl, rfl, by decide +kernel, rfl, by decide +kernel, by decide +kernel⟩
theorem ok_towered (B : Blt mg) (Cn : CNx P w K mg base) (F : Fun K "_law_towered" "_law_towered" (top 37) f fd) : FnOk P w K mg base CX0 2 f fd ["_law_state_here", "_law_value_here"] spTow := by
  refine F.ok sc37 (fun vs H Q E h => ?_) (fun cdv A outer s H vs Q E hr h => ?_)
  · obtain ⟨st, nl, a, left, t, rfl, _⟩ := h
    rfl
  obtain ⟨st, nl, a, left, t, rfl, hst, ht, hd, ho, k⟩ := h
  refine ⟨_, pss_cons (ps_if (pt_cmpR op_eq (pe_calJ Cn hr (by decide) (by rfl) pass0 (pa_cons (pv 0) (pa_cons pe_int pa_nil))) pe_int (nomark _))
      (pss_one (ps_for PassesOwn.never rfl (pi_range1 (by rfl) B.range (pa_cons (pe_calJ Cn hr (by decide) (by rfl) pass0 (pa_cons (pv 0) (pa_cons pe_int pa_nil))) pa_nil)) (pg_name (i := 2) sc37.nd rfl (.inl rfl))
        (pss_one (ps_if (pt_cmpR op_eq (pe_calJ Cn hr (by decide) (by rfl) pass0 (pa_cons (pv 0) (pa_cons pe_int pa_nil))) pe_int (nomark _))
          (pss_one (ps_set (i := 1) sc37.nd rfl (.inl rfl) (pe_tup (pa_cons pe_str (pa_cons (pe_tup (pa_cons (pv 1) (pa_cons (pe_tup (pa_cons pe_str (pa_cons (pe_tup pa_nil) pa_nil))) pa_nil))) pa_nil)))))
          (pss_one (ps_set (i := 1) sc37.nd rfl (.inl rfl) (pe_tup (pa_cons pe_str (pa_cons (pe_tup (pa_cons (pv 1) pa_nil)) pa_nil))))))))) pss_nil)
    (pss_one (ps_ret (pv 1))), ?_⟩
  have two : (2 : Nat) ≤ sizeLine := by decide
  refine st_seq (next_eq (i := 0) rfl val_c (by decide) hst fun r H1 r0 r1 hk1 h1 => ite_dec (fun _ => ?_) fun _ => st_next (st_ret (val_var rfl) (k t a H1 (ht.ex (hst.tup hk1)) (dep_le hd (by decide)) ho (by omega) hk1 h1)))
  refine next_draw (i := 0) rfl val_c (by decide) h1 fun n H2 n0 n1 hk2 h2 => ⟨n, rfl, by omega, by omega, ?_⟩
  refine for_range (lo := 0) (n := n.toNat) (fun i σ H' => ∃ t' p v2, σ = [some (.ref st), some (.ref p), v2] ∧ TreeAt H' t' p ∧ Sx.Dep (4 + i) t' ∧ OctT t' ∧ Sx.wt t' ≤ Sx.wt t + 24 * i ∧ Kb st H H' ∧ StAt H' st nl left)
    ⟨t, a, none, rfl, (ht.ex (hst.tup hk1)).ex (h1.tup hk2), hd, ho, by omega, hk1.trans hk2, h2⟩ ?_ ?_
  · rintro i σ H' hi ⟨t', p, v2, rfl, htp, hdp, hop, hw, hk, hs⟩
    refine next_eq (i := 0) rfl val_c (by decide) hs fun r H3 r0 r1 hk3 h3 => ite_dec (fun _ => ?_) fun _ => ?_
    · refine ⟨_, rfl, Nat.zero_le _, fun q0 z0 => ⟨two, fun q1 z1 => ⟨two, fun q2 z2 => ⟨two, fun q3 z3 => ?_⟩⟩⟩⟩
      have x0 := Ex.new (o := .tup []) z0
      have x1 := Ex.new (o := .tup [V.str "list", V.ref q0]) z1
      have x2 := Ex.new (o := .tup [V.ref p, V.ref q1]) z2
      have x3 := Ex.new (o := .tup [V.str "list", V.ref q2]) z3
      have ex := ((x0.trans x1).trans x2).trans x3
      refine ⟨.node [t', .node []], q3, _, rfl, ⟨q2, [p, q1], upd_same, x3 _ _ upd_same, (htp.ex (hs.tup hk3)).ex (Hd.Ex.tup ex), ⟨q0, [], (x2.trans x3) _ _ upd_same, ((x1.trans x2).trans x3) _ _ upd_same, trivial⟩, trivial⟩, ?_, ?_, ?_, (hk.trans hk3).trans (Ex.kb ex), h3.exx ex⟩
      · have e : 4 + (i + 1) = (4 + i) + 1 := by omega
        rw [e]
        intro u hu
        rcases List.mem_cons.mp hu with rfl | hu
        · exact hdp
        · rw [List.mem_singleton.mp hu]
          have e2 : 4 + i = (3 + i) + 1 := by omega
          rw [e2]
          intro u hu
          cases hu
      · refine .node fun u hu => ?_
        rcases List.mem_cons.mp hu with rfl | hu
        · exact hop
        · rw [List.mem_singleton.mp hu]
          exact .node fun u hu => nomatch hu
      · simp only [Sx.wt, Sx.wts]
        omega
    · refine ⟨_, rfl, by show 1 ≤ sizeLine; decide, fun q2 z2 => ⟨two, fun q3 z3 => ?_⟩⟩
      have x2 := Ex.new (o := .tup [V.ref p]) z2
      have x3 := Ex.new (o := .tup [V.str "list", V.ref q2]) z3
      have ex := x2.trans x3
      refine ⟨.node [t'], q3, _, rfl, ⟨q2, [p], upd_same, x3 _ _ upd_same, (htp.ex (hs.tup hk3)).ex (Hd.Ex.tup ex), trivial⟩, ?_, ?_, ?_, (hk.trans hk3).trans (Ex.kb ex), h3.exx ex⟩
      · have e : 4 + (i + 1) = (4 + i) + 1 := by omega
        rw [e]
        intro u hu
        rw [List.mem_singleton.mp hu]
        exact hdp
      · refine .node fun u hu => ?_
        rw [List.mem_singleton.mp hu]
        exact hop
      · simp only [Sx.wt, Sx.wts]
        omega
  · rintro σ H' ⟨t', p, v2, rfl, htp, hdp, hop, hw, hk, hs⟩
    exact st_ret (val_var rfl) (k t' p H' htp (dep_le hdp (by omega)) hop (by omega) hk hs)
/-! ### ascii -/
def spAscii : Sp := fun vs H Q _ => ∃ x : Str, vs = [.str x] ∧ x.cps.size < 1000 ∧ ∀ p H', H p = none → Ex H H' → H' p = some (.lst (iv (x.cps.toList.map fun c => ((c : Nat) : Int)))) → Q (.ref p) H'
abbrev N38 : List Str := ["_law_text", "_law_char"]
theorem sc38 : FnScope N38 ["_law_text"] (defScope (top 38)) := ⟨rfl, rfl, rfl, by decide +kernel, rfl, by decide +kernel, by decide +kernel⟩
theorem ok_ascii (B : Blt mg) (F : Fun K "_law_ascii" "_law_ascii" (top 38) f fd) : FnOk P w K mg base CX0 1 f fd ["_law_text"] spAscii := by
  refine F.ok sc38 (fun vs H Q E h => ?_) (fun cdv A outer s H vs Q E hr h => ?_)
  · obtain ⟨x, rfl, _⟩ := h
    rfl
  obtain ⟨x, rfl, hx, k⟩ := h
  refine ⟨_, pss_one (ps_ret (pe_lc (own := [("_law_char", 1)]) (g := gName 1) (tt := tYes) rfl sc38.nd (pi_str (pv 0)) (blkOk_by (N := N38) (sc := defScope (top 38)) (by decide +kernel)) (fun _ _ _ _ _ => pg_name (i := 1) sc38.nd rfl (Or.inl rfl)) (fun _ _ _ _ _ => pts_nil)
    (fun _ _ _ _ _ => pe_callB call_ord (by rfl) B.ord (by decide +kernel) (pa_cons (pv 1) pa_nil)))), ?_⟩
  exact s_retL (el_ords (ev_var rfl) (by have : sizeLine = 16777216 := sizeLine_eq; omega) (fun v => rfl) (fun v => rfl)) k
/-! ### letters -/
def spB (g : Int → Bool) : Sp := fun vs H Q _ => ∃ c : Int, vs = [.int c] ∧ ∀ H', Ex H H' → Q (.bl (g c)) H'
theorem ev_spB {σ : L2.St} {H : Hp} {ta : TE} {g : Int → Bool} {c : Int} {E : XK} (h : Ev ta σ H (.int c)) : Ev (tCall (spB g) [] E (tCons ta tNil)) σ H (.bl (g c)) := ev_call (ea_cons h ea_nil) fun H1 _ Q q _ => ⟨c, rfl, q⟩
theorem el_ascii {σ : L2.St} {H : Hp} {ta : TE} {x : Str} {E : XK} {l : List Int} (h : Ev ta σ H (.str x)) (hz : x.cps.size < 1000) (e : (x.cps.toList.map fun c => ((c : Nat) : Int)) = l) : EvL (tCall spAscii [] E (tCons ta tNil)) σ H (iv l) := by
  subst e
  exact el_call (ea_cons h ea_nil) fun H1 _ Q q _ => ⟨x, rfl, hz, q⟩
theorem ev_lt {σ : L2.St} {H : Hp} {ta tb : TE} {a b : Int} (h1 : Ev ta σ H (.int a)) (h2 : Ev tb σ H (.int b)) : Ev (tOp (rI0 fun i j => .bl (decide (i < j))) ta tb) σ H (.bl (decide (a < b))) := ev_op h1 h2 (rv_I0 (g := fun i j => .bl (decide (i < j))))
theorem ev_gt {σ : L2.St} {H : Hp} {ta tb : TE} {a b : Int} (h1 : Ev ta σ H (.int a)) (h2 : Ev tb σ H (.int b)) : Ev (tOp (rI0 fun i j => .bl (decide (j < i))) ta tb) σ H (.bl (decide (b < a))) := ev_op h1 h2 (rv_I0 (g := fun i j => .bl (decide (j < i))))
theorem sc40 : FnScope ["_law_octet"] ["_law_octet"] (defScope (top 40)) := ⟨rfl, rfl, rfl, by decide +kernel, rfl, by decide +kernel, by decide +kernel⟩
theorem ok_letter (Ca : CA P w K mg base 1 "_law_ascii" ["_law_text"] spAscii) (F : Fun K "_law_letter" "_law_letter" (top 40) f fd) : FnOk P w K mg base CX0 2 f fd ["_law_octet"] (spB Sx.begTok) := by
  refine F.ok sc40 (fun vs H Q E h => ?_) (fun cdv A outer s H vs Q E hr h => ?_)
  · obtain ⟨c, rfl, _⟩ := h
    rfl
  obtain ⟨c, rfl, k⟩ := h
  refine ⟨_, pss_one (ps_ret (pe_or (pe_and (pe_cmpR op_gt (pv 0) pe_int (nomark _)) (pe_one (pe_cmpR op_lt (pv 0) pe_int (nomark _)))) (pe_or (pe_and (pe_cmpR op_gt (pv 0) pe_int (nomark _)) (pe_one (pe_cmpR op_lt (pv 0) pe_int (nomark _))))
    (pe_one (pe_cmpR op_in_seq (pv 0) (pe_calJ Ca hr (by decide) (by rfl) pass0 (pa_cons pe_str pa_nil)) (by with_unfolding_all rfl)))))), ?_⟩
  have hx : ∀ {H1 : Hp}, Ev (tVar 0) [some (V.int c)] H1 (.int c) := ev_var rfl
  refine s_ret (ev_is (ev_orV (ev_andV (ev_gt hx (ev_c (v := .int 64))) fun _ => ev_lt hx (ev_c (v := .int 91))) fun _ => ev_orV (ev_andV (ev_gt hx (ev_c (v := .int 96))) fun _ => ev_lt hx (ev_c (v := .int 123))) fun _ =>
    ev_opL hx (el_ascii (x := "-./_:*+=") (l := [45, 46, 47, 95, 58, 42, 43, 61]) ev_c (by decide +kernel) (by decide +kernel)) fun p H1 hp e => rv_isL (K := K) (sq_of hp) rfl (flat_ints _)) ?_) k
  rw [inV_ints]
  congr 1
  rw [Bool.eq_iff_iff, Sx.begTok_iff]
  simp
  omega
theorem sc41 : FnScope ["_law_octet"] ["_law_octet"] (defScope (top 41)) := ⟨rfl, rfl, rfl, by decide +kernel, rfl, by decide +kernel, by decide +kernel⟩
theorem ok_lin_token (Cl : CA P w K mg base 2 "_law_letter" ["_law_octet"] (spB Sx.begTok)) (F : Fun K "_law_in_token" "_law_in_token" (top 41) f fd) : FnOk P w K mg base CX0 3 f fd ["_law_octet"] (spB Sx.inTok) := by
  refine F.ok sc41 (fun vs H Q E h => ?_) (fun cdv A outer s H vs Q E hr h => ?_)
  · obtain ⟨c, rfl, _⟩ := h
    rfl
  obtain ⟨c, rfl, k⟩ := h
  refine ⟨_, pss_one (ps_ret (pe_or (pe_calJ Cl hr (by decide) (by rfl) pass0 (pa_cons (pv 0) pa_nil)) (pe_one (pe_and (pe_cmpR op_gt (pv 0) pe_int (nomark _)) (pe_one (pe_cmpR op_lt (pv 0) pe_int (nomark _))))))), ?_⟩
  have hx : ∀ {H1 : Hp}, Ev (tVar 0) [some (V.int c)] H1 (.int c) := ev_var rfl
  refine s_ret (ev_is (ev_orV (ev_spB hx) fun _ => ev_andV (ev_gt hx (ev_c (v := .int 47))) fun _ => ev_lt hx (ev_c (v := .int 58))) ?_) k
  congr 1
  rw [Bool.eq_iff_iff, Sx.inTok_iff, Bool.or_eq_true, Sx.begTok_iff]
  simp
  omega
end
end Hd
end
/-! ## Hd19 -/
section
set_option maxRecDepth 100000
set_option maxHeartbeats 4000000
set_option linter.all false
/-! The law's same; is_token. -/
namespace Hd
open PySem PySem.Spec PyProof.Rows L2 Evl
/-! ### two values, part by part -/
inductive SmL (R : V → V → Bool → Prop) : List V → List V → Bool → Prop
  | nil : SmL R [] [] true
  | no {x y : V} {xs ys : List V} : R x y false → SmL R (x :: xs) (y :: ys) false
  | yes {x y : V} {xs ys : List V} {b : Bool} : R x y true → SmL R xs ys b → SmL R (x :: xs) (y :: ys) b
def Sm (H : Hp) : Nat → V → V → Bool → Prop
  | 0, _, _, _ => False
  | n + 1, x, y, b => (∃ i j : Int, x = .int i ∧ y = .int j ∧ b = decide (i = j)) ∨ (∃ s t : Str, x = .str s ∧ y = .str t ∧ b = decide (s = t)) ∨
    (∃ (a c : Addr) (xs ys : List V), x = .ref a ∧ y = .ref c ∧ ((H a = some (.tup xs) ∧ H c = some (.tup ys)) ∨ (H a = some (.lst xs) ∧ H c = some (.lst ys))) ∧ ys.length < 16000000 ∧
      ((xs.length ≠ ys.length ∧ b = false) ∨ (xs.length = ys.length ∧ SmL (Sm H n) xs ys b)))
theorem sm_ints {H : Hp} {n : Nat} : ∀ l m : List Int, l.length = m.length → SmL (Sm H (n + 1)) (iv l) (iv m) (decide (l = m))
  | [], [], _ => SmL.nil
  | x :: l, y :: m, h => by
    have h' : l.length = m.length := by simpa using h
    by_cases e : x = y
    · subst e
      have e2 : decide (x :: l = x :: m) = decide (l = m) := by rw [Bool.eq_iff_iff]; simp
      rw [e2]
      exact .yes (.inl ⟨x, x, rfl, rfl, (decide_eq_true rfl).symm⟩) (sm_ints l m h')
    · have e2 : decide (x :: l = y :: m) = false := decide_eq_false fun z => e (by cases z; rfl)
      rw [e2]
      exact .no (.inl ⟨x, y, rfl, rfl, (decide_eq_false e).symm⟩)
  | [], y :: m, h => by simp at h
  | x :: l, [], h => by simp at h
theorem sm_seq {H : Hp} {n : Nat} {a c : Addr} {l m : List Int} (h : (H a = some (.tup (iv l)) ∧ H c = some (.tup (iv m))) ∨ (H a = some (.lst (iv l)) ∧ H c = some (.lst (iv m)))) (hz : m.length < 16000000) : Sm H (n + 2) (.ref a) (.ref c) (decide (l = m)) := by
  refine .inr (.inr ⟨a, c, _, _, rfl, rfl, h, by rw [List.length_map]; exact hz, ?_⟩)
  by_cases e : l.length = m.length
  · exact .inr ⟨by rw [List.length_map, List.length_map]; exact e, sm_ints l m e⟩
  · exact .inl ⟨by rw [List.length_map, List.length_map]; exact e, decide_eq_false fun z => e (by rw [z])⟩
theorem sm_str {H : Hp} {n : Nat} (s t : Str) : Sm H (n + 1) (.str s) (.str t) (decide (s = t)) := .inr (.inl ⟨s, t, rfl, rfl, rfl⟩)
theorem sm_pair {H : Hp} {n : Nat} {a c : Addr} {s t : Str} {x y : V} {b : Bool} (h1 : H a = some (.tup [.str s, x])) (h2 : H c = some (.tup [.str t, y])) (hb : if s = t then Sm H (n + 1) x y b else b = false) : Sm H (n + 2) (.ref a) (.ref c) b := by
  refine .inr (.inr ⟨a, c, _, _, rfl, rfl, .inl ⟨h1, h2⟩, by show 2 < 16000000; decide, .inr ⟨rfl, ?_⟩⟩)
  by_cases e : s = t
  · rw [if_pos e] at hb
    refine .yes (.inr (.inl ⟨s, t, rfl, rfl, (decide_eq_true e).symm⟩)) ?_
    cases b with
    | true => exact .yes hb .nil
    | false => exact .no hb
  · rw [if_neg e] at hb
    subst hb
    exact .no (.inr (.inl ⟨s, t, rfl, rfl, (decide_eq_false e).symm⟩))
theorem sm_tree {H : Hp} : ∀ (d : Nat) (t u : Sx.T) (a c : Addr), TreeAt H t a → TreeAt H u c → Sx.Dep d t → Sx.wt u < 10000000 → ∃ b, Sm H (2 * d + 3) (.ref a) (.ref c) b ∧ (b = true ↔ t = u) := by
  intro d
  have leaf : ∀ (d : Nat) (xs : List Int) (u : Sx.T) (a c : Addr), TreeAt H (.leaf xs) a → TreeAt H u c → Sx.wt u < 10000000 → ∃ b, Sm H (2 * d + 3) (.ref a) (.ref c) b ∧ (b = true ↔ (.leaf xs) = u) := by
    intro d xs u a c h1 h2 hw
    obtain ⟨b1, e1, e2⟩ := h1
    cases u with
    | leaf ys =>
      obtain ⟨b2, e3, e4⟩ := h2
      rw [Sx.wt] at hw
      refine ⟨decide (xs = ys), sm_pair e1 e3 (by rw [if_pos rfl]; exact sm_seq (.inl ⟨e2, e4⟩) (by omega)), ?_⟩
      rw [decide_eq_true_iff]
      exact ⟨fun e => by rw [e], fun e => by cases e; rfl⟩
    | node us =>
      obtain ⟨b2, ds, e3, e4, e5⟩ := h2
      exact ⟨false, sm_pair e1 e3 (by rw [if_neg (by decide)]), by simp⟩
  have nl : ∀ (d : Nat) (ts : List Sx.T) (ys : List Int) (a c : Addr), TreeAt H (.node ts) a → TreeAt H (.leaf ys) c → ∃ b, Sm H (2 * d + 3) (.ref a) (.ref c) b ∧ (b = true ↔ (Sx.T.node ts) = .leaf ys) := by
    intro d ts ys a c h1 h2
    obtain ⟨b1, cs, e1, e2, e3⟩ := h1
    obtain ⟨b2, e4, e5⟩ := h2
    exact ⟨false, sm_pair e1 e4 (by rw [if_neg (by decide)]), by simp⟩
  induction d with
  | zero =>
    intro t u a c h1 h2 hd hw
    cases t with
    | leaf xs => exact leaf 0 xs u a c h1 h2 hw
    | node ts => exact hd.elim
  | succ d ih =>
    intro t u a c h1 h2 hd hw
    cases t with
    | leaf xs => exact leaf (d + 1) xs u a c h1 h2 hw
    | node ts =>
      cases u with
      | leaf ys => exact nl (d + 1) ts ys a c h1 h2
      | node us =>
        obtain ⟨b1, cs, e1, e2, e3⟩ := h1
        obtain ⟨b2, ds, e4, e5, e6⟩ := h2
        rw [Sx.wt] at hw
        have key : ∀ (ts us : List Sx.T) (cs ds : List Addr), TreesAt H ts cs → TreesAt H us ds → (∀ t ∈ ts, Sx.Dep d t) → Sx.wts us < 10000000 → ts.length = us.length → ∃ b, SmL (Sm H (2 * d + 3)) (cs.map V.ref) (ds.map V.ref) b ∧ (b = true ↔ ts = us) := by
          intro ts
          induction ts with
          | nil =>
            intro us cs ds h1 h2 _ _ hl
            cases us with
            | cons u us => simp at hl
            | nil =>
              cases cs with
              | cons c cs => exact h1.elim
              | nil =>
                cases ds with
                | cons c cs => exact h2.elim
                | nil => exact ⟨true, .nil, by simp⟩
          | cons t ts iht =>
            intro us cs ds h1 h2 hd hw hl
            cases us with
            | nil => simp at hl
            | cons u us =>
              cases cs with
              | nil => exact h1.elim
              | cons c cs =>
                cases ds with
                | nil => exact h2.elim
                | cons e ds =>
                  rw [Sx.wts] at hw
                  obtain ⟨b, hb, hbi⟩ := ih t u c e h1.1 h2.1 (hd t List.mem_cons_self) (by omega)
                  cases b with
                  | false =>
                    refine ⟨false, .no hb, ?_⟩
                    constructor
                    · intro z; cases z
                    · intro z
                      cases z
                      exact hbi.mpr rfl
                  | true =>
                    obtain ⟨b', hb', hbi'⟩ := iht us cs ds h1.2 h2.2 (fun v hv => hd v (List.mem_cons_of_mem _ hv)) (by omega) (by simpa using hl)
                    have etu := hbi.mp rfl
                    refine ⟨b', .yes hb hb', hbi'.trans ?_⟩
                    constructor
                    · intro z; rw [z, etu]
                    · intro z; cases z; rfl
        have e : 2 * (d + 1) + 3 = (2 * d + 3) + 2 := by omega
        rw [e]
        have l1 := e3.length
        have l2 := e6.length
        have l3 := Sx.wts_len us
        by_cases hl : ts.length = us.length
        · obtain ⟨b, hb, hbi⟩ := key ts us cs ds e3 e6 hd (by omega) hl
          refine ⟨b, sm_pair e1 e4 ?_, hbi.trans ⟨fun z => by rw [z], fun z => by cases z; rfl⟩⟩
          rw [if_pos rfl]
          exact .inr (.inr ⟨b1, b2, _, _, rfl, rfl, .inl ⟨e2, e5⟩, by rw [List.length_map]; omega, .inr ⟨by rw [List.length_map, List.length_map]; omega, hb⟩⟩)
        · refine ⟨false, sm_pair e1 e4 ?_, ?_⟩
          · rw [if_pos rfl]
            exact .inr (.inr ⟨b1, b2, _, _, rfl, rfl, .inl ⟨e2, e5⟩, by rw [List.length_map]; omega, .inl ⟨by rw [List.length_map, List.length_map]; omega, rfl⟩⟩)
          · constructor
            · intro z; cases z
            · intro z
              cases z
              exact absurd rfl hl
section
variable {K : PySem.W.Frag} {σ : L2.St} {H : Hp} {tx : TE} {x : V}
theorem val_isi {t T : String} {b : Bool} (hx : Val tx σ H x) (ty : TyX K H x (.type t)) (k : kitB t T = some b) : Val (tCB (rIsi K) (tCons tx (tCons (tC (.ty T)) tNil))) σ H (.bl b) := fun Q q =>
  hx _ ⟨x, .ty T, .type t, .type T, b, rfl, .ty T, ty, kit_ty k, q⟩
theorem st_forR {D : Ends} {te : TE} {j n : Nat} {tb : TS} (h : Val te σ H (.int (n : Nat))) (hn : n < 100000000) (Pv : Nat → L2.St → Hp → Prop) (h0 : Pv 0 σ H)
    (hs : ∀ i σ' H', i < n → Pv i σ' H' → tb { D with nx := Pv (i + 1), ct := Pv (i + 1), bk := D.nx } (σ'.set j (some (.int (i : Int)))) H') (hd : ∀ σ' H', Pv n σ' H' → D.nx σ' H') : tFor (iRng1 (tCons te tNil)) (gName j) tb D σ H :=
  h _ ⟨_, rfl, by omega, by omega, for_range (lo := 0) (n := n) Pv h0 (fun i σ' H' hi p => by
    have e0 : (0 : Int) + (i : Int) = (i : Int) := Int.zero_add _
    show tb { D with nx := Pv (i + 1), ct := Pv (i + 1), bk := D.nx } (σ'.set j (some (.int ((0 : Int) + (i : Int))))) H'
    rw [e0]
    exact hs i σ' H' hi p) hd⟩
theorem val_neB {ta tb : TE} {a b : Bool} (h1 : Val ta σ H (.bl a)) (h2 : Val tb σ H (.bl b)) : Val (tOp rNe ta tb) σ H (.bl (a != b)) := val_op h1 h2 fun Q q => ⟨rfl, by
  have e : (!decide (V.bl a = V.bl b)) = (a != b) := by cases a <;> cases b <;> rfl
  rw [e]; exact q⟩
end
section
variable {P : Program} {w : World} {K : PySem.W.Frag} {mg : Str → Option Value} {base : Heap} {f : Addr} {fd : FuncData}
def spSm (n : Nat) : Sp := fun vs H Q _ => ∃ x y b, vs = [x, y] ∧ Sm H n x y b ∧ Q (.bl b) H
abbrev N39 : List Str := ["_law_told", "_law_due", "_law_k"]
theorem sc39 : FnScope N39 ["_law_told", "_law_due"] (defScope (top 39)) := ⟨rfl, rfl, rfl, by decide +kernel, rfl, by decide +kernel, by decide +kernel⟩
theorem len_spSm {n : Nat} : ∀ vs H Q E, spSm n vs H Q E → vs.length = (["_law_told", "_law_due"] : List Str).length := fun vs H Q E h => by
  obtain ⟨x, y, b, rfl, _⟩ := h
  rfl
theorem ok_same (B : Blt mg) (F : Fun K "_law_same" "_law_same" (top 39) f fd) (g : mg "_law_same" = some (.ref f)) (kp : PySem.W.keepIn K (.ref f) = true) (b : Binds K fd ["_law_told", "_law_due"] []) : ∀ n, FnOk P w K mg base CX0 (n + 1) f fd ["_law_told", "_law_due"] (spSm n) := by
  intro n
  induction n with
  | zero =>
    refine F.ok sc39 len_spSm (fun cdv A outer s H vs Q E hr h => ?_)
    obtain ⟨x, y, b, _, h, _⟩ := h
    exact h.elim
  | succ n ih =>
    refine F.ok sc39 len_spSm (fun cdv A outer s H vs Q E hr h => ?_)
    obtain ⟨x, y, bb, rfl, hsm, q⟩ := h
    have isi : ∀ (i : Nat), True := fun _ => trivial
    refine ⟨_, pss_cons (ps_if (PW.pt (pw_or (pt_val (pe_callB call_isi (by rfl) B.isinstance (by decide +kernel) (pa_cons (pv 1) (pa_cons (pe_bltn (v := .ty "tuple") (by rfl) B.tuple (by decide +kernel) rfl) pa_nil)))) (pw_or1 (pt_val (pe_callB call_isi (by rfl) B.isinstance (by decide +kernel) (pa_cons (pv 1) (pa_cons (pe_bltn (v := .ty "list") (by rfl) B.list (by decide +kernel) rfl) pa_nil)))))))
        (pss_cons (ps_if (PW.pt (pw_or (pt_cmpR op_ne (pe_callB call_isi (by rfl) B.isinstance (by decide +kernel) (pa_cons (pv 0) (pa_cons (pe_bltn (v := .ty "tuple") (by rfl) B.tuple (by decide +kernel) rfl) pa_nil))) (pe_callB call_isi (by rfl) B.isinstance (by decide +kernel) (pa_cons (pv 1) (pa_cons (pe_bltn (v := .ty "tuple") (by rfl) B.tuple (by decide +kernel) rfl) pa_nil))) (nomark _))
            (pw_or1 (pt_cmpR op_ne (pe_callB call_isi (by rfl) B.isinstance (by decide +kernel) (pa_cons (pv 0) (pa_cons (pe_bltn (v := .ty "list") (by rfl) B.list (by decide +kernel) rfl) pa_nil))) (pe_callB call_isi (by rfl) B.isinstance (by decide +kernel) (pa_cons (pv 1) (pa_cons (pe_bltn (v := .ty "list") (by rfl) B.list (by decide +kernel) rfl) pa_nil))) (nomark _))))) (pss_one (ps_ret pe_bl)) pss_nil)
        (pss_cons (ps_if (pt_cmpR op_ne (pe_callB call_len (by rfl) B.len (by decide +kernel) (pa_cons (pv 0) pa_nil)) (pe_callB call_len (by rfl) B.len (by decide +kernel) (pa_cons (pv 1) pa_nil)) (nomark _)) (pss_one (ps_ret pe_bl)) pss_nil)
        (pss_cons (ps_for PassesOwn.never rfl (pi_range1 (by rfl) B.range (pa_cons (pe_callB call_len (by rfl) B.len (by decide +kernel) (pa_cons (pv 1) pa_nil)) pa_nil)) (pg_name (i := 2) sc39.nd rfl (.inl rfl))
          (pss_one (ps_if (pt_not (pt_val (pe_call ih hr (by rfl) g kp b .nil pass0 (pa_cons (pe_ix ix_seq (pv 0) (pv 2) (fun _ _ => rfl)) (pa_cons (pe_ix ix_seq (pv 1) (pv 2) (fun _ _ => rfl)) pa_nil))))) (pss_one (ps_ret pe_bl)) pss_nil)))
        (pss_one (ps_ret pe_bl))))) pss_nil)
      (pss_cons (ps_if (PW.pt (pw_or (pt_val (pe_callB call_isi (by rfl) B.isinstance (by decide +kernel) (pa_cons (pv 0) (pa_cons (pe_bltn (v := .ty "bool") (by rfl) B.bool (by decide +kernel) rfl) pa_nil)))) (pw_or1 (pt_val (pe_callB call_isi (by rfl) B.isinstance (by decide +kernel) (pa_cons (pv 1) (pa_cons (pe_bltn (v := .ty "bool") (by rfl) B.bool (by decide +kernel) rfl) pa_nil))))))) pss_never pss_nil)
      (pss_cons (ps_if (pt_val (pe_callB call_isi (by rfl) B.isinstance (by decide +kernel) (pa_cons (pv 1) (pa_cons (pe_bltn (v := .ty "str") (by rfl) B.str (by decide +kernel) rfl) pa_nil)))) (pss_one (ps_ret (pe_and (pe_callB call_isi (by rfl) B.isinstance (by decide +kernel) (pa_cons (pv 0) (pa_cons (pe_bltn (v := .ty "str") (by rfl) B.str (by decide +kernel) rfl) pa_nil))) (pe_one (pe_cmpR op_eq (pv 0) (pv 1) (nomark _)))))) pss_nil)
      (pss_one (ps_ret (pe_and (pe_callB call_isi (by rfl) B.isinstance (by decide +kernel) (pa_cons (pv 0) (pa_cons (pe_bltn (v := .ty "int") (by rfl) B.int (by decide +kernel) rfl) pa_nil))) (pe_one (pe_cmpR op_eq (pv 0) (pv 1) (nomark _)))))))), ?_⟩
    rcases hsm with ⟨i, j, rfl, rfl, rfl⟩ | ⟨s1, s2, rfl, rfl, rfl⟩ | ⟨a, c, xs, ys, rfl, rfl, hh, hz, hcase⟩
    · have v0 : ∀ {T : String} {r : Bool}, kitB "int" T = some r → Val (tCB (rIsi K) (tCons (tVar 0) (tCons (tC (.ty T)) tNil))) [some (V.int i), some (V.int j), none] H (.bl r) := fun h => val_isi (val_var rfl) (.base (.int i)) h
      have v1 : ∀ {T : String} {r : Bool}, kitB "int" T = some r → Val (tCB (rIsi K) (tCons (tVar 1) (tCons (tC (.ty T)) tNil))) [some (V.int i), some (V.int j), none] H (.bl r) := fun h => val_isi (val_var rfl) (.base (.int j)) h
      refine st_seq (st_no (ans_or (ans_val (v1 (r := false) (by decide +kernel))) (ans_val (v1 (r := false) (by decide +kernel)))) (st_next ?_))
      refine st_seq (st_no (ans_or (ans_val (v0 (r := false) (by decide +kernel))) (ans_val (v1 (r := false) (by decide +kernel)))) (st_next ?_))
      refine st_seq (st_no (ans_val (v1 (r := false) (by decide +kernel))) (st_next ?_))
      exact st_ret (val_and (v0 (r := true) (by decide +kernel)) (val_eqI (val_var rfl) (val_var rfl))) q
    · have v0 : ∀ {T : String} {r : Bool}, kitB "str" T = some r → Val (tCB (rIsi K) (tCons (tVar 0) (tCons (tC (.ty T)) tNil))) [some (V.str s1), some (V.str s2), none] H (.bl r) := fun h => val_isi (val_var rfl) (.base (.str s1)) h
      have v1 : ∀ {T : String} {r : Bool}, kitB "str" T = some r → Val (tCB (rIsi K) (tCons (tVar 1) (tCons (tC (.ty T)) tNil))) [some (V.str s1), some (V.str s2), none] H (.bl r) := fun h => val_isi (val_var rfl) (.base (.str s2)) h
      refine st_seq (st_no (ans_or (ans_val (v1 (r := false) (by decide +kernel))) (ans_val (v1 (r := false) (by decide +kernel)))) (st_next ?_))
      refine st_seq (st_no (ans_or (ans_val (v0 (r := false) (by decide +kernel))) (ans_val (v1 (r := false) (by decide +kernel)))) (st_next ?_))
      refine st_seq (st_yes (ans_val (v1 (r := true) (by decide +kernel))) ?_)
      exact st_ret (val_and (v0 (r := true) (by decide +kernel)) (val_eqS (val_var rfl) (val_var rfl))) q
    · obtain ⟨ty, bt, bl, ta, tc, kt, kl, hor⟩ : ∃ (ty : String) (bt bl : Bool), TyX K H (.ref a) (.type ty) ∧ TyX K H (.ref c) (.type ty) ∧ kitB ty "tuple" = some bt ∧ kitB ty "list" = some bl ∧ (bt || bl) = true := by
        rcases hh with ⟨e1, e2⟩ | ⟨e1, e2⟩
        · exact ⟨"tuple", true, false, .base (.tup e1), .base (.tup e2), by decide +kernel, by decide +kernel, rfl⟩
        · exact ⟨"list", false, true, .base (.lst e1), .base (.lst e2), by decide +kernel, by decide +kernel, rfl⟩
      have v0 : ∀ {v2 : Option V} {T : String} {r : Bool}, kitB ty T = some r → Val (tCB (rIsi K) (tCons (tVar 0) (tCons (tC (.ty T)) tNil))) [some (V.ref a), some (V.ref c), v2] H (.bl r) := fun h => val_isi (val_var rfl) ta h
      have v1 : ∀ {v2 : Option V} {T : String} {r : Bool}, kitB ty T = some r → Val (tCB (rIsi K) (tCons (tVar 1) (tCons (tC (.ty T)) tNil))) [some (V.ref a), some (V.ref c), v2] H (.bl r) := fun h => val_isi (val_var rfl) tc h
      have ln : ∀ {v2 : Option V} (i : Nat) (d : Addr) (zs : List V), [some (V.ref a), some (V.ref c), v2][i]? = some (some (V.ref d)) → (H d = some (.tup zs) ∨ H d = some (.lst zs)) → Val (tCB (fun xs H Q => ∃ x n, xs = [x] ∧ LenV K x H n ∧ Q (.int n) H) (tCons (tVar i) tNil)) [some (V.ref a), some (V.ref c), v2] H (.int (zs.length : Nat)) := by
        intro v2 i d zs hi hd
        rcases hd with hd | hd
        · exact val_lenT (val_var hi) (SqT.of hd) rfl
        · exact val_lenL (val_var hi) hd rfl
      have ix : ∀ {v2 : Option V} (i : Nat) (d : Addr) (zs : List V) (k : Nat) (z : V), [some (V.ref a), some (V.ref c), v2][i]? = some (some (V.ref d)) → (H d = some (.tup zs) ∨ H d = some (.lst zs)) → [some (V.ref a), some (V.ref c), v2][2]? = some (some (V.int (k : Int))) → zs[k]? = some z →
          Val (tOp (rIx K) (tVar i) (tVar 2)) [some (V.ref a), some (V.ref c), v2] H z := by
        intro v2 i d zs k z hi hd hk hz
        refine val_op (val_var hi) (val_var hk) fun Q q => ?_
        rcases hd with hd | hd
        · exact .inr (.inl ⟨d, zs, _, z, rfl, rfl, SqT.of hd, atI_nat hz, q⟩)
        · exact .inl ⟨d, zs, _, z, rfl, rfl, SqL.of hd, atI_nat hz, q⟩
      have ha : H a = some (.tup xs) ∨ H a = some (.lst xs) := hh.elim (fun h => .inl h.1) fun h => .inr h.1
      have hc : H c = some (.tup ys) ∨ H c = some (.lst ys) := hh.elim (fun h => .inl h.2) fun h => .inr h.2
      refine st_seq (st_yes ((ans_or2 (ans_val (v1 kt)) (ans_val (v1 kl))).to hor) ?_)
      refine st_seq (st_no ((ans_or2 (ans_test (val_neB (v0 kt) (v1 kt))) (ans_test (val_neB (v0 kl) (v1 kl)))).to (by simp)) (st_next ?_))
      refine st_seq (st_if (ans_test (val_neI (c := (xs.length : Nat)) (n := (ys.length : Nat)) (ln 0 a xs rfl ha) (ln 1 c ys rfl hc))) (fun h1 => ?_) fun h1 => st_next ?_)
      · have h1 : xs.length ≠ ys.length := by
          simp at h1
          omega
        rcases hcase with ⟨_, rfl⟩ | ⟨he, _⟩
        · exact st_ret val_c q
        · exact absurd he h1
      · have h1 : xs.length = ys.length := by
          simp at h1
          omega
        rcases hcase with ⟨he, _⟩ | ⟨_, hL⟩
        · exact absurd h1 he
        refine st_seq (st_forR (n := ys.length) (ln 1 c ys rfl hc) (by omega) (fun i σ H' => H' = H ∧ i ≤ ys.length ∧ ∃ v2, σ = [some (.ref a), some (.ref c), v2] ∧ SmL (Sm H n) (xs.drop i) (ys.drop i) bb) ⟨rfl, Nat.zero_le _, _, rfl, hL⟩ ?_ ?_)
        · rintro i σ H' hi ⟨rfl, _, v2, rfl, hS⟩
          have hxi : i < xs.length := by omega
          rw [List.drop_eq_getElem_cons hxi, List.drop_eq_getElem_cons hi] at hS
          have ex := ix (v2 := some (V.int (i : Int))) 0 a xs i xs[i] rfl ha rfl (List.getElem?_eq_getElem hxi)
          have ey := ix (v2 := some (V.int (i : Int))) 1 c ys i ys[i] rfl hc rfl (List.getElem?_eq_getElem hi)
          cases hS with
          | no hR => exact ex _ (ey _ ⟨_, _, false, rfl, hR, false, rfl, iteT (st_ret val_c q)⟩)
          | yes hR hS2 => exact ex _ (ey _ ⟨_, _, true, rfl, hR, true, rfl, iteF (st_next ⟨rfl, hi, _, rfl, hS2⟩)⟩)
        · rintro σ H' ⟨rfl, _, v2, rfl, hS⟩
          rw [List.drop_of_length_le (by omega : xs.length ≤ ys.length), List.drop_length] at hS
          cases hS
          exact nx_go (st_ret val_c q)
end
end Hd
end
/-! ## Hd20 -/
section
set_option maxRecDepth 100000
set_option maxHeartbeats 4000000
set_option linter.all false
/-! The law's is_token, blank, sprinkled, hex. -/
namespace Hd
open PySem PySem.Spec PyProof.Rows L2 Evl
theorem StAt.neI {H : Hp} {st nl a : Addr} {left : Int} {l : List Int} (h : StAt H st nl left) (e : H a = some (.lst (iv l))) : a ≠ st := by
  obtain ⟨at_, bud, sc, l', e1, e2, e3⟩ := h
  intro z
  rw [z, e1] at e
  cases l with
  | nil => cases e
  | cons x l => cases e
section
variable {K : PySem.W.Frag} {σ : L2.St} {H : Hp} {a : Addr} {D : Ends}
theorem st_forLi {te : TE} {j : Nat} {tb : TS} {l : List Int} (h : Val te σ H (.ref a)) (hl : H a = some (.lst (iv l))) (Pv : Nat → L2.St → Hp → Prop) (h0 : Pv 0 σ H) (hk : ∀ i σ' H', Pv i σ' H' → H' a = some (.lst (iv l)))
    (hs : ∀ i c σ' H', l[i]? = some c → Pv i σ' H' → tb { D with nx := Pv (i + 1), ct := Pv (i + 1), bk := D.nx } (σ'.set j (some (.int c))) H') (hd : ∀ σ' H', Pv l.length σ' H' → D.nx σ' H') : tFor (iList K te) (gName j) tb D σ H :=
  h _ ⟨a, rfl, ⟨_, SqL.of hl⟩, for_list (xs := iv l) Pv h0 (fun i σ' H' _ p => SqL.of (hk i σ' H' p)) (fun i x σ' H' hx p => by
    obtain ⟨c, hc, rfl⟩ : ∃ c, l[i]? = some c ∧ x = V.int c := by
      rw [List.getElem?_map] at hx
      cases q : l[i]? with
      | none => rw [q] at hx; cases hx
      | some c => rw [q] at hx; exact ⟨c, rfl, (Option.some.inj hx).symm⟩
    exact hs i c σ' H' hc p) (fun σ' H' p => hd σ' H' (by rw [List.length_map] at p; exact p))⟩
theorem st_forTi {te : TE} {j : Nat} {tb : TS} {l : List Int} (h : Val te σ H (.ref a)) (hl : H a = some (.tup (iv l))) (Pv : Nat → L2.St → Hp → Prop) (h0 : Pv 0 σ H) (hk : ∀ i σ' H', Pv i σ' H' → H' a = some (.tup (iv l)))
    (hs : ∀ i c σ' H', l[i]? = some c → Pv i σ' H' → tb { D with nx := Pv (i + 1), ct := Pv (i + 1), bk := D.nx } (σ'.set j (some (.int c))) H') (hd : ∀ σ' H', Pv l.length σ' H' → D.nx σ' H') : tFor (iTup K te) (gName j) tb D σ H :=
  h _ ⟨a, rfl, ⟨_, SqT.of hl⟩, for_tup (xs := iv l) Pv h0 (fun i σ' H' _ p => SqT.of (hk i σ' H' p)) (fun i x σ' H' hx p => by
    obtain ⟨c, hc, rfl⟩ : ∃ c, l[i]? = some c ∧ x = V.int c := by
      rw [List.getElem?_map] at hx
      cases q : l[i]? with
      | none => rw [q] at hx; cases hx
      | some c => rw [q] at hx; exact ⟨c, rfl, (Option.some.inj hx).symm⟩
    exact hs i c σ' H' hc p) (fun σ' H' p => hd σ' H' (by rw [List.length_map] at p; exact p))⟩
theorem st_retOp {r : R2} {ta tb : TE} (h : ta σ H fun x H1 => tb σ H1 fun y H2 => r x y H2 D.rt) : tRet (tOp r ta tb) D σ H := h
theorem lcR_go {te' te : TE} {g : TG} {tt : TT} {vs : List Nat} {Q : VK} (h : te' σ H fun v H1 => tLc (iRng1 fun _ H2 Q' => Q' [v] H2) g tt te vs σ H1 Q) : tLc (iRng1 (tCons te' tNil)) g tt te vs σ H Q := h
theorem el_lcTf {tl te : TE} {tt : TT} {j : Nat} {vs : List Nat} {xs : List Int} (f : Int → Bool) (h : Ev tl σ H (.ref a)) (hx : SqT K H a (iv xs)) (hz : xs.length < 1000000) (hw : ∀ x, wipe ((wipe σ vs).set j (some x)) vs = wipe σ vs)
    (ht : ∀ c H1, Ex H H1 → EvT tt ((wipe σ vs).set j (some (.int c))) H1 (f c)) (he : ∀ c H1, Ex H H1 → Ev te ((wipe σ vs).set j (some (.int c))) H1 (.int c)) : EvL (tLc (iTup K tl) (gName j) tt te vs) σ H (iv (xs.filter f)) := fun H0 e Q q => h H0 e _ fun H1 e1 =>
  ⟨a, rfl, ⟨_, ex_t (e.trans e1) hx⟩, fun Dl hD => by
    have hs0 : sizeLine = 16777216 := sizeLine_eq
    refine lc_tup (xs := iv xs) (Qd := fun H' => Q (.ref Dl) H') (fun i H' => H1 Dl = none ∧ Ex H1 H' ∧ H' Dl = some (.lst (iv ((xs.take i).filter f)))) ⟨hD, Ex.new hD, by rw [List.take_zero]; exact upd_same⟩ (fun i H' _ p => ex_t ((e.trans e1).trans p.2.1) hx) (fun i x H' hi p => ⟨hw x, ?_⟩) (fun H' p => ?_)
    · obtain ⟨p1, p2, p3⟩ := p
      obtain ⟨c, hc, rfl⟩ : ∃ c, xs[i]? = some c ∧ x = V.int c := by
        rw [List.getElem?_map] at hi
        cases q : xs[i]? with
        | none => rw [q] at hi; cases hi
        | some c => rw [q] at hi; exact ⟨c, rfl, (Option.some.inj hi).symm⟩
      have hlen : ((xs.take i).filter f).length ≤ xs.length := Nat.le_trans (List.length_filter_le _ _) (by rw [List.length_take]; omega)
      have htk : (xs.take (i + 1)).filter f = (xs.take i).filter f ++ if f c = true then [c] else [] := by
        rw [List.take_succ, hc, List.filter_append]
        congr 1
        simp [List.filter_cons]
      refine ht c H' ((e.trans e1).trans p2) H' (Ex.refl _) _ fun H3 e3 => ?_
      cases hf : f c with
      | true =>
        rw [hf] at htk
        refine iteT ?_
        refine he c H3 (((e.trans e1).trans p2).trans e3) H3 (Ex.refl _) _ fun H4 e4 => ⟨_, e4 _ _ (e3 _ _ p3), by rw [List.length_map]; omega, p1, ((p2.trans e3).trans e4).mut p1, ?_⟩
        rw [upd_same, htk, if_pos rfl, iv_append]
        rfl
      | false =>
        rw [hf] at htk
        refine iteF ⟨p1, p2.trans e3, ?_⟩
        rw [htk, if_neg Bool.false_ne_true, List.append_nil]
        exact e3 _ _ p3
    · obtain ⟨p1, p2, p3⟩ := p
      rw [List.length_map, List.take_length] at p3
      exact q Dl H' (fresh_back e1 p1) (e1.trans p2) p3⟩
end
section
variable {P : Program} {w : World} {K : PySem.W.Frag} {mg : Str → Option Value} {base : Heap} {f : Addr} {fd : FuncData}
/-! ### is_token -/
def spIsT : Sp := fun vs H Q _ => ∃ (a : Addr) (xs : List Int), vs = [.ref a] ∧ H a = some (.tup (iv xs)) ∧ xs.length < 1000 ∧ ∀ b H', (b = true → ∃ c q, xs = c :: q ∧ Sx.begTok c = true ∧ ∀ x ∈ q, Sx.inTok x = true) → Ex H H' → Q (.bl b) H'
abbrev N42 : List Str := ["_law_octets_here", "_law_octet"]
theorem sc42 : FnScope N42 ["_law_octets_here"] (defScope (top 42)) := ⟨rfl, rfl, rfl, by decide +kernel, rfl, by decide +kernel, by decide +kernel⟩
theorem ok_is_token (B : Blt mg) (Cl : CA P w K mg base 2 "_law_letter" ["_law_octet"] (spB Sx.begTok)) (Ci : CA P w K mg base 3 "_law_in_token" ["_law_octet"] (spB Sx.inTok)) (F : Fun K "_law_is_token" "_law_is_token" (top 42) f fd) : FnOk P w K mg base CX0 4 f fd ["_law_octets_here"] spIsT := by
  refine F.ok sc42 (fun vs H Q E h => ?_) (fun cdv A outer s H vs Q E hr h => ?_)
  · obtain ⟨a, xs, rfl, _⟩ := h
    rfl
  obtain ⟨a, xs, rfl, ha, hz, k⟩ := h
  refine ⟨_, pss_cons (ps_if (PW.pt (pw_or (pt_cmpR op_eq (pe_callB call_len (by rfl) B.len (by decide +kernel) (pa_cons (pv 0) pa_nil)) pe_int (nomark _)) (pw_or1 (pt_not (pt_val (pe_calJ Cl hr (by decide) (by rfl) pass0 (pa_cons (pe_ix ix_tup (pv 0) pe_int (fun _ _ => rfl)) pa_nil))))))) (pss_one (ps_ret pe_bl)) pss_nil)
    (pss_one (ps_ret (pe_cmpR (op_eqD hr.units) (pe_lc (own := [("_law_octet", 1)]) (g := gName 1) rfl sc42.nd (pi_tup (pv 0)) (blkOk_by (N := N42) (sc := defScope (top 42)) (by decide +kernel)) (fun _ _ _ _ _ => pg_name (i := 1) sc42.nd rfl (Or.inl rfl))
      (fun _ _ _ _ _ => pts_one (pt_not (pt_val (pe_calJ Ci hr (by decide) (by rfl) pass0 (pa_cons (pv 1) pa_nil))))) (fun _ _ _ _ _ => pv 1)) (pe_lst pa_nil) (nomark _)))), ?_⟩
  refine st_seq (st_ifOr (ans_test (val_eqI (c := (xs.length : Nat)) (n := 0) (val_lenT (K := K) (val_var rfl) (SqT.of ha) (List.length_map _).symm) val_c)) (fun h1 => st_ret val_c (k false H (fun z => nomatch z) (Ex.refl H))) fun h1 => ?_)
  have h1 : xs.length ≠ 0 := by
    have := of_decide_eq_false h1
    omega
  cases xs with
  | nil => exact absurd rfl h1
  | cons c q =>
    refine val_ixT (K := K) (v := .int c) (xs := iv (c :: q)) (val_var (i := 0) (σ := [some (V.ref a), none]) rfl) (val_c (v := .int 0)) (SqT.of ha) (atI_iv (i := 0) rfl) _ ⟨c, rfl, fun H1 e1 => ⟨_, rfl, ?_⟩⟩
    cases hb : Sx.begTok c with
    | false => exact iteT (st_ret val_c (k false H1 (fun z => nomatch z) e1))
    | true =>
      refine iteF (st_next ?_)
      refine nx_go ?_
      have hl := el_lcTf (K := K) (σ := [some (V.ref a), none]) (H := H1) (a := a) (j := 1) (vs := [1]) (te := tVar 1) (tt := tNot (tB (tCall (spB Sx.inTok) [] E0 (tCons (tVar 1) tNil)))) (xs := c :: q) (fun c => !Sx.inTok c) (ev_var (i := 0) rfl) (SqT.of (e1 _ _ ha)) (by omega) (fun x => rfl)
        (fun c H2 _ => et_not (et_B (ev_spB (ev_var (i := 1) rfl)))) (fun c H2 _ => ev_var (i := 1) rfl)
      refine st_retOp ?_
      refine hl H1 (Ex.refl H1) _ fun p H2 hp e2 h2 => ⟨Nat.zero_le _, fun p2 hp2 => ?_⟩
      have e3 := Ex.new (o := .lst []) hp2
      refine ⟨.list (idl ((c :: q).filter fun c => !Sx.inTok c)), .list (idl []), .lst (SqL.of (e3 _ _ h2)) (dp_ints _), .lst (SqL.of upd_same) .nil, shaped_ints _, shaped_ints [], ?_⟩
      rw [eqv_ints]
      refine k _ _ (fun hd => ⟨c, q, rfl, hb, fun x hx => ?_⟩) ((e1.trans e2).trans e3)
      have hd : (c :: q).filter (fun c => !Sx.inTok c) = [] := of_decide_eq_true hd
      have := List.filter_eq_nil_iff.mp hd x (List.mem_cons_of_mem _ hx)
      simpa using this
/-! ### blank -/
def spBlank : Sp := fun vs H Q _ => ∃ (st nl : Addr) (left : Int), vs = [.ref st] ∧ StAt H st nl left ∧ ∀ e p H', Sx.AllSp e → e.length ≤ 2 → Kb st H H' → StAt H' st nl left → H p = none → H' p = some (.lst (iv e)) → Q (.ref p) H'
abbrev N43 : List Str := ["_law_state_here", "_law_k"]
theorem sc43 : FnScope N43 ["_law_state_here"] (defScope (top 43)) := ⟨rfl, rfl, rfl, by decide +kernel, rfl, by decide +kernel, by decide +kernel⟩
theorem ok_blank (B : Blt mg) (Cn : CNx P w K mg base) (F : Fun K "_law_blank" "_law_blank" (top 43) f fd) : FnOk P w K mg base CX0 2 f fd ["_law_state_here"] spBlank := by
  refine F.ok sc43 (fun vs H Q E h => ?_) (fun cdv A outer s H vs Q E hr h => ?_)
  · obtain ⟨st, nl, left, rfl, _⟩ := h
    rfl
  obtain ⟨st, nl, left, rfl, hst, k⟩ := h
  refine ⟨_, pss_cons (ps_if (pt_cmpR op_gt (pe_calJ Cn hr (by decide) (by rfl) pass0 (pa_cons (pv 0) (pa_cons pe_int pa_nil))) pe_int (nomark _)) (pss_one (ps_ret (pe_lst pa_nil))) pss_nil)
    (pss_one (ps_ret (pe_lc (own := [("_law_k", 1)]) (g := gName 1) (tt := tYes) rfl sc43.nd (pi_range1 (by rfl) B.range (pa_cons (pe_op op_add pe_int (pe_calJ Cn hr (by decide) (by rfl) pass0 (pa_cons (pv 0) (pa_cons pe_int pa_nil)))) pa_nil))
      (blkOk_by (N := N43) (sc := defScope (top 43)) (by decide +kernel)) (fun _ _ _ _ _ => pg_name (i := 1) sc43.nd rfl (Or.inl rfl)) (fun _ _ _ _ _ => pts_nil)
      (fun _ _ _ _ _ => pe_ix (r := rIxL K) ix_list (pe_lst (pa_cons pe_int (pa_cons pe_int (pa_cons pe_int (pa_cons pe_int (pa_cons pe_int (pa_cons pe_int pa_nil))))))) (pe_calJ Cn hr (by decide) (by rfl) pass0 (pa_cons (pv 0) (pa_cons pe_int pa_nil))) (fun _ _ => rfl))))), ?_⟩
  refine st_seq (next_gt (i := 0) rfl val_c (by decide) hst fun r H1 r0 r1 hk1 h1 => ite_dec (fun _ => ?_) fun _ => st_next ?_)
  · refine ⟨Nat.zero_le _, fun p hp => ?_⟩
    exact k [] p _ (fun c hc => nomatch hc) (Nat.zero_le _) (hk1.trans (Ex.kb (Ex.new hp))) (h1.exx (Ex.new hp)) (hk1.fresh hst.is h1.is hp) upd_same
  · refine nx_go ?_
    refine lcR_go ?_
    refine next_draw (i := 0) rfl val_c (by decide) h1 fun n H2 n0 n1 hk2 h2 => ⟨1, n, rfl, rfl, ?_⟩
    have hkk := hk1.trans hk2
    refine lc_draw (left := left) (n := 1 + n) (fun i acc H' left' => left' = left ∧ ∃ xs, acc = iv xs ∧ Sx.AllSp xs) (fun Q' q => q) (by omega) (by omega) h2 (fun x => rfl) (fun D hD => ⟨rfl, [], rfl, fun c hc => nomatch hc⟩) (fun D i acc H' left' hi dw hDl hl pv Q' q => ?_) (fun D acc H' left' dw hDl hl pv => ?_)
    · obtain ⟨rfl, xs, rfl, hx⟩ := pv
      refine ⟨by show 6 ≤ sizeLine; decide, fun l zl => ?_⟩
      have xl := Ex.new (o := .lst [V.int 32, V.int 10, V.int 9, V.int 13, V.int 11, V.int 12]) zl
      have hlst : l ≠ st := (dw.sa.ne zl).1
      refine next_draw (i := 0) rfl val_c (by decide) (dw.sa.exx xl) fun r H3 r0 r1 hk3 hs3 => ?_
      obtain ⟨c, hc, hsp⟩ : ∃ c, atI [V.int 32, V.int 10, V.int 9, V.int 13, V.int 11, V.int 12] r = some (.int c) ∧ Sx.isSpace c = true := by
        have h5 : r = 0 ∨ r = 1 ∨ r = 2 ∨ r = 3 ∨ r = 4 ∨ r = 5 := by omega
        rcases h5 with rfl | rfl | rfl | rfl | rfl | rfl <;> exact ⟨_, rfl, rfl⟩
      refine ⟨l, _, r, _, rfl, rfl, SqL.of (hk3 l _ hlst upd_same), hc, ?_⟩
      refine q _ H3 left' ((Ex.kb xl).trans hk3) hs3 ⟨rfl, xs ++ [c], by rw [iv_append]; rfl, fun x hx' => ?_⟩
      rcases List.mem_append.mp hx' with h | h
      · exact hx x h
      · rw [List.mem_singleton.mp h]; exact hsp
    · obtain ⟨rfl, xs, rfl, hx⟩ := pv
      rw [List.length_map] at hl
      exact k xs D H' hx (by omega) (hkk.trans dw.kb) dw.sa (hkk.fresh hst.is h2.is dw.new) hDl
end
end Hd
end
/-! ## Hd21 -/
section
set_option maxRecDepth 100000
set_option maxHeartbeats 4000000
set_option linter.all false
/-! The law's sprinkled, hex. -/
namespace Hd
open PySem PySem.Spec PyProof.Rows L2 Evl
section
variable {P : Program} {w : World} {K : PySem.W.Frag} {mg : Str → Option Value} {base : Heap} {f : Addr} {fd : FuncData}
abbrev CBl (P : Program) (w : World) (K : PySem.W.Frag) (mg : Str → Option Value) (base : Heap) : Prop := Cal P w K mg base CX0 2 "_law_blank" ["_law_state_here"] spBlank
/-! ### sprinkled -/
def spSpr : Sp := fun vs H Q _ => ∃ (st nl a : Addr) (left : Int) (row : List Int), vs = [.ref st, .ref a] ∧ StAt H st nl left ∧ H a = some (.lst (iv row)) ∧ row.length < 100000 ∧
  ∀ L p H', Sx.Spr row L → L.length ≤ 3 * row.length + 2 → Kb st H H' → StAt H' st nl left → H p = none → H' p = some (.lst (iv L)) → Q (.ref p) H'
abbrev N44 : List Str := ["_law_state_here", "_law_row", "_law_found", "_law_octet"]
theorem sc44 : FnScope N44 ["_law_state_here", "_law_row"] (defScope (top 44)) := ⟨rfl, rfl, rfl, by decide +kernel, rfl, by decide +kernel, by decide +kernel⟩
theorem ok_sprinkled (Cb : CBl P w K mg base) (F : Fun K "_law_sprinkled" "_law_sprinkled" (top 44) f fd) : FnOk P w K mg base CX0 3 f fd ["_law_state_here", "_law_row"] spSpr := by
  refine F.ok sc44 (fun vs H Q E h => ?_) (fun cdv A outer s H vs Q E hr h => ?_)
  · obtain ⟨st, nl, a, left, row, rfl, _⟩ := h
    rfl
  obtain ⟨st, nl, a, left, row, rfl, hst, ha, hz, k⟩ := h
  refine ⟨_, pss_cons (ps_set (i := 2) sc44.nd rfl (.inl rfl) (pe_lst pa_nil))
    (pss_cons (ps_for PassesOwn.never rfl (pi_list (pv 1)) (pg_name (i := 3) sc44.nd rfl (.inl rfl)) (pss_one (ps_set (i := 2) sc44.nd rfl (.inl rfl) (pe_op op_cat (pe_op op_cat (pv 2) (pe_calJ Cb hr (by decide) (by rfl) pass0 (pa_cons (pv 0) pa_nil))) (pe_lst (pa_cons (pv 3) pa_nil))))))
    (pss_one (ps_ret (pe_op op_cat (pv 2) (pe_calJ Cb hr (by decide) (by rfl) pass0 (pa_cons (pv 0) pa_nil)))))), ?_⟩
  have hs0 : sizeLine = 16777216 := sizeLine_eq
  refine st_seq ⟨Nat.zero_le _, fun p hp => ?_⟩
  have e0 := Ex.new (o := .lst []) hp
  have hast := hst.neI ha
  refine st_seq (st_forLi (K := K) (l := row) (val_var rfl) (e0 _ _ ha) (fun i σ H' => ∃ fp L v3, σ = [some (.ref st), some (.ref a), some (.ref fp), v3] ∧ H fp = none ∧ H' fp = some (.lst (iv L)) ∧ Sx.SprP (row.take i) L ∧ L.length ≤ 3 * i ∧ Kb st H H' ∧ StAt H' st nl left)
    ⟨p, [], none, rfl, hp, upd_same, by rw [List.take_zero]; exact .nil, by simp, Ex.kb e0, hst.exx e0⟩ (fun i σ H' ⟨_, _, _, _, _, _, _, _, hk, _⟩ => hk a _ hast ha) ?_ ?_)
  · rintro i c σ H' hc ⟨fp, L, v3, rfl, nfp, hfp, hL, hl, hk, hs⟩
    have hi : i < row.length := (List.getElem?_eq_some_iff.mp hc).1
    have hfst := hs.neI hfp
    refine ⟨_, rfl, _, rfl, st, nl, left, rfl, hs, fun e b H2 he hel hk2 hs2 nb hb => ⟨fp, b, _, _, rfl, rfl, hk2 fp _ hfst hfp, hb, by rw [List.length_map, List.length_map]; omega, fun x hx => ?_⟩⟩
    have ex := Ex.new (o := .lst (iv L ++ iv e)) hx
    refine ⟨_, rfl, by show 1 ≤ sizeLine; decide, fun y hy => ⟨x, y, _, _, rfl, rfl, (Ex.new hy) _ _ upd_same, upd_same, by rw [List.length_append, List.length_map, List.length_map]; simp; omega, fun z hz => ?_⟩⟩
    have ey := Ex.new (o := .lst [V.int c]) hy
    have ez := Ex.new (o := .lst (iv L ++ iv e ++ [V.int c])) hz
    have exx := (ex.trans ey).trans ez
    have hkk := (hk.trans hk2).trans (Ex.kb exx)
    refine ⟨z, L ++ e ++ [c], _, rfl, ((hk.trans hk2).trans (Ex.kb (ex.trans ey))).fresh hst.is ((hs2.exx (ex.trans ey)).is) hz, by rw [upd_same, iv_append, iv_append]; rfl, ?_, ?_, hkk, hs2.exx exx⟩
    · rw [List.take_succ, hc]
      exact .snoc hL he
    · simp only [List.length_append, List.length_cons, List.length_nil]
      omega
  · rintro σ H' ⟨fp, L, v3, rfl, nfp, hfp, hL, hl, hk, hs⟩
    rw [List.take_length] at hL
    have hfst := hs.neI hfp
    refine ⟨_, rfl, _, rfl, st, nl, left, rfl, hs, fun e b H2 he hel hk2 hs2 nb hb => ⟨fp, b, _, _, rfl, rfl, hk2 fp _ hfst hfp, hb, by rw [List.length_map, List.length_map]; omega, fun x hx => ?_⟩⟩
    have ex := Ex.new (o := .lst (iv L ++ iv e)) hx
    exact k (L ++ e) x _ (hL.spr he) (by rw [List.length_append]; omega) ((hk.trans hk2).trans (Ex.kb ex)) (hs2.exx ex) ((hk.trans hk2).fresh hst.is hs2.is hx) (by rw [upd_same, iv_append])
/-! ### hex -/
theorem hex_at (w : Str) (hw : w = "0123456789abcdef" ∨ w = "0123456789ABCDEF") (k : Int) (h0 : 0 ≤ k) (h1 : k < 16) : w.length ≤ sizeLine ∧ ∃ c : Nat, atI w.cps.toList k = some c ∧ Sx.hexW (c : Int) = k := by
  obtain ⟨n, rfl⟩ : ∃ n : Nat, k = n := ⟨k.toNat, by omega⟩
  have key : ∀ w : Str, w = "0123456789abcdef" ∨ w = "0123456789ABCDEF" → w.length = 16 ∧ ∀ m : Fin 16, ((atI w.cps.toList (m.val : Int)).map fun c => Sx.hexW (c : Int)) = some (m.val : Int) := by
    intro w hw
    rcases hw with rfl | rfl
    · exact ⟨by decide +kernel, by decide +kernel⟩
    · exact ⟨by decide +kernel, by decide +kernel⟩
  obtain ⟨hl, hm⟩ := key w hw
  refine ⟨by rw [hl]; decide, ?_⟩
  have := hm ⟨n, by omega⟩
  cases e : atI w.cps.toList (n : Int) with
  | none => rw [e] at this; cases this
  | some c =>
    rw [e] at this
    exact ⟨c, rfl, Option.some.inj this⟩
def spHex : Sp := fun vs H Q _ => ∃ (st nl : Addr) (left c : Int), vs = [.ref st, .int c] ∧ StAt H st nl left ∧ Sx.Oct c ∧
  ∀ h l p H', 0 ≤ Sx.hexW h → 0 ≤ Sx.hexW l → Sx.hexW h * 16 + Sx.hexW l = c → Kb st H H' → StAt H' st nl left → H p = none → H' p = some (.lst (iv [h, l])) → Q (.ref p) H'
abbrev N45 : List Str := ["_law_state_here", "_law_octet", "_law_digits"]
theorem sc45 : FnScope N45 ["_law_state_here", "_law_octet"] (defScope (top 45)) := ⟨rfl, rfl, rfl, by decide +kernel, rfl, by decide +kernel, by decide +kernel⟩
theorem ok_hex (B : Blt mg) (Cn : CNx P w K mg base) (F : Fun K "_law_hex" "_law_hex" (top 45) f fd) : FnOk P w K mg base CX0 2 f fd ["_law_state_here", "_law_octet"] spHex := by
  refine F.ok sc45 (fun vs H Q E h => ?_) (fun cdv A outer s H vs Q E hr h => ?_)
  · obtain ⟨st, nl, left, c, rfl, _⟩ := h
    rfl
  obtain ⟨st, nl, left, c, rfl, hst, ho, k⟩ := h
  obtain ⟨o1, o2⟩ := ho
  refine ⟨_, pss_cons (ps_set (i := 2) sc45.nd rfl (.inl rfl) (pe_lst (pa_cons pe_str (pa_cons pe_str pa_nil))))
    (pss_one (ps_ret (pe_lst (pa_cons (pe_callB call_ord (by rfl) B.ord (by decide +kernel) (pa_cons (pe_ix ix_str (pe_ix ix_list (pv 2) (pe_calJ Cn hr (by decide) (by rfl) pass0 (pa_cons (pv 0) (pa_cons pe_int pa_nil))) (fun _ _ => rfl)) (pe_op op_fdiv (pv 1) pe_int) (fun _ _ => rfl)) pa_nil))
      (pa_cons (pe_callB call_ord (by rfl) B.ord (by decide +kernel) (pa_cons (pe_ix ix_str (pe_ix ix_list (pv 2) (pe_calJ Cn hr (by decide) (by rfl) pass0 (pa_cons (pv 0) (pa_cons pe_int pa_nil))) (fun _ _ => rfl)) (pe_op op_mod (pe_callTy call_int1 (by rfl) B.int (by decide +kernel) (pa_cons (pv 1) pa_nil)) pe_int) (fun _ _ => rfl)) pa_nil)) pa_nil))))), ?_⟩
  refine st_seq ⟨by show 2 ≤ sizeLine; decide, fun d hd => ?_⟩
  have e0 := Ex.new (o := .lst [V.str "0123456789abcdef", V.str "0123456789ABCDEF"]) hd
  have hds : d ≠ st := (hst.ne hd).1
  have pick : ∀ r : Int, 0 ≤ r → r < 2 → ∃ w : Str, atI [V.str "0123456789abcdef", V.str "0123456789ABCDEF"] r = some (.str w) ∧ (w = "0123456789abcdef" ∨ w = "0123456789ABCDEF") := by
    intro r r0 r1
    have h2 : r = 0 ∨ r = 1 := by omega
    rcases h2 with rfl | rfl
    · exact ⟨_, rfl, .inl rfl⟩
    · exact ⟨_, rfl, .inr rfl⟩
  refine ⟨_, rfl, next_draw (i := 0) rfl val_c (by decide) (hst.exx e0) fun r H1 r0 r1 hk1 h1 => ?_⟩
  obtain ⟨w1, a1, p1⟩ := pick r r0 r1
  obtain ⟨z1, c1, y1, x1⟩ := hex_at w1 p1 (c / 16) (by omega) (by omega)
  have hd1 := hk1 d _ hds upd_same
  refine ⟨d, _, r, _, rfl, rfl, SqL.of hd1, a1, _, rfl, c, 16, rfl, rfl, ⟨by decide, by decide⟩, w1, _, c1, rfl, rfl, z1, y1, ⟨#[c1]⟩, rfl, rfl, ?_⟩
  refine ⟨_, rfl, next_draw (i := 0) rfl val_c (by decide) h1 fun r2 H2 r3 r4 hk2 h2 => ?_⟩
  obtain ⟨w2, a2, p2⟩ := pick r2 r3 r4
  obtain ⟨z2, c2, y2, x2⟩ := hex_at w2 p2 (c % 16) (by omega) (by omega)
  have hd2 := hk2 d _ hds hd1
  refine ⟨d, _, r2, _, rfl, rfl, SqL.of hd2, a2, _, rfl, .inl ⟨c, rfl, c, 16, rfl, rfl, by show (0 : Int) < 16; decide, w2, _, c2, rfl, rfl, z2, y2, ⟨#[c2]⟩, rfl, rfl, by show 2 ≤ sizeLine; decide, fun p hp => ?_⟩⟩
  have ep := Ex.new (o := .lst (iv [(c1 : Int), (c2 : Int)])) hp
  have hkk := ((Ex.kb e0).trans hk1).trans hk2
  exact k c1 c2 p _ (by rw [x1]; omega) (by rw [x2]; omega) (by rw [x1, x2]; omega) (hkk.trans (Ex.kb ep)) (h2.exx ep) (hkk.fresh hst.is h2.is hp) upd_same
end
end Hd
end
/-! ## Hd22 -/
section
set_option maxRecDepth 100000
set_option maxHeartbeats 4000000
set_option linter.all false
/-! The law's base64. -/
namespace Hd
open PySem PySem.Spec PyProof.Rows L2 Evl
/-! ### the plain law -/
def alph : Str := "ABCDEFGHIJKLMNOPQRSTUVWXYZabcdefghijklmnopqrstuvwxyz0123456789+/"
theorem alph_at (d : Int) (h0 : 0 ≤ d) (h1 : d < 64) : alph.length ≤ sizeLine ∧ ∃ c : Nat, atI alph.cps.toList d = some c ∧ (c : Int) = Sx.al d := by
  obtain ⟨n, rfl⟩ : ∃ n : Nat, d = n := ⟨d.toNat, by omega⟩
  have hl : alph.length = 64 := by decide +kernel
  have hm : ∀ m : Fin 64, (atI alph.cps.toList (m.val : Int)).map (fun c => (c : Int)) = some (Sx.al (m.val : Int)) := by decide +kernel
  refine ⟨by rw [hl]; decide, ?_⟩
  have := hm ⟨n, by omega⟩
  cases e : atI alph.cps.toList (n : Int) with
  | none => rw [e] at this; cases this
  | some c =>
    rw [e] at this
    exact ⟨c, rfl, Option.some.inj this⟩
def fold256 (l : List Int) : Int := l.foldl (fun b x => b * 256 + x) 0
def digs (n : Int) : List Int := [n / 262144, n / 4096 % 64, n / 64 % 64, n % 64]
/-- one group -/
def seg (g : List Int) : List Int := ((digs (fold256 (g ++ List.replicate (3 - g.length) 0))).take (g.length + 1)).map Sx.al ++ List.replicate (3 - g.length) 61
theorem enc_step : ∀ ys : List Int, ys ≠ [] → Sx.enc ys = seg (ys.take 3) ++ Sx.enc (ys.drop 3)
  | a :: b :: c :: r, _ => by
    rw [Sx.enc]
    rfl
  | [a, b], _ => by
    rw [Sx.enc]
    rfl
  | [a], _ => by
    rw [Sx.enc]
    rfl
  | [], h => absurd rfl h
theorem fold_oct : ∀ (l : List Int) (b : Int), (∀ x ∈ l, Sx.Oct x) → 0 ≤ b → ∀ n : Nat, b < 256 ^ n → 0 ≤ l.foldl (fun b x => b * 256 + x) b ∧ l.foldl (fun b x => b * 256 + x) b < 256 ^ (n + l.length)
  | [], b, _, h0, n, h1 => ⟨h0, h1⟩
  | x :: l, b, hx, h0, n, h1 => by
    obtain ⟨x0, x1⟩ := hx x List.mem_cons_self
    have h2 : b * 256 + x < 256 ^ (n + 1) := by
      rw [Int.pow_succ]
      omega
    have := fold_oct l (b * 256 + x) (fun y hy => hx y (List.mem_cons_of_mem _ hy)) (by omega) (n + 1) h2
    rw [List.foldl_cons, List.length_cons]
    have e : n + (l.length + 1) = n + 1 + l.length := by omega
    rw [e]
    exact this
theorem pad_oct {g : List Int} (hg : ∀ x ∈ g, Sx.Oct x) (hl : g.length ≤ 3) : 0 ≤ fold256 (g ++ List.replicate (3 - g.length) 0) ∧ fold256 (g ++ List.replicate (3 - g.length) 0) < 16777216 := by
  have h := fold_oct (g ++ List.replicate (3 - g.length) 0) 0 (fun x hx => by
    rcases List.mem_append.mp hx with h | h
    · exact hg x h
    · rw [List.eq_of_mem_replicate h]; exact ⟨by decide, by decide⟩) (by decide) 0 (by decide)
  have e : (g ++ List.replicate (3 - g.length) (0 : Int)).length = 3 := by
    rw [List.length_append, List.length_replicate]
    omega
  rw [e] at h
  exact h
theorem digs_ok {n : Int} (h0 : 0 ≤ n) (h1 : n < 16777216) : ∀ d ∈ digs n, 0 ≤ d ∧ d < 64 := by
  intro d hd
  simp only [digs, List.mem_cons, List.not_mem_nil, or_false] at hd
  rcases hd with rfl | rfl | rfl | rfl <;> constructor <;> omega
section
variable {K : PySem.W.Frag} {σ : L2.St} {H : Hp} {a : Addr} {D : Ends}
/-- [e for x in NEW], e a function of x -/
theorem el_lcMap {tl te : TE} {j : Nat} {vs : List Nat} {xs : List Int} (g : Int → Int) (h : EvL tl σ H (iv xs)) (hz : xs.length < 1000000) (hw : ∀ x, wipe ((wipe σ vs).set j (some x)) vs = wipe σ vs)
    (he : ∀ c ∈ xs, ∀ H1, Ex H H1 → Ev te ((wipe σ vs).set j (some (.int c))) H1 (.int (g c))) : EvL (tLc (iList K tl) (gName j) tYes te vs) σ H (iv (xs.map g)) := fun H0 e Q q => h H0 e _ fun a H1 ha e1 hx =>
  ⟨a, rfl, ⟨_, SqL.of hx⟩, fun Dl hD => by
    have hs0 : sizeLine = 16777216 := sizeLine_eq
    refine lc_list (xs := iv xs) (Qd := fun H' => Q (.ref Dl) H') (fun i H' => H1 Dl = none ∧ Ex H1 H' ∧ H' Dl = some (.lst (iv ((xs.take i).map g)))) ⟨hD, Ex.new hD, by rw [List.take_zero]; exact upd_same⟩ (fun i H' _ p => SqL.of (p.2.1 a _ hx)) (fun i x H' hi p => ⟨hw x, yes_go ?_⟩) (fun H' p => ?_)
    · obtain ⟨p1, p2, p3⟩ := p
      obtain ⟨c, hc, rfl⟩ : ∃ c, xs[i]? = some c ∧ x = V.int c := by
        rw [List.getElem?_map] at hi
        cases q : xs[i]? with
        | none => rw [q] at hi; cases hi
        | some c => rw [q] at hi; exact ⟨c, rfl, (Option.some.inj hi).symm⟩
      have hlen : (xs.take i).length ≤ xs.length := by rw [List.length_take]; omega
      refine he c (List.mem_of_getElem? hc) H' ((e.trans e1).trans p2) H' (Ex.refl _) _ fun H4 e4 => ⟨_, e4 _ _ p3, by rw [List.length_map, List.length_map]; omega, p1, (p2.trans e4).mut p1, ?_⟩
      rw [upd_same, List.take_succ, hc, List.map_append, iv_append]
      rfl
    · obtain ⟨p1, p2, p3⟩ := p
      rw [List.length_map, List.take_length] at p3
      exact q Dl H' (fresh_back e1 p1) (e1.trans p2) p3⟩
theorem ev_add {ta tb : TE} {a b c : Int} (h1 : Ev ta σ H (.int a)) (h2 : Ev tb σ H (.int b)) (e : a + b = c) : Ev (tOp (rI0 fun i j => .int (i + j)) ta tb) σ H (.int c) := by
  subst e
  exact ev_op h1 h2 (rv_I0 (g := fun i j => .int (i + j)))
theorem ev_sub {ta tb : TE} {a b c : Int} (h1 : Ev ta σ H (.int a)) (h2 : Ev tb σ H (.int b)) (e : a - b = c) : Ev (tOp (rI0 fun i j => .int (i - j)) ta tb) σ H (.int c) := by
  subst e
  exact ev_op h1 h2 (rv_I0 (g := fun i j => .int (i - j)))
theorem ev_mul {ta tb : TE} {a b c : Int} (h1 : Ev ta σ H (.int a)) (h2 : Ev tb σ H (.int b)) (hb : CMul a b) (e : a * b = c) : Ev (tOp (rI CMul fun i j => .int (i * j)) ta tb) σ H (.int c) := by
  subst e
  exact ev_op h1 h2 (rv_I (g := fun i j => .int (i * j)) hb)
theorem ev_mod {ta tb : TE} {a b c : Int} (h1 : Ev ta σ H (.int a)) (h2 : Ev tb σ H (.int b)) (hb : 0 < b) (e : a % b = c) : Ev (tOp (rI (fun _ j => 0 < j) fun i j => .int (i % j)) ta tb) σ H (.int c) := by
  subst e
  exact ev_op h1 h2 (rv_I (C := fun _ j => 0 < j) (g := fun i j => .int (i % j)) hb)
theorem ev_div {ta tb : TE} {a b c : Int} (h1 : Ev ta σ H (.int a)) (h2 : Ev tb σ H (.int b)) (hb : CDiv a b) (e : a / b = c) : Ev (tOp (rI CDiv fun i j => .int (i / j)) ta tb) σ H (.int c) := by
  subst e
  exact ev_op h1 h2 (rv_I (g := fun i j => .int (i / j)) hb)
theorem ev_int {ta : TE} {i : Int} (h : Ev ta σ H (.int i)) : Ev (tCB (fun xs H Q => (∃ i, xs = [V.int i] ∧ Q (.int i) H) ∨ ∃ k, xs = [V.bl k] ∧ Q (.int (if k then 1 else 0)) H) (tCons ta tNil)) σ H (.int i) := fun H1 e Q q => h H1 e _ fun H2 e2 => .inl ⟨i, rfl, q H2 e2⟩
theorem ev_lenL {ta : TE} {xs : List V} (h1 : Ev ta σ H (.ref a)) (h : H a = some (.lst xs)) : Ev (tCB (fun xs H Q => ∃ x n, xs = [x] ∧ LenV K x H n ∧ Q (.int n) H) (tCons ta tNil)) σ H (.int (xs.length : Int)) := fun H1 e Q q =>
  h1 H1 e _ fun H2 e2 => ⟨_, _, rfl, .inl ⟨_, SqL.of (e2 _ _ (e _ _ h)), rfl⟩, q H2 e2⟩
theorem rep_flat (x : V) : ∀ n : Nat, (List.replicate n [x]).flatten = List.replicate n x
  | 0 => rfl
  | n + 1 => by rw [List.replicate_succ, List.flatten_cons, rep_flat x n, List.replicate_succ]; rfl
theorem el_rep {ta tb : TE} {c : Int} {n : Nat} (h1 : EvL ta σ H (iv [c])) (h2 : ∀ H1, Ex H H1 → Ev tb σ H1 (.int (n : Nat))) (hz : n ≤ 1000) : EvL (tOp rRep ta tb) σ H (iv (List.replicate n c)) := fun H1 e Q q => by
  have hs0 : sizeLine = 16777216 := sizeLine_eq
  have b1 : -(2 ^ 63) ≤ (n : Int) := by
    have : (0 : Int) ≤ n := Int.natCast_nonneg n
    have : -(2 ^ 63) ≤ (0 : Int) := by decide
    omega
  have b2 : (n : Int) < 2 ^ 63 := by
    have h3 : (n : Int) ≤ 1000 := by omega
    have h4 : (1000 : Int) < 2 ^ 63 := by decide
    omega
  refine h1 H1 e _ fun p H2 hp e2 h2' => h2 H2 (e.trans e2) H2 (Ex.refl _) _ fun H3 e3 => ⟨p, (n : Int), _, rfl, rfl, e3 _ _ h2', b1, b2, ?_, fun z hz' => ?_⟩
  · rw [Int.toNat_natCast, List.length_map, List.length_cons, List.length_nil]
    omega
  · refine q z _ (fresh_back (e2.trans e3) hz') ((e2.trans e3).trans (Ex.new hz')) ?_
    rw [upd_same, Int.toNat_natCast]
    congr 2
    show (List.replicate n [V.int c]).flatten = iv (List.replicate n c)
    rw [rep_flat]
    exact List.map_replicate.symm
theorem el_listSl {te tl th : TE} {xs : List V} {lo hi : Int} (h : Ev te σ H (.ref a)) (hx : SqT K H a xs) (h1 : Ev tl σ H (.int lo)) (h2 : Ev th σ H (.int hi)) : EvL (tCB (rListS K) (tCons (tSl (rSlA K) te (tPart tl) (tPart th)) tNil)) σ H (cutV xs (some lo) (some hi)) := fun H1 e Q q =>
  h H1 e _ fun H2 e2 => h1 H2 (e.trans e2) _ fun H3 e3 => ⟨lo, rfl, h2 H3 ((e.trans e2).trans e3) _ fun H4 e4 => by
    have ex := (e2.trans e3).trans e4
    have hx4 := ex_t (e.trans ex) hx
    refine ⟨hi, rfl, a, xs, rfl, hx4, fun hw => ?_, fun _ p hp => ?_⟩
    · refine ⟨a, _, rfl, .inr hx4, fun l hl => q l _ (fresh_back ex hl) (ex.trans (Ex.new hl)) ?_⟩
      rw [upd_same]
      unfold cutV
      rw [hw.1, hw.2, List.drop_zero, Nat.sub_zero, List.take_length]
    · have ep := Ex.new (o := .tup (cutV xs (some lo) (some hi))) hp
      exact ⟨p, _, rfl, .inr (SqT.of upd_same), fun l hl => q l _ (fresh_back (ex.trans ep) hl) ((ex.trans ep).trans (Ex.new hl)) upd_same⟩⟩
theorem el_slNone {te th : TE} {xs : List Int} {k : Nat} (h : Ev te σ H (.ref a)) (hx : H a = some (.lst (iv xs))) (h2 : Ev th σ H (.int (k : Nat))) : EvL (tSl (rSlL K) te tNoPart (tPart th)) σ H (iv (xs.take k)) := fun H1 e Q q =>
  h H1 e _ fun H2 e2 => h2 H2 (e.trans e2) _ fun H4 e4 => ⟨_, rfl, a, _, rfl, SqL.of ((e.trans e2).trans e4 _ _ hx), fun p hp => q p _ (fresh_back (e2.trans e4) hp) ((e2.trans e4).trans (Ex.new hp)) (by
    rw [upd_same]
    congr 2
    unfold cutV
    rw [HT.sIx_nat, List.length_map]
    show ((iv xs).drop 0).take (min k xs.length - 0) = _
    rw [List.drop_zero, Nat.sub_zero, ← List.map_take]
    congr 1
    by_cases hk : k ≤ xs.length
    · rw [Nat.min_eq_left hk]
    · rw [Nat.min_eq_right (by omega), List.take_length, List.take_of_length_le (by omega)])⟩
end
section
variable {P : Program} {w : World} {K : PySem.W.Frag} {mg : Str → Option Value} {base : Heap} {f : Addr} {fd : FuncData}
def spB64 : Sp := fun vs H Q _ => ∃ (a : Addr) (xs : List Int), vs = [.ref a] ∧ H a = some (.tup (iv xs)) ∧ (∀ x ∈ xs, Sx.Oct x) ∧ xs.length < 1000 ∧ ∀ p H', Ex H H' → H p = none → H' p = some (.lst (iv (Sx.enc xs))) → Q (.ref p) H'
abbrev N46 : List Str := ["_law_octets_here", "_law_alphabet", "_law_found", "_law_k", "_law_group", "_law_bits", "_law_octet", "_law_digits", "_law_digit"]
theorem sc46 : FnScope N46 ["_law_octets_here"] (defScope (top 46)) := ⟨rfl, rfl, rfl, by decide +kernel, rfl, by decide +kernel, by decide +kernel⟩
theorem ok_base64 (B : Blt mg) (F : Fun K "_law_base64" "_law_base64" (top 46) f fd) : FnOk P w K mg base CX0 1 f fd ["_law_octets_here"] spB64 := by
  refine F.ok sc46 (fun vs H Q E h => ?_) (fun cdv A outer s H vs Q E hr h => ?_)
  · obtain ⟨a, xs, rfl, _⟩ := h
    rfl
  obtain ⟨a, xs, rfl, ha, ho, hz, k⟩ := h
  refine ⟨_, pss_cons (ps_set (i := 1) sc46.nd rfl (.inr rfl) pe_str)
    (pss_cons (ps_set (i := 2) sc46.nd rfl (.inl rfl) (pe_lst pa_nil))
    (pss_cons (ps_for PassesOwn.never rfl (pi_range1 (by rfl) B.range (pa_cons (pe_op op_fdiv (pe_op op_add (pe_callB call_len (by rfl) B.len (by decide +kernel) (pa_cons (pv 0) pa_nil)) pe_int) pe_int) pa_nil)) (pg_name (i := 3) sc46.nd rfl (.inl rfl))
      (pss_cons (ps_set (i := 4) sc46.nd rfl (.inl rfl) (pe_callTy call_list_of (by rfl) B.list (by decide +kernel) (pa_cons (pe_slice sl_tupA (pv 0) (po_some (pe_op op_mul pe_int (pv 3))) (po_some (pe_op op_add (pe_op op_mul pe_int (pv 3)) pe_int))) pa_nil)))
      (pss_cons (ps_set (i := 5) sc46.nd rfl (.inl rfl) pe_int)
      (pss_cons (ps_for PassesOwn.never rfl (pi_list (pe_op op_cat (pv 4) (pe_op op_rep (pe_lst (pa_cons pe_int pa_nil)) (pe_op op_sub pe_int (pe_callB call_len (by rfl) B.len (by decide +kernel) (pa_cons (pv 4) pa_nil)))))) (pg_name (i := 6) sc46.nd rfl (.inl rfl))
        (pss_one (ps_set (i := 5) sc46.nd rfl (.inl rfl) (pe_op op_add (pe_op op_mul (pv 5) pe_int) (pv 6)))))
      (pss_cons (ps_set (i := 7) sc46.nd rfl (.inl rfl) (pe_lst (pa_cons (pe_op op_fdiv (pv 5) pe_int) (pa_cons (pe_op op_mod (pe_callTy call_int1 (by rfl) B.int (by decide +kernel) (pa_cons (pe_op op_fdiv (pv 5) pe_int) pa_nil)) pe_int)
        (pa_cons (pe_op op_mod (pe_callTy call_int1 (by rfl) B.int (by decide +kernel) (pa_cons (pe_op op_fdiv (pv 5) pe_int) pa_nil)) pe_int) (pa_cons (pe_op op_mod (pe_callTy call_int1 (by rfl) B.int (by decide +kernel) (pa_cons (pv 5) pa_nil)) pe_int) pa_nil))))))
      (pss_one (ps_set (i := 2) sc46.nd rfl (.inl rfl) (pe_op op_cat (pe_op op_cat (pv 2) (pe_lc (own := [("_law_digit", 8)]) (g := gName 8) (tt := tYes) rfl sc46.nd (pi_list (pe_slice sl_list (pv 7) po_none (po_some (pe_op op_add (pe_callB call_len (by rfl) B.len (by decide +kernel) (pa_cons (pv 4) pa_nil)) pe_int))))
          (blkOk_by (N := N46) (sc := defScope (top 46)) (by decide +kernel)) (fun _ _ _ _ _ => pg_name (i := 8) sc46.nd rfl (Or.inl rfl)) (fun _ _ _ _ _ => pts_nil)
          (fun _ _ _ _ _ => pe_callB call_ord (by rfl) B.ord (by decide +kernel) (pa_cons (pe_ix ix_str (pv 1) (pv 8) (fun _ _ => rfl)) pa_nil))))
        (pe_op op_rep (pe_lst (pa_cons pe_int pa_nil)) (pe_op op_sub pe_int (pe_callB call_len (by rfl) B.len (by decide +kernel) (pa_cons (pv 4) pa_nil))))))))))))
    (pss_one (ps_ret (pv 2))))), ?_⟩
  have hs0 : sizeLine = 16777216 := sizeLine_eq
  refine st_seq (st_set val_c ?_)
  refine st_seq ⟨Nat.zero_le _, fun p hp => ?_⟩
  have e0 := Ex.new (o := .lst []) hp
  refine st_seq (st_forR (n := (xs.length + 2) / 3) (val_div (a := (xs.length : Int) + 2) (b := 3) (val_add (a := (xs.length : Nat)) (val_lenT (K := K) (val_var rfl) (SqT.of (e0 _ _ ha)) (List.length_map _).symm) val_c rfl) val_c ⟨by decide, by decide⟩ (by omega)) (by omega)
    (fun i σ H' => ∃ fp F v3 v4 v5 v6 v7 v8, σ = [some (.ref a), some (.str alph), some (.ref fp), v3, v4, v5, v6, v7, v8] ∧ H fp = none ∧ H' fp = some (.lst (iv F)) ∧ Ex H H' ∧ F ++ Sx.enc (xs.drop (3 * i)) = Sx.enc xs ∧ F.length ≤ 4 * i)
    ⟨p, [], _, _, _, _, _, _, rfl, hp, upd_same, e0, rfl, Nat.zero_le _⟩ ?_ ?_)
  · rintro i σ H' hi ⟨fp, F, v3, v4, v5, v6, v7, v8, rfl, nfp, hfp, ex, hF, hFl⟩
    have h3i : 3 * i < xs.length := by omega
    have hg3 : ((xs.drop (3 * i)).take 3).length ≤ 3 := by rw [List.length_take]; omega
    have hgo : ∀ x ∈ (xs.drop (3 * i)).take 3, Sx.Oct x := fun x hx => ho x (List.mem_of_mem_drop (List.mem_of_mem_take hx))
    have hne : xs.drop (3 * i) ≠ [] := fun e => by
      have := congrArg List.length e
      rw [List.length_drop] at this
      simp at this
      omega
    have hstep := enc_step _ hne
    rw [List.drop_drop] at hstep
    have hcut := cut_of (os := xs) (pl := 3 * i) (k := 3) rfl (by omega)
    generalize hgd : (xs.drop (3 * i)).take 3 = g at hg3 hgo hstep hcut
    have e31 : (3 : Int) * (i : Int) = ((3 * i : Nat) : Int) := by omega
    refine q_asgL (el_listSl (K := K) (ev_var rfl) (SqT.of (ex _ _ ha)) (ev_mul (a := 3) (b := (i : Int)) ev_c (ev_var rfl) (.inl (by decide)) e31) (ev_add (a := ((3 * i : Nat) : Int)) (b := ((3 : Nat) : Int)) (ev_mul (a := 3) (b := (i : Int)) ev_c (ev_var rfl) (.inl (by decide)) e31) ev_c rfl)) fun gp H1 hgp e1 hg => ?_
    rw [hcut] at hg
    refine st_seq (st_set val_c ?_)
    refine nx_go ?_
    have el := el_cat1 (σ := [some (.ref a), some (.str alph), some (.ref fp), some (.int (i : Int)), some (.ref gp), some (.int 0), v6, v7, v8]) (ta := tVar 4) (ev_var rfl) hg (el_rep (n := 3 - g.length) (c := 0) el_lst1 (fun H2 e2 => ev_sub (a := 3) (b := ((iv g).length : Nat)) ev_c (ev_lenL (K := K) (ev_var (i := 4) rfl) (e2 _ _ hg)) (by rw [List.length_map]; omega)) (by omega)) (by rw [List.length_map, List.length_map, List.length_replicate]; omega)
    rw [← iv_append] at el
    generalize hpd : g ++ List.replicate (3 - g.length) (0 : Int) = pad at el
    refine q_forNLn el (fun q j σ' H2 => ∃ v6, σ' = [some (.ref a), some (.str alph), some (.ref fp), some (.int (i : Int)), some (.ref gp), some (.int (fold256 (pad.take j))), v6, v7, v8] ∧ Ex H1 H2 ∧ H2 q = some (.lst (iv pad))) (fun q H2 _ e2 hq => ⟨v6, rfl, e2, hq⟩) (fun q j σ' H2 _ ⟨_, _, _, hq⟩ => SqL.of hq) ?_ ?_
    · rintro q j x σ' H2 hx ⟨v6', rfl, e2, hq⟩
      obtain ⟨c, hc, rfl⟩ : ∃ c, pad[j]? = some c ∧ x = V.int c := by
        rw [List.getElem?_map] at hx
        cases q : pad[j]? with
        | none => rw [q] at hx; cases hx
        | some c => rw [q] at hx; exact ⟨c, rfl, (Option.some.inj hx).symm⟩
      refine st_set (v := .int (fold256 (pad.take (j + 1)))) (val_add (a := fold256 (pad.take j) * 256) (val_mul (val_var rfl) val_c (by decide) rfl) (val_var rfl) ?_) ⟨_, rfl, e2, hq⟩
      rw [List.take_succ, hc]
      unfold fold256
      rw [List.foldl_append]
      rfl
    · rintro q σ' H2 ⟨v6', rfl, e2, hq⟩
      rw [List.length_map, List.take_length]
      have hb := pad_oct hgo hg3
      rw [hpd] at hb
      have hseg : seg g = ((digs (fold256 pad)).take (g.length + 1)).map Sx.al ++ List.replicate (3 - g.length) 61 := by
        unfold seg
        rw [hpd]
      generalize fold256 pad = n at hb hseg
      refine q_asgL (xs := iv (digs n)) (el_lst (ea_cons (ev_div (a := n) (b := 262144) (ev_var rfl) ev_c ⟨by decide, by decide⟩ rfl) (ea_cons (ev_mod (a := n / 4096) (b := 64) (ev_int (ev_div (a := n) (b := 4096) (ev_var rfl) ev_c ⟨by decide, by decide⟩ rfl)) ev_c (by decide) rfl)
        (ea_cons (ev_mod (a := n / 64) (b := 64) (ev_int (ev_div (a := n) (b := 64) (ev_var rfl) ev_c ⟨by decide, by decide⟩ rfl)) ev_c (by decide) rfl) (ea_cons (ev_mod (a := n) (b := 64) (ev_int (ev_var rfl)) ev_c (by decide) rfl) ea_nil)))) (by show 4 ≤ 100000; decide)) fun dp H3 hdp e3 hdg => ?_
      have e13 := e2.trans e3
      have E13 := ex.trans (e1.trans e13)
      refine s_asgL (el_cat (el_cat1 (ev_var rfl) (e13 _ _ (e1 _ _ hfp)) (el_lcMap Sx.al (el_slNone (k := g.length + 1) (ev_var rfl) hdg (ev_add (a := ((iv g).length : Nat)) (b := 1) (ev_lenL (K := K) (ev_var rfl) (e13 _ _ hg)) ev_c (by rw [List.length_map]; omega))) (by rw [List.length_take]; show min (g.length + 1) 4 < 1000000; omega) (fun x => rfl) (fun d hd H4 e4 => ?_)) ?_)
        (el_rep (n := 3 - g.length) (c := 61) el_lst1 (fun H4 e4 => ev_sub (a := 3) (b := ((iv g).length : Nat)) ev_c (ev_lenL (K := K) (ev_var rfl) (e4 _ _ (e13 _ _ hg))) (by rw [List.length_map]; omega)) (by omega)) ?_) fun z Hz nz ez hz' => ?_
      · obtain ⟨d0, d1⟩ := digs_ok hb.1 hb.2 d (List.mem_of_mem_take hd)
        obtain ⟨_, c, y1, y2⟩ := alph_at d d0 d1
        intro H5 e5 Q q
        refine ev_op (H := H5) (ev_var (i := 1) rfl) (ev_var (i := 8) rfl) (rv_ixS (by decide +kernel) y1) H5 (Ex.refl _) _ fun H6 e6 => ⟨_, rfl, rfl, ?_⟩
        have := q H6 e6
        rw [← y2] at this
        exact this
      · rw [List.length_map, List.length_map, List.length_map, List.length_take]
        show F.length + min (g.length + 1) 4 ≤ sizeLine
        omega
      · rw [List.length_append, List.length_map, List.length_map, List.length_map, List.length_take, List.length_map, List.length_replicate]
        show F.length + min (g.length + 1) 4 + (3 - g.length) ≤ sizeLine
        omega
      · refine ⟨z, F ++ seg g, _, _, _, _, _, _, rfl, ?_, ?_, E13.trans ez, ?_, ?_⟩
        · cases w0 : H z with
          | none => rfl
          | some o => rw [E13 _ _ w0] at nz; cases nz
        · rw [hz', hseg, iv_append, iv_append, List.append_assoc]
        · have e33 : 3 * (i + 1) = 3 * i + 3 := by omega
          rw [e33, List.append_assoc, ← hstep]
          exact hF
        · rw [hseg, List.length_append, List.length_append, List.length_map, List.length_take, List.length_replicate]
          show F.length + (min (g.length + 1) 4 + (3 - g.length)) ≤ 4 * (i + 1)
          omega
  · rintro σ H' ⟨fp, F, v3, v4, v5, v6, v7, v8, rfl, nfp, hfp, ex, hF, hFl⟩
    rw [List.drop_of_length_le (by omega)] at hF
    have hF : F ++ [] = Sx.enc xs := hF
    rw [List.append_nil] at hF
    subst hF
    exact nx_go (st_ret (val_var rfl) (k fp H' ex nfp hfp))
end
end Hd
end
/-! ## Hd23 -/
section
set_option maxRecDepth 100000
set_option maxHeartbeats 4000000
set_option linter.all false
/-! The law's quoted. -/
namespace Hd
open PySem PySem.Spec PyProof.Rows L2 Evl
section
variable {K : PySem.W.Frag} {σ : L2.St} {H : Hp} {ta tb : TE} {a b : Int}
theorem ev_eqI (h1 : Ev ta σ H (.int a)) (h2 : Ev tb σ H (.int b)) : Ev (tOp rEq ta tb) σ H (.bl (decide (a = b))) := ev_is (ev_op h1 h2 (rv_eq rfl)) (by rw [dec_int])
theorem ev_neI (h1 : Ev ta σ H (.int a)) (h2 : Ev tb σ H (.int b)) : Ev (tOp rNe ta tb) σ H (.bl (!decide (a = b))) := ev_is (ev_op h1 h2 (rv_ne rfl)) (by rw [dec_int])
theorem ev_inN {l : List Int} (h1 : Ev ta σ H (.int a)) (h2 : EvL tb σ H (iv l)) : Ev (tOp (rIn K false) ta tb) σ H (.bl (decide (a ∈ l))) := ev_is (ev_opL h1 h2 fun p H1 hp e => rv_isL (K := K) (sq_of hp) rfl (flat_ints _)) (by rw [inV_ints])
theorem ev_notinN {l : List Int} (h1 : Ev ta σ H (.int a)) (h2 : EvL tb σ H (iv l)) : Ev (tOp (rIn K true) ta tb) σ H (.bl (!decide (a ∈ l))) := ev_is (ev_opL h1 h2 fun p H1 hp e => rv_niL (K := K) (sq_of hp) rfl (flat_ints _)) (by rw [inV_ints])
end
theorem st_nextSet {σ : L2.St} {H : Hp} {D : Ends} {tb : TE} {st nl : Addr} {left m : Int} {i j : Nat} {E : XK} (hs : σ[i]? = some (some (.ref st))) (hb : Val tb σ H (.int m)) (hm : 0 < m) (h : StAt H st nl left) (k : ∀ r H', 0 ≤ r → r < m → Kb st H H' → StAt H' st nl left → D.nx (σ.set j (some (.int r))) H') :
    tAsg (tCall spNext [] E (tCons (tVar i) (tCons tb tNil))) (gName j) D σ H := next_draw hs hb hm h k
theorem btn_at (c : Int) (h0 : 7 < c) (h1 : c < 14) : ("btnvfr" : Str).length ≤ 100000 ∧ ∃ d : Nat, atI ("btnvfr" : Str).cps.toList (c - 8) = some d ∧ Sx.escd (d : Int) = c := by
  obtain ⟨n, hn⟩ : ∃ n : Nat, c - 8 = n := ⟨(c - 8).toNat, by omega⟩
  have hm : ∀ m : Fin 6, ((atI ("btnvfr" : Str).cps.toList (m.val : Int)).map fun d => Sx.escd (d : Int)) = some ((m.val : Int) + 8) := by decide +kernel
  refine ⟨by decide +kernel, ?_⟩
  have := hm ⟨n, by omega⟩
  rw [hn]
  cases e : atI ("btnvfr" : Str).cps.toList (n : Int) with
  | none => rw [e] at this; cases this
  | some d =>
    rw [e] at this
    refine ⟨d, rfl, ?_⟩
    have h2 : Sx.escd (d : Int) = (n : Int) + 8 := Option.some.inj this
    omega
section
variable {P : Program} {w : World} {K : PySem.W.Frag} {mg : Str → Option Value} {base : Heap} {f : Addr} {fd : FuncData}
def spQuo : Sp := fun vs H Q _ => ∃ (st nl a : Addr) (left : Int) (xs : List Int), vs = [.ref st, .ref a] ∧ StAt H st nl left ∧ H a = some (.tup (iv xs)) ∧ (∀ x ∈ xs, Sx.Oct x) ∧ xs.length < 1000 ∧
  ∀ row p H', Sx.Atom xs row false → row.length ≤ 6 * xs.length + 4 → Kb st H H' → StAt H' st nl left → H p = none → H' p = some (.lst (iv row)) → Q (.ref p) H'
abbrev N47 : List Str := ["_law_state_here", "_law_octets_here", "_law_found", "_law_octet", "_law_pick"]
theorem sc47 : FnScope N47 ["_law_state_here", "_law_octets_here"] (defScope (top 47)) := ⟨rfl, rfl, rfl, by decide +kernel, rfl, by decide +kernel, by decide +kernel⟩
theorem ok_lquoted (B : Blt mg) (Cn : CNx P w K mg base) (Ch : CA P w K mg base 2 "_law_hex" ["_law_state_here", "_law_octet"] spHex) (F : Fun K "_law_quoted" "_law_quoted" (top 47) f fd) : FnOk P w K mg base CX0 3 f fd ["_law_state_here", "_law_octets_here"] spQuo := by
  refine F.ok sc47 (fun vs H Q E h => ?_) (fun cdv A outer s H vs Q E hr h => ?_)
  · obtain ⟨st, nl, a, left, xs, rfl, _⟩ := h
    rfl
  obtain ⟨st, nl, a, left, xs, rfl, hst, ha, ho, hz, k⟩ := h
  refine ⟨_, pss_cons (ps_set (i := 2) sc47.nd rfl (.inl rfl) (pe_lst (pa_cons pe_int pa_nil)))
    (pss_cons (ps_for PassesOwn.never rfl (pi_tup (pv 1)) (pg_name (i := 3) sc47.nd rfl (.inl rfl))
      (pss_cons (ps_set (i := 4) sc47.nd rfl (.inl rfl) (pe_calJ Cn hr (by decide) (by rfl) pass0 (pa_cons (pv 0) (pa_cons pe_int pa_nil))))
      (pss_cut (ps_if (pt_cmpR op_eq (pv 4) pe_int (nomark _)) (pss_one (ps_set (i := 2) sc47.nd rfl (.inl rfl) (pe_op op_cat (pv 2) (pe_lst (pa_cons pe_int (pa_cons pe_int pa_nil)))))) pss_nil)
      (pss_one (ps_if (PW.pt (pw_and (pt_cmpR op_eq (pv 4) pe_int (nomark _)) (pw_and (pt_cmpR op_gt (pv 3) pe_int (nomark _)) (pw_and1 (pt_cmpR op_lt (pv 3) pe_int (nomark _))))))
        (pss_one (ps_set (i := 2) sc47.nd rfl (.inl rfl) (pe_op op_cat (pv 2) (pe_lst (pa_cons pe_int (pa_cons (pe_callB call_ord (by rfl) B.ord (by decide +kernel) (pa_cons (pe_ix ix_str pe_str (pe_op op_sub (pv 3) pe_int) (fun _ _ => rfl)) pa_nil)) pa_nil))))))
        (pss_one (ps_if (PW.pt (pw_and (pt_cmpR op_lt (pv 4) pe_int (nomark _)) (pw_and1 (pt_cmpR op_in_seq (pv 3) (pe_lst (pa_cons pe_int (pa_cons pe_int (pa_cons pe_int (pa_cons pe_int pa_nil))))) (by with_unfolding_all rfl)))))
          (pss_one (ps_set (i := 2) sc47.nd rfl (.inl rfl) (pe_op op_cat (pv 2) (pe_lst (pa_cons pe_int (pa_cons (pv 3) pa_nil))))))
          (pss_one (ps_if (PW.pt (pw_and (pt_cmpR op_gt (pv 3) pe_int (nomark _)) (pw_and (pt_cmpR op_lt (pv 3) pe_int (nomark _)) (pw_and (pt_cmpR op_notIn_seq (pv 3) (pe_lst (pa_cons pe_int (pa_cons pe_int pa_nil))) (by with_unfolding_all rfl)) (pw_and1 (pt_cmpR op_ne (pv 4) pe_int (nomark _)))))))
            (pss_one (ps_expr (pe_bm PySem.F.plainAttrs_list PySem.F.slot_list_append PySem.F.type_list_append mt_append (pv 2) (pa_cons (pv 3) pa_nil))))
            (pss_one (ps_if (pt_cmpR op_eq (pe_calJ Cn hr (by decide) (by rfl) pass0 (pa_cons (pv 0) (pa_cons pe_int pa_nil))) pe_int (nomark _))
              (pss_one (ps_set (i := 2) sc47.nd rfl (.inl rfl) (pe_op op_cat (pv 2) (pe_lst (pa_cons pe_int (pa_cons (pe_op op_add pe_int (pe_op op_fdiv (pv 3) pe_int)) (pa_cons (pe_op op_add pe_int (pe_op op_mod (pe_callTy call_int1 (by rfl) B.int (by decide +kernel) (pa_cons (pe_op op_fdiv (pv 3) pe_int) pa_nil)) pe_int))
                (pa_cons (pe_op op_add pe_int (pe_op op_mod (pe_callTy call_int1 (by rfl) B.int (by decide +kernel) (pa_cons (pv 3) pa_nil)) pe_int)) pa_nil))))))))
              (pss_one (ps_set (i := 2) sc47.nd rfl (.inl rfl) (pe_op op_cat (pe_op op_cat (pv 2) (pe_lst (pa_cons pe_int (pa_cons pe_int pa_nil)))) (pe_calJ Ch hr (by decide) (by rfl) pass0 (pa_cons (pv 0) (pa_cons (pv 3) pa_nil)))))))))))))))))
    (pss_cut (ps_if (pt_cmpR op_eq (pe_calJ Cn hr (by decide) (by rfl) pass0 (pa_cons (pv 0) (pa_cons pe_int pa_nil))) pe_int (nomark _)) (pss_one (ps_set (i := 2) sc47.nd rfl (.inl rfl) (pe_op op_cat (pv 2) (pe_lst (pa_cons pe_int (pa_cons pe_int pa_nil)))))) pss_nil)
    (pss_one (ps_ret (pe_op op_cat (pv 2) (pe_lst (pa_cons pe_int pa_nil))))))), ?_⟩
  have hs0 : sizeLine = 16777216 := sizeLine_eq
  refine st_seq ⟨by show 1 ≤ sizeLine; decide, fun p hp => ?_⟩
  have e0 := Ex.new (o := .lst [V.int 34]) hp
  refine st_seq (st_forTi (K := K) (l := xs) (val_var rfl) (e0 _ _ ha) (fun i σ H' => ∃ fp q v3 v4, σ = [some (.ref st), some (.ref a), some (.ref fp), v3, v4] ∧ H fp = none ∧ H' fp = some (.lst (iv (34 :: q))) ∧ Sx.QP q (xs.take i) ∧ q.length ≤ 6 * i ∧ Kb st H H' ∧ StAt H' st nl left)
    ⟨p, [], _, _, rfl, hp, upd_same, .nil, Nat.zero_le _, Ex.kb e0, hst.exx e0⟩ (fun i σ H' ⟨_, _, _, _, _, _, _, _, _, hk, _⟩ => hst.tup hk _ _ ha) ?_ ?_)
  · rintro i c σ H' hc ⟨fp, q, v3, v4, rfl, nfp, hfp, hQ, hl, hk, hs⟩
    have hi : i < xs.length := (List.getElem?_eq_some_iff.mp hc).1
    obtain ⟨c0, c1⟩ := ho c (List.mem_of_getElem? hc)
    refine st_seq (st_nextSet (i := 0) rfl val_c (by decide) hs fun pick H1 p0 p1 hk1 hs1 => ?_)
    refine nx_go ?_
    have hfp1 := hk1 fp _ (hs.neI hfp) hfp
    have hkk := hk.trans hk1
    refine ⟨fun σ' H2 => ∃ fp' q', σ' = [some (.ref st), some (.ref a), some (.ref fp'), some (.int c), some (.int pick)] ∧ H fp' = none ∧ H2 fp' = some (.lst (iv (34 :: q'))) ∧ Sx.QP q' (xs.take i) ∧ q'.length ≤ 6 * i + 2 ∧ Kb st H H2 ∧ StAt H2 st nl left, ?_, ?_⟩
    · refine st_if (ans_test (val_eqI (c := pick) (n := 0) (val_var rfl) val_c)) (fun _ => ?_) fun _ => st_next ⟨fp, q, rfl, nfp, hfp1, hQ, by omega, hkk, hs1⟩
      refine s_asgL (el_cat1 (ev_var rfl) hfp1 (el_lst (vs := iv [92, 10]) (ea_cons ev_c (ea_cons ev_c ea_nil)) (by show 2 ≤ 100000; decide)) (by rw [List.length_map]; show (q.length + 1) + 2 ≤ sizeLine; omega)) fun z Hz nz ez hz' => ?_
      refine ⟨z, q ++ [92, 10], rfl, hkk.fresh hst.is hs1.is nz, by rw [hz', ← iv_append]; rfl, ?_, by rw [List.length_append]; show q.length + 2 ≤ _; omega, hkk.trans (Ex.kb ez), hs1.exx ez⟩
      have := hQ.append Sx.qp_feed
      rwa [List.append_nil] at this
    · rintro σ' H2 ⟨fp', q', rfl, nfp', hfp', hQ', hl', hk2, hs2⟩
      have fin : ∀ {H3 : Hp} {fp3 : Addr} {q3 : List Int}, H fp3 = none → H3 fp3 = some (.lst (iv (34 :: q') ++ iv q3)) → Sx.QP q3 [c] → q3.length ≤ 4 → Kb st H H3 → StAt H3 st nl left →
          ∃ fp q v3 v4, [some (V.ref st), some (V.ref a), some (V.ref fp3), some (V.int c), some (V.int pick)] = [some (.ref st), some (.ref a), some (.ref fp), v3, v4] ∧ H fp = none ∧ H3 fp = some (.lst (iv (34 :: q))) ∧ Sx.QP q (xs.take (i + 1)) ∧ q.length ≤ 6 * (i + 1) ∧ Kb st H H3 ∧ StAt H3 st nl left := by
        intro H3 fp3 q3 n3 h3 hq3 l3 k3 s3
        refine ⟨fp3, q' ++ q3, _, _, rfl, n3, by rw [h3, ← iv_append]; rfl, ?_, by rw [List.length_append]; omega, k3, s3⟩
        rw [List.take_succ, hc]
        exact hQ'.append hq3
      have one : ∀ {H3 : Hp}, Ex H2 H3 → H3 fp' = some (.lst (iv (34 :: q'))) := fun e => e _ _ hfp'
      have sz : ∀ n : Nat, n ≤ 4 → (iv (34 :: q')).length + n ≤ sizeLine := fun n hn => by
        rw [List.length_map, List.length_cons]
        omega
      refine s_if (et_and (et_test (ev_eqI (a := pick) (b := 1) (ev_var rfl) ev_c)) fun _ => et_and (et_test (ev_gt (a := c) (b := 7) (ev_var rfl) ev_c)) fun _ => et_test (ev_lt (a := c) (b := 14) (ev_var rfl) ev_c)) (fun h1 H3 e3 => ?_) fun h1 H3 e3 => ?_
      · have h1 : pick = 1 ∧ 7 < c ∧ c < 14 := by simpa using h1
        obtain ⟨z1, d, y1, y2⟩ := btn_at c h1.2.1 h1.2.2
        have hE : Ev (tCB (fun xs H Q => ∃ x : Str, xs = [.str x] ∧ x.length = 1 ∧ Q (.int (x.cps.getD 0 0 : Nat)) H) (tCons (tOp rIxS (tC (.str "btnvfr")) (tOp (rI0 fun i j => V.int (i - j)) (tVar 3) (tC (.int 8)))) tNil)) [some (V.ref st), some (V.ref a), some (V.ref fp'), some (V.int c), some (V.int pick)] H3 (.int (d : Nat)) := by
          intro H5 e5 Q q
          exact ev_op (H := H5) ev_c (ev_sub (a := c) (b := 8) (ev_var (i := 3) rfl) ev_c rfl) (rv_ixS z1 y1) H5 (Ex.refl _) _ fun H6 e6 => ⟨_, rfl, rfl, q H6 e6⟩
        refine s_asgL (el_cat1 (ev_var rfl) (one e3) (el_lst (vs := iv [92, (d : Int)]) (ea_cons ev_c (ea_cons hE ea_nil)) (by show 2 ≤ 100000; decide)) (sz 2 (by decide))) fun z Hz nz ez hz' => ?_
        exact fin (fresh_back (Ex.refl _) ((hk2.trans (Ex.kb e3)).fresh hst.is (hs2.exx e3).is nz)) hz' (Sx.qp_escd y2 (by omega)) (by show 2 ≤ 4; decide) ((hk2.trans (Ex.kb e3)).trans (Ex.kb ez)) ((hs2.exx e3).exx ez)
      have s3 := hs2.exx e3
      have k3 := hk2.trans (Ex.kb e3)
      refine s_if (et_and (et_test (ev_lt (a := pick) (b := 3) (ev_var rfl) ev_c)) fun _ => et_test (ev_inN (K := K) (a := c) (l := [34, 39, 63, 92]) (ev_var rfl) (el_lst (ea_cons ev_c (ea_cons ev_c (ea_cons ev_c (ea_cons ev_c ea_nil)))) (by show 4 ≤ 100000; decide)))) (fun h2 H4 e4 => ?_) fun h2 H4 e4 => ?_
      · have h2 : c = 34 ∨ c = 39 ∨ c = 63 ∨ c = 92 := by
          have h2 : pick < 3 ∧ (c = 34 ∨ c = 39 ∨ c = 63 ∨ c = 92) := by simpa using h2
          exact h2.2
        refine s_asgL (el_cat1 (ev_var rfl) (one (e3.trans e4)) (el_lst (vs := iv [92, c]) (ea_cons ev_c (ea_cons (ev_var (i := 3) rfl) ea_nil)) (by show 2 ≤ 100000; decide)) (sz 2 (by decide))) fun z Hz nz ez hz' => ?_
        refine fin ((k3.trans (Ex.kb e4)).fresh hst.is (s3.exx e4).is nz) hz' (Sx.qp_escd (c := c) (o := c) ?_ (by omega)) (by show 2 ≤ 4; decide) ((k3.trans (Ex.kb e4)).trans (Ex.kb ez)) ((s3.exx e4).exx ez)
        rcases h2 with rfl | rfl | rfl | rfl <;> rfl
      have s4 := s3.exx e4
      have k4 := k3.trans (Ex.kb e4)
      have o4 := one (e3.trans e4)
      refine s_if (et_and (et_test (ev_gt (a := c) (b := 31) (ev_var rfl) ev_c)) fun _ => et_and (et_test (ev_lt (a := c) (b := 127) (ev_var rfl) ev_c)) fun _ => et_and (et_test (ev_notinN (K := K) (a := c) (l := [34, 92]) (ev_var rfl) (el_lst (ea_cons ev_c (ea_cons ev_c ea_nil)) (by show 2 ≤ 100000; decide)))) fun _ => et_test (ev_neI (a := pick) (b := 3) (ev_var rfl) ev_c)) (fun h3 H5 e5 => ?_) fun h3 H5 e5 => ?_
      · have h3 : 31 < c ∧ c < 127 ∧ (¬ c = 34 ∧ ¬ c = 92) ∧ ¬ pick = 3 := by simpa using h3
        have s5 := s4.exx e5
        refine st_append (K := K) (y := .int c) (val_var rfl) (e5 _ _ o4) (val_var rfl) (by have := sz 1 (by decide); omega) ?_
        have hne := (hst.ne nfp')
        exact fin nfp' upd_same (Sx.qp_self (o := c) (by omega) (by omega) h3.2.2.1.1 h3.2.2.1.2) (by show 1 ≤ 4; decide) ((k4.trans (Ex.kb e5)).mut nfp') (s5.mut hne.1 hne.2)
      have s5 := s4.exx e5
      have k5 := k4.trans (Ex.kb e5)
      have o5 := e5 _ _ o4
      refine next_eq (i := 0) rfl val_c (by decide) s5 fun r H6 r0 r1 hk6 s6 => ite_dec (fun _ => ?_) fun _ => ?_
      · have o6 := hk6 fp' _ (s5.neI o5) o5
        have k6 := k5.trans hk6
        refine s_asgL (el_cat1 (ev_var rfl) o6 (el_lst (vs := iv [92, 48 + c / 64, 48 + c / 8 % 8, 48 + c % 8]) (ea_cons ev_c (ea_cons (ev_add (a := 48) (b := c / 64) ev_c (ev_div (ev_var (i := 3) rfl) ev_c ⟨by decide, by decide⟩ rfl) rfl) (ea_cons (ev_add (a := 48) (b := c / 8 % 8) ev_c (ev_mod (ev_int (ev_div (ev_var (i := 3) rfl) ev_c ⟨by decide, by decide⟩ rfl)) ev_c (by decide) rfl) rfl)
          (ea_cons (ev_add (a := 48) (b := c % 8) ev_c (ev_mod (ev_int (ev_var (i := 3) rfl)) ev_c (by decide) rfl) rfl) ea_nil)))) (by show 4 ≤ 100000; decide)) (sz 4 (by decide))) fun z Hz nz ez hz' => ?_
        exact fin (k6.fresh hst.is s6.is nz) hz' (Sx.qp_octal ⟨c0, c1⟩) (by show 4 ≤ 4; decide) (k6.trans (Ex.kb ez)) (s6.exx ez)
      · have o6 := hk6 fp' _ (s5.neI o5) o5
        have k6 := k5.trans hk6
        refine el_cat1 (σ := [some (V.ref st), some (V.ref a), some (V.ref fp'), some (V.int c), some (V.int pick)]) (ev_var (i := 2) rfl) o6 (el_lst (vs := iv [92, 120]) (ea_cons ev_c (ea_cons ev_c ea_nil)) (by show 2 ≤ 100000; decide)) (sz 2 (by decide)) H6 (Ex.refl _) _ fun y H7 ny e7 hy => ?_
        have s7 := s6.exx e7
        refine ⟨_, rfl, _, rfl, st, nl, left, c, rfl, s7, ⟨c0, c1⟩, fun h l lp H8 hh hl0 heq hk8 s8 nlp hlp => ?_⟩
        have hy8 := hk8 y _ (s7.neI (l := 34 :: q' ++ [92, 120]) (by rw [hy, iv_append])) hy
        refine ⟨y, lp, _, _, rfl, rfl, hy8, hlp, by have := sz 4 (by decide); rw [List.length_append]; show (iv (34 :: q')).length + 2 + 2 ≤ sizeLine; omega, fun z hz' => ?_⟩
        have ez := Ex.new (o := .lst (iv (34 :: q') ++ iv [92, 120] ++ iv [h, l])) hz'
        have k8 := (k6.trans (Ex.kb e7)).trans hk8
        exact fin (q3 := [92, 120, h, l]) (k8.fresh hst.is s8.is hz') (by rw [upd_same, List.append_assoc]; rfl) (Sx.qp_hex hh hl0 heq) (by show 4 ≤ 4; decide) (k8.trans (Ex.kb ez)) (s8.exx ez)
  · rintro σ H' ⟨fp, q, v3, v4, rfl, nfp, hfp, hQ, hl, hk, hs⟩
    rw [List.take_length] at hQ
    refine nx_go ?_
    refine ⟨fun σ' H2 => ∃ fp' q', σ' = [some (.ref st), some (.ref a), some (.ref fp'), v3, v4] ∧ H fp' = none ∧ H2 fp' = some (.lst (iv (34 :: q'))) ∧ Sx.QP q' xs ∧ q'.length ≤ 6 * xs.length + 2 ∧ Kb st H H2 ∧ StAt H2 st nl left, ?_, ?_⟩
    · refine next_eq (i := 0) rfl val_c (by decide) hs fun r H1 r0 r1 hk1 hs1 => ite_dec (fun _ => ?_) fun _ => st_next ⟨fp, q, rfl, nfp, hk1 fp _ (hs.neI hfp) hfp, hQ, by omega, hk.trans hk1, hs1⟩
      refine s_asgL (el_cat1 (ev_var rfl) (hk1 fp _ (hs.neI hfp) hfp) (el_lst (vs := iv [92, 10]) (ea_cons ev_c (ea_cons ev_c ea_nil)) (by show 2 ≤ 100000; decide)) (by rw [List.length_map]; show (q.length + 1) + 2 ≤ sizeLine; omega)) fun z Hz nz ez hz' => ?_
      refine ⟨z, q ++ [92, 10], rfl, (hk.trans hk1).fresh hst.is hs1.is nz, by rw [hz', ← iv_append]; rfl, ?_, by rw [List.length_append]; show q.length + 2 ≤ _; omega, (hk.trans hk1).trans (Ex.kb ez), hs1.exx ez⟩
      have := hQ.append Sx.qp_feed
      rwa [List.append_nil] at this
    · rintro σ' H2 ⟨fp', q', rfl, nfp', hfp', hQ', hl', hk2, hs2⟩
      refine s_retL (el_cat1 (ev_var (i := 2) rfl) hfp' (el_lst1 (i := 34)) (by rw [List.length_map]; show (q'.length + 1) + 1 ≤ sizeLine; omega)) fun z Hz nz ez hz' => ?_
      refine k (34 :: (q' ++ [34])) z Hz (Sx.atom_quoted hQ') (by simp only [List.length_cons, List.length_append, List.length_nil]; omega) (hk2.trans (Ex.kb ez)) (hs2.exx ez) (hk2.fresh hst.is hs2.is nz) (by rw [hz', ← iv_append]; rfl)
end
end Hd
end
/-! ## Hd24 -/
section
set_option maxRecDepth 100000
set_option maxHeartbeats 4000000
set_option linter.all false
/-! The law's atom. -/
namespace Hd
open PySem PySem.Spec PyProof.Rows L2 Evl
section
variable {σ : L2.St} {H : Hp} {D : Ends} {te : TE} {b : Bool} {xs : List V}
theorem st_retPair (h : te σ H fun v H1 => ∀ l, H1 l = none → D.rt (.ref l) (upd H1 l (.lst [v, .bl b]))) : tRet (tLst (tCons te (tCons (tC (.bl b)) tNil))) D σ H := by
  have e : (fun v H1 => ∀ l, H1 l = none → D.rt (.ref l) (upd H1 l (.lst [v, .bl b]))) = fun v H1 => (2 ≤ sizeLine ∧ ∀ l, H1 l = none → D.rt (.ref l) (upd H1 l (.lst [v, .bl b]))) := by
    funext v H1
    have h2 : 2 ≤ sizeLine := by decide
    simp [h2]
  rw [e] at h
  exact h
theorem st_retPairL (h : EvL te σ H xs) (k : ∀ r p H', H p = none → Ex H H' → H' r = some (.lst xs) → H' p = some (.lst [.ref r, .bl b]) → D.rt (.ref p) H') : tRet (tLst (tCons te (tCons (tC (.bl b)) tNil))) D σ H :=
  st_retPair (h H (Ex.refl H) _ fun r H1 nr e hr l hl => k r l _ (fresh_back e hl) (e.trans (Ex.new hl)) (Ex.new hl _ _ hr) upd_same)
end
section
variable {P : Program} {w : World} {K : PySem.W.Frag} {mg : Str → Option Value} {base : Heap} {f : Addr} {fd : FuncData}
def spAtm : Sp := fun vs H Q _ => ∃ (st nl a : Addr) (left : Int) (xs : List Int), vs = [.ref st, .ref a] ∧ StAt H st nl left ∧ H a = some (.tup (iv xs)) ∧ (∀ x ∈ xs, Sx.Oct x) ∧ xs.length < 280 ∧
  ∀ row isT r p H', Sx.Atom xs row isT → row.length ≤ 6 * xs.length + 12 → Kb st H H' → StAt H' st nl left → H p = none → H' r = some (.lst (iv row)) → H' p = some (.lst [.ref r, .bl isT]) → Q (.ref p) H'
abbrev N48 : List Str := ["_law_state_here", "_law_octets_here", "_law_pick", "_law_digits", "_law_octet"]
theorem sc48 : FnScope N48 ["_law_state_here", "_law_octets_here"] (defScope (top 48)) := ⟨rfl, rfl, rfl, by decide +kernel, rfl, by decide +kernel, by decide +kernel⟩
theorem ok_latom (B : Blt mg) (Cn : CNx P w K mg base) (Ci : CA P w K mg base 4 "_law_is_token" ["_law_octets_here"] spIsT) (Cq : CA P w K mg base 3 "_law_quoted" ["_law_state_here", "_law_octets_here"] spQuo) (Ch : CA P w K mg base 2 "_law_hex" ["_law_state_here", "_law_octet"] spHex)
    (Cs : CA P w K mg base 3 "_law_sprinkled" ["_law_state_here", "_law_row"] spSpr) (C64 : CA P w K mg base 1 "_law_base64" ["_law_octets_here"] spB64) (Ca : CA P w K mg base 1 "_law_ascii" ["_law_text"] spAscii)
    (F : Fun K "_law_atom" "_law_atom" (top 48) f fd) : FnOk P w K mg base CX0 5 f fd ["_law_state_here", "_law_octets_here"] spAtm := by
  refine F.ok sc48 (fun vs H Q E h => ?_) (fun cdv A outer s H vs Q E hr h => ?_)
  · obtain ⟨st, nl, a, left, xs, rfl, _⟩ := h
    rfl
  obtain ⟨st, nl, a, left, xs, rfl, hst, ha, ho, hz, k⟩ := h
  refine ⟨_, pss_cons (ps_set (i := 2) sc48.nd rfl (.inl rfl) (pe_calJ Cn hr (by decide) (by rfl) pass0 (pa_cons (pv 0) (pa_cons pe_int pa_nil))))
    (pss_cut (ps_if (PW.pt (pw_and (pt_cmpR op_lt (pv 2) pe_int (nomark _)) (pw_and1 (pt_val (pe_calJ Ci hr (by decide) (by rfl) pass0 (pa_cons (pv 1) pa_nil)))))) (pss_one (ps_ret (pe_lst (pa_cons (pe_callTy call_list_of (by rfl) B.list (by decide +kernel) (pa_cons (pv 1) pa_nil)) (pa_cons pe_bl pa_nil))))) pss_nil)
    (pss_cons (ps_if (pt_cmpR op_eq (pv 2) pe_int (nomark _)) (pss_one (ps_ret (pe_lst (pa_cons (pe_calJ Cq hr (by decide) (by rfl) pass0 (pa_cons (pv 0) (pa_cons (pv 1) pa_nil))) (pa_cons pe_bl pa_nil))))) pss_nil)
    (pss_cons (ps_if (pt_cmpR op_eq (pv 2) pe_int (nomark _)) (pss_cons (ps_set (i := 3) sc48.nd rfl (.inl rfl) (pe_lst pa_nil))
      (pss_cons (ps_for PassesOwn.never rfl (pi_tup (pv 1)) (pg_name (i := 4) sc48.nd rfl (.inl rfl)) (pss_one (ps_set (i := 3) sc48.nd rfl (.inl rfl) (pe_op op_cat (pv 3) (pe_calJ Ch hr (by decide) (by rfl) pass0 (pa_cons (pv 0) (pa_cons (pv 4) pa_nil)))))))
      (pss_one (ps_ret (pe_lst (pa_cons (pe_op op_cat (pe_op op_cat (pe_lst (pa_cons pe_int pa_nil)) (pe_calJ Cs hr (by decide) (by rfl) pass0 (pa_cons (pv 0) (pa_cons (pv 3) pa_nil)))) (pe_lst (pa_cons pe_int pa_nil))) (pa_cons pe_bl pa_nil))))))) pss_nil)
    (pss_cons (ps_if (pt_cmpR op_eq (pv 2) pe_int (nomark _)) (pss_one (ps_ret (pe_lst (pa_cons (pe_op op_cat (pe_op op_cat (pe_lst (pa_cons pe_int pa_nil)) (pe_calJ Cs hr (by decide) (by rfl) pass0 (pa_cons (pv 0) (pa_cons (pe_calJ C64 hr (by decide) (by rfl) pass0 (pa_cons (pv 1) pa_nil)) pa_nil)))) (pe_lst (pa_cons pe_int pa_nil))) (pa_cons pe_bl pa_nil))))) pss_nil)
    (pss_one (ps_ret (pe_lst (pa_cons (pe_op op_cat (pe_op op_cat (pe_calJ Ca hr (by decide) (by rfl) pass0 (pa_cons (pe_callTy call_str_int (by rfl) B.str (by decide +kernel) (pa_cons (pe_callB call_len (by rfl) B.len (by decide +kernel) (pa_cons (pv 1) pa_nil)) pa_nil)) pa_nil)) (pe_lst (pa_cons pe_int pa_nil)))
      (pe_callTy call_list_of (by rfl) B.list (by decide +kernel) (pa_cons (pv 1) pa_nil))) (pa_cons pe_bl pa_nil))))))))), ?_⟩
  have hs0 : sizeLine = 16777216 := sizeLine_eq
  have hen := Sx.enc_len xs
  have fin : ∀ {H1 : Hp} {x lp : Addr} {c : Int} {L : List Int} {σ : L2.St} {D : Ends}, D.rt = Q → Sx.Atom xs (c :: (L ++ [c])) false → L.length + 2 ≤ 6 * xs.length + 12 → Kb st H H1 → StAt H1 st nl left → H1 x = some (.lst (iv [c])) → H1 lp = some (.lst (iv L)) →
      rCat (.ref x) (.ref lp) H1 fun v H2 => tLst (tCons (tC (.int c)) tNil) σ H2 fun v2 H3 => rCat v v2 H3 fun v H4 => ∀ l, H4 l = none → D.rt (.ref l) (upd H4 l (.lst [v, .bl false])) := by
    intro H1 x lp c L σ D hD hA hl hk hs hx hlp
    refine ⟨x, lp, _, _, rfl, rfl, hx, hlp, by rw [List.length_map, List.length_map]; show 1 + L.length ≤ sizeLine; omega, fun y hy => ⟨by show 1 ≤ sizeLine; decide, fun z hz' => ⟨y, z, _, _, rfl, rfl, Ex.new hz' _ _ upd_same, upd_same, by rw [List.length_append, List.length_map, List.length_map]; show 1 + L.length + 1 ≤ sizeLine; omega, fun u hu l hl' => ?_⟩⟩⟩
    have ey := Ex.new (o := .lst (iv [c] ++ iv L)) hy
    have ez := Ex.new (o := .lst [V.int c]) hz'
    have eu := Ex.new (o := .lst (iv [c] ++ iv L ++ [V.int c])) hu
    have el := Ex.new (o := .lst [V.ref u, V.bl false]) hl'
    have ex := ((ey.trans ez).trans eu).trans el
    rw [hD]
    refine k (c :: (L ++ [c])) false u l _ hA (by simp only [List.length_cons, List.length_append, List.length_nil]; omega) (hk.trans (Ex.kb ex)) (hs.exx ex) ?_ ?_ upd_same
    · exact (hk.trans (Ex.kb ((ey.trans ez).trans eu))).fresh hst.is (hs.exx ((ey.trans ez).trans eu)).is hl'
    · rw [el _ _ upd_same]
      simp
  refine st_seq (st_nextSet (i := 0) rfl val_c (by decide) hst fun pick H1 p0 p1 hk1 hs1 => ?_)
  refine nx_go ?_
  have ha1 := hst.tup hk1 _ _ ha
  refine ⟨fun σ' H2 => σ' = [some (.ref st), some (.ref a), some (.int pick), none, none] ∧ Kb st H H2 ∧ StAt H2 st nl left, ?_, ?_⟩
  · refine st_ifAnd (ans_test (val_lt (a := pick) (b := 2) (val_var rfl) val_c)) (fun _ => ⟨_, rfl, a, xs, rfl, ha1, by omega, fun b H2 hb e2 => ⟨b, rfl, ?_⟩⟩) fun _ => st_next ⟨rfl, hk1, hs1⟩
    cases b with
    | false => exact iteF (st_next ⟨rfl, hk1.trans (Ex.kb e2), hs1.exx e2⟩)
    | true =>
      obtain ⟨c, q, rfl, hb1, hb2⟩ := hb rfl
      refine iteT ?_
      refine st_retPairL (el_listT (K := K) (ev_var (i := 1) rfl) (SqT.of (e2 _ _ ha1))) fun r p H3 np e3 hr3 hp3 => ?_
      exact k (c :: q) true r p H3 (Sx.atom_token hb1 hb2) (by omega) ((hk1.trans (Ex.kb e2)).trans (Ex.kb e3)) ((hs1.exx e2).exx e3) ((hk1.trans (Ex.kb e2)).fresh hst.is (hs1.exx e2).is np) hr3 hp3
  rintro σ' H2 ⟨rfl, hk2, hs2⟩
  have ha2 := hst.tup hk2 _ _ ha
  refine st_seq (st_if (ans_test (val_eqI (c := pick) (n := 2) (val_var rfl) val_c)) (fun _ => ?_) fun _ => st_next ?_)
  · refine st_retPair ?_
    refine ⟨_, rfl, _, rfl, st, nl, a, left, xs, rfl, hs2, ha2, ho, by omega, fun row r H3 hA hl hk3 hs3 nr hr3 p hp => ?_⟩
    have ep := Ex.new (o := .lst [V.ref r, V.bl false]) hp
    exact k row false r p _ hA (by omega) ((hk2.trans hk3).trans (Ex.kb ep)) (hs3.exx ep) ((hk2.trans hk3).fresh hst.is hs3.is hp) (ep _ _ hr3) upd_same
  refine nx_go ?_
  refine st_seq (st_if (ans_test (val_eqI (c := pick) (n := 3) (val_var rfl) val_c)) (fun _ => ?_) fun _ => st_next ?_)
  · refine st_seq ⟨Nat.zero_le _, fun dp hdp => ?_⟩
    have e0 := Ex.new (o := .lst []) hdp
    refine st_seq (st_forTi (K := K) (l := xs) (val_var rfl) (e0 _ _ ha2) (fun i σ H' => ∃ fp row v4, σ = [some (.ref st), some (.ref a), some (.int pick), some (.ref fp), v4] ∧ H' fp = some (.lst (iv row)) ∧ Sx.HexRow (xs.take i) row ∧ Kb st H H' ∧ StAt H' st nl left)
      ⟨dp, [], _, rfl, upd_same, .nil, hk2.trans (Ex.kb e0), hs2.exx e0⟩ (fun i σ H' ⟨_, _, _, _, _, _, hk, _⟩ => hst.tup hk _ _ ha) ?_ ?_)
    · rintro i c σ H' hc ⟨fp, row, v4, rfl, hfp, hR, hk, hs⟩
      have hi : i < xs.length := (List.getElem?_eq_some_iff.mp hc).1
      have hrl := hR.len
      refine ⟨_, rfl, _, rfl, _, rfl, st, nl, left, c, rfl, hs, ho c (List.mem_of_getElem? hc), fun h l lp H3 hh hl0 heq hk3 hs3 nlp hlp => ⟨fp, lp, _, _, rfl, rfl, hk3 fp _ (hs.neI hfp) hfp, hlp, ?_, fun z hz' => ?_⟩⟩
      · rw [List.length_map, hrl, List.length_take]
        show 2 * min i xs.length + 2 ≤ sizeLine
        omega
      · have ez := Ex.new (o := .lst (iv row ++ iv [h, l])) hz'
        refine ⟨z, row ++ [h, l], _, rfl, by rw [upd_same, iv_append], ?_, (hk.trans hk3).trans (Ex.kb ez), hs3.exx ez⟩
        rw [List.take_succ, hc]
        exact hR.append (.cons hh hl0 heq .nil)
    · rintro σ H' ⟨fp, row, v4, rfl, hfp, hR, hk, hs⟩
      rw [List.take_length] at hR
      have hrl := hR.len
      refine nx_go ?_
      refine st_retPair ?_
      refine ⟨by show 1 ≤ sizeLine; decide, fun x hx => ?_⟩
      have ex := Ex.new (o := .lst [V.int 35]) hx
      have hsx := hs.exx ex
      refine ⟨_, rfl, _, rfl, st, nl, fp, left, row, rfl, hsx, ex _ _ hfp, by omega, fun L lp H3 hL hl hk3 hs3 nlp hlp => ?_⟩
      exact fin rfl (Sx.atom_hex hR hL) (by omega) ((hk.trans (Ex.kb ex)).trans hk3) hs3 (hk3 x _ (hs.ne hx).1 upd_same) hlp
  refine nx_go ?_
  refine st_seq (st_if (ans_test (val_eqI (c := pick) (n := 4) (val_var rfl) val_c)) (fun _ => ?_) fun _ => st_next ?_)
  · refine st_retPair ?_
    refine ⟨by show 1 ≤ sizeLine; decide, fun x hx => ?_⟩
    have ex := Ex.new (o := .lst [V.int 124]) hx
    have hsx := hs2.exx ex
    refine ⟨_, rfl, _, rfl, a, xs, rfl, ex _ _ ha2, ho, by omega, fun rp H3 e3 nr hr3 => ?_⟩
    refine ⟨st, nl, rp, left, Sx.enc xs, rfl, hsx.exx e3, hr3, by omega, fun L lp H4 hL hl hk4 hs4 nlp hlp => ?_⟩
    exact fin rfl (Sx.atom_b64 ho hL) (by omega) (((hk2.trans (Ex.kb ex)).trans (Ex.kb e3)).trans hk4) hs4 (hk4 x _ (hs2.ne hx).1 (e3 _ _ upd_same)) hlp
  refine nx_go ?_
  have hd' : (Sx.dec xs.length).length ≤ 8 := Sx.dec_len 7 _ (by omega)
  have hst2 := str_dec xs.length
  have hsz : (Str.ofString (toString ((xs.length : Nat) : Int))).cps.size < 1000 := by
    have := congrArg List.length hst2
    simp only [List.length_map, Array.length_toList] at this
    rw [this]
    omega
  have hlen : Ev (tCB (fun xs H Q => ∃ x n, xs = [x] ∧ LenV K x H n ∧ Q (.int n) H) (tCons (tVar 1) tNil)) [some (V.ref st), some (V.ref a), some (V.int pick), none, none] H2 (.int ((xs.length : Nat) : Int)) := by
    have := ev_lenT (K := K) (ev_var (i := 1) (σ := [some (V.ref st), some (V.ref a), some (V.int pick), none, none]) (H := H2) rfl) (SqT.of ha2)
    rw [List.length_map] at this
    exact this
  refine st_retPairL (el_cat (el_cat (el_ascii (ev_str hlen (by omega)) hsz hst2) (el_lst1 (i := 58)) (by rw [List.length_map]; show (Sx.dec xs.length).length + 1 ≤ sizeLine; omega)) (el_listT (K := K) (ev_var (i := 1) rfl) (SqT.of ha2)) (by rw [List.length_append, List.length_map, List.length_map, List.length_map]; show (Sx.dec xs.length).length + 1 + xs.length ≤ sizeLine; omega)) fun r p H3 np e3 hr3 hp3 => ?_
  refine k (Sx.dec xs.length ++ 58 :: xs) false r p H3 (Sx.atom_counted xs) (by rw [List.length_append, List.length_cons]; omega) (hk2.trans (Ex.kb e3)) (hs2.exx e3) (hk2.fresh hst.is hs2.is np) (by rw [hr3]; simp) hp3
end
end Hd
end
/-! ## Hd25 -/
section
set_option maxRecDepth 100000
set_option maxHeartbeats 4000000
set_option linter.all false
/-! The law's tokens. -/
namespace Hd
open PySem PySem.Spec PyProof.Rows L2 Evl
/-- a token as it stands -/
def TkAt (H : Hp) (a : Addr) (k : Sx.Tk) : Prop := ∃ (r : Addr) (ev : V), H a = some (.lst [.ref r, ev, .bl k.late]) ∧ H r = some (.lst (iv k.row)) ∧ (k.ev = false → ev = .non ∧ k.late = false) ∧ (k.ev = true → k.row ≠ [] ∧ ∃ e, ev = .ref e) ∧
  (k.late = true → ∃ (e v o : Addr) (xs : List Int), ev = .ref e ∧ H e = some (.tup [.str "leaf", .ref v]) ∧ H v = some (.tup [.str "bytes", .ref o]) ∧ H o = some (.tup (iv xs)))
/-- no part of a token stands at z -/
structure NoTk (H : Hp) (z : Addr) : Prop where
  n1 : ∀ r ev b, H z ≠ some (.lst [.ref r, ev, .bl b])
  n2 : ∀ l : List Int, H z ≠ some (.lst (iv l))
  n3 : ∀ xs, H z ≠ some (.tup xs)
theorem TkAt.but {H H' : Hp} {a z : Addr} {k : Sx.Tk} (h : TkAt H a k) (n : NoTk H z) (hk : Kb z H H') : TkAt H' a k := by
  obtain ⟨r, ev, e1, e2, e3, e4, e5⟩ := h
  refine ⟨r, ev, hk a _ (fun e => n.n1 r ev k.late (by rw [← e]; exact e1)) e1, hk r _ (fun e => n.n2 k.row (by rw [← e]; exact e2)) e2, e3, e4, fun hl => ?_⟩
  obtain ⟨e, v, o, xs, rfl, h1, h2, h3⟩ := e5 hl
  exact ⟨e, v, o, xs, rfl, hk e _ (fun z' => n.n3 _ (by rw [← z']; exact h1)) h1, hk v _ (fun z' => n.n3 _ (by rw [← z']; exact h2)) h2, hk o _ (fun z' => n.n3 _ (by rw [← z']; exact h3)) h3⟩
theorem TkAt.exx {H H' : Hp} {a : Addr} {k : Sx.Tk} (h : TkAt H a k) (hk : Ex H H') : TkAt H' a k := by
  obtain ⟨r, ev, e1, e2, e3, e4, e5⟩ := h
  refine ⟨r, ev, hk a _ e1, hk r _ e2, e3, e4, fun hl => ?_⟩
  obtain ⟨e, v, o, xs, rfl, h1, h2, h3⟩ := e5 hl
  exact ⟨e, v, o, xs, rfl, hk e _ h1, hk v _ h2, hk o _ h3⟩
theorem StAt.noTk {H : Hp} {st nl : Addr} {left : Int} (h : StAt H st nl left) : NoTk H st := by
  obtain ⟨a, b, sc, l, e1, e2, e3⟩ := h
  refine ⟨fun r ev b' e => ?_, fun l' e => ?_, fun xs e => ?_⟩
  · rw [e1] at e; cases e
  · rw [e1] at e
    cases l' with
    | nil => cases e
    | cons x l' => cases e
  · rw [e1] at e; cases e
theorem refs_noTk {H : Hp} {D : Addr} {cs : List Addr} (h : H D = some (.lst (cs.map V.ref))) (hc : cs ≠ []) : NoTk H D := by
  cases cs with
  | nil => exact absurd rfl hc
  | cons c cs =>
    refine ⟨fun r ev b' e => ?_, fun l' e => ?_, fun xs e => ?_⟩
    · rw [h] at e
      have e' : (c :: cs).map V.ref = [V.ref r, ev, V.bl b'] := HO.lst.inj (Option.some.inj e)
      rcases cs with _ | ⟨c2, _ | ⟨c3, cs⟩⟩
      · cases e'
      · cases e'
      · cases e'
    · rw [h] at e
      cases l' with
      | nil => cases e
      | cons x l' => cases e
    · rw [h] at e; cases e
theorem pd_imp {α β : Type} {F G : α → β → Prop} {as : List α} {bs : List β} (h : Paired F as bs) (i : ∀ a b, F a b → G a b) : Paired G as bs := by
  induction h with
  | nil => exact .nil
  | cons h _ ih => exact .cons (i _ _ h) ih
theorem pd_app {α β : Type} {F : α → β → Prop} {as as' : List α} {bs bs' : List β} (h : Paired F as bs) (h' : Paired F as' bs') : Paired F (as ++ as') (bs ++ bs') := by
  induction h with
  | nil => exact h'
  | cons h _ ih => exact .cons h ih
theorem pd_len {α β : Type} {F : α → β → Prop} {as : List α} {bs : List β} (h : Paired F as bs) : as.length = bs.length := by
  induction h with
  | nil => rfl
  | cons h _ ih => rw [List.length_cons, List.length_cons, ih]
abbrev tBk : TE := tLst (tCons (tCall spBlank [] E0 (tCons (tVar 0) tNil)) (tCons (tC .non) (tCons (tC (.bl false)) tNil)))
theorem tok_blank {σ : L2.St} {H : Hp} {st nl : Addr} {left : Int} {Q : VK} (hs : σ[0]? = some (some (.ref st))) (h : StAt H st nl left)
    (k : ∀ e x H', Sx.AllSp e → e.length ≤ 2 → Kb st H H' → StAt H' st nl left → H x = none → TkAt H' x ⟨e, false, false⟩ → Q (.ref x) H') : tBk σ H Q :=
  ⟨_, hs, st, nl, left, rfl, h, fun e b H1 he hl hk h1 nb hb => ⟨by show 3 ≤ sizeLine; decide, fun x hx => k e x _ he hl (hk.trans (Ex.kb (Ex.new hx))) (h1.exx (Ex.new hx)) (hk.fresh h.is h1.is hx)
    ⟨b, .non, upd_same, Ex.new hx _ _ hb, fun _ => ⟨rfl, rfl⟩, fun z => absurd z Bool.false_ne_true, fun z => absurd z Bool.false_ne_true⟩⟩⟩
section
variable {σ : L2.St} {H : Hp} {D : Ends} {ta te te2 : TE} {j : Nat}
theorem st_asgOne (h : te σ H fun v H1 => 1 ≤ sizeLine ∧ ∀ l, H1 l = none → D.nx (σ.set j (some (.ref l))) (upd H1 l (.lst [v]))) : tAsg (tLst (tCons te tNil)) (gName j) D σ H := h
theorem st_retCat1 (h : ta σ H fun x H1 => te σ H1 fun v H2 => 1 ≤ sizeLine ∧ ∀ l, H2 l = none → rCat x (.ref l) (upd H2 l (.lst [v])) D.rt) : tRet (tOp rCat ta (tLst (tCons te tNil))) D σ H := h
theorem st_asgCat2 (h : ta σ H fun x H1 => te σ H1 fun v H2 => te2 σ H2 fun v2 H3 => 2 ≤ sizeLine ∧ ∀ l, H3 l = none → rCat x (.ref l) (upd H3 l (.lst [v, v2])) fun y H4 => D.nx (σ.set j (some y)) H4) : tAsg (tOp rCat ta (tLst (tCons te (tCons te2 tNil)))) (gName j) D σ H := h
end
section
variable {P : Program} {w : World} {K : PySem.W.Frag} {mg : Str → Option Value} {base : Heap} {f : Addr} {fd : FuncData}
def spTok (d : Nat) : Sp := fun vs H Q _ => ∃ (st nl a : Addr) (left : Int) (t : Sx.T) (e : Nat), e < d ∧ vs = [.ref st, .ref a] ∧ StAt H st nl left ∧ TreeAt H t a ∧ Sx.Dep e t ∧ OctT t ∧ Sx.wt t < 500000 ∧
  ∀ ks cs p H', Sx.Reads t ks → Sx.tkLen ks ≤ 8 * Sx.wt t → ks.length ≤ Sx.wt t → H' p = some (.lst (cs.map V.ref)) → cs ≠ [] → Paired (TkAt H') cs ks → H p = none → Kb st H H' → StAt H' st nl left → Q (.ref p) H'
abbrev N49 : List Str := ["_law_state_here", "_law_value_here", "_law_tokens_here", "_law_item", "_law_octets_here", "_law_is_token_here"]
theorem sc49 : FnScope N49 ["_law_state_here", "_law_value_here"] (defScope (top 49)) := ⟨rfl, rfl, rfl, by decide +kernel, rfl, by decide +kernel, by decide +kernel⟩
theorem len_spTok {d : Nat} : ∀ vs H Q E, spTok d vs H Q E → vs.length = (["_law_state_here", "_law_value_here"] : List Str).length := fun vs H Q E h => by
  obtain ⟨st, nl, a, left, t, e, _, rfl, _⟩ := h
  rfl
theorem ok_tokens (Cb : CBl P w K mg base) (Ca : CA P w K mg base 5 "_law_atom" ["_law_state_here", "_law_octets_here"] spAtm) (F : Fun K "_law_tokens" "_law_tokens" (top 49) f fd)
    (g : mg "_law_tokens" = some (.ref f)) (kp : PySem.W.keepIn K (.ref f) = true) (b : Binds K fd ["_law_state_here", "_law_value_here"] []) : ∀ d, FnOk P w K mg base CX0 (d + 6) f fd ["_law_state_here", "_law_value_here"] (spTok d) := by
  intro d
  induction d with
  | zero =>
    refine F.ok sc49 len_spTok (fun cdv A outer s H vs Q E hr h => ?_)
    obtain ⟨st, nl, a, left, t, e, h, _⟩ := h
    exact absurd h (Nat.not_lt_zero _)
  | succ d ih =>
    refine F.ok sc49 len_spTok (fun cdv A outer s H vs Q E hr h => ?_)
    obtain ⟨st, nl, a, left, t, e, hed, rfl, hst, ht, hd, ho, hw, k⟩ := h
    refine ⟨_, pss_cons (ps_set (i := 2) sc49.nd rfl (.inl rfl) (pe_lst (pa_cons (pe_lst (pa_cons (pe_calJ Cb hr (by omega) (by rfl) pass0 (pa_cons (pv 0) pa_nil)) (pa_cons pe_non (pa_cons pe_bl pa_nil)))) pa_nil)))
      (pss_cut (ps_if (pt_cmpR op_eq (pe_ix ix_tup (pv 1) pe_int (fun _ _ => rfl)) pe_str (nomark _))
        (pss_cons (ps_expr (pe_bm PySem.F.plainAttrs_list PySem.F.slot_list_append PySem.F.type_list_append mt_append (pv 2) (pa_cons (pe_lst (pa_cons (pe_lst (pa_cons pe_int pa_nil)) (pa_cons (pe_tup (pa_cons pe_str (pa_cons pe_str pa_nil))) (pa_cons pe_bl pa_nil)))) pa_nil)))
        (pss_cons (ps_for PassesOwn.never rfl (pi_tup (pe_ix ix_tup (pv 1) pe_int (fun _ _ => rfl))) (pg_name (i := 3) sc49.nd rfl (.inl rfl)) (pss_one (ps_set (i := 2) sc49.nd rfl (.inl rfl) (pe_op op_cat (pv 2) (pe_call ih hr (by rfl) g kp b .nil pass0 (pa_cons (pv 0) (pa_cons (pv 3) pa_nil)))))))
        (pss_one (ps_set (i := 2) sc49.nd rfl (.inl rfl) (pe_op op_cat (pv 2) (pe_lst (pa_cons (pe_lst (pa_cons (pe_calJ Cb hr (by omega) (by rfl) pass0 (pa_cons (pv 0) pa_nil)) (pa_cons pe_non (pa_cons pe_bl pa_nil)))) (pa_cons (pe_lst (pa_cons (pe_lst (pa_cons pe_int pa_nil)) (pa_cons (pe_tup (pa_cons pe_str pa_nil)) (pa_cons pe_bl pa_nil)))) pa_nil))))))))
        (pss_cons (ps_asg (pe_calJ Ca hr (by omega) (by rfl) pass0 (pa_cons (pv 0) (pa_cons (pe_ix ix_tup (pv 1) pe_int (fun _ _ => rfl)) pa_nil))) (pg_lst rfl (pgs_cons (pg_name (i := 4) sc49.nd rfl (.inl rfl)) (pgs_cons (pg_name (i := 5) sc49.nd rfl (.inl rfl)) pgs_nil))))
        (pss_one (ps_expr (pe_bm PySem.F.plainAttrs_list PySem.F.slot_list_append PySem.F.type_list_append mt_append (pv 2) (pa_cons (pe_lst (pa_cons (pv 4) (pa_cons (pe_tup (pa_cons pe_str (pa_cons (pv 1) pa_nil))) (pa_cons (pv 5) pa_nil)))) pa_nil))))))
      (pss_one (ps_ret (pe_op op_cat (pv 2) (pe_lst (pa_cons (pe_lst (pa_cons (pe_calJ Cb hr (by omega) (by rfl) pass0 (pa_cons (pv 0) pa_nil)) (pa_cons pe_non (pa_cons pe_bl pa_nil)))) pa_nil)))))), ?_⟩
    have hs0 : sizeLine = 16777216 := sizeLine_eq
    have o1 : (1 : Nat) ≤ sizeLine := by decide
    have o2 : (2 : Nat) ≤ sizeLine := by decide
    have o3 : (3 : Nat) ≤ sizeLine := by decide
    refine st_seq (st_asgOne ?_)
    refine tok_blank rfl hst fun e1 x H1 he1 hel1 hk1 hs1 nx hx => ⟨o1, fun D hD => ?_⟩
    have e0 := Ex.new (o := .lst [V.ref x]) hD
    have hx2 := hx.exx e0
    have hs2 := hs1.exx e0
    have hk2 : Kb st H _ := hk1.trans (Ex.kb e0)
    have nD : H D = none := hk1.fresh hst.is hs1.is hD
    have hDst := (hst.ne nD).1
    have hD2 : upd H1 D (.lst [V.ref x]) D = some (.lst ([x].map V.ref)) := upd_same
    have nDx : D ≠ x := fun e' => by
      obtain ⟨r, ev, h1, _⟩ := hx
      rw [e', h1] at hD; cases hD
    refine nx_go ?_
    generalize upd H1 D (.lst [V.ref x]) = H2 at hx2 hs2 hk2 hD2
    refine ⟨fun σ' H' => ∃ D cs ks v3 v4 v5, σ' = [some (.ref st), some (.ref a), some (.ref D), v3, v4, v5] ∧ H D = none ∧ H' D = some (.lst (cs.map V.ref)) ∧ cs ≠ [] ∧ Paired (TkAt H') cs ks ∧ (∀ e3, Sx.AllSp e3 → Sx.Reads t (ks ++ [⟨e3, false, false⟩])) ∧ Sx.tkLen ks + 3 ≤ 8 * Sx.wt t ∧ ks.length + 1 ≤ Sx.wt t ∧ Kb st H H' ∧ StAt H' st nl left, ?_, ?_⟩
    · have tx := hst.tup hk2
      cases t with
      | leaf xs =>
        obtain ⟨b1, t1, t2⟩ := ht
        cases ho with
        | leaf hoct hlen =>
          rw [Sx.wt] at hw
          refine st_no ((ans_test (val_eqS (x := "bytes") (val_ixT (K := K) (val_var rfl) val_c (SqT.of (tx _ _ t1)) rfl) val_c)).to (by decide +kernel)) ?_
          refine st_seq ⟨_, rfl, val_ixT (K := K) (v := .ref b1) (i := 1) (val_var (i := 1) (σ := [some (V.ref st), some (V.ref a), some (V.ref D), none, none, none]) rfl) val_c (SqT.of (tx _ _ t1)) rfl _ ⟨st, nl, b1, left, xs, rfl, hs2, tx _ _ t2, hoct, hlen, fun row isT r p H3 hA hrl hk3 hs3 np hr3 hp3 => ?_⟩⟩
          refine ⟨p, _, rfl, SqL.of hp3, rfl, _, _, rfl, _, _, rfl, rfl, ?_⟩
          have hD3 := hk3 D _ hDst hD2
          have tx3 := hst.tup (hk2.trans hk3)
          refine ⟨_, rfl, .inl ⟨rfl, _, SqL.of hD3⟩, _, rfl, _, rfl, o2, fun ev hev => ⟨_, rfl, o3, fun y hy => ⟨D, [x].map V.ref, _, rfl, rfl, ?_, by show 1 < sizeLine; omega, ?_⟩⟩⟩
          · exact ((Ex.new hev).trans (Ex.new hy)) _ _ hD3
          have ev1 := Ex.new (o := .tup [V.str "leaf", V.ref a]) hev
          have ev2 := Ex.new (o := .lst [V.ref r, V.ref ev, V.bl isT]) hy
          have ex := ev1.trans ev2
          have hD4 := ex _ _ hD3
          have hx4 := (hx2.but hs2.noTk hk3).exx ex
          have hs4 := hs3.exx ex
          have hy4 : TkAt _ y ⟨row, true, isT⟩ := ⟨r, .ref ev, upd_same, ex _ _ hr3, fun z => Bool.noConfusion (show true = false from z), fun _ => ⟨by
            obtain ⟨⟨c, q, e', _⟩, _⟩ := hA
            rw [e']; exact List.cons_ne_nil _ _, ev, rfl⟩, fun _ => ⟨ev, a, b1, xs, rfl, ev2 _ _ upd_same, ex _ _ (tx3 _ _ t1), ex _ _ (tx3 _ _ t2)⟩⟩
          generalize upd (upd H3 ev (.tup [V.str "leaf", V.ref a])) y (.lst [V.ref r, V.ref ev, V.bl isT]) = H4 at hD4 hx4 hs4 hy4 ex
          have nt := refs_noTk (cs := [x]) hD4 (by simp)
          refine ⟨D, [x, y], [⟨e1, false, false⟩, ⟨row, true, isT⟩], _, _, _, rfl, nD, upd_same, by simp, .cons (hx4.but nt Kb.own) (.cons (hy4.but nt Kb.own) .nil), fun e3 h3 => Sx.reads_leaf he1 h3 hA, ?_, ?_, ((hk2.trans hk3).trans (Ex.kb ex)).mut nD, hs4.mut hDst (hst.ne nD).2⟩
          · simp only [Sx.tkLen, Sx.wt]
            omega
          · simp only [Sx.wt, List.length_cons, List.length_nil]
            omega
      | node ts =>
        obtain ⟨bb, tcs, t1, t2, t3⟩ := ht
        cases ho with
        | node hoct =>
          have hwn : Sx.wt (.node ts) = Sx.wts ts + 8 := by rw [Sx.wt]
          obtain ⟨e, rfl⟩ : ∃ e', e = e' + 1 := by
            cases e with
            | zero => exact hd.elim
            | succ e' => exact ⟨e', rfl⟩
          have hd : ∀ t ∈ ts, Sx.Dep e t := hd
          refine st_yes ((ans_test (val_eqS (x := "list") (val_ixT (K := K) (val_var rfl) val_c (SqT.of (tx _ _ t1)) rfl) val_c)).to (by decide +kernel)) ?_
          refine st_seq ⟨_, rfl, .inl ⟨rfl, _, SqL.of hD2⟩, o1, fun r hr' => ⟨o2, fun ev hev => ⟨o3, fun y hy => ⟨D, [x].map V.ref, _, rfl, rfl, ?_, by show 1 < sizeLine; omega, ?_⟩⟩⟩⟩
          · exact (((Ex.new hr').trans (Ex.new hev)).trans (Ex.new hy)) _ _ hD2
          have ev0 := Ex.new (o := .lst [V.int 40]) hr'
          have ev1 := Ex.new (o := .tup [V.str "open", V.str "list"]) hev
          have ev2 := Ex.new (o := .lst [V.ref r, V.ref ev, V.bl false]) hy
          have ex := (ev0.trans ev1).trans ev2
          have hD4 := ex _ _ hD2
          have hx4 := hx2.exx ex
          have hs4 := hs2.exx ex
          have hy4 : TkAt _ y ⟨[40], true, false⟩ := ⟨r, .ref ev, upd_same, (ev1.trans ev2) _ _ upd_same, fun z => Bool.noConfusion (show true = false from z), fun _ => ⟨by simp, ev, rfl⟩, fun z => absurd z Bool.false_ne_true⟩
          refine nx_go ?_
          generalize upd (upd (upd H2 r (.lst [V.int 40])) ev (.tup [V.str "open", V.str "list"])) y (.lst [V.ref r, V.ref ev, V.bl false]) = H4 at hD4 hx4 hs4 hy4 ex
          have nt := refs_noTk (cs := [x]) hD4 (by simp)
          have hk4 := hk2.trans (Ex.kb ex)
          have tx4 := (hst.tup hk4)
          have hbb : ∀ {H' : Hp}, Kb st H H' → H' bb = some (.tup (tcs.map V.ref)) := fun hk' => hst.tup hk' _ _ t2
          refine st_seq ?_
          refine val_ixT (K := K) (v := .ref bb) (i := 1) (val_var (i := 1) (σ := [some (V.ref st), some (V.ref a), some (V.ref D), none, none, none]) rfl) val_c (SqT.of (hst.tup (hk4.mut (o := .lst ([x].map V.ref ++ [V.ref y])) nD) _ _ t1)) rfl _ ⟨bb, rfl, ⟨_, SqT.of (hbb (hk4.mut nD))⟩, ?_⟩
          refine for_tup (K := K) (a := bb) (xs := tcs.map V.ref) (fun i σ' H' => ∃ D cs ks v3, σ' = [some (.ref st), some (.ref a), some (.ref D), v3, none, none] ∧ H D = none ∧ H' D = some (.lst (cs.map V.ref)) ∧ cs ≠ [] ∧ Paired (TkAt H') cs ([⟨e1, false, false⟩, ⟨[40], true, false⟩] ++ ks) ∧ Sx.Readss (ts.take i) ks ∧ Sx.tkLen ks ≤ 8 * Sx.wts (ts.take i) ∧ ks.length ≤ Sx.wts (ts.take i) ∧ Kb st H H' ∧ StAt H' st nl left)
            ⟨D, [x, y], [], none, rfl, nD, upd_same, by simp, .cons (hx4.but nt Kb.own) (.cons (hy4.but nt Kb.own) .nil), rfl, Nat.zero_le _, Nat.zero_le _, hk4.mut nD, hs4.mut hDst (hst.ne nD).2⟩ (fun i σ' H' _ ⟨_, _, _, _, _, _, _, _, _, _, _, _, hk', _⟩ => SqT.of (hbb hk')) ?_ ?_
          · rintro i v σ' H' hi ⟨D', cs, ks, v3, rfl, nD', hD', hne, hpd, hR, hl1, hl2, hk', hs'⟩
            obtain ⟨c, hc, rfl⟩ : ∃ c, tcs[i]? = some c ∧ v = V.ref c := by
              rw [List.getElem?_map] at hi
              cases q : tcs[i]? with
              | none => rw [q] at hi; cases hi
              | some c => rw [q] at hi; exact ⟨c, rfl, (Option.some.inj hi).symm⟩
            obtain ⟨u, hu, htu⟩ := t3.get hc
            have hmem : u ∈ ts := List.mem_of_getElem? hu
            have hwu := Sx.wt_mem hmem
            have htk : Sx.wts (ts.take (i + 1)) = Sx.wts (ts.take i) + Sx.wt u := by
              rw [List.take_succ, hu]
              exact wts_snoc _ u
            have hwt2 : Sx.wts (ts.take (i + 1)) ≤ Sx.wts ts := by
              have : ∀ (l : List Sx.T) (n : Nat), Sx.wts (l.take n) ≤ Sx.wts l := by
                intro l
                induction l with
                | nil => intro n; simp
                | cons t l ih =>
                  intro n
                  cases n with
                  | zero => simp [Sx.wts]
                  | succ n =>
                    have := ih n
                    simp [Sx.wts]
                    omega
              exact this ts (i + 1)
            have hpl := pd_len hpd
            rw [List.length_append, List.length_cons, List.length_cons, List.length_nil] at hpl
            refine ⟨_, rfl, _, rfl, _, rfl, st, nl, c, left, u, e, by omega, rfl, hs', htu.ex (hst.tup hk'), hd u hmem, hoct u hmem, by omega, fun ks' cs' p H3 hR' hl1' hl2' hp hne' hpd' np hk3 hs3 => ?_⟩
            have hD3 := hk3 D' _ (hst.ne nD').1 hD'
            have hpl' := pd_len hpd'
            refine ⟨D', p, _, _, rfl, rfl, hD3, hp, by rw [List.length_map, List.length_map]; omega, fun z hz => ?_⟩
            have ez := Ex.new (o := .lst (cs.map V.ref ++ cs'.map V.ref)) hz
            refine ⟨z, cs ++ cs', ks ++ ks', _, rfl, (hk'.trans hk3).fresh hst.is hs3.is hz, by rw [upd_same, List.map_append], by simp [hne], ?_, ?_, ?_, ?_, (hk'.trans hk3).trans (Ex.kb ez), hs3.exx ez⟩
            · rw [← List.append_assoc]
              exact pd_app (pd_imp hpd fun _ _ h => (h.but hs'.noTk hk3).exx ez) (pd_imp hpd' fun _ _ h => h.exx ez)
            · rw [List.take_succ, hu]
              exact hR.snoc hR'
            · rw [Sx.tkLen_append, htk]
              omega
            · rw [List.length_append, htk]
              omega
          · rintro σ' H' ⟨D', cs, ks, v3, rfl, nD', hD', hne, hpd, hR, hl1, hl2, hk', hs'⟩
            have hlt : ts.take (tcs.map V.ref).length = ts := by rw [List.length_map, ← t3.length, List.take_length]
            rw [hlt] at hR hl1 hl2
            have hpl := pd_len hpd
            rw [List.length_append, List.length_cons, List.length_cons, List.length_nil] at hpl
            refine nx_go ?_
            refine st_asgCat2 ?_
            refine ⟨_, rfl, ?_⟩
            refine tok_blank rfl hs' fun e2 x2 H5 he2 hel2 hk5 hs5 nx2 hx5 => ⟨o1, fun r5 hr5 => ⟨o1, fun ev5 hev5 => ⟨o3, fun y5 hy5 => ⟨o2, fun l5 hl5 => ?_⟩⟩⟩⟩
            have f0 := Ex.new (o := .lst [V.int 41]) hr5
            have f1 := Ex.new (o := .tup [V.str "close"]) hev5
            have f2 := Ex.new (o := .lst [V.ref r5, V.ref ev5, V.bl false]) hy5
            have f3 := Ex.new (o := .lst [V.ref x2, V.ref y5]) hl5
            have fx := ((f0.trans f1).trans f2).trans f3
            have hD5 := fx _ _ (hk5 D' _ (hst.ne nD').1 hD')
            refine ⟨D', l5, _, _, rfl, rfl, hD5, upd_same, by rw [List.length_map]; show cs.length + 2 ≤ sizeLine; omega, fun z hz => ?_⟩
            have ez := Ex.new (o := .lst (cs.map V.ref ++ [V.ref x2, V.ref y5])) hz
            have hy6 : TkAt _ y5 ⟨[41], true, false⟩ := ⟨r5, .ref ev5, (f3.trans ez) _ _ upd_same, (((f1.trans f2).trans f3).trans ez) _ _ upd_same, fun z => Bool.noConfusion (show true = false from z), fun _ => ⟨by simp, ev5, rfl⟩, fun z => absurd z Bool.false_ne_true⟩
            have fz := fx.trans ez
            refine ⟨z, cs ++ [x2, y5], ([⟨e1, false, false⟩, ⟨[40], true, false⟩] ++ ks) ++ [⟨e2, false, false⟩, ⟨[41], true, false⟩], _, _, _, rfl, ((hk'.trans hk5).trans (Ex.kb fx)).fresh hst.is (hs5.exx fx).is hz, by rw [upd_same, List.map_append]; rfl, by simp [hne],
              pd_app (pd_imp hpd fun _ _ h => (h.but hs'.noTk hk5).exx fz) (.cons (hx5.exx fz) (.cons hy6 .nil)), fun e3 h3 => ?_, ?_, ?_, (hk'.trans hk5).trans (Ex.kb fz), hs5.exx fz⟩
            · have := Sx.reads_node he1 he2 h3 hR
              simpa using this
            · rw [Sx.tkLen_append, Sx.tkLen_append, hwn]
              simp only [Sx.tkLen, List.length_cons, List.length_nil]
              omega
            · rw [hwn]
              simp only [List.length_append, List.length_cons, List.length_nil]
              omega
    · rintro σ' H' ⟨D', cs, ks, v3, v4, v5, rfl, nD', hD', hne, hpd, hR, hl1, hl2, hk', hs'⟩
      have hpl := pd_len hpd
      refine st_retCat1 ?_
      refine ⟨_, rfl, ?_⟩
      refine tok_blank rfl hs' fun e3 x3 H3 he3 hel3 hk3 hs3 nx3 hx3 => ⟨o1, fun l3 hl3 => ?_⟩
      have f3 := Ex.new (o := .lst [V.ref x3]) hl3
      have hD3 := f3 _ _ (hk3 D' _ (hst.ne nD').1 hD')
      refine ⟨D', l3, _, _, rfl, rfl, hD3, upd_same, by rw [List.length_map]; show cs.length + 1 ≤ sizeLine; omega, fun z hz => ?_⟩
      have ez := Ex.new (o := .lst (cs.map V.ref ++ [V.ref x3])) hz
      have fz := f3.trans ez
      refine k (ks ++ [⟨e3, false, false⟩]) (cs ++ [x3]) z _ (hR e3 he3) ?_ ?_ (by rw [upd_same, List.map_append]; rfl) (by simp) (pd_app (pd_imp hpd fun _ _ h => (h.but hs'.noTk hk3).exx fz) (.cons (hx3.exx fz) .nil)) (((hk'.trans hk3).trans (Ex.kb f3)).fresh hst.is (hs3.exx f3).is hz) ((hk'.trans hk3).trans (Ex.kb fz)) (hs3.exx fz)
      · rw [Sx.tkLen_append]
        simp only [Sx.tkLen]
        omega
      · rw [List.length_append]
        exact hl2
end
end Hd
end
/-! ## Hd26 -/
section
set_option maxRecDepth 100000
set_option maxHeartbeats 4000000
set_option linter.all false
/-! The law's schedule. -/
namespace Hd
open PySem PySem.Spec PyProof.Rows L2 Evl
/-! ### what is compared with [] -/
def dLeaf (xs : List Int) : PyData := .tuple [.str "leaf", .tuple [.str "bytes", .tuple (idl xs)]]
def LateAt (H : Hp) (lt : Addr) (b : Bool) : Prop := (b = false ∧ H lt = some (.lst [])) ∨
  (b = true ∧ ∃ (e v o : Addr) (xs : List Int), H lt = some (.lst [.ref e]) ∧ H e = some (.tup [.str "leaf", .ref v]) ∧ H v = some (.tup [.str "bytes", .ref o]) ∧ H o = some (.tup (iv xs)))
theorem LateAt.to {H H' : Hp} {lt : Addr} {b : Bool} (h : LateAt H lt b) (h1 : H' lt = H lt) (h2 : TupEx H H') : LateAt H' lt b := by
  rcases h with ⟨rfl, h⟩ | ⟨rfl, e, v, o, xs, h3, h4, h5, h6⟩
  · exact .inl ⟨rfl, by rw [h1]; exact h⟩
  · exact .inr ⟨rfl, e, v, o, xs, by rw [h1]; exact h3, h2 _ _ h4, h2 _ _ h5, h2 _ _ h6⟩
theorem LateAt.lst {H : Hp} {lt : Addr} {b : Bool} (h : LateAt H lt b) : ∃ zs, H lt = some (.lst zs) ∧ zs.length ≤ 1 := by
  rcases h with ⟨rfl, h⟩ | ⟨rfl, e, v, o, xs, h3, h4, h5, h6⟩
  · exact ⟨_, h, Nat.zero_le _⟩
  · exact ⟨_, h3, Nat.le_refl _⟩
theorem shaped_leaf (xs : List Int) : SeqAt.shaped (.list [dLeaf xs]) = true := by
  have h1 := depth_ints xs
  have h2 := lay_ints xs
  have s1 : PyData.strOk ("leaf" : Str) = true := by decide +kernel
  have s2 : PyData.strOk ("bytes" : Str) = true := by decide +kernel
  show (PyData.canLay0 (.list [dLeaf xs]) && decide (PyData.depth (.list [dLeaf xs]) ≤ 64)) = true
  rw [Bool.and_eq_true]
  refine ⟨?_, decide_eq_true ?_⟩
  · simp only [dLeaf, PyData.canLay0, PyData.canLayAll0, s1, s2, h2, Bool.and_self]
  · simp only [dLeaf, PyData.depth, PyData.depthAll]
    omega
theorem ev_lateNe {K : PySem.W.Frag} {σ : L2.St} {H : Hp} {lt : Addr} {b : Bool} {i : Nat} (hs : σ[i]? = some (some (.ref lt))) (h : LateAt H lt b) : Ev (tOp (rNeD K) (tVar i) (tLst tNil)) σ H (.bl b) := fun H1 e Q q =>
  ⟨_, hs, Nat.zero_le _, fun p hp => by
    have ep := Ex.new (o := .lst []) hp
    have ex := e.trans ep
    rcases h with ⟨rfl, h⟩ | ⟨rfl, e1, v, o, xs, h3, h4, h5, h6⟩
    · refine ⟨.list (idl []), .list (idl []), .lst (SqL.of (ex _ _ h)) .nil, .lst (SqL.of upd_same) .nil, shaped_ints [], shaped_ints [], ?_⟩
      rw [eqv_ints]
      exact q _ ep
    · refine ⟨.list [dLeaf xs], .list (idl []), .lst (SqL.of (ex _ _ h3)) (.cons (.tup (SqT.of (ex _ _ h4)) (.cons (.str _) (.cons (.tup (SqT.of (ex _ _ h5)) (.cons (.str _) (.cons (.tup (SqT.of (ex _ _ h6)) (dp_ints xs)) .nil))) .nil))) .nil), .lst (SqL.of upd_same) .nil, shaped_leaf xs, shaped_ints [], ?_⟩
      have e2 : PyData.eqv (.list [dLeaf xs]) (.list (idl [])) = false := by
        simp only [idl, List.map_nil, PyData.eqv, PyData.eqvAll]
      rw [e2]
      exact q _ ep⟩
theorem ev_rowNe {K : PySem.W.Frag} {σ : L2.St} {H : Hp} {r : Addr} {l : List Int} {i : Nat} (hs : σ[i]? = some (some (.ref r))) (h : H r = some (.lst (iv l))) : Ev (tOp (rNeD K) (tVar i) (tLst tNil)) σ H (.bl (!decide (l = []))) := fun H1 e Q q =>
  ⟨_, hs, Nat.zero_le _, fun p hp => by
    have ep := Ex.new (o := .lst []) hp
    refine ⟨.list (idl l), .list (idl []), .lst (SqL.of ((e.trans ep) _ _ h)) (dp_ints l), .lst (SqL.of upd_same) .nil, shaped_ints l, shaped_ints [], ?_⟩
    rw [eqv_ints]
    exact q _ ep⟩
/-- the lists of the schedule -/
structure SchAt (H0 H : Hp) (oc rw_ lt : Addr) (F : List Int) (rs : List V) (b : Bool) (cap : Nat) : Prop where
  no : H0 oc = none
  nr : H0 rw_ = none
  d1 : oc ≠ rw_
  d2 : lt ≠ oc
  d3 : lt ≠ rw_
  ho : H oc = some (.lst (iv F))
  hr : H rw_ = some (.lst rs)
  hl : LateAt H lt b
  el : ∀ x ∈ rs, ∃ l zs, x = V.ref l ∧ H l = some (.lst zs) ∧ zs.length ≤ cap ∧ l ≠ oc ∧ l ≠ rw_
  len : rs.length = F.length
  ex : Ex H0 H
theorem SchAt.exx {H0 H H' : Hp} {oc rw_ lt : Addr} {F : List Int} {rs : List V} {b : Bool} {cap : Nat} (h : SchAt H0 H oc rw_ lt F rs b cap) (e : Ex H H') : SchAt H0 H' oc rw_ lt F rs b cap := by
  refine ⟨h.no, h.nr, h.d1, h.d2, h.d3, e _ _ h.ho, e _ _ h.hr, ?_, fun x hx => ?_, h.len, h.ex.trans e⟩
  · obtain ⟨zs, hz, _⟩ := h.hl.lst
    exact h.hl.to (by rw [hz]; exact e _ _ hz) (Hd.Ex.tup e)
  · obtain ⟨l, zs, h1, h2, h3⟩ := h.el x hx
    exact ⟨l, zs, h1, e _ _ h2, h3⟩
/-- one octet more: octets.append(c); rows.append(late) -/
theorem SchAt.more {H0 H : Hp} {oc rw_ lt : Addr} {F : List Int} {rs : List V} {b : Bool} {cap : Nat} (h : SchAt H0 H oc rw_ lt F rs b cap) (hc : 1 ≤ cap) (c : Int) {lt' : Addr} (hn : upd (upd H oc (.lst (iv F ++ [V.int c]))) rw_ (.lst (rs ++ [V.ref lt])) lt' = none) :
    SchAt H0 (upd (upd (upd H oc (.lst (iv F ++ [V.int c]))) rw_ (.lst (rs ++ [V.ref lt]))) lt' (.lst [])) oc rw_ lt' (F ++ [c]) (rs ++ [V.ref lt]) false cap := by
  have n1 : lt' ≠ rw_ := fun e => by rw [e, upd_same] at hn; cases hn
  have n2 : lt' ≠ oc := fun e => by rw [e, upd_ne h.d1, upd_same] at hn; cases hn
  have hn' : H lt' = none := by rw [upd_ne n1, upd_ne n2] at hn; exact hn
  have at_ : ∀ {l : Addr} {o : HO}, H l = some o → l ≠ oc → l ≠ rw_ → upd (upd (upd H oc (.lst (iv F ++ [V.int c]))) rw_ (.lst (rs ++ [V.ref lt]))) lt' (.lst []) l = some o := fun {l o} hl a b => by
    rw [upd_ne (ne_of_none hl hn'), upd_ne b, upd_ne a]
    exact hl
  refine ⟨h.no, h.nr, h.d1, n2, n1, ?_, ?_, .inl ⟨rfl, upd_same⟩, fun x hx => ?_, by simp [h.len], fun y o hy => ?_⟩
  · rw [upd_ne (Ne.symm n2), upd_ne h.d1, upd_same, iv_append]
    rfl
  · rw [upd_ne (Ne.symm n1), upd_same]
  · rcases List.mem_append.mp hx with hx | hx
    · obtain ⟨l, zs, h1, h2, h3, h4, h5⟩ := h.el x hx
      exact ⟨l, zs, h1, at_ h2 h4 h5, h3, h4, h5⟩
    · obtain ⟨zs, hz, hzl⟩ := h.hl.lst
      rw [List.mem_singleton.mp hx]
      exact ⟨lt, zs, rfl, at_ hz h.d2 h.d3, by omega, h.d2, h.d3⟩
  · exact at_ (h.ex _ _ hy) (ne_of_none hy h.no) (ne_of_none hy h.nr)
section
variable {K : PySem.W.Frag} {σ : L2.St} {H : Hp} {a : Addr} {D : Ends}
theorem st_forLr {te : TE} {j : Nat} {tb : TS} {l : List Addr} (h : Val te σ H (.ref a)) (hl : H a = some (.lst (l.map V.ref))) (Pv : Nat → L2.St → Hp → Prop) (h0 : Pv 0 σ H) (hk : ∀ i σ' H', Pv i σ' H' → H' a = some (.lst (l.map V.ref)))
    (hs : ∀ i c σ' H', l[i]? = some c → Pv i σ' H' → tb { D with nx := Pv (i + 1), ct := Pv (i + 1), bk := D.nx } (σ'.set j (some (.ref c))) H') (hd : ∀ σ' H', Pv l.length σ' H' → D.nx σ' H') : tFor (iList K te) (gName j) tb D σ H :=
  h _ ⟨a, rfl, ⟨_, SqL.of hl⟩, for_list (xs := l.map V.ref) Pv h0 (fun i σ' H' _ p => SqL.of (hk i σ' H' p)) (fun i x σ' H' hx p => by
    obtain ⟨c, hc, rfl⟩ : ∃ c, l[i]? = some c ∧ x = V.ref c := by
      rw [List.getElem?_map] at hx
      cases q : l[i]? with
      | none => rw [q] at hx; cases hx
      | some c => rw [q] at hx; exact ⟨c, rfl, (Option.some.inj hx).symm⟩
    exact hs i c σ' H' hc p) (fun σ' H' p => hd σ' H' (by rw [List.length_map] at p; exact p))⟩
theorem st_asgSubOp {r : R2} {ta tb to ti : TE} (h : ta σ H fun x H1 => tb σ H1 fun y H2 => r x y H2 fun v H3 => tAsg (tC v) (gSub to ti rSetL) D σ H3) : tAsg (tOp r ta tb) (gSub to ti rSetL) D σ H := h
theorem pd_get {α β : Type} {F : α → β → Prop} {as : List α} {bs : List β} (h : Paired F as bs) : ∀ {i : Nat} {a : α}, as[i]? = some a → ∃ b, bs[i]? = some b ∧ F a b := by
  induction h with
  | nil => intro i a e; simp at e
  | cons h _ ih =>
    intro i a e
    cases i with
    | zero =>
      simp at e
      subst e
      exact ⟨_, rfl, h⟩
    | succ i =>
      simp at e
      obtain ⟨b, e1, e2⟩ := ih e
      exact ⟨b, by simpa using e1, e2⟩
theorem tkLen_mem : ∀ {ks : List Sx.Tk} {k : Sx.Tk}, k ∈ ks → k.row.length + 1 ≤ Sx.tkLen ks
  | k' :: ks, k, h => by
    rw [Sx.tkLen]
    rcases List.mem_cons.mp h with rfl | h
    · omega
    · have := tkLen_mem h
      omega
end
section
variable {P : Program} {w : World} {K : PySem.W.Frag} {mg : Str → Option Value} {base : Heap} {f : Addr} {fd : FuncData}
def spSch : Sp := fun vs H Q _ => ∃ (p : Addr) (cs : List Addr) (ks : List Sx.Tk), vs = [.ref p] ∧ H p = some (.lst (cs.map V.ref)) ∧ Paired (TkAt H) cs ks ∧ Sx.tkLen ks ≤ 5000000 ∧ ks.length ≤ 1000000 ∧
  ∀ r o rw_ lt H', H' r = some (.lst [.ref o, .ref rw_, .ref lt]) → H' o = some (.lst (iv (Sx.sched false ks))) → H r = none → Ex H H' → Q (.ref r) H'
abbrev N50 : List Str := ["_law_tokens_here", "_law_octets_here", "_law_rows", "_law_late", "_law_token", "_law_row", "_law_octet"]
theorem sc50 : FnScope N50 ["_law_tokens_here"] (defScope (top 50)) := ⟨rfl, rfl, rfl, by decide +kernel, rfl, by decide +kernel, by decide +kernel⟩
theorem ok_schedule (B : Blt mg) (Ci : CA P w K mg base 3 "_law_in_token" ["_law_octet"] (spB Sx.inTok)) (F : Fun K "_law_schedule" "_law_schedule" (top 50) f fd) : FnOk P w K mg base CX0 4 f fd ["_law_tokens_here"] spSch := by
  refine F.ok sc50 (fun vs H Q E h => ?_) (fun cdv A outer s H vs Q E hr h => ?_)
  · obtain ⟨p, cs, ks, rfl, _⟩ := h
    rfl
  obtain ⟨p, cs, ks, rfl, hp, hpd, hz, hkl, k⟩ := h
  refine ⟨_, pss_cons (ps_set (i := 1) sc50.nd rfl (.inl rfl) (pe_lst pa_nil)) (pss_cons (ps_set (i := 2) sc50.nd rfl (.inl rfl) (pe_lst pa_nil)) (pss_cons (ps_set (i := 3) sc50.nd rfl (.inl rfl) (pe_lst pa_nil))
    (pss_cons (ps_for PassesOwn.never rfl (pi_list (pv 0)) (pg_name (i := 4) sc50.nd rfl (.inl rfl))
      (pss_cons (ps_set (i := 5) sc50.nd rfl (.inl rfl) (pe_ix ix_list (pv 4) pe_int (fun _ _ => rfl)))
      (pss_cut (ps_if (PW.pt (pw_and (pt_cmpR (op_neD hr.units) (pv 3) (pe_lst pa_nil) (nomark _)) (pw_and (pt_cmpR (op_neD hr.units) (pv 5) (pe_lst pa_nil) (nomark _)) (pw_and1 (pt_val (pe_calJ Ci hr (by decide) (by rfl) pass0 (pa_cons (pe_ix ix_list (pv 5) pe_int (fun _ _ => rfl)) pa_nil)))))))
        (pss_one (ps_set (i := 5) sc50.nd rfl (.inl rfl) (pe_op op_cat (pe_lst (pa_cons pe_int pa_nil)) (pv 5)))) pss_nil)
      (pss_cons (ps_for PassesOwn.never rfl (pi_list (pv 5)) (pg_name (i := 6) sc50.nd rfl (.inl rfl))
        (pss_cons (ps_expr (pe_bm PySem.F.plainAttrs_list PySem.F.slot_list_append PySem.F.type_list_append mt_append (pv 1) (pa_cons (pv 6) pa_nil)))
        (pss_cons (ps_expr (pe_bm PySem.F.plainAttrs_list PySem.F.slot_list_append PySem.F.type_list_append mt_append (pv 2) (pa_cons (pv 3) pa_nil)))
        (pss_one (ps_set (i := 3) sc50.nd rfl (.inl rfl) (pe_lst pa_nil))))))
      (pss_one (ps_if (PW.pt (pw_and (pt_cmpR op_notN (pe_ix ix_list (pv 4) pe_int (fun _ _ => rfl)) pe_non (nomark _)) (pw_and1 (pt_val (pe_ix ix_list (pv 4) pe_int (fun _ _ => rfl))))))
        (pss_one (ps_set (i := 3) sc50.nd rfl (.inl rfl) (pe_lst (pa_cons (pe_ix ix_list (pv 4) pe_int (fun _ _ => rfl)) pa_nil))))
        (pss_one (ps_if (pt_cmpR op_notN (pe_ix ix_list (pv 4) pe_int (fun _ _ => rfl)) pe_non (nomark _))
          (pss_one (ps_asg (pe_op op_cat (pe_ix ix_list (pv 2) (pe_op op_sub (pe_callB call_len (by rfl) B.len (by decide +kernel) (pa_cons (pv 2) pa_nil)) pe_int) (fun _ _ => rfl)) (pe_lst (pa_cons (pe_ix ix_list (pv 4) pe_int (fun _ _ => rfl)) pa_nil))) (pg_sub (pv 2) (pe_op op_sub (pe_callB call_len (by rfl) B.len (by decide +kernel) (pa_cons (pv 2) pa_nil)) pe_int) set_list))) pss_nil))))))))
    (pss_one (ps_ret (pe_lst (pa_cons (pv 1) (pa_cons (pv 2) (pa_cons (pv 3) pa_nil))))))))), ?_⟩
  have hs0 : sizeLine = 16777216 := sizeLine_eq
  have hcl := pd_len hpd
  refine st_seq ⟨Nat.zero_le _, fun oc hoc => ?_⟩
  refine st_seq ⟨Nat.zero_le _, fun rw_ hrw => ?_⟩
  refine st_seq ⟨Nat.zero_le _, fun lt hlt => ?_⟩
  have x0 := Ex.new (o := .lst []) hoc
  have x1 := Ex.new (o := .lst []) hrw
  have x2 := Ex.new (o := .lst []) hlt
  have d1 : oc ≠ rw_ := fun e => by rw [← e, upd_same] at hrw; cases hrw
  have d2 : lt ≠ oc := fun e => by rw [e, x1 _ _ upd_same] at hlt; cases hlt
  have d3 : lt ≠ rw_ := fun e => by rw [e, upd_same] at hlt; cases hlt
  have ex := (x0.trans x1).trans x2
  have S0 : SchAt H (upd (upd (upd H oc (.lst [])) rw_ (.lst [])) lt (.lst [])) oc rw_ lt [] [] false 1 := ⟨hoc, by rw [upd_ne (Ne.symm d1)] at hrw; exact hrw, d1, d2, d3, (x1.trans x2) _ _ upd_same, x2 _ _ upd_same, .inl ⟨rfl, upd_same⟩, (fun x hx => nomatch hx), rfl, ex⟩
  refine st_seq (st_forLr (K := K) (l := cs) (val_var rfl) (ex _ _ hp) (fun i σ H' => ∃ oc rw_ lt F rs b v4 v5 v6, σ = [some (.ref p), some (.ref oc), some (.ref rw_), some (.ref lt), v4, v5, v6] ∧ SchAt H H' oc rw_ lt F rs b (i + 1) ∧ F ++ Sx.sched b (ks.drop i) = Sx.sched false ks)
    ⟨oc, rw_, lt, [], [], false, _, _, _, rfl, S0, rfl⟩ (fun i σ H' ⟨_, _, _, _, _, _, _, _, _, _, S, _⟩ => S.ex _ _ hp) ?_ ?_)
  · clear S0 d1 d2 d3 x0 x1 x2 ex hoc hrw hlt
    rintro i c σ H' hc ⟨oc, rw_, lt, F, rs, b, v4, v5, v6, rfl, S, hF⟩
    obtain ⟨tk, htk, hT⟩ := pd_get hpd hc
    have hi : i < cs.length := (List.getElem?_eq_some_iff.mp hc).1
    have hmem := tkLen_mem (List.mem_of_getElem? htk)
    obtain ⟨r, ev, t1, t2, t3, t4, t5⟩ := hT
    have hlt : i < ks.length := by omega
    have hdrop : ks.drop i = tk :: ks.drop (i + 1) := by
      rw [List.drop_eq_getElem_cons hlt]
      congr 1
      rw [List.getElem?_eq_getElem hlt] at htk
      exact Option.some.inj htk
    rw [hdrop, Sx.sched] at hF
    have hFl : F.length ≤ 5000000 := by
      have h1 := congrArg List.length hF
      have h2 := Sx.sched_len false ks
      rw [List.length_append] at h1
      omega
    have nroc : ∀ {z : Addr} {o : HO}, H z = some o → z ≠ oc ∧ z ≠ rw_ := fun h => ⟨ne_of_none h S.no, ne_of_none h S.nr⟩
    refine st_seq (st_set (val_ixL (K := K) (v := .ref r) (i := 0) (val_var rfl) val_c (SqL.of (S.ex _ _ t1)) rfl) ?_)
    refine nx_go ?_
    refine ⟨fun σ' H2 => ∃ rr, σ' = [some (.ref p), some (.ref oc), some (.ref rw_), some (.ref lt), some (.ref c), some (.ref rr), v6] ∧ H2 rr = some (.lst (iv (Sx.rowOf b tk))) ∧ rr ≠ oc ∧ rr ≠ rw_ ∧ SchAt H H2 oc rw_ lt F rs b (i + 1), ?_, ?_⟩
    · refine s_when (et_and (et_test (ev_lateNe (K := K) (i := 3) rfl S.hl)) fun _ => et_and (et_test (ev_rowNe (K := K) (i := 5) rfl (S.ex _ _ t2))) fun hrow => et_B (ev_spB (g := Sx.inTok) (c := Sx.pk tk.row) (ev_op (ev_var (i := 5) rfl) (ev_c (v := .int 0)) (rv_ixL (K := K) (SqL.of (S.ex _ _ t2)) ?_)))) (fun hb H2 e2 => ?_) fun hb H2 e2 => ?_
      · cases e : tk.row with
        | nil => rw [e] at hrow; exact absurd hrow (by decide)
        | cons z q => exact atI_iv (i := 0) rfl
      · have hb : b = true ∧ tk.row ≠ [] ∧ Sx.inTok (Sx.pk tk.row) = true := by simpa using hb
        have S2 := S.exx e2
        refine ⟨by show 1 ≤ sizeLine; decide, fun z hz' => ⟨_, rfl, z, r, _, _, rfl, rfl, upd_same, Ex.new hz' _ _ (S2.ex _ _ t2), by rw [List.length_map]; show 1 + tk.row.length ≤ sizeLine; omega, fun u hu => ?_⟩⟩
        have ez := Ex.new (o := .lst [V.int 32]) hz'
        have eu := Ex.new (o := .lst ([V.int 32] ++ iv tk.row)) hu
        have S4 := S2.exx (ez.trans eu)
        refine ⟨u, rfl, ?_, ?_, ?_, S4⟩
        · rw [upd_same, Sx.rowOf, if_pos hb]
          rfl
        · intro e
          rw [e, (S2.exx ez).ho] at hu; cases hu
        · intro e
          rw [e, (S2.exx ez).hr] at hu; cases hu
      · refine ⟨r, rfl, ?_, (nroc t2).1, (nroc t2).2, S.exx e2⟩
        rw [Sx.rowOf, if_neg]
        · exact (S.exx e2).ex _ _ t2
        · rintro ⟨h1, h2, h3⟩
          rw [h1, h3] at hb
          simp [h2] at hb
    · rintro σ' H2 ⟨rr, rfl, hrr, nr1, nr2, S2⟩
      have hrl : (Sx.rowOf b tk).length ≤ tk.row.length + 1 := by
        unfold Sx.rowOf
        split
        · exact Nat.le_refl _
        · exact Nat.le_succ _
      refine st_seq (st_forLi (K := K) (l := Sx.rowOf b tk) (val_var rfl) hrr (fun j σ H3 => ∃ lt' rs' b' v6, σ = [some (.ref p), some (.ref oc), some (.ref rw_), some (.ref lt'), some (.ref c), some (.ref rr), v6] ∧ SchAt H H3 oc rw_ lt' (F ++ (Sx.rowOf b tk).take j) rs' b' (i + 1) ∧ b' = (b && decide (j = 0)) ∧ H3 rr = some (.lst (iv (Sx.rowOf b tk))))
        ⟨lt, rs, b, _, rfl, by rw [List.take_zero, List.append_nil]; exact S2, by simp, hrr⟩ (fun j σ H3 ⟨_, _, _, _, _, _, _, h⟩ => h) ?_ ?_)
      · rintro j o σ H3 ho ⟨lt', rs', b', v6', rfl, S3, _, hrr3⟩
        have hj : j < (Sx.rowOf b tk).length := (List.getElem?_eq_some_iff.mp ho).1
        have hz3 : (F ++ (Sx.rowOf b tk).take j).length ≤ 10000001 := by
          rw [List.length_append, List.length_take]
          omega
        have hz4 := S3.len
        refine st_seq (st_append (K := K) (val_var rfl) S3.ho (val_var rfl) (by rw [List.length_map]; omega) ?_)
        refine nx_go ?_
        refine st_seq (st_append (K := K) (val_var rfl) (by rw [upd_ne (Ne.symm S3.d1)]; exact S3.hr) (val_var rfl) (by omega) ?_)
        refine nx_go ?_
        refine ⟨Nat.zero_le _, fun l2 hl2 => ?_⟩
        have S4 := S3.more (by omega) o hl2
        refine ⟨l2, rs' ++ [V.ref lt'], false, _, rfl, ?_, by simp, ?_⟩
        · rw [List.take_succ, ho, ← List.append_assoc]
          exact S4
        · rw [upd_ne (ne_of_none (by rw [upd_ne nr2, upd_ne nr1]; exact hrr3) hl2), upd_ne nr2, upd_ne nr1]
          exact hrr3
      · rintro σ H3 ⟨lt', rs', b', v6', rfl, S3, hb', hrr3⟩
        rw [List.take_length] at S3
        refine nx_go ?_
        have h1 := S3.ex _ _ t1
        have goal_ : ∀ {lt2 : Addr} {rs2 : List V} {b2 : Bool} {H4 : Hp}, SchAt H H4 oc rw_ lt2 (F ++ Sx.rowOf b tk) rs2 b2 (i + 2) → b2 = Sx.lateNext b tk →
            ∃ oc' rw' lt F' rs b v4 v5 v6, [some (V.ref p), some (V.ref oc), some (V.ref rw_), some (V.ref lt2), some (V.ref c), some (V.ref rr), v6'] = [some (.ref p), some (.ref oc'), some (.ref rw'), some (.ref lt), v4, v5, v6] ∧ SchAt H H4 oc' rw' lt F' rs b (i + 1 + 1) ∧ F' ++ Sx.sched b (ks.drop (i + 1)) = Sx.sched false ks := by
          intro lt2 rs2 b2 H4 h he
          refine ⟨oc, rw_, lt2, F ++ Sx.rowOf b tk, rs2, b2, _, _, _, rfl, h, ?_⟩
          rw [he, List.append_assoc]
          exact hF
        have cap : ∀ {lt2 : Addr} {rs2 : List V} {b2 : Bool} {F2 : List Int} {H4 : Hp}, SchAt H H4 oc rw_ lt2 F2 rs2 b2 (i + 1) → SchAt H H4 oc rw_ lt2 F2 rs2 b2 (i + 2) := fun h =>
          ⟨h.no, h.nr, h.d1, h.d2, h.d3, h.ho, h.hr, h.hl, fun x hx => by
            obtain ⟨l, zs, a1, a2, a3, a4⟩ := h.el x hx
            exact ⟨l, zs, a1, a2, by omega, a4⟩, h.len, h.ex⟩
        have v1 : Val (tOp (rIxL K) (tVar 4) (tC (.int 1))) [some (V.ref p), some (V.ref oc), some (V.ref rw_), some (V.ref lt'), some (V.ref c), some (V.ref rr), v6'] H3 ev := val_ixL (i := 1) (val_var rfl) val_c (SqL.of h1) rfl
        have v2 : Val (tOp (rIxL K) (tVar 4) (tC (.int 2))) [some (V.ref p), some (V.ref oc), some (V.ref rw_), some (V.ref lt'), some (V.ref c), some (V.ref rr), v6'] H3 (.bl tk.late) := val_ixL (i := 2) (val_var rfl) val_c (SqL.of h1) rfl
        cases hev : tk.ev with
        | false =>
          obtain ⟨rfl, hl⟩ := t3 hev
          refine st_ifAnd (ans_notN (b := false) v1 rfl) (fun z => Bool.noConfusion z) fun _ => ?_
          refine st_no (ans_notN v1 rfl) (st_next (goal_ (cap S3) ?_))
          rw [hb', Sx.lateNext, hev, Bool.false_and, Bool.false_or]
          congr 1
          unfold Sx.rowOf
          cases tk.row with
          | nil => simp
          | cons z q =>
            split <;> simp
        | true =>
          obtain ⟨hrow, e, rfl⟩ := t4 hev
          have hrne : (Sx.rowOf b tk).length ≠ 0 := by
            unfold Sx.rowOf
            split
            · simp
            · intro z
              exact hrow (List.length_eq_zero_iff.mp z)
          refine st_ifAnd (ans_notN (b := true) v1 rfl) (fun _ => ?_) fun z => Bool.noConfusion z
          refine v2 _ ⟨tk.late, rfl, ?_⟩
          cases hla : tk.late with
          | true =>
            refine iteT ?_
            refine v1 _ ⟨by show 1 ≤ sizeLine; decide, fun l2 hl2 => ?_⟩
            have el := Ex.new (o := .lst [V.ref e]) hl2
            obtain ⟨e', v, o, xs, he, g1, g2, g3⟩ := t5 hla
            cases he
            have S4 := (cap S3).exx el
            refine goal_ (lt2 := l2) (b2 := true) ⟨S4.no, S4.nr, S4.d1, fun z => (by rw [z, S3.ho] at hl2; cases hl2), fun z => (by rw [z, S3.hr] at hl2; cases hl2), S4.ho, S4.hr, .inr ⟨rfl, e, v, o, xs, upd_same, S4.ex _ _ g1, S4.ex _ _ g2, S4.ex _ _ g3⟩, S4.el, S4.len, S4.ex⟩ ?_
            rw [Sx.lateNext, hev, hla]
            rfl
          | false =>
            refine iteF ?_
            refine st_yes (ans_notN v1 rfl) ?_
            have hlen := S3.len
            rw [List.length_append] at hlen
            have hpos : rs'.length - 1 < rs'.length := by omega
            obtain ⟨l, zs, hl1, hl2, hl3, hl4, hl5⟩ := S3.el _ (List.getElem_mem hpos)
            have hat : atI rs' ((rs'.length - 1 : Nat) : Int) = some (.ref l) := atI_nat (by rw [List.getElem?_eq_getElem hpos, hl1])
            have vi : ∀ {H4 : Hp}, H4 rw_ = some (.lst rs') → Val (tOp (rI0 fun i j => V.int (i - j)) (tCB (fun xs H Q => ∃ x n, xs = [x] ∧ LenV K x H n ∧ Q (.int n) H) (tCons (tVar 2) tNil)) (tC (.int 1))) [some (V.ref p), some (V.ref oc), some (V.ref rw_), some (V.ref lt'), some (V.ref c), some (V.ref rr), v6'] H4 (.int ((rs'.length - 1 : Nat) : Int)) :=
              fun h => val_sub (a := (rs'.length : Nat)) (val_lenL (val_var rfl) h rfl) val_c (by omega)
            refine st_asgSubOp ?_
            refine val_ixL (K := K) (val_var rfl) (vi S3.hr) (SqL.of S3.hr) hat _ ?_
            refine v1 _ ⟨by show 1 ≤ sizeLine; decide, fun y hy => ⟨l, y, _, _, rfl, rfl, Ex.new hy _ _ hl2, upd_same, by show zs.length + 1 ≤ sizeLine; omega, fun z hz' => ?_⟩⟩
            have ey := Ex.new (o := .lst [V.ref e]) hy
            have ez := Ex.new (o := .lst (zs ++ [V.ref e])) hz'
            have eyz := ey.trans ez
            have S4 := (cap S3).exx eyz
            have zoc : z ≠ oc := fun q => by rw [q, (S3.exx ey).ho] at hz'; cases hz'
            have zrw : z ≠ rw_ := fun q => by rw [q, (S3.exx ey).hr] at hz'; cases hz'
            refine st_storeE (rs'.set (rs'.length - 1) (.ref z)) (n := rs'.length - 1) (y := .ref z) val_c (val_var rfl) (vi (eyz _ _ S3.hr)) (eyz _ _ S3.hr) (ixN_nat hpos) rfl ?_
            have keepB : ∀ {q : Addr} {o : HO}, upd (upd H3 y (.lst [V.ref e])) z (.lst (zs ++ [V.ref e])) q = some o → q ≠ rw_ → upd (upd (upd H3 y (.lst [V.ref e])) z (.lst (zs ++ [V.ref e]))) rw_ (.lst (rs'.set (rs'.length - 1) (.ref z))) q = some o := fun hq hn => by
              rw [upd_ne hn]
              exact hq
            refine goal_ (lt2 := lt') (b2 := b') ⟨S4.no, S4.nr, S4.d1, S4.d2, S4.d3, keepB S4.ho S4.d1, upd_same, S4.hl.to (upd_ne S4.d3) (fun q xs hq => keepB hq (fun w => by rw [w, S4.hr] at hq; cases hq)), fun x hx => ?_, by rw [List.length_set]; exact S4.len, fun q o hq => keepB (S4.ex _ _ hq) (ne_of_none hq S4.nr)⟩ ?_
            · rcases List.mem_or_eq_of_mem_set hx with hx | rfl
              · obtain ⟨l', zs', a1, a2, a3, a4, a5⟩ := S4.el x hx
                exact ⟨l', zs', a1, keepB a2 a5, a3, a4, a5⟩
              · exact ⟨z, _, rfl, keepB upd_same zrw, by rw [List.length_append]; show zs.length + 1 ≤ i + 2; omega, zoc, zrw⟩
            · rw [hb', Sx.lateNext, hev, hla]
              cases hk : tk.row with
              | nil => exact absurd hk hrow
              | cons a q => simp [hrne]
  · rintro σ H' ⟨oc, rw_, lt, F, rs, b, v4, v5, v6, rfl, S, hF⟩
    rw [hcl, List.drop_length, Sx.sched, List.append_nil] at hF
    subst hF
    refine nx_go ?_
    refine ⟨_, rfl, _, rfl, _, rfl, by show 3 ≤ sizeLine; decide, fun r hr' => ?_⟩
    have er := Ex.new (o := .lst [V.ref oc, V.ref rw_, V.ref lt]) hr'
    exact k r oc rw_ lt _ upd_same (er _ _ S.ho) (fresh_back S.ex hr') (S.ex.trans er)
end
end Hd
end
/-! ## Hd27 -/
section
set_option maxRecDepth 100000
set_option maxHeartbeats 4000000
set_option linter.all false
/-! The law's spoilt. -/
namespace Hd
open PySem PySem.Spec PyProof.Rows L2 Evl
theorem cut_iv (l : List Int) (lo hi : Option Int) : ∃ l2, cutV (iv l) lo hi = iv l2 ∧ l2.length ≤ l.length := by
  unfold cutV
  refine ⟨(l.drop (HT.sIx (iv l).length 0 lo)).take (HT.sIx (iv l).length (iv l).length hi - HT.sIx (iv l).length 0 lo), by rw [← List.map_drop, ← List.map_take], ?_⟩
  rw [List.length_take, List.length_drop]
  omega
/-- an expression that makes a new list of at most n ints -/
def ElN (te : TE) (σ : L2.St) (H : Hp) (n : Nat) : Prop := ∃ l : List Int, EvL te σ H (iv l) ∧ l.length ≤ n
section
variable {K : PySem.W.Frag} {σ : L2.St} {H : Hp} {a : Addr} {te ta tb : TE} {tl th : TO} {l : List Int} {n m : Nat}
theorem eln_sl {lo hi : Option Int} (h : Ev te σ H (.ref a)) (hx : H a = some (.lst (iv l))) (h1 : EvO tl σ H lo) (h2 : EvO th σ H hi) (hn : l.length ≤ n) : ElN (tSl (rSlL K) te tl th) σ H n := by
  obtain ⟨l2, e, hl⟩ := cut_iv l lo hi
  refine ⟨l2, ?_, by omega⟩
  rw [← e]
  exact el_sl h h1 h2 (SqL.of hx)
theorem eln_cat (h1 : ElN ta σ H n) (h2 : ElN tb σ H m) (hz : n + m ≤ 100000) : ElN (tOp rCat ta tb) σ H (n + m) := by
  obtain ⟨l1, e1, b1⟩ := h1
  obtain ⟨l2, e2, b2⟩ := h2
  refine ⟨l1 ++ l2, ?_, by rw [List.length_append]; omega⟩
  rw [iv_append]
  exact el_cat e1 e2 (by rw [List.length_map, List.length_map]; have : sizeLine = 16777216 := sizeLine_eq; omega)
theorem eln_cat1 (h1 : Ev ta σ H (.ref a)) (hx : H a = some (.lst (iv l))) (hn : l.length ≤ n) (h2 : ElN tb σ H m) (hz : n + m ≤ 100000) : ElN (tOp rCat ta tb) σ H (n + m) := by
  obtain ⟨l2, e2, b2⟩ := h2
  refine ⟨l ++ l2, ?_, by rw [List.length_append]; omega⟩
  rw [iv_append]
  exact el_cat1 h1 hx e2 (by rw [List.length_map, List.length_map]; have : sizeLine = 16777216 := sizeLine_eq; omega)
theorem eln_one {c : Int} (h : Ev ta σ H (.int c)) : ElN (tLst (tCons ta tNil)) σ H 1 := ⟨[c], el_lst (vs := iv [c]) (ea_cons h ea_nil) (by show 1 ≤ 100000; decide), Nat.le_refl _⟩
end
section
variable {P : Program} {w : World} {K : PySem.W.Frag} {mg : Str → Option Value} {base : Heap} {f : Addr} {fd : FuncData}
def spSpo : Sp := fun vs H Q _ => ∃ (st nl a od : Addr) (left : Int) (l odd : List Int), vs = [.ref st, .ref a, .ref od] ∧ StAt H st nl left ∧ H a = some (.lst (iv l)) ∧ H od = some (.lst (iv odd)) ∧ 0 < odd.length ∧
  ∀ l' p H', l'.length ≤ l.length + 4000 → Kb st H H' → StAt H' st nl left → H' p = some (.lst (iv l')) → Q (.ref p) H'
abbrev N51 : List Str := ["_law_state_here", "_law_octets_here", "_law_odd", "_law_k", "_law_at", "_law_octet", "_law_pick"]
theorem sc51 : FnScope N51 ["_law_state_here", "_law_octets_here", "_law_odd"] (defScope (top 51)) := ⟨rfl, rfl, rfl, by decide +kernel, rfl, by decide +kernel, by decide +kernel⟩
theorem ok_spoilt (B : Blt mg) (Cn : CNx P w K mg base) (F : Fun K "_law_spoilt" "_law_spoilt" (top 51) f fd) : FnOk P w K mg base CX0 2 f fd ["_law_state_here", "_law_octets_here", "_law_odd"] spSpo := by
  refine F.ok sc51 (fun vs H Q E h => ?_) (fun cdv A outer s H vs Q E hr h => ?_)
  · obtain ⟨st, nl, a, od, left, l, odd, rfl, _⟩ := h
    rfl
  obtain ⟨st, nl, a, od, left, l, odd, rfl, hst, ha, hod, hodl, k⟩ := h
  refine ⟨_, pss_cons (ps_for PassesOwn.never rfl (pi_range1 (by rfl) B.range (pa_cons (pe_calJ Cn hr (by decide) (by rfl) pass0 (pa_cons (pv 0) (pa_cons pe_int pa_nil))) pa_nil)) (pg_name (i := 3) sc51.nd rfl (.inl rfl))
      (pss_cons (ps_set (i := 1) sc51.nd rfl (.inl rfl) (pe_slice sl_list (pv 1) po_none (po_some pe_int)))
      (pss_cons (ps_set (i := 4) sc51.nd rfl (.inl rfl) (pe_calJ Cn hr (by decide) (by rfl) pass0 (pa_cons (pv 0) (pa_cons (pe_op op_add (pe_callB call_len (by rfl) B.len (by decide +kernel) (pa_cons (pv 1) pa_nil)) pe_int) pa_nil))))
      (pss_cons (ps_set (i := 5) sc51.nd rfl (.inl rfl) (pe_ix ix_list (pv 2) (pe_calJ Cn hr (by decide) (by rfl) pass0 (pa_cons (pv 0) (pa_cons (pe_callB call_len (by rfl) B.len (by decide +kernel) (pa_cons (pv 2) pa_nil)) pa_nil))) (fun _ _ => rfl)))
      (pss_cut (ps_if (pt_cmpR op_eq (pe_calJ Cn hr (by decide) (by rfl) pass0 (pa_cons (pv 0) (pa_cons pe_int pa_nil))) pe_int (nomark _)) (pss_one (ps_set (i := 5) sc51.nd rfl (.inl rfl) (pe_calJ Cn hr (by decide) (by rfl) pass0 (pa_cons (pv 0) (pa_cons pe_int pa_nil))))) pss_nil)
      (pss_cons (ps_set (i := 6) sc51.nd rfl (.inl rfl) (pe_calJ Cn hr (by decide) (by rfl) pass0 (pa_cons (pv 0) (pa_cons pe_int pa_nil))))
      (pss_one (ps_if (pt_cmpR op_eq (pv 6) pe_int (nomark _)) (pss_one (ps_set (i := 1) sc51.nd rfl (.inl rfl) (pe_slice sl_list (pv 1) po_none (po_some (pv 4)))))
        (pss_one (ps_if (pt_cmpR op_eq (pv 6) pe_int (nomark _)) (pss_one (ps_set (i := 1) sc51.nd rfl (.inl rfl) (pe_op op_cat (pe_slice sl_list (pv 1) po_none (po_some (pv 4))) (pe_slice sl_list (pv 1) (po_some (pe_op op_add (pv 4) pe_int)) po_none))))
        (pss_one (ps_if (pt_cmpR op_eq (pv 6) pe_int (nomark _)) (pss_one (ps_set (i := 1) sc51.nd rfl (.inl rfl) (pe_op op_cat (pe_op op_cat (pe_slice sl_list (pv 1) po_none (po_some (pv 4))) (pe_lst (pa_cons (pv 5) pa_nil))) (pe_slice sl_list (pv 1) (po_some (pv 4)) po_none))))
        (pss_one (ps_if (pt_cmpR op_eq (pv 6) pe_int (nomark _)) (pss_one (ps_set (i := 1) sc51.nd rfl (.inl rfl) (pe_op op_cat (pe_op op_cat (pe_slice sl_list (pv 1) po_none (po_some (pv 4))) (pe_lst (pa_cons (pv 5) pa_nil))) (pe_slice sl_list (pv 1) (po_some (pe_op op_add (pv 4) pe_int)) po_none))))
        (pss_one (ps_if (pt_cmpR op_eq (pv 6) pe_int (nomark _)) (pss_one (ps_set (i := 1) sc51.nd rfl (.inl rfl) (pe_op op_cat (pv 1) (pe_lst (pa_cons (pv 5) pa_nil)))))
        (pss_one (ps_set (i := 1) sc51.nd rfl (.inl rfl) (pe_op op_cat (pe_op op_cat (pe_slice sl_list (pv 1) po_none (po_some (pv 4))) (pe_slice sl_list (pv 1) (po_some (pv 4)) (po_some (pe_op op_add (pv 4) pe_int)))) (pe_slice sl_list (pv 1) (po_some (pv 4)) po_none))))))))))))))))))))
    (pss_one (ps_ret (pv 1))), ?_⟩
  have hast := hst.neI ha
  have hodst := hst.neI hod
  refine st_seq ?_
  refine next_draw (i := 0) rfl val_c (by decide) hst fun n H1 n0 n1 hk1 hs1 => ⟨n, rfl, by omega, by omega, ?_⟩
  refine for_range (lo := 0) (n := n.toNat) (fun i σ H' => ∃ cur l' v3 v4 v5 v6, σ = [some (.ref st), some (.ref cur), some (.ref od), v3, v4, v5, v6] ∧ H' cur = some (.lst (iv l')) ∧ l'.length ≤ l.length + 4000 ∧ Kb st H H' ∧ StAt H' st nl left)
    ⟨a, l, _, _, _, _, rfl, hk1 _ _ hast ha, by omega, hk1, hs1⟩ ?_ ?_
  · rintro i σ H' hi ⟨cur, l', v3, v4, v5, v6, rfl, hcur, hl', hk, hs⟩
    have hcut := el_slNone (K := K) (te := tVar 1) (th := tC (.int 900)) (σ := [some (V.ref st), some (V.ref cur), some (V.ref od), some (V.int (0 + (i : Int))), v4, v5, v6]) (k := 900) (ev_var rfl) hcur ev_c
    refine q_asgL hcut fun c1 H2 n2 e2 h2 => ?_
    have hl2 : (l'.take 900).length ≤ 900 := by rw [List.length_take]; omega
    generalize l'.take 900 = l2 at h2 hl2 hcut
    have s2 := hs.exx e2
    have k2 := hk.trans (Ex.kb e2)
    refine st_seq (st_nextSet (i := 0) (m := (l2.length : Int) + 1) rfl (val_add (a := (l2.length : Nat)) (val_lenL (K := K) (val_var rfl) h2 (List.length_map _).symm) val_c rfl) (by omega) s2 fun at_ H3 a0 a1 hk3 s3 => ?_)
    refine nx_go ?_
    have h3 := hk3 c1 _ (s2.neI h2) h2
    have k3 := k2.trans hk3
    have o3 := k3 od _ hodst hod
    refine st_seq ⟨_, rfl, ?_⟩
    refine next_draw (σ := [some (V.ref st), some (V.ref c1), some (V.ref od), some (V.int (0 + (i : Int))), some (V.int at_), v5, v6]) (i := 0) (m := (odd.length : Nat)) rfl (val_lenL (K := K) (val_var rfl) o3 (List.length_map _).symm) (by omega) s3 fun r H4 r0 r1 hk4 s4 => ?_
    have k4 := k3.trans hk4
    have o4 := k4 od _ hodst hod
    have h4 := hk4 c1 _ (s3.neI h3) h3
    have hri : r.toNat < odd.length := by omega
    have hrc : ((r.toNat : Nat) : Int) = r := by omega
    have hat := atI_iv (List.getElem?_eq_getElem hri)
    rw [hrc] at hat
    refine ⟨od, _, r, _, rfl, rfl, SqL.of o4, hat, ?_⟩
    refine nx_go ?_
    refine ⟨fun σ' H5 => ∃ o, σ' = [some (V.ref st), some (V.ref c1), some (V.ref od), some (V.int (0 + (i : Int))), some (V.int at_), some (V.int o), v6] ∧ H5 c1 = some (.lst (iv l2)) ∧ Kb st H H5 ∧ StAt H5 st nl left, ?_, ?_⟩
    · refine next_eq (i := 0) rfl val_c (by decide) s4 fun r2 H5 r2a r2b hk5 s5 => ite_dec (fun _ => ?_) fun _ => st_next ⟨_, rfl, hk5 c1 _ (s4.neI h4) h4, k4.trans hk5, s5⟩
      have h5 := hk5 c1 _ (s4.neI h4) h4
      exact st_nextSet (i := 0) rfl val_c (by decide) s5 fun o H6 _ _ hk6 s6 => ⟨o, rfl, hk6 c1 _ (s5.neI h5) h5, (k4.trans hk5).trans hk6, s6⟩
    · rintro σ' H5 ⟨o, rfl, h5, k5, s5⟩
      refine st_seq (st_nextSet (i := 0) rfl val_c (by decide) s5 fun pick H6 _ _ hk6 s6 => ?_)
      refine nx_go ?_
      have h6 := hk6 c1 _ (s5.neI h5) h5
      have k6 := k5.trans hk6
      have fin : ∀ {te : TE} {D : Ends}, D.nx = (fun σ H' => ∃ cur l' v3 v4 v5 v6, σ = [some (V.ref st), some (.ref cur), some (.ref od), v3, v4, v5, v6] ∧ H' cur = some (.lst (iv l')) ∧ l'.length ≤ l.length + 4000 ∧ Kb st H H' ∧ StAt H' st nl left) →
          ElN te [some (V.ref st), some (V.ref c1), some (V.ref od), some (V.int (0 + (i : Int))), some (V.int at_), some (V.int o), some (V.int pick)] H6 4000 → tAsg te (gName 1) D [some (V.ref st), some (V.ref c1), some (V.ref od), some (V.int (0 + (i : Int))), some (V.int at_), some (V.int o), some (V.int pick)] H6 := by
        intro te D hD ⟨l3, hel, hl3⟩
        refine s_asgL hel fun z Hz nz ez hz => ?_
        rw [hD]
        exact ⟨z, l3, _, _, _, _, rfl, hz, by omega, k6.trans (Ex.kb ez), s6.exx ez⟩
      have vc : Ev (tVar 1) [some (V.ref st), some (V.ref c1), some (V.ref od), some (V.int (0 + (i : Int))), some (V.int at_), some (V.int o), some (V.int pick)] H6 (.ref c1) := ev_var rfl
      have va : Ev (tVar 4) [some (V.ref st), some (V.ref c1), some (V.ref od), some (V.int (0 + (i : Int))), some (V.int at_), some (V.int o), some (V.int pick)] H6 (.int at_) := ev_var rfl
      have vo : Ev (tVar 5) [some (V.ref st), some (V.ref c1), some (V.ref od), some (V.int (0 + (i : Int))), some (V.int at_), some (V.int o), some (V.int pick)] H6 (.int o) := ev_var rfl
      have up : ∀ {te : TE} {m : Nat}, ElN te [some (V.ref st), some (V.ref c1), some (V.ref od), some (V.int (0 + (i : Int))), some (V.int at_), some (V.int o), some (V.int pick)] H6 m → m ≤ 4000 → ElN te [some (V.ref st), some (V.ref c1), some (V.ref od), some (V.int (0 + (i : Int))), some (V.int at_), some (V.int o), some (V.int pick)] H6 4000 := fun ⟨l3, h, b⟩ hm => ⟨l3, h, by omega⟩
      refine st_if (ans_test (val_eqI (c := pick) (n := 0) (val_var rfl) val_c)) (fun _ => ?_) fun _ => ?_
      · exact fin rfl (up (eln_sl (K := K) (n := 900) vc h6 eo_none (eo_some va) hl2) (by decide))
      refine st_if (ans_test (val_eqI (c := pick) (n := 1) (val_var rfl) val_c)) (fun _ => ?_) fun _ => ?_
      · exact fin rfl (up (eln_cat (eln_sl (K := K) (n := 900) vc h6 eo_none (eo_some va) hl2) (eln_sl (K := K) (n := 900) vc h6 (eo_some (ev_add va (ev_c (v := .int 1)) rfl)) eo_none hl2) (by decide)) (by decide))
      refine st_if (ans_test (val_eqI (c := pick) (n := 2) (val_var rfl) val_c)) (fun _ => ?_) fun _ => ?_
      · exact fin rfl (up (eln_cat (eln_cat (eln_sl (K := K) (n := 900) vc h6 eo_none (eo_some va) hl2) (eln_one vo) (by decide)) (eln_sl (K := K) (n := 900) vc h6 (eo_some va) eo_none hl2) (by decide)) (by decide))
      refine st_if (ans_test (val_eqI (c := pick) (n := 3) (val_var rfl) val_c)) (fun _ => ?_) fun _ => ?_
      · exact fin rfl (up (eln_cat (eln_cat (eln_sl (K := K) (n := 900) vc h6 eo_none (eo_some va) hl2) (eln_one vo) (by decide)) (eln_sl (K := K) (n := 900) vc h6 (eo_some (ev_add va (ev_c (v := .int 1)) rfl)) eo_none hl2) (by decide)) (by decide))
      refine st_if (ans_test (val_eqI (c := pick) (n := 4) (val_var rfl) val_c)) (fun _ => ?_) fun _ => ?_
      · exact fin rfl (up (eln_cat1 vc h6 hl2 (eln_one vo) (by decide)) (by decide))
      · exact fin rfl (up (eln_cat (eln_cat (eln_sl (K := K) (n := 900) vc h6 eo_none (eo_some va) hl2) (eln_sl (K := K) (n := 900) vc h6 (eo_some va) (eo_some (ev_add va (ev_c (v := .int 3)) rfl)) hl2) (by decide)) (eln_sl (K := K) (n := 900) vc h6 (eo_some va) eo_none hl2) (by decide)) (by decide))
  · rintro σ H' ⟨cur, l', v3, v4, v5, v6, rfl, hcur, hl', hk, hs⟩
    exact nx_go (st_ret (val_var rfl) (k l' cur H' hl' hk hs hcur))
end
end Hd
end
/-! ## Hd28 -/
section
set_option maxRecDepth 100000
set_option maxHeartbeats 4000000
set_option linter.all false
/-! The law's read. -/
namespace Hd
open PySem PySem.Spec PyProof.Rows L2 Evl
section
variable {P : Program} {w : World} {K : PySem.W.Frag} {mg : Str → Option Value} {base : Heap} {f CU CA : Addr} {fd : FuncData}
def spRead : Sp := fun vs H Q _ => ∃ a os, vs = [.ref a] ∧ H a = some (.lst (iv os)) ∧ os.length < 10000000 ∧
  (∀ t p H', Sx.readF os = some t → Ex H H' → TreeAt H' t p → Q (.ref p) H') ∧ (Sx.readF os = none → ∀ p H', Ex H H' → H' p = some (.tup [.str "refused"]) → Q (.ref p) H')
theorem sc52 : FnScope ["_law_octets_here"] ["_law_octets_here"] (defScope (top 52)) := ⟨rfl, rfl, rfl, by decide +kernel, rfl, by decide +kernel, by decide +kernel⟩
theorem ok_lread (gA : mg "AlikeError" = some (.ref CA)) (hx : PySem.W.exmOne K (.ref CU) (.ref CA) = some true) (Cr : Cal P w K mg base (L2.CX P w) 35 "read_sexp" ["octets"] (spRS CU)) (F : Fun K "_law_read" "_law_read" (top 52) f fd) :
    FnOk P w K mg base CX0 36 f fd ["_law_octets_here"] spRead := by
  refine F.ok sc52 (fun vs H Q E h => ?_) (fun cdv A outer s H vs Q E hr h => ?_)
  · obtain ⟨a, os, rfl, _⟩ := h
    rfl
  obtain ⟨a, os, rfl, ha, hz, k1, k2⟩ := h
  obtain ⟨fr, fdr, Fr, gr, kr, br⟩ := Cr.ex
  refine ⟨_, pss_one (ps_try_only (tb := fun W => tRet (tCallS (spRS CU) (WE W) (tCons (tVar 0) tNil))) (ts := fun _ _ _ => tRet (tTup (tCons (tC (.str "refused")) tNil))) (Wout := fun _ _ _ _ => False) rfl rfl ⟨rfl, by decide, Or.inl gA⟩ takes0
    (fun W pn xe tk _ => pss_one (ps_ret (pe_callS Fr hr rfl gr kr br (fun σ => passAt tk σ) (by exact (pa_cons (pv 0) pa_nil)))))
    (fun _ _ _ _ _ _ _ => pss_one (ps_ret (pe_tup (pa_cons pe_str pa_nil))))), ?_⟩
  refine ⟨_, rfl, a, os, rfl, ha, hz, k1, fun hf d H' ex => ⟨true, hx, fun _ x hx' => ⟨by show 1 ≤ sizeLine; decide, fun p hp => ?_⟩, fun z => Bool.noConfusion z⟩⟩
  exact k2 hf p _ (ex.trans (Ex.new hp)) upd_same
end
end Hd
end
/-! ## Hd29 -/
section
set_option maxRecDepth 100000
set_option maxHeartbeats 4000000
set_option linter.all false
/-! The law. -/
namespace Hd
open PySem PySem.Spec PyProof.Rows L2 Evl
mutual
def dT : Sx.T → PyData
  | .leaf xs => .tuple [.str "bytes", .tuple (idl xs)]
  | .node ts => .tuple [.str "list", .tuple (dTs ts)]
def dTs : List Sx.T → List PyData
  | [] => []
  | t :: ts => dT t :: dTs ts
end
mutual
theorem dp_tree {K : PySem.W.Frag} {H : Hp} : ∀ (t : Sx.T) (a : Addr), TreeAt H t a → Dp K H (.ref a) (dT t)
  | .leaf xs, a, ⟨b, e1, e2⟩ => by
    rw [dT]
    exact .tup (SqT.of e1) (.cons (.str _) (.cons (.tup (SqT.of e2) (dp_ints xs)) .nil))
  | .node ts, a, ⟨b, cs, e1, e2, e3⟩ => by
    rw [dT]
    exact .tup (SqT.of e1) (.cons (.str _) (.cons (.tup (SqT.of e2) (dp_trees ts cs e3)) .nil))
theorem dp_trees {K : PySem.W.Frag} {H : Hp} : ∀ (ts : List Sx.T) (cs : List Addr), TreesAt H ts cs → DpAll K H (cs.map V.ref) (dTs ts)
  | [], [], _ => by
    rw [dTs]
    exact .nil
  | t :: ts, c :: cs, h => by
    rw [dTs]
    exact .cons (dp_tree t c h.1) (dp_trees ts cs h.2)
  | [], _ :: _, e => e.elim
  | _ :: _, [], e => e.elim
end
mutual
theorem layableT : ∀ t : Sx.T, PyData.canLay0 (dT t) = true
  | .leaf xs => by
    have s2 : PyData.strOk ("bytes" : Str) = true := by decide +kernel
    simp only [dT, PyData.canLay0, PyData.canLayAll0, s2, lay_ints xs, Bool.and_self]
  | .node ts => by
    have s2 : PyData.strOk ("list" : Str) = true := by decide +kernel
    simp only [dT, PyData.canLay0, PyData.canLayAll0, s2, layableTs ts, Bool.and_self]
theorem layableTs : ∀ ts : List Sx.T, PyData.canLayAll0 (dTs ts) = true
  | [] => by simp [dTs, PyData.canLayAll0]
  | t :: ts => by simp only [dTs, PyData.canLayAll0, layableT t, layableTs ts, Bool.and_self]
end
theorem depth_tree : ∀ (d : Nat) (t : Sx.T), Sx.Dep d t → PyData.depth (dT t) ≤ 2 * d + 3 := by
  intro d
  have leaf : ∀ (d : Nat) (xs : List Int), PyData.depth (dT (.leaf xs)) ≤ 2 * d + 3 := by
    intro d xs
    have h := depth_ints xs
    simp only [dT, PyData.depth, PyData.depthAll]
    omega
  induction d with
  | zero =>
    intro t h
    cases t with
    | leaf xs => exact leaf 0 xs
    | node ts => exact h.elim
  | succ d ih =>
    intro t h
    cases t with
    | leaf xs => exact leaf (d + 1) xs
    | node ts =>
      have key : ∀ ts : List Sx.T, (∀ t ∈ ts, Sx.Dep d t) → PyData.depthAll (dTs ts) ≤ 2 * d + 3 := by
        intro ts
        induction ts with
        | nil => intro _; simp [dTs, PyData.depthAll]
        | cons t ts iht =>
          intro h
          have h1 := ih t (h t List.mem_cons_self)
          have h2 := iht fun u hu => h u (List.mem_cons_of_mem _ hu)
          simp only [dTs, PyData.depthAll]
          omega
      have h1 := key ts h
      simp only [dT, PyData.depth, PyData.depthAll]
      omega
theorem shaped_tree {t : Sx.T} (h : Sx.Dep 24 t) : SeqAt.shaped (dT t) = true := by
  have h1 := depth_tree 24 t h
  show (PyData.canLay0 (dT t) && decide (PyData.depth (dT t) ≤ 64)) = true
  rw [Bool.and_eq_true]
  exact ⟨layableT t, decide_eq_true (by omega)⟩
theorem eqv_refused (t : Sx.T) : PyData.eqv (dT t) (.tuple [.str "refused"]) = false := by
  cases t <;> simp only [dT, PyData.eqv, PyData.eqvAll, Bool.and_false]
theorem shaped_refused : SeqAt.shaped (.tuple [.str "refused"]) = true := by decide +kernel
theorem eqv_refused2 : PyData.eqv (.tuple [.str "refused"]) (.tuple [.str "refused"]) = true := by decide +kernel
section
variable {P : Program} {w : World} {K : PySem.W.Frag} {mg : Str → Option Value} {base : Heap} {f : Addr} {fd : FuncData}
theorem Cal.x {CX : CXT} {k : Nat} {x : Str} {ps : List Str} {sp : Sp} (c : Cal P w K mg base CX k x ps sp) : CalX P w K mg base CX k x ps sp := by
  obtain ⟨f, fd, F, a, b, c⟩ := c.ex
  exact ⟨f, fd, .of F, a, b, c⟩
def spLaw (K : PySem.W.Frag) : Sp := fun vs H Q _ => ∃ (a : Addr) (ns : List Int), vs = [.ref a] ∧ SqL K H a (iv ns) ∧ ∀ H', Q (.bl true) H'
abbrev N53 : List Str := ["_law_script", "_law_state_here", "_law_value_here", "_law_written", "_law_free", "_law_spoilt_here", "_law_other", "_law_again"]
theorem sc53 : FnScope N53 ["_law_script"] (defScope (top 53)) := ⟨rfl, rfl, rfl, by decide +kernel, rfl, by decide +kernel, by decide +kernel⟩
theorem ok_law (B : Blt mg) (Cc : CA P w K mg base 1 "_law_cell" ["_law_script", "_law_k"] (spCell K)) (Cst : CA P w K mg base 2 "_law_state" ["_law_script", "_law_left"] (spState K)) (Cv : CA P w K mg base 9 "_law_value" ["_law_state_here", "_law_deep"] (spV 5))
    (Ct : CA P w K mg base 2 "_law_towered" ["_law_state_here", "_law_value_here"] spTow) (Cw : CalX P w K mg base CX0 30 "write_sexp" ["value"] spWS) (Cr : CA P w K mg base 36 "_law_read" ["_law_octets_here"] spRead)
    (Cs : CA P w K mg base 52 "_law_same" ["_law_told", "_law_due"] (spSm 51)) (Csch : CA P w K mg base 4 "_law_schedule" ["_law_tokens_here"] spSch) (Ctk : CA P w K mg base 31 "_law_tokens" ["_law_state_here", "_law_value_here"] (spTok 25))
    (Csp : CA P w K mg base 2 "_law_spoilt" ["_law_state_here", "_law_octets_here", "_law_odd"] spSpo) (F : L2.Fun K "law" "law" (top 53) f fd) : Rx.FnX P w K mg base CX0 60 f fd ["_law_script"] (spLaw K) := by
  refine Rx.fnx_of F sc53 (fun vs H Q E h => ?_) (fun cdv A outer s H vs Q E hr h => ?_)
  · obtain ⟨a, ns, rfl, _⟩ := h
    rfl
  obtain ⟨a, ns, rfl, hS, k⟩ := h
  refine ⟨_, Rx.pssx_cons (Rx.psx_of (ps_set (i := 1) sc53.nd rfl (.inl rfl) (pe_calJ Cst hr (by decide) (by rfl) pass0 (pa_cons (pv 0) (pa_cons (pe_op op_add pe_int (pe_op op_mod (pe_callTy call_int1 (by rfl) B.int (by decide +kernel) (pa_cons (pe_callB call_abs (by rfl) B.abs (by decide +kernel) (pa_cons (pe_calJ Cc hr (by decide) (by rfl) pass0 (pa_cons (pv 0) (pa_cons pe_int pa_nil))) pa_nil)) pa_nil)) pe_int)) pa_nil)))))
    (Rx.pssx_cons (Rx.psx_of (ps_set (i := 2) sc53.nd rfl (.inl rfl) (pe_calJ Ct hr (by decide) (by rfl) pass0 (pa_cons (pv 1) (pa_cons (pe_calJ Cv hr (by decide) (by rfl) pass0 (pa_cons (pv 1) (pa_cons pe_int pa_nil))) pa_nil)))))
    (Rx.pssx_cons (Rx.psx_set (i := 3) sc53.nd rfl (.inl rfl) (pex_cal Cw hr (by decide) (by rfl) pass0 (Rx.pax_of (pa_cons (pv 2) pa_nil))))
    (Rx.pssx_cons (Rx.psx_of (ps_if (pt_not (pt_val (pe_calJ Cs hr (by decide) (by rfl) pass0 (pa_cons (pe_calJ Cr hr (by decide) (by rfl) pass0 (pa_cons (pe_callTy call_list_of (by rfl) B.list (by decide +kernel) (pa_cons (pv 3) pa_nil)) pa_nil)) (pa_cons (pv 2) pa_nil))))) (pss_one (ps_ret pe_bl)) pss_nil))
    (Rx.pssx_cons (Rx.psx_of (ps_set (i := 4) sc53.nd rfl (.inl rfl) (pe_calJ Cr hr (by decide) (by rfl) pass0 (pa_cons (pe_ix ix_list (pe_calJ Csch hr (by decide) (by rfl) pass0 (pa_cons (pe_calJ Ctk hr (by decide) (by rfl) pass0 (pa_cons (pv 1) (pa_cons (pv 2) pa_nil))) pa_nil)) pe_int (fun _ _ => rfl)) pa_nil))))
    (Rx.pssx_cons (Rx.psx_if (Rx.ptx_or (Rx.ptx_of (pt_not (pt_val (pe_calJ Cs hr (by decide) (by rfl) pass0 (pa_cons (pv 4) (pa_cons (pv 2) pa_nil)))))) (Rx.ptx_not (Rx.ptx_val (pex_cal Cs.x hr (by decide) (by rfl) pass0 (Rx.pax_cons (pex_cal Cw hr (by decide) (by rfl) pass0 (Rx.pax_of (pa_cons (pv 4) pa_nil))) (Rx.pax_of (pa_cons (pv 3) pa_nil)))))))
      (Rx.pssx_of (pss_one (ps_ret pe_bl))) (Rx.pssx_of pss_nil))
    (Rx.pssx_cons (Rx.psx_of (ps_set (i := 5) sc53.nd rfl (.inl rfl) (pe_calJ Csp hr (by decide) (by rfl) pass0 (pa_cons (pv 1) (pa_cons (pe_callTy call_list_of (by rfl) B.list (by decide +kernel) (pa_cons (pv 3) pa_nil)) (pa_cons (pe_lst (pa_cons pe_int (pa_cons pe_int (pa_cons pe_int (pa_cons pe_int (pa_cons pe_int (pa_cons pe_int (pa_cons pe_int (pa_cons pe_int (pa_cons pe_int (pa_cons pe_int (pa_cons pe_int (pa_cons pe_int (pa_cons pe_int (pa_cons pe_int (pa_cons pe_int (pa_cons pe_int (pa_cons pe_int (pa_cons pe_int (pa_cons pe_int (pa_cons pe_int pa_nil))))))))))))))))))))) pa_nil))))))
    (Rx.pssx_cons (Rx.psx_of (ps_set (i := 6) sc53.nd rfl (.inl rfl) (pe_calJ Cr hr (by decide) (by rfl) pass0 (pa_cons (pe_callTy call_list_of (by rfl) B.list (by decide +kernel) (pa_cons (pv 5) pa_nil)) pa_nil))))
    (Rx.pssx_cons (Rx.psx_of (ps_if (pt_cmpR (op_eqD hr.units) (pv 6) (pe_tup (pa_cons pe_str pa_nil)) (nomark _)) (pss_one (ps_ret (pe_cmpR (op_neD hr.units) (pv 5) (pv 3) (nomark _)))) pss_nil))
    (Rx.pssx_cons (Rx.psx_set (i := 7) sc53.nd rfl (.inl rfl) (pex_cal Cw hr (by decide) (by rfl) pass0 (Rx.pax_of (pa_cons (pv 6) pa_nil))))
    (Rx.pssx_one (Rx.psx_of (ps_ret (pe_and (pe_calJ Cs hr (by decide) (by rfl) pass0 (pa_cons (pe_calJ Cr hr (by decide) (by rfl) pass0 (pa_cons (pe_callTy call_list_of (by rfl) B.list (by decide +kernel) (pa_cons (pv 7) pa_nil)) pa_nil)) (pa_cons (pv 6) pa_nil)))
      (pe_one (pe_cmpR op_eq (pe_cmpR (op_eqD hr.units) (pv 7) (pv 3) (nomark _)) (pe_calJ Cs hr (by decide) (by rfl) pass0 (pa_cons (pv 6) (pa_cons (pv 2) pa_nil))) (nomark _)))))))))))))))), ?_⟩
  have hs0 : sizeLine = 16777216 := sizeLine_eq
  have vcell : Val (tCall (spCell K) [] E0 (tCons (tVar 0) (tCons (tC (.int 0)) tNil))) (start N53 [V.ref a]) H (.int (ns.getD 0 0)) := fun Q q => ⟨_, rfl, a, 0, ns, rfl, hS, q⟩
  generalize ns.getD 0 0 = c at vcell
  refine st_seq ⟨_, rfl, ?_⟩
  refine val_add (a := 8) val_c (val_mod (val_int (val_abs vcell)) (val_c (v := .int 30)) (by decide) rfl) rfl _ ?_
  have hleft : 8 + (if c < 0 then -c else c) % 30 < 38 := by omega
  generalize 8 + (if c < 0 then -c else c) % 30 = left at hleft
  refine ⟨a, left, ns, rfl, hS, fun st nl H1 nst e1 hst => ?_⟩
  refine nx_go ?_
  refine st_seq ⟨_, rfl, _, rfl, st, nl, left, 4, by decide, rfl, hst, fun t0 p0 left' H2 ht0 hd0 ho0 hle hw0 hk2 hst2 => ⟨st, nl, p0, left', t0, rfl, hst2, ht0, hd0, ho0, fun t p H3 ht hd ho hw hk3 hst3 => ?_⟩⟩
  have hwt : Sx.wt t < 400000 := by omega
  have hwl := Sx.wr_len t (by omega)
  refine nx_go ?_
  refine st_seq ⟨_, rfl, p, t, rfl, ht, hd, by omega, fun wp H4 e4 nwp hwp => ?_⟩
  refine nx_go ?_
  have ht4 := ht.ex (Hd.Ex.tup e4)
  have hst4 := hst3.exx e4
  refine st_seq ⟨_, rfl, wp, _, rfl, .inl (SqL.of hwp), fun l hl => ⟨l, Sx.wr t, rfl, upd_same, by omega, fun t' p' H5 hf e5 ht' => ?_, fun hf => ?_⟩⟩
  rotate_left
  · rw [Sx.read_wr hd] at hf
    cases hf
  rw [Sx.read_wr hd] at hf
  cases hf
  have e45 : Ex H4 H5 := (Ex.new hl).trans e5
  have ht5 := ht4.ex (Hd.Ex.tup e45)
  obtain ⟨b1, sm1, i1⟩ := sm_tree 24 t t p' p ht' ht5 hd (by omega)
  obtain rfl : b1 = true := i1.mpr rfl
  refine ⟨_, rfl, _, _, true, rfl, sm1, true, rfl, iteF (st_next ?_)⟩
  refine nx_go ?_
  have hst5 := hst4.exx e45
  have hwp5 := e45 _ _ hwp
  refine st_seq ⟨_, rfl, _, rfl, st, nl, p, left', t, 24, by decide, rfl, hst5, ht5, hd, ho, by omega, fun ks cs tp H6 hR hl1 hl2 htp hne hpd ntp hk6 hst6 => ⟨tp, cs, ks, rfl, htp, hpd, by omega, by omega, fun r o rw_ lt H7 hr7 ho7 nr e7 => ⟨r, _, 0, .ref o, rfl, rfl, SqL.of hr7, rfl, ?_⟩⟩⟩
  have hsl := Sx.sched_len false ks
  refine ⟨o, Sx.sched false ks, rfl, ho7, by omega, fun t2 p2 H8 hf e8 ht2 => ?_, fun hf => ?_⟩
  rotate_left
  · rw [Sx.read_free hd hR] at hf
    cases hf
  rw [Sx.read_free hd hR] at hf
  cases hf
  refine nx_go ?_
  have e68 := e7.trans e8
  have ht8 := (ht5.ex (hst5.tup hk6)).ex (Hd.Ex.tup e68)
  have hwp8 := e68 _ _ (hk6 _ _ (hst5.neI hwp5) hwp5)
  have hst8 := hst6.exx e68
  refine st_seq ?_
  obtain ⟨b2, sm2, i2⟩ := sm_tree 24 t t p2 p ht2 ht8 hd (by omega)
  obtain rfl : b2 = true := i2.mpr rfl
  refine ⟨_, rfl, _, rfl, _, _, true, rfl, sm2, true, rfl, iteF ?_⟩
  refine ⟨_, rfl, p2, t, rfl, ht2, hd, by omega, fun q H9 e9 nq hq => ?_⟩
  have hwp9 := e9 _ _ hwp8
  refine ⟨_, rfl, _, _, _, rfl, sm_seq (n := 49) (l := Sx.wr t) (m := Sx.wr t) (.inr ⟨hq, hwp9⟩) (by omega), _, rfl, ?_⟩
  rw [decide_eq_true rfl]
  refine iteF (st_next ?_)
  refine nx_go ?_
  have ht9 := ht8.ex (Hd.Ex.tup e9)
  have hst9 := hst8.exx e9
  refine st_seq ⟨_, rfl, _, rfl, wp, _, rfl, .inl (SqL.of hwp9), fun l2 hl2 => ⟨by show 20 ≤ sizeLine; decide, fun od hod => ?_⟩⟩
  have x1 := Ex.new (o := .lst (iv (Sx.wr t))) hl2
  have x2 := Ex.new (o := .lst (iv [40, 41, 32, 10, 34, 92, 35, 124, 61, 58, 48, 49, 50, 97, 65, 120, 110, 45, 44, 127])) hod
  have hsta := hst9.exx (x1.trans x2)
  have hwpa := (x1.trans x2) _ _ hwp9
  refine ⟨st, nl, l2, od, left', Sx.wr t, [40, 41, 32, 10, 34, 92, 35, 124, 61, 58, 48, 49, 50, 97, 65, 120, 110, 45, 44, 127], rfl, hsta, x2 _ _ upd_same, upd_same, by decide, fun sl sp Hs hsl hks hsts hsp => ?_⟩
  refine nx_go ?_
  have hwps := hks _ _ (hsta.neI hwpa) hwpa
  have hts := (ht9.ex (Hd.Ex.tup (x1.trans x2))).ex (hsta.tup hks)
  refine st_seq ⟨_, rfl, sp, _, rfl, .inl (SqL.of hsp), fun l3 hl3 => ⟨l3, sl, rfl, upd_same, by omega, fun u pu Hu hf eu hu => ?_, fun hf pu Hu eu hpu => ?_⟩⟩
  · have euu := (Ex.new (o := .lst (iv sl)) hl3).trans eu
    have hdu := Sx.dep_read hf
    have hwu := Sx.wt_read hf
    refine nx_go ?_
    refine st_seq ⟨_, rfl, by show 1 ≤ sizeLine; decide, fun z hz => ?_⟩
    have ez := Ex.new (o := .tup [V.str "refused"]) hz
    have huz := hu.ex (Hd.Ex.tup ez)
    refine ⟨dT u, .tuple [.str "refused"], dp_tree u pu huz, .tup (SqT.of upd_same) (.cons (.str _) .nil), shaped_tree hdu, shaped_refused, _, rfl, ?_⟩
    rw [eqv_refused]
    refine iteF (st_next ?_)
    have euz := euu.trans ez
    refine nx_go ?_
    refine st_seq ⟨_, rfl, pu, u, rfl, huz, hdu, by omega, fun ap Ha ea nap hap => ?_⟩
    have hua := huz.ex (Hd.Ex.tup ea)
    have hwl2 := Sx.wr_len u (by omega)
    refine nx_go ?_
    refine ⟨_, rfl, ap, _, rfl, .inl (SqL.of hap), fun l4 hl4 => ⟨l4, Sx.wr u, rfl, upd_same, by omega, fun u' pu' Hb hf' eb hu' => ?_, fun hf' => ?_⟩⟩
    · rw [Sx.read_wr hdu] at hf'
      cases hf'
      have e4b := (Ex.new (o := .lst (iv (Sx.wr u))) hl4).trans eb
      have hub := hua.ex (Hd.Ex.tup e4b)
      obtain ⟨b4, sm4, i4⟩ := sm_tree 24 u u pu' pu hu' hub hdu (by omega)
      obtain rfl : b4 = true := i4.mpr rfl
      refine ⟨_, rfl, _, _, true, rfl, sm4, true, rfl, iteT ?_⟩
      have hapb := e4b _ _ hap
      have hwpb := e4b _ _ (ea _ _ (euz _ _ hwps))
      have htb := ((hts.ex (Hd.Ex.tup euz)).ex (Hd.Ex.tup ea)).ex (Hd.Ex.tup e4b)
      refine ⟨_, rfl, _, rfl, .list (idl (Sx.wr u)), .list (idl (Sx.wr t)), .lst (SqL.of hapb) (dp_ints _), .lst (SqL.of hwpb) (dp_ints _), shaped_ints _, shaped_ints _, ?_⟩
      rw [eqv_ints]
      obtain ⟨b5, sm5, i5⟩ := sm_tree 24 u t pu p hub htb hdu (by omega)
      refine ⟨_, rfl, _, rfl, _, _, b5, rfl, sm5, rfl, ?_⟩
      have e5 : decide (Sx.wr u = Sx.wr t) = b5 := by
        rw [Bool.eq_iff_iff, decide_eq_true_iff, i5]
        exact ⟨fun h => Sx.wr_inj hdu hd h, fun h => by rw [h]⟩
      rw [e5]
      have e6 : decide (V.bl b5 = V.bl b5) = true := decide_eq_true rfl
      rw [e6]
      exact k _
    · rw [Sx.read_wr hdu] at hf'
      cases hf'
  · have euu := (Ex.new (o := .lst (iv sl)) hl3).trans eu
    refine nx_go ?_
    refine st_seq ⟨_, rfl, by show 1 ≤ sizeLine; decide, fun z hz => ?_⟩
    have ez := Ex.new (o := .tup [V.str "refused"]) hz
    refine ⟨.tuple [.str "refused"], .tuple [.str "refused"], .tup (SqT.of (ez _ _ hpu)) (.cons (.str _) .nil), .tup (SqT.of upd_same) (.cons (.str _) .nil), shaped_refused, shaped_refused, _, rfl, ?_⟩
    rw [eqv_refused2]
    refine iteT ?_
    refine ⟨_, rfl, _, rfl, .list (idl sl), .list (idl (Sx.wr t)), .lst (SqL.of ((euu.trans ez) _ _ hsp)) (dp_ints _), .lst (SqL.of ((euu.trans ez) _ _ hwps)) (dp_ints _), shaped_ints _, shaped_ints _, ?_⟩
    rw [eqv_ints]
    have hne : sl ≠ Sx.wr t := fun e => by
      rw [e, Sx.read_wr hd] at hf
      cases hf
    rw [decide_eq_false hne]
    exact k _
end
end Hd
end
/-! ## Hd31 -/
section
set_option maxRecDepth 100000
set_option maxHeartbeats 4000000
set_option linter.all false
/-! The contracts, put together (printed by gen31.py). -/
namespace Hd
open PySem PySem.Spec PyProof.Rows L2
/-! ### calls -/
abbrev DG (K : PySem.W.Frag) (mg : Str → Option Value) (x : Str) (i : Nat) : Prop := ∃ f fd, L2.Fun K x x (top i) f fd ∧ mg x = some (.ref f)
abbrev DM (K : PySem.W.Frag) (C : Addr) (m q : Str) (i j : Nat) : Prop := ∃ f fd, L2.Fun K m q (inClass (top i) j) f fd ∧ Meth K C m f
section
variable {P : Program} {w : World} {K : PySem.W.Frag} {mg : Str → Option Value} {base h : Heap} {CX : CXT} {k : Nat} {ps : List Str} {sp : Sp}
theorem dg_of (X : K.In h) (G : h.Ns mainGlobals mg) (c : He5.SaysA faL fnL K) {x : Str} {i : Nat} (j l : Nat) (e : fnL[j]? = some (dG x i)) (e2 : faL[l]? = some (.glo x)) : DG K mg x i := by
  obtain ⟨fd, F⟩ := c.def_ j e
  exact ⟨He.ga K x, fd, He5.fun_of F, He.glo_ok X G (c.fact l e2)⟩
theorem dm_of (X : K.In h) (G : h.Ns mainGlobals mg) (c : He5.SaysA faL fnL K) {C m q : Str} {i j : Nat} (a l : Nat) (e : fnL[a]? = some (dM C m q i j)) (e2 : faL[l]? = some (.meth C m)) : DM K (He.ga K C) m q i j := by
  obtain ⟨fd, F⟩ := c.def_ a e
  exact ⟨He.ma K (He.ga K C) m, fd, He5.fun_of F, He.meth_ok (c.fact l e2)⟩
abbrev BindEq (x q : Str) (st : Stmt) (ps : List Str) : Prop := ∀ (kV doc pm : Value) (an : Option Addr) (cdv ct : Value) (us : List Value), us.length = ps.length → bindArgs (PySem.W.fnOf x q (defArgs st) (defBody st) (defScope st) .none kV doc pm an cdv ct) ⟨us, []⟩ = pure (ps.zip us)
theorem cal_of {x : Str} {i : Nat} (D : DG K mg x i) (hb : BindEq x x (top i) ps) (ok : ∀ f fd, L2.Fun K x x (top i) f fd → mg x = some (.ref f) → PySem.W.keepIn K (.ref f) = true → Binds K fd ps [] → FnOk P w K mg base CX k f fd ps sp) : Cal P w K mg base CX k x ps sp := by
  obtain ⟨f, fd, F, g⟩ := D
  exact ⟨f, fd, ok f fd F g F.kp (F.binds hb), g, F.kp, F.binds hb⟩
theorem calX_of {x : Str} {i : Nat} (D : DG K mg x i) (hb : BindEq x x (top i) ps) (ok : ∀ f fd, L2.Fun K x x (top i) f fd → mg x = some (.ref f) → Rx.FnX P w K mg base CX k f fd ps sp) : CalX P w K mg base CX k x ps sp := by
  obtain ⟨f, fd, F, g⟩ := D
  exact ⟨f, fd, ok f fd F g, g, F.kp, F.binds hb⟩
theorem calM_of {C : Addr} {m q : Str} {i j : Nat} (D : DM K C m q i j) (hb : BindEq m q (inClass (top i) j) ps) (ok : ∀ f fd, L2.Fun K m q (inClass (top i) j) f fd → Meth K C m f → Binds K fd ps [] → FnOk P w K mg base CX k f fd ps sp) : CalM P w K mg base CX k C m ps sp := by
  obtain ⟨f, fd, F, M⟩ := D
  exact ⟨f, fd, ok f fd F M (F.binds hb), M, F.binds hb⟩
theorem lacks_of (X : K.In h) (G : h.Ns mainGlobals mg) (c : He5.SaysA faL fnL K) (mod : Mod K mg base) (B : Blt mg) (Cp : Cal P w K mg base CX0 1 "parts" ["value"] spParts) : CalX P w K mg base CX0 29 "sexp_lacks" ["value"] (Rx.spLacks 25) := by
  obtain ⟨fp, fdp, Fp, gp, kp, bp⟩ := Cp.ex
  obtain ⟨fw, fdw, Fw, gw⟩ : DG K mg "walk" 8 := dg_of X G c 2 2 (by rfl) (by rfl)
  have bw := Fw.binds (ps := ["value"]) (fun _ _ _ _ _ _ us hl => match us, hl with | [_], _ => rfl)
  obtain ⟨oc, od, kV, doc, pm, an, cdv, ct, osl, rfl, lk, hcd⟩ := Fw.ex
  obtain ⟨pw, hpw⟩ := walk_body
  obtain ⟨pl, hpl⟩ := lacks_body
  have S : Rx.Ws P w K mg base 1 fw fp fdp "walk" (defScope (top 8)) cdv pw := by
    refine ⟨mod, ⟨"walk", defArgs (top 8), .none, kV, doc, pm, an, ct, oc, od, osl, ?_, ?_⟩, hcd, Fw.kp, kp, gw, gp, Fp, bp, rfl, rfl, rfl, rfl, rfl, rfl, rfl, fun L => ?_⟩
    · rw [← hpw]; exact lk
    · rw [← hpw]; exact bw
    · rfl
  exact calX_of (dg_of X G c 3 3 (by rfl) (by rfl)) (fun _ _ _ _ _ _ us hl => match us, hl with | [_], _ => rfl) fun f fd F g => Rx.lacks_fnx S (N := ["value", "index", "part"]) 25 F ⟨rfl, rfl, rfl, by decide +kernel, rfl, by decide +kernel, by decide +kernel⟩ hpl rfl rfl rfl rfl rfl B.enum (by decide +kernel)
theorem reader_of (X : K.In h) (G : h.Ns mainGlobals mg) (c : He5.SaysA faL fnL K) (q : exB K = true) (B : Blt mg) : Cal P w K mg base (L2.CX P w) 35 "read_sexp" ["octets"] (spRS (He.ga K "Unreadable")) := by
  obtain ⟨q1, q⟩ := He.ba q
  obtain ⟨q2, q3⟩ := He.ba q
  have gS := He.glo_ok X G (c.fact 57 (f := .glo "SIGNS") rfl)
  have gE := He.glo_ok X G (c.fact 58 (f := .glo "ESCAPES") rfl)
  have Co : Consts K mg := constsB_ok q3 gS gE
  have R : RdK K mg (He.ga K "Reading") := ⟨He.cls_ok (c.fact 61 (f := .cls "Reading") rfl), He.glo_ok X G (c.fact 56 (f := .glo "Reading") rfl), He.noat_ok (c.fact 62 (f := .noat "Reading" "octets") rfl), He.noat_ok (c.fact 63 (f := .noat "Reading" "place") rfl)⟩
  have T : B64K K mg (He.ga K "Base64") := ⟨He.cls_ok (c.fact 65 (f := .cls "Base64") rfl), He.glo_ok X G (c.fact 55 (f := .glo "Base64") rfl), He.noat_ok (c.fact 66 (f := .noat "Base64" "octets") rfl), He.noat_ok (c.fact 67 (f := .noat "Base64" "digits") rfl), He.noat_ok (c.fact 68 (f := .noat "Base64" "pads") rfl), He.noat_ok (c.fact 69 (f := .noat "Base64" "bits") rfl), He.noat_ok (c.fact 70 (f := .noat "Base64" "rest") rfl), He.int_ok X G (c.fact 60 (f := .int "PAD" 61) rfl)⟩
  have mU := He.meth_ok (c.fact 72 (f := .meth "Unreadable" "__init__") rfl)
  obtain ⟨fdX, FX⟩ := c.def_ 56 (d := dX) rfl
  have U : UnrK P w K mg base (He.ga K "Unreadable") := by
    obtain ⟨ds, r, b⟩ := FX.binds1 (ps := ["self", "what"]) 2 1 (List.cons_ne_nil _ _) rfl (fun T kV doc pm an cdv ct us its l1 l2 => match us, its, l1, l2 with | [_, _], [_], _, _ => ⟨_, rfl, rfl⟩)
    cases r
    exact ⟨oexB_ok q1, He.glo_ok X G (c.fact 54 (f := .glo "Unreadable") rfl), He.noat_ok (c.fact 73 (f := .noat "Unreadable" "what") rfl), _, fdX, mU.at_, beq_iff_eq.mp mU.fn, ok_xinit FX, b⟩
  have c_sp : C1 P w K mg base 1 "is_space" fun c => .bl (Sx.isSpace c) := cal_of (dg_of X G c 7 7 (by rfl) (by rfl)) (fun _ _ _ _ _ _ us hl => match us, hl with | [_], _ => rfl) fun f fd F g kp b => ok_is_space F
  have c_dg : C1 P w K mg base 1 "is_digit" fun c => .bl (Sx.isDigit c) := cal_of (dg_of X G c 8 8 (by rfl) (by rfl)) (fun _ _ _ _ _ _ us hl => match us, hl with | [_], _ => rfl) fun f fd F g kp b => ok_is_digit F
  have c_bt : C1 P w K mg base 1 "begins_token" fun c => .bl (Sx.begTok c) := cal_of (dg_of X G c 9 9 (by rfl) (by rfl)) (fun _ _ _ _ _ _ us hl => match us, hl with | [_], _ => rfl) fun f fd F g kp b => ok_begins Co F
  obtain ⟨fB, fdB, FB, gB, kB, bB⟩ := c_bt.ex
  obtain ⟨fD, fdD, FD, gD, kD, bD⟩ := c_dg.ex
  have c_it : C1 P w K mg base 2 "in_token" fun c => .bl (Sx.inTok c) := cal_of (dg_of X G c 10 10 (by rfl) (by rfl)) (fun _ _ _ _ _ _ us hl => match us, hl with | [_], _ => rfl) fun f fd F g kp b => ok_in_token FB gB kB bB FD gD kD bD F
  have c_hw : C1 P w K mg base 2 "hex_worth" fun c => .int (Sx.hexW c) := cal_of (dg_of X G c 11 11 (by rfl) (by rfl)) (fun _ _ _ _ _ _ us hl => match us, hl with | [_], _ => rfl) fun f fd F g kp b => ok_hex_worth FD gD kD bD F
  have c_es : C1 P w K mg base 1 "escaped" fun c => .int (Sx.escd c) := cal_of (dg_of X G c 12 12 (by rfl) (by rfl)) (fun _ _ _ _ _ _ us hl => match us, hl with | [_], _ => rfl) fun f fd F g kp b => ok_escaped Co F
  have c_wo : C1 P w K mg base 1 "worth" fun c => .int (Sx.worth c) := cal_of (dg_of X G c 6 6 (by rfl) (by rfl)) (fun _ _ _ _ _ _ us hl => match us, hl with | [_], _ => rfl) fun f fd F g kp b => ok_worth F
  have m_pk : MQ P w K mg base 1 (He.ga K "Reading") "peek" (spPeek (He.ga K "Reading")) := calM_of (dm_of X G c 39 38 (by rfl) (by rfl)) (fun _ _ _ _ _ _ us hl => match us, hl with | [_], _ => rfl) fun f fd F M b => ok_peek B R F
  have m_fl : MR P w K mg base 3 (He.ga K "Reading") "fail" (spR (He.ga K "Reading") (He.ga K "Unreadable") [] fFail RNon) := calM_of (dm_of X G c 40 39 (by rfl) (by rfl)) (fun _ _ _ _ _ _ us hl => match us, hl with | [_], _ => rfl) fun f fd F M b => ok_fail R U F
  have m_nx : MR P w K mg base 4 (He.ga K "Reading") "next" (spR (He.ga K "Reading") (He.ga K "Unreadable") [] fNext RInt) := calM_of (dm_of X G c 41 40 (by rfl) (by rfl)) (fun _ _ _ _ _ _ us hl => match us, hl with | [_], _ => rfl) fun f fd F M b => ok_next B R m_fl F
  have m_sk : MQ P w K mg base 2 (He.ga K "Reading") "skip_spaces" (spSkip (He.ga K "Reading")) := calM_of (dm_of X G c 42 41 (by rfl) (by rfl)) (fun _ _ _ _ _ _ us hl => match us, hl with | [_], _ => rfl) fun f fd F M b => ok_skip R m_pk c_sp F
  have m_tk : MR P w K mg base 5 (He.ga K "Reading") "token" (spR (He.ga K "Reading") (He.ga K "Unreadable") [] fToken RLst) := calM_of (dm_of X G c 46 45 (by rfl) (by rfl)) (fun _ _ _ _ _ _ us hl => match us, hl with | [_], _ => rfl) fun f fd F M b => ok_token R m_pk c_it m_nx F
  have m_hd : MR P w K mg base 5 (He.ga K "Reading") "hex_digit" (spR (He.ga K "Reading") (He.ga K "Unreadable") [] Sx.hexd RInt) := calM_of (dm_of X G c 49 48 (by rfl) (by rfl)) (fun _ _ _ _ _ _ us hl => match us, hl with | [_], _ => rfl) fun f fd F M b => ok_hex_digit R m_pk c_hw m_fl m_nx F
  have m_ds : MR P w K mg base 6 (He.ga K "Reading") "digits" (spR (He.ga K "Reading") (He.ga K "Unreadable") [] fDigits RLst) := calM_of (dm_of X G c 50 49 (by rfl) (by rfl)) (fun _ _ _ _ _ _ us hl => match us, hl with | [_], _ => rfl) fun f fd F M b => ok_digits R m_pk m_sk m_nx m_hd F
  have m_es : MR P w K mg base 6 (He.ga K "Reading") "escape" (spR (He.ga K "Reading") (He.ga K "Unreadable") [] Sx.esc RLst) := calM_of (dm_of X G c 48 47 (by rfl) (by rfl)) (fun _ _ _ _ _ _ us hl => match us, hl with | [_], _ => rfl) fun f fd F M b => ok_escape B R m_pk c_es m_fl m_nx m_hd F
  have m_qu : MR P w K mg base 7 (He.ga K "Reading") "quoted" (spR (He.ga K "Reading") (He.ga K "Unreadable") [] fQuo RLst) := calM_of (dm_of X G c 47 46 (by rfl) (by rfl)) (fun _ _ _ _ _ _ us hl => match us, hl with | [_], _ => rfl) fun f fd F M b => ok_quoted R m_pk m_fl m_nx m_es F
  have m_ct : MR P w K mg base 5 (He.ga K "Reading") "counted" (spR (He.ga K "Reading") (He.ga K "Unreadable") [] Sx.counted RLst) := calM_of (dm_of X G c 45 44 (by rfl) (by rfl)) (fun _ _ _ _ _ _ us hl => match us, hl with | [_], _ => rfl) fun f fd F M b => ok_counted B R m_pk c_dg m_fl m_nx F
  obtain ⟨fdI, FI⟩ := c.def_ 52 (d := dM "Base64" "__init__" "Base64.__init__" 16 0) rfl
  have FI : L2.Fun K "__init__" "Base64.__init__" (inClass (top 16) 0) (He.ma K (He.ga K "Base64") "__init__") fdI := He5.fun_of FI
  have b_in : CalC P w K mg base 1 (He.ga K "Base64") ["self"] (spBI (He.ga K "Base64")) := ⟨_, fdI, He.mkr_ok (c.fact 71 (f := .mkr "Base64") rfl), ok_binit T FI, FI.binds (fun _ _ _ _ _ _ us hl => match us, hl with | [_], _ => rfl)⟩
  obtain ⟨fdW, FW⟩ := c.def_ 53 (d := dP) rfl
  have FW : L2.Fun K "is_whole" "Base64.is_whole" (inClass (top 16) 1) (getterAt K (He.ga K "Base64") "is_whole") fdW := He5.fun_of FW
  have b_wh : CalP P w K mg base 1 (He.ga K "Base64") "is_whole" (spBW (He.ga K "Base64")) := ⟨_, _, fdW, propB_ok q2, ok_whole T FW, FW.binds (fun _ _ _ _ _ _ us hl => match us, hl with | [_], _ => rfl)⟩
  have b_tp : CalM P w K mg base CX0 1 (He.ga K "Base64") "take_pad" ["self"] (spBP (He.ga K "Base64")) := calM_of (dm_of X G c 55 52 (by rfl) (by rfl)) (fun _ _ _ _ _ _ us hl => match us, hl with | [_], _ => rfl) fun f fd F M b => ok_take_pad T F
  have b_tk : CalM P w K mg base CX0 2 (He.ga K "Base64") "take" ["self", "octet"] (spBT (He.ga K "Base64")) := calM_of (dm_of X G c 54 51 (by rfl) (by rfl)) (fun _ _ _ _ _ _ us hl => match us, hl with | [_, _], _ => rfl) fun f fd F M b => ok_btake T c_wo b_tp F
  have m_br : MR P w K mg base 5 (He.ga K "Reading") "bars" (spR (He.ga K "Reading") (He.ga K "Unreadable") [] fBars RLst) := calM_of (dm_of X G c 51 50 (by rfl) (by rfl)) (fun _ _ _ _ _ _ us hl => match us, hl with | [_], _ => rfl) fun f fd F M b => ok_bars B R T b_in b_wh b_tk m_pk m_sk m_fl m_nx F
  have m_at : CalM P w K mg base (L2.CX P w) 8 (He.ga K "Reading") "atom" ["self", "octet"] (spA (He.ga K "Reading") (He.ga K "Unreadable")) := calM_of (dm_of X G c 44 43 (by rfl) (by rfl)) (fun _ _ _ _ _ _ us hl => match us, hl with | [_, _], _ => rfl) fun f fd F M b => ok_atom R c_dg c_bt m_fl m_nx m_ct m_tk m_qu m_ds m_br F
  have c_lo : Cal P w K mg base CX0 1 "list_of" ["items"] spLO := cal_of (dg_of X G c 0 0 (by rfl) (by rfl)) (fun _ _ _ _ _ _ us hl => match us, hl with | [_], _ => rfl) fun f fd F g kp b => ok_list_of B F
  have m_va : CalM P w K mg base (L2.CX P w) 34 (He.ga K "Reading") "value" ["self", "left"] (spVal (He.ga K "Reading") (He.ga K "Unreadable") 25) := calM_of (dm_of X G c 43 42 (by rfl) (by rfl)) (fun _ _ _ _ _ _ us hl => match us, hl with | [_, _], _ => rfl) fun f fd F M b => ok_value B R m_pk m_sk m_fl m_nx m_at c_lo F M b 25
  obtain ⟨fdR, FR⟩ := c.def_ 38 (d := dM "Reading" "__init__" "Reading.__init__" 27 0) rfl
  have FR : L2.Fun K "__init__" "Reading.__init__" (inClass (top 27) 0) (He.ma K (He.ga K "Reading") "__init__") fdR := He5.fun_of FR
  have r_in : CalC P w K mg base 1 (He.ga K "Reading") ["self", "octets"] (spRI (He.ga K "Reading")) := ⟨_, fdR, He.mkr_ok (c.fact 64 (f := .mkr "Reading") rfl), ok_rinit B R FR, FR.binds (fun _ _ _ _ _ _ us hl => match us, hl with | [_, _], _ => rfl)⟩
  exact cal_of (dg_of X G c 13 13 (by rfl) (by rfl)) (fun _ _ _ _ _ _ us hl => match us, hl with | [_], _ => rfl) fun f fd F g kp b => ok_read_sexp B R (He.int_ok X G (c.fact 59 (f := .int "MOST_DEPTH" 24) rfl)) r_in m_sk m_fl m_va F
theorem law_of (X : K.In h) (G : h.Ns mainGlobals mg) (c : He5.SaysA faL fnL K) (q : exB K = true) (mod : Mod K mg base) {f : Addr} {fd : FuncData} (F : L2.Fun K "law" "law" (top 53) f fd) : Rx.FnX P w K mg base CX0 60 f fd ["_law_script"] (spLaw K) := by
  have B : Blt mg := ⟨He.free_ok X G (c.fact 75 (f := .free "len") rfl), He.free_ok X G (c.fact 76 (f := .free "ord") rfl), He.free_ok X G (c.fact 77 (f := .free "str") rfl), He.free_ok X G (c.fact 78 (f := .free "list") rfl), He.free_ok X G (c.fact 79 (f := .free "tuple") rfl), He.free_ok X G (c.fact 80 (f := .free "range") rfl), He.free_ok X G (c.fact 81 (f := .free "int") rfl), He.free_ok X G (c.fact 82 (f := .free "abs") rfl), He.free_ok X G (c.fact 83 (f := .free "isinstance") rfl), He.free_ok X G (c.fact 84 (f := .free "bool") rfl), He.free_ok X G (c.fact 85 (f := .free "enumerate") rfl)⟩
  have r_rs := reader_of (P := P) (w := w) (base := base) X G c q B
  have w_pa : CA P w K mg base 1 "parts" ["value"] spParts := cal_of (dg_of X G c 1 1 (by rfl) (by rfl)) (fun _ _ _ _ _ _ us hl => match us, hl with | [_], _ => rfl) fun f fd F g kp b => ok_parts F
  have w_wp : CA P w K mg base 26 "write_part" ["value"] (spWP 25) := cal_of (dg_of X G c 4 4 (by rfl) (by rfl)) (fun _ _ _ _ _ _ us hl => match us, hl with | [_], _ => rfl) fun f fd F g kp b => ok_wp0 B F g kp b 25
  have w_la := lacks_of (P := P) (w := w) X G c mod B w_pa
  have w_ws : CalX P w K mg base CX0 30 "write_sexp" ["value"] spWS := calX_of (dg_of X G c 5 5 (by rfl) (by rfl)) (fun _ _ _ _ _ _ us hl => match us, hl with | [_], _ => rfl) fun f fd F g => ok_write_sexp w_la w_wp F
  have l_ce : CA P w K mg base 1 "_law_cell" ["_law_script", "_law_k"] (spCell K) := cal_of (dg_of X G c 14 14 (by rfl) (by rfl)) (fun _ _ _ _ _ _ us hl => match us, hl with | [_, _], _ => rfl) fun f fd F g kp b => ok_cell B F
  have l_nu : CA P w K mg base 1 "_law_numbers" ["_law_cell_here", "_law_many_here"] spNums := cal_of (dg_of X G c 15 15 (by rfl) (by rfl)) (fun _ _ _ _ _ _ us hl => match us, hl with | [_, _], _ => rfl) fun f fd F g kp b => ok_numbers B F
  have l_st : CA P w K mg base 2 "_law_state" ["_law_script", "_law_left"] (spState K) := cal_of (dg_of X G c 16 16 (by rfl) (by rfl)) (fun _ _ _ _ _ _ us hl => match us, hl with | [_, _], _ => rfl) fun f fd F g kp b => ok_state B l_ce l_nu F
  have l_nx : CA P w K mg base 1 "_law_next" ["_law_state_here", "_law_many_here"] spNext := cal_of (dg_of X G c 17 17 (by rfl) (by rfl)) (fun _ _ _ _ _ _ us hl => match us, hl with | [_, _], _ => rfl) fun f fd F g kp b => ok_next0 B F
  have l_ma : CA P w K mg base 2 "_law_many" ["_law_state_here", "_law_most"] spMany := cal_of (dg_of X G c 18 18 (by rfl) (by rfl)) (fun _ _ _ _ _ _ us hl => match us, hl with | [_, _], _ => rfl) fun f fd F g kp b => ok_many l_nx F
  have l_oc : CA P w K mg base 3 "_law_octets" ["_law_state_here"] spOct := cal_of (dg_of X G c 19 19 (by rfl) (by rfl)) (fun _ _ _ _ _ _ us hl => match us, hl with | [_], _ => rfl) fun f fd F g kp b => ok_octets B l_nx l_ma F
  have l_va : CA P w K mg base 9 "_law_value" ["_law_state_here", "_law_deep"] (spV 5) := cal_of (dg_of X G c 20 20 (by rfl) (by rfl)) (fun _ _ _ _ _ _ us hl => match us, hl with | [_, _], _ => rfl) fun f fd F g kp b => ok_lvalue B l_nx l_ma l_oc F g kp b 5
  have l_to : CA P w K mg base 2 "_law_towered" ["_law_state_here", "_law_value_here"] spTow := cal_of (dg_of X G c 21 21 (by rfl) (by rfl)) (fun _ _ _ _ _ _ us hl => match us, hl with | [_, _], _ => rfl) fun f fd F g kp b => ok_towered B l_nx F
  have l_as : CA P w K mg base 1 "_law_ascii" ["_law_text"] spAscii := cal_of (dg_of X G c 22 22 (by rfl) (by rfl)) (fun _ _ _ _ _ _ us hl => match us, hl with | [_], _ => rfl) fun f fd F g kp b => ok_ascii B F
  have l_le : CA P w K mg base 2 "_law_letter" ["_law_octet"] (spB Sx.begTok) := cal_of (dg_of X G c 24 24 (by rfl) (by rfl)) (fun _ _ _ _ _ _ us hl => match us, hl with | [_], _ => rfl) fun f fd F g kp b => ok_letter l_as F
  have l_it : CA P w K mg base 3 "_law_in_token" ["_law_octet"] (spB Sx.inTok) := cal_of (dg_of X G c 25 25 (by rfl) (by rfl)) (fun _ _ _ _ _ _ us hl => match us, hl with | [_], _ => rfl) fun f fd F g kp b => ok_lin_token l_le F
  have l_sa : CA P w K mg base 52 "_law_same" ["_law_told", "_law_due"] (spSm 51) := cal_of (dg_of X G c 23 23 (by rfl) (by rfl)) (fun _ _ _ _ _ _ us hl => match us, hl with | [_, _], _ => rfl) fun f fd F g kp b => ok_same B F g kp b 51
  have l_is : CA P w K mg base 4 "_law_is_token" ["_law_octets_here"] spIsT := cal_of (dg_of X G c 26 26 (by rfl) (by rfl)) (fun _ _ _ _ _ _ us hl => match us, hl with | [_], _ => rfl) fun f fd F g kp b => ok_is_token B l_le l_it F
  have l_bl : CA P w K mg base 2 "_law_blank" ["_law_state_here"] spBlank := cal_of (dg_of X G c 27 27 (by rfl) (by rfl)) (fun _ _ _ _ _ _ us hl => match us, hl with | [_], _ => rfl) fun f fd F g kp b => ok_blank B l_nx F
  have l_sp : CA P w K mg base 3 "_law_sprinkled" ["_law_state_here", "_law_row"] spSpr := cal_of (dg_of X G c 28 28 (by rfl) (by rfl)) (fun _ _ _ _ _ _ us hl => match us, hl with | [_, _], _ => rfl) fun f fd F g kp b => ok_sprinkled l_bl F
  have l_he : CA P w K mg base 2 "_law_hex" ["_law_state_here", "_law_octet"] spHex := cal_of (dg_of X G c 29 29 (by rfl) (by rfl)) (fun _ _ _ _ _ _ us hl => match us, hl with | [_, _], _ => rfl) fun f fd F g kp b => ok_hex B l_nx F
  have l_b6 : CA P w K mg base 1 "_law_base64" ["_law_octets_here"] spB64 := cal_of (dg_of X G c 30 30 (by rfl) (by rfl)) (fun _ _ _ _ _ _ us hl => match us, hl with | [_], _ => rfl) fun f fd F g kp b => ok_base64 B F
  have l_qu : CA P w K mg base 3 "_law_quoted" ["_law_state_here", "_law_octets_here"] spQuo := cal_of (dg_of X G c 31 31 (by rfl) (by rfl)) (fun _ _ _ _ _ _ us hl => match us, hl with | [_, _], _ => rfl) fun f fd F g kp b => ok_lquoted B l_nx l_he F
  have l_at : CA P w K mg base 5 "_law_atom" ["_law_state_here", "_law_octets_here"] spAtm := cal_of (dg_of X G c 32 32 (by rfl) (by rfl)) (fun _ _ _ _ _ _ us hl => match us, hl with | [_, _], _ => rfl) fun f fd F g kp b => ok_latom B l_nx l_is l_qu l_he l_sp l_b6 l_as F
  have l_tk : CA P w K mg base 31 "_law_tokens" ["_law_state_here", "_law_value_here"] (spTok 25) := cal_of (dg_of X G c 33 33 (by rfl) (by rfl)) (fun _ _ _ _ _ _ us hl => match us, hl with | [_, _], _ => rfl) fun f fd F g kp b => ok_tokens l_bl l_at F g kp b 25
  have l_sc : CA P w K mg base 4 "_law_schedule" ["_law_tokens_here"] spSch := cal_of (dg_of X G c 34 34 (by rfl) (by rfl)) (fun _ _ _ _ _ _ us hl => match us, hl with | [_], _ => rfl) fun f fd F g kp b => ok_schedule B l_it F
  have l_so : CA P w K mg base 2 "_law_spoilt" ["_law_state_here", "_law_octets_here", "_law_odd"] spSpo := cal_of (dg_of X G c 35 35 (by rfl) (by rfl)) (fun _ _ _ _ _ _ us hl => match us, hl with | [_, _, _], _ => rfl) fun f fd F g kp b => ok_spoilt B l_nx F
  have l_rd : CA P w K mg base 36 "_law_read" ["_law_octets_here"] spRead := cal_of (dg_of X G c 36 36 (by rfl) (by rfl)) (fun _ _ _ _ _ _ us hl => match us, hl with | [_], _ => rfl) fun f fd F g kp b => ok_lread (He.glo_ok X G (c.fact 53 (f := .glo "AlikeError") rfl)) (He.exm_ok (c.fact 74 (f := .exm "Unreadable" "AlikeError" true) rfl)) r_rs F
  exact ok_law B l_ce l_st l_va l_to w_ws l_rd l_sa l_sc l_tk l_so F
end
end Hd
end
/-! ## Hd33 -/
section
set_option maxRecDepth 100000
set_option maxHeartbeats 8000000
set_option linter.all false
/-! The end. -/
namespace Hd
open PySem PySem.Spec PyProof.Rows L2
theorem the_end {P : Program} {w : World} {s1 : Shared} {mg mb : Str → Option Value} {fa a : Addr} {vs : List Value} {ns : List Int} (Y : hk.says w s1.heap) (hns : s1.heap.Ns mainGlobals mg) (hb : s1.heap.Ns builtinsNs mb) (hbb : ∀ x : Str, x ≠ "__name__" → mb x = bootBuiltins x)
    (hlim : s1.heap.NoLimit) (hg : s1.gens = #[]) (hmg : mg "law" = some (.ref fa)) (ha : s1.heap.get? a = some { cls := .type "list", data := .seq vs.toArray }) (hi : IntsAre vs ns) (hl : ns.length ≤ 63) :
    Rx.CodeXA (model P w) callerA (.call (.ref fa) ⟨[.ref a], []⟩) (fun r s' => r = .ok (.ret (.bool true)) ∧ OldK s1.heap s'.heap ∧ s'.os = s1.os ∧ AllBare s'.gens) s1 := by
  obtain ⟨K, KX, c, q⟩ := Y
  have D : DG K mg "law" 53 := dg_of KX hns c 37 37 (by rfl) (by rfl)
  obtain ⟨f0, fd, F0, g0⟩ := D
  rw [hmg] at g0
  cases g0
  have hbind : BindEq "law" "law" (top 53) ["_law_script"] := fun _ _ _ _ _ _ us hl => match us, hl with | [_], _ => rfl
  refine Rx.lawCallX (K := K) (x := "_law_script") (sp := spLaw K) (fd := fd) (CX := CX0) (k := 60) KX hns hb hbb hlim hg ha hi (Nat.le_trans hl (by decide)) ⟨rfl, by decide, by decide⟩ (fun base _ _ mod => law_of KX hns c q mod F0) (fun s u => ?_) (fun H _ hS => ⟨a, ns, rfl, hS, fun _ => rfl⟩) (fun H e s' z => z)
  obtain ⟨oc, od, kV, doc, pm, an, cdv, ct, osl, rfl, lk, hcd⟩ := F0.ex
  exact .of_eq (hbind _ _ _ _ _ _ [u] rfl)
end Hd
end
set_option maxRecDepth 100000
set_option maxHeartbeats 8000000
open PySem PySem.W PySem.Calls PyProof.Rows
theorem PySem.Challenge.cw_formsalike_k49_whole_sexp_canonical_holds : PySem.Challenge.rw_formsalike_k49_whole_sexp_canonical.Holds := by
  w_on; o_law
  refine Rx.headX (r := Hd.R) (q := Hd.qv) (H := Hd.hk) (ob := Hd.ob) (M := 6000) (loose := Hd.names) (d := HandSHeadRun.topDef Hd.R.prog 53) Hd.ob_eq (by kernel_rfl) (fun s => by kernel_rfl) Hd.run (by kernel_rfl) (by kernel_rfl) (by kernel_rfl) (by rfl) (by first | assumption | decide +kernel) (by decide +kernel) ⟨rfl, rfl, rfl, rfl, rfl, by decide +kernel⟩ ?hw ?hc
  case hw => w_witness2
  case hc =>
    refine Rx.walkX_of (l := PySem.Challenge.rw_formsalike_k49_whole_sexp_canonical) (n := 63) rfl (by kernel_rfl) ?_
    intro w s0 s1 mg mb fa o pm cd doc a vs ns G Y ho hd hcd hmg0 ha hi hl hbits hg
    have hmg : mg ("law" : PySem.Str) = some (.ref fa) := by
      have e : (HandSHeadRun.topDef Hd.R.prog 53).name = ("law" : PySem.Str) := by kernel_rfl
      rw [← e]
      exact hmg0
    exact Hd.the_end Y G.T.g G.T.b G.T.builtins G.T.nolimit hg hmg ha hi hl
