import PyProof.Rows.All
import PyVafmsb
import Wide.All
import OpenK.AllK
import Wide.FinOn
import Open.SpecLaws
import KE.OsGo
import HandS.ForSpec
import HandS.Comp
import HandS.Dict
import HandS.Iter
import HandS.Text
import HandS.Set
import HandS.Strs
import HandS.SetFor
import HandS.SortInts
import HandS.TupAny
import HandS.TupMul
import HandS.Conv
import HandS.More
import HandS.Deep
import HandS.CallRecv
import HandS.WordsDict
import PySem.Challenge.RW_allscannings_s01_answers
import KE.KIntText
set_option Elab.async false
set_option linter.all false
set_option maxRecDepth 100000
set_option maxHeartbeats 4000000
/-! Pieces, rows, readers: plain Lean over the Spec's modules. -/
namespace Asc
open VafmsBase (Fmt Text Value)

/-- a piece alone -/
inductive Pc where
  | lit (w : Text)
  | num (lo hi : Nat)
  | word (lo hi : Nat)
  | alt (a b : Fmt)
  | opt (a : Fmt)
  | rep (sep : Text) (lo hi : Nat) (a : Fmt)
def Pc.cons : Pc → Fmt → Fmt
  | .lit w, r => .lit w r
  | .num lo hi, r => .num lo hi r
  | .word lo hi, r => .word lo hi r
  | .alt a b, r => .alt a b r
  | .opt a, r => .opt a r
  | .rep s lo hi a, r => .rep s lo hi a r
/-- induction along a row -/
theorem row_ind {P : Fmt → Prop} (h0 : P .done) (h1 : ∀ (p : Pc) (r : Fmt), P r → P (p.cons r)) : ∀ f, P f
  | .done => h0
  | .lit w r => h1 (.lit w) r (row_ind h0 h1 r)
  | .num lo hi r => h1 (.num lo hi) r (row_ind h0 h1 r)
  | .word lo hi r => h1 (.word lo hi) r (row_ind h0 h1 r)
  | .alt a b r => h1 (.alt a b) r (row_ind h0 h1 r)
  | .opt a r => h1 (.opt a) r (row_ind h0 h1 r)
  | .rep s lo hi a r => h1 (.rep s lo hi a) r (row_ind h0 h1 r)
theorem row_cases (f : Fmt) : f = .done ∨ ∃ p r, f = Pc.cons p r := by
  cases f with
  | done => exact .inl rfl
  | lit w r => exact .inr ⟨.lit w, r, rfl⟩
  | num lo hi r => exact .inr ⟨.num lo hi, r, rfl⟩
  | word lo hi r => exact .inr ⟨.word lo hi, r, rfl⟩
  | alt a b r => exact .inr ⟨.alt a b, r, rfl⟩
  | opt a r => exact .inr ⟨.opt a, r, rfl⟩
  | rep s lo hi a r => exact .inr ⟨.rep s lo hi a, r, rfl⟩
/-- how many pieces, how many are gone through, how deep -/
def Pc.size : Pc → Nat
  | .lit _ => 1
  | .num _ _ => 1
  | .word _ _ => 1
  | .alt a b => a.size + b.size + 1
  | .opt a => a.size + 1
  | .rep _ _ _ a => a.size + 1
def Pc.holes : Pc → Nat
  | .lit _ => 0
  | .num _ _ => 1
  | .word _ _ => 1
  | .alt a b => max a.holes b.holes + 1
  | .opt a => a.holes + 1
  | .rep _ _ hi a => hi * a.holes + 1
def depth : Fmt → Nat
  | .done => 0
  | .lit _ r => depth r
  | .num _ _ r => depth r
  | .word _ _ r => depth r
  | .alt a b r => max (max (depth a) (depth b) + 1) (depth r)
  | .opt a r => max (depth a + 1) (depth r)
  | .rep _ _ _ a r => max (depth a + 1) (depth r)
def Pc.depth : Pc → Nat
  | .lit _ => 0
  | .num _ _ => 0
  | .word _ _ => 0
  | .alt a b => max (Asc.depth a) (Asc.depth b) + 1
  | .opt a => Asc.depth a + 1
  | .rep _ _ _ a => Asc.depth a + 1
theorem size_cons (p : Pc) (r : Fmt) : (p.cons r).size = p.size + r.size := by
  cases p <;> simp only [Pc.cons, Fmt.size, Pc.size] <;> omega
theorem holes_cons (p : Pc) (r : Fmt) : (p.cons r).holes = p.holes + r.holes := by
  cases p <;> simp only [Pc.cons, Fmt.holes, Pc.holes, Nat.max_def] <;> first | omega | (repeat split) <;> omega
theorem depth_cons (p : Pc) (r : Fmt) : depth (p.cons r) = max p.depth (depth r) := by
  cases p <;> simp only [Pc.cons, depth, Pc.depth] <;> omega
theorem depth_le_size : ∀ f : Fmt, depth f ≤ f.size
  | .done => Nat.le_refl _
  | .lit _ r => by have := depth_le_size r; simp only [depth, Fmt.size]; omega
  | .num _ _ r => by have := depth_le_size r; simp only [depth, Fmt.size]; omega
  | .word _ _ r => by have := depth_le_size r; simp only [depth, Fmt.size]; omega
  | .alt a b r => by have := depth_le_size a; have := depth_le_size b; have := depth_le_size r; simp only [depth, Fmt.size]; omega
  | .opt a r => by have := depth_le_size a; have := depth_le_size r; simp only [depth, Fmt.size]; omega
  | .rep _ _ _ a r => by have := depth_le_size a; have := depth_le_size r; simp only [depth, Fmt.size]; omega
/-- all pieces, each with those within it behind it -/
def subs : Fmt → List Pc
  | .done => []
  | .lit w r => .lit w :: subs r
  | .num lo hi r => .num lo hi :: subs r
  | .word lo hi r => .word lo hi :: subs r
  | .alt a b r => .alt a b :: (subs a ++ (subs b ++ subs r))
  | .opt a r => .opt a :: (subs a ++ subs r)
  | .rep s lo hi a r => .rep s lo hi a :: (subs a ++ subs r)
/-- a piece's rows -/
def Pc.rows : Pc → List Fmt
  | .alt a b => [a, b]
  | .opt a => [a]
  | .rep _ _ _ a => [a]
  | _ => []
theorem subs_cons (p : Pc) (r : Fmt) : subs (p.cons r) = p :: (p.rows.flatMap subs ++ subs r) := by
  cases p <;> simp [Pc.cons, subs, Pc.rows]
theorem subs_length : ∀ f : Fmt, (subs f).length = f.size
  | .done => rfl
  | .lit _ r => by simp only [subs, Fmt.size, List.length_cons, subs_length r]
  | .num _ _ r => by simp only [subs, Fmt.size, List.length_cons, subs_length r]
  | .word _ _ r => by simp only [subs, Fmt.size, List.length_cons, subs_length r]
  | .alt a b r => by simp only [subs, Fmt.size, List.length_cons, List.length_append, subs_length a, subs_length b, subs_length r]; omega
  | .opt a r => by simp only [subs, Fmt.size, List.length_cons, List.length_append, subs_length a, subs_length r]
  | .rep _ _ _ a r => by simp only [subs, Fmt.size, List.length_cons, List.length_append, subs_length a, subs_length r]
def Pc.isRep : Pc → Bool
  | .rep _ _ _ _ => true
  | _ => false
/-- whether a repeat's row has a repeat -/
def Pc.bad : Pc → Bool
  | .rep _ _ _ a => (subs a).any Pc.isRep
  | _ => false
def bad (f : Fmt) : Bool := (subs f).any Pc.bad
theorem hasRep_subs : ∀ f : Fmt, f.hasRep = (subs f).any Pc.isRep
  | .done => rfl
  | .lit _ r => by simp [subs, Fmt.hasRep, Pc.isRep, hasRep_subs r]
  | .num _ _ r => by simp [subs, Fmt.hasRep, Pc.isRep, hasRep_subs r]
  | .word _ _ r => by simp [subs, Fmt.hasRep, Pc.isRep, hasRep_subs r]
  | .alt a b r => by simp [subs, Fmt.hasRep, Pc.isRep, hasRep_subs r, hasRep_subs a, hasRep_subs b]
  | .opt a r => by simp [subs, Fmt.hasRep, Pc.isRep, hasRep_subs r, hasRep_subs a]
  | .rep _ _ _ a r => by simp [subs, Fmt.hasRep, Pc.isRep]
/-- the limits of a piece's own numbers and texts -/
def okSp : Fmt → Bool
  | .done => true
  | .lit w r => !w.isEmpty && (VafmsBase.okText 8 w && okSp r)
  | .num lo hi r => decide (1 ≤ lo) && (decide (lo ≤ hi) && (decide (hi ≤ 4) && okSp r))
  | .word lo hi r => decide (1 ≤ lo) && (decide (lo ≤ hi) && (decide (hi ≤ 4) && okSp r))
  | .alt a b r => okSp a && (okSp b && okSp r)
  | .opt a r => okSp a && okSp r
  | .rep s lo hi a r => VafmsBase.okText 8 s && (decide (lo ≤ hi) && (decide (hi ≤ 4) && (okSp a && okSp r)))
def Pc.okSp : Pc → Bool
  | .lit w => !w.isEmpty && VafmsBase.okText 8 w
  | .num lo hi => decide (1 ≤ lo) && (decide (lo ≤ hi) && decide (hi ≤ 4))
  | .word lo hi => decide (1 ≤ lo) && (decide (lo ≤ hi) && decide (hi ≤ 4))
  | .alt a b => Asc.okSp a && Asc.okSp b
  | .opt a => Asc.okSp a
  | .rep s lo hi a => VafmsBase.okText 8 s && (decide (lo ≤ hi) && (decide (hi ≤ 4) && Asc.okSp a))
theorem okSp_cons (p : Pc) (r : Fmt) : okSp (p.cons r) = (p.okSp && okSp r) := by
  cases p <;> simp [Pc.cons, okSp, Pc.okSp, Bool.and_assoc]
theorem okPieces_iff : ∀ f : Fmt, VafmsBase.okPieces f = (okSp f && !bad f)
  | .done => rfl
  | .lit w r => by
    simp only [VafmsBase.okPieces, okSp, bad, subs, okPieces_iff r, List.any_cons, Pc.bad, Bool.false_or, VafmsBase.LITERAL, Bool.and_assoc]
  | .num lo hi r => by
    simp only [VafmsBase.okPieces, okSp, bad, subs, okPieces_iff r, List.any_cons, Pc.bad, Bool.false_or, VafmsBase.DIGITS, Bool.and_assoc]
    rfl
  | .word lo hi r => by
    simp only [VafmsBase.okPieces, okSp, bad, subs, okPieces_iff r, List.any_cons, Pc.bad, Bool.false_or, VafmsBase.LETTERS, Bool.and_assoc]
    rfl
  | .alt a b r => by
    simp only [VafmsBase.okPieces, okSp, bad, subs, okPieces_iff r, okPieces_iff a, okPieces_iff b, List.any_cons, List.any_append, Pc.bad, Bool.false_or]
    cases okSp a <;> cases okSp b <;> cases okSp r <;> simp
  | .opt a r => by
    simp only [VafmsBase.okPieces, okSp, bad, subs, okPieces_iff r, okPieces_iff a, List.any_cons, List.any_append, Pc.bad, Bool.false_or]
    cases okSp a <;> cases okSp r <;> simp
  | .rep s lo hi a r => by
    simp only [VafmsBase.okPieces, okSp, bad, subs, okPieces_iff r, okPieces_iff a, List.any_cons, List.any_append, Pc.bad, hasRep_subs a, VafmsBase.LITERAL, VafmsBase.TIMES]
    cases okSp a <;> cases okSp r <;> cases (subs a).any Pc.isRep <;> cases VafmsBase.okText 8 s <;> simp [Bool.and_assoc] <;> rfl

/-! ### the readers, as the program reads -/
def okB (b : Int) : Bool := decide (32 ≤ b) && decide (b ≤ 126)
def rText (least most : Int) : List Int → Option (Text × List Int)
  | [] => none
  | z :: r => if least ≤ z ∧ z ≤ most ∧ z ≤ (r.length : Int) ∧ (r.take z.toNat).all okB = true then some ((r.take z.toNat).map Int.toNat, r.drop z.toNat) else none
def rSpan (least most : Int) : List Int → Option ((Nat × Nat) × List Int)
  | a :: b :: r => if least ≤ a ∧ a ≤ b ∧ b ≤ most then some ((a.toNat, b.toNat), r) else none
  | _ => none
def rdPs (rp : List Int → Option (Pc × List Int)) : Nat → List Int → Option (Fmt × List Int)
  | 0, x => some (.done, x)
  | n + 1, x => (rp x).bind fun p => (rdPs rp n p.2).map fun r => (p.1.cons r.1, r.2)
def rdRow (rp : List Int → Option (Pc × List Int)) : List Int → Option (Fmt × List Int)
  | [] => none
  | z :: r => if 0 ≤ z then rdPs rp z.toNat r else none
def rdKind (row : List Int → Option (Fmt × List Int)) (k : Int) (y : List Int) : Option (Pc × List Int) :=
  if k = 0 then (rText 1 8 y).map fun w => (.lit w.1, w.2)
  else if k = 1 then (rSpan 1 4 y).map fun u => (.num u.1.1 u.1.2, u.2)
  else if k = 2 then (rSpan 1 4 y).map fun u => (.word u.1.1 u.1.2, u.2)
  else if k = 3 then (row y).bind fun a => (row a.2).map fun b => (.alt a.1 b.1, b.2)
  else if k = 4 then (row y).map fun a => (.opt a.1, a.2)
  else if k = 5 then (rText 0 8 y).bind fun s => (rSpan 0 4 s.2).bind fun u => (row u.2).map fun a => (.rep s.1 u.1.1 u.1.2 a.1, a.2)
  else none
def rdP : Nat → List Int → Option (Pc × List Int)
  | 0, _ => none
  | F + 1, x => match x with
    | [] => none
    | k :: y => rdKind (rdRow (rdP F)) k y

/-! #### what they leave is no longer -/
theorem rText_le {l m : Int} {x : List Int} {w : Text × List Int} (h : rText l m x = some w) : w.2.length < x.length := by
  cases x with
  | nil => cases h
  | cons z r =>
    simp only [rText] at h
    split at h
    · have e := Option.some.inj h
      subst e
      simp only [List.length_drop, List.length_cons]
      omega
    · cases h
theorem rSpan_le {l m : Int} {x : List Int} {w : (Nat × Nat) × List Int} (h : rSpan l m x = some w) : w.2.length < x.length := by
  match x, h with
  | [], h => cases h
  | [_], h => cases h
  | a :: b :: r, h =>
    simp only [rSpan] at h
    split at h
    · have e := Option.some.inj h
      subst e
      simp only [List.length_cons]
      omega
    · cases h
/-- a reader of pieces leaves less -/
def Less (rp : List Int → Option (Pc × List Int)) : Prop := ∀ x p, rp x = some p → p.2.length < x.length
theorem rdPs_le {rp : List Int → Option (Pc × List Int)} (hl : Less rp) : ∀ {n : Nat} {x : List Int} {u : Fmt × List Int}, rdPs rp n x = some u → u.2.length ≤ x.length
  | 0, x, u, h => by
    have e := Option.some.inj (show some (Fmt.done, x) = some u from h)
    subst e
    exact Nat.le_refl _
  | n + 1, x, u, h => by
    simp only [rdPs, Option.bind_eq_some_iff, Option.map_eq_some_iff] at h
    obtain ⟨p, hp, r, hr, rfl⟩ := h
    have h1 := hl x p hp
    have h2 := rdPs_le hl hr
    simp only
    omega
theorem rdRow_le {rp : List Int → Option (Pc × List Int)} (hl : Less rp) {x : List Int} {u : Fmt × List Int} (h : rdRow rp x = some u) : u.2.length < x.length := by
  cases x with
  | nil => cases h
  | cons z r =>
    simp only [rdRow] at h
    split at h
    · have := rdPs_le hl h
      simp only [List.length_cons]
      omega
    · cases h
theorem rdKind_le {row : List Int → Option (Fmt × List Int)} (hl : ∀ x u, row x = some u → u.2.length < x.length) {k : Int} {y : List Int} {p : Pc × List Int} (h : rdKind row k y = some p) : p.2.length < y.length := by
  unfold rdKind at h
  repeat' split at h
  · simp only [Option.map_eq_some_iff] at h
    obtain ⟨w, hw, rfl⟩ := h
    exact rText_le hw
  · simp only [Option.map_eq_some_iff] at h
    obtain ⟨w, hw, rfl⟩ := h
    exact rSpan_le hw
  · simp only [Option.map_eq_some_iff] at h
    obtain ⟨w, hw, rfl⟩ := h
    exact rSpan_le hw
  · simp only [Option.map_eq_some_iff, Option.bind_eq_some_iff] at h
    obtain ⟨a, ha, b, hb, rfl⟩ := h
    have := hl _ _ ha
    have := hl _ _ hb
    simp only
    omega
  · simp only [Option.map_eq_some_iff] at h
    obtain ⟨w, hw, rfl⟩ := h
    exact hl _ _ hw
  · simp only [Option.map_eq_some_iff, Option.bind_eq_some_iff] at h
    obtain ⟨s, hs, u, hu, a, ha, rfl⟩ := h
    have := rText_le hs
    have := rSpan_le hu
    have := hl _ _ ha
    simp only
    omega
  · cases h
theorem rdP_less : ∀ F, Less (rdP F)
  | 0, x, p, h => by cases h
  | F + 1, [], p, h => by cases h
  | F + 1, k :: y, p, h => by
    have := rdKind_le (fun x u => rdRow_le (rdP_less F)) (show rdKind (rdRow (rdP F)) k y = some p from h)
    simp only [List.length_cons]
    omega
/-! #### fuel -/
theorem rdPs_congr {rp rq : List Int → Option (Pc × List Int)} {m : Nat} (hl : Less rp) (he : ∀ y, y.length ≤ m → rp y = rq y) : ∀ (n : Nat) (x : List Int), x.length ≤ m → rdPs rp n x = rdPs rq n x
  | 0, x, h => rfl
  | n + 1, x, h => by
    simp only [rdPs]
    rw [← he x h]
    cases hx : rp x with
    | none => rfl
    | some p =>
      have := hl x p hx
      simp only [Option.bind_some]
      rw [rdPs_congr hl he n p.2 (by omega)]
theorem rdRow_congr {rp rq : List Int → Option (Pc × List Int)} {m : Nat} (hl : Less rp) (he : ∀ y, y.length ≤ m → rp y = rq y) (x : List Int) (h : x.length ≤ m + 1) : rdRow rp x = rdRow rq x := by
  cases x with
  | nil => rfl
  | cons z r =>
    simp only [rdRow]
    rw [rdPs_congr hl he z.toNat r (by simpa using h)]
theorem rdKind_congr {row row' : List Int → Option (Fmt × List Int)} {m : Nat} (hl : ∀ x u, row x = some u → u.2.length < x.length) (he : ∀ y, y.length ≤ m → row y = row' y) (k : Int) (y : List Int) (h : y.length ≤ m) : rdKind row k y = rdKind row' k y := by
  have h3 : ((row y).bind fun a => (row a.2).map fun b => (Pc.alt a.1 b.1, b.2)) = (row' y).bind fun a => (row' a.2).map fun b => (Pc.alt a.1 b.1, b.2) := by
    rw [← he y h]
    cases hx : row y with
    | none => rfl
    | some a =>
      have := hl _ _ hx
      simp only [Option.bind_some]
      rw [he a.2 (by omega)]
  have h5 : ((rText 0 8 y).bind fun s => (rSpan 0 4 s.2).bind fun u => (row u.2).map fun a => (Pc.rep s.1 u.1.1 u.1.2 a.1, a.2)) = (rText 0 8 y).bind fun s => (rSpan 0 4 s.2).bind fun u => (row' u.2).map fun a => (Pc.rep s.1 u.1.1 u.1.2 a.1, a.2) := by
    cases hx : rText 0 8 y with
    | none => rfl
    | some s =>
      simp only [Option.bind_some]
      cases hy : rSpan 0 4 s.2 with
      | none => rfl
      | some u =>
        have := rText_le hx
        have := rSpan_le hy
        simp only [Option.bind_some]
        rw [he u.2 (by omega)]
  unfold rdKind
  rw [h3, h5, he y h]
theorem rdP_fuel : ∀ (F G : Nat) (x : List Int), x.length ≤ F → x.length ≤ G → rdP F x = rdP G x
  | 0, 0, x, _, _ => rfl
  | 0, G + 1, [], _, _ => rfl
  | 0, G + 1, k :: y, h, _ => by simp at h
  | F + 1, 0, [], _, _ => rfl
  | F + 1, 0, k :: y, _, h => by simp at h
  | F + 1, G + 1, [], _, _ => rfl
  | F + 1, G + 1, k :: y, h, h' => by
    have hF : y.length ≤ F := by simpa using h
    have hG : y.length ≤ G := by simpa using h'
    show rdKind (rdRow (rdP F)) k y = rdKind (rdRow (rdP G)) k y
    refine rdKind_congr (m := y.length) (fun x u => rdRow_le (rdP_less F)) (fun z hz => ?_) k y (Nat.le_refl _)
    exact rdRow_congr (m := y.length) (rdP_less F) (fun v hv => rdP_fuel F G v (by omega) (by omega)) z (by omega)
/-- a piece; a row -/
def rd1 (x : List Int) : Option (Pc × List Int) := rdP x.length x
abbrev rdR : List Int → Option (Fmt × List Int) := rdRow rd1
theorem rd1_less : Less rd1 := fun x p h => rdP_less _ x p h
theorem rdR_le {x : List Int} {u : Fmt × List Int} (h : rdR x = some u) : u.2.length < x.length := rdRow_le rd1_less h
theorem rd1_nil : rd1 [] = none := rfl
theorem rd1_cons (k : Int) (y : List Int) : rd1 (k :: y) = rdKind rdR k y := by
  show rdKind (rdRow (rdP y.length)) k y = _
  refine rdKind_congr (m := y.length) (fun x u => rdRow_le (rdP_less _)) (fun z hz => ?_) k y (Nat.le_refl _)
  exact rdRow_congr (m := y.length) (rdP_less _) (fun v hv => rdP_fuel _ _ v hv (Nat.le_refl _)) z (by omega)
/-! #### what they read is within the limits -/
theorem okB_nat {b : Int} (h : okB b = true) : VafmsBase.okByte b.toNat = true := by
  unfold okB at h
  simp only [Bool.and_eq_true, decide_eq_true_eq] at h
  unfold VafmsBase.okByte
  simp only [Bool.and_eq_true, decide_eq_true_eq]
  omega
theorem rText_ok {l m : Int} {x : List Int} {w : Text × List Int} (h : rText l m x = some w) (hm : m ≤ 8) : VafmsBase.okText 8 w.1 = true ∧ l ≤ (w.1.length : Int) := by
  cases x with
  | nil => cases h
  | cons z r =>
    simp only [rText] at h
    split at h
    · rename_i c
      obtain ⟨c1, c2, c3, c4⟩ := c
      have e := Option.some.inj h
      subst e
      have hl : ((r.take z.toNat).map Int.toNat).length = min z.toNat r.length := by simp
      refine ⟨?_, ?_⟩
      · unfold VafmsBase.okText
        simp only [Bool.and_eq_true, decide_eq_true_eq, hl]
        refine ⟨by omega, ?_⟩
        rw [List.all_map, List.all_eq_true]
        intro b hb
        exact okB_nat (List.all_eq_true.mp c4 b hb)
      · simp only [hl]
        omega
    · cases h
theorem rSpan_ok {l m : Int} {x : List Int} {w : (Nat × Nat) × List Int} (h : rSpan l m x = some w) (hl : 0 ≤ l) : l ≤ (w.1.1 : Int) ∧ w.1.1 ≤ w.1.2 ∧ (w.1.2 : Int) ≤ m := by
  match x, h with
  | [], h => cases h
  | [_], h => cases h
  | a :: b :: r, h =>
    simp only [rSpan] at h
    split at h
    · have e := Option.some.inj h
      subst e
      simp only
      omega
    · cases h
theorem rdPs_ok {rp : List Int → Option (Pc × List Int)} {m : Nat} (hl : Less rp) (ho : ∀ x p, x.length ≤ m → rp x = some p → p.1.okSp = true) : ∀ {n : Nat} {x : List Int} {u : Fmt × List Int}, x.length ≤ m → rdPs rp n x = some u → okSp u.1 = true
  | 0, x, u, _, h => by
    have e := Option.some.inj (show some (Fmt.done, x) = some u from h)
    subst e
    rfl
  | n + 1, x, u, hx, h => by
    simp only [rdPs, Option.bind_eq_some_iff, Option.map_eq_some_iff] at h
    obtain ⟨p, hp, r, hr, rfl⟩ := h
    have := hl x p hp
    rw [okSp_cons, ho x p hx hp, rdPs_ok hl ho (by omega) hr]
    rfl
theorem rd1_ok : ∀ (m : Nat) (x : List Int) (p : Pc × List Int), x.length ≤ m → rd1 x = some p → p.1.okSp = true := by
  intro m
  induction m with
  | zero =>
    intro x p h hx
    have e : x = [] := List.length_eq_zero_iff.mp (by omega)
    subst e
    cases hx
  | succ m ih =>
    intro x p h hx
    cases x with
    | nil => cases hx
    | cons k y =>
      have hy : y.length ≤ m := by simpa using h
      rw [rd1_cons] at hx
      have hrow : ∀ z u, z.length ≤ m → rdR z = some u → okSp u.1 = true := fun z u hz hu => by
        cases z with
        | nil => cases hu
        | cons c r =>
          simp only [rdR, rdRow] at hu
          split at hu
          · exact rdPs_ok rd1_less ih (by simp only [List.length_cons] at hz; omega) hu
          · cases hu
      unfold rdKind at hx
      repeat' split at hx
      · simp only [Option.map_eq_some_iff] at hx
        obtain ⟨w, hw, rfl⟩ := hx
        obtain ⟨h1, h2⟩ := rText_ok hw (by omega)
        simp only [Pc.okSp, h1, Bool.and_true, Bool.not_eq_true', List.isEmpty_eq_false_iff]
        intro e
        rw [e] at h2
        simp at h2
      · simp only [Option.map_eq_some_iff] at hx
        obtain ⟨w, hw, rfl⟩ := hx
        have h1 := rSpan_ok hw (by omega)
        simp only [Pc.okSp, Bool.and_eq_true, decide_eq_true_eq]
        omega
      · simp only [Option.map_eq_some_iff] at hx
        obtain ⟨w, hw, rfl⟩ := hx
        have h1 := rSpan_ok hw (by omega)
        simp only [Pc.okSp, Bool.and_eq_true, decide_eq_true_eq]
        omega
      · simp only [Option.map_eq_some_iff, Option.bind_eq_some_iff] at hx
        obtain ⟨a, ha, b, hb, rfl⟩ := hx
        have := rdR_le ha
        simp only [Pc.okSp, hrow _ _ hy ha, hrow _ _ (by omega) hb, Bool.and_true]
      · simp only [Option.map_eq_some_iff] at hx
        obtain ⟨w, hw, rfl⟩ := hx
        exact hrow _ _ hy hw
      · simp only [Option.map_eq_some_iff, Option.bind_eq_some_iff] at hx
        obtain ⟨s, hs, u, hu, a, ha, rfl⟩ := hx
        have h1 := rText_le hs
        have h2 := rSpan_le hu
        have h3 := rSpan_ok hu (by omega)
        simp only [Pc.okSp, (rText_ok hs (by omega)).1, hrow _ _ (show u.2.length ≤ m by omega) ha, Bool.and_true, Bool.true_and, Bool.and_eq_true, decide_eq_true_eq]
        omega
      · cases hx
theorem rdR_ok {x : List Int} {u : Fmt × List Int} (h : rdR x = some u) : okSp u.1 = true := by
  cases x with
  | nil => cases h
  | cons c r =>
    simp only [rdR, rdRow] at h
    split at h
    · exact rdPs_ok rd1_less (rd1_ok r.length) (Nat.le_refl _) h
    · cases h
end Asc
/-! The program's readers against the Spec's. -/
namespace Asc
open VafmsBase (Fmt Text Value)

theorem readNat_cons (lo hi : Nat) (z : Int) (r : List Int) : VafmsBase.readNat lo hi (z :: r) = if (lo : Int) ≤ z ∧ z ≤ (hi : Int) then some (z.toNat, r) else none := rfl
theorem readTimes_nat (lo hi : Nat) : ∀ (n : Nat) (x : List Int), VafmsBase.readTimes (VafmsBase.readNat lo hi) n x =
    if n ≤ x.length ∧ (x.take n).all (fun b => decide ((lo : Int) ≤ b) && decide (b ≤ (hi : Int))) = true then some ((x.take n).map Int.toNat, x.drop n) else none
  | 0, x => by simp [VafmsBase.readTimes]
  | n + 1, [] => by simp [VafmsBase.readTimes, VafmsBase.readNat]
  | n + 1, z :: r => by
    simp only [VafmsBase.readTimes, readNat_cons, List.length_cons, List.take_succ_cons, List.all_cons, List.map_cons, List.drop_succ_cons]
    by_cases c : (lo : Int) ≤ z ∧ z ≤ (hi : Int)
    · rw [if_pos c]
      simp only [Option.bind_some, readTimes_nat lo hi n r]
      by_cases d : n ≤ r.length ∧ (r.take n).all (fun b => decide ((lo : Int) ≤ b) && decide (b ≤ (hi : Int))) = true
      · rw [if_pos d, if_pos (by rw [d.2]; exact ⟨by omega, by simp [c.1, c.2]⟩)]
        rfl
      · rw [if_neg d, if_neg (fun q => d ⟨by omega, by simpa [c.1, c.2] using q.2⟩)]
        rfl
    · rw [if_neg c, if_neg (fun q => c (by
        have := q.2
        simp only [Bool.and_eq_true, decide_eq_true_eq] at this
        exact this.1))]
      rfl
theorem readText_eq (most : Nat) (x : List Int) : VafmsBase.readText most x = rText 0 most x := by
  cases x with
  | nil => rfl
  | cons z r =>
    show (VafmsBase.readNat 0 most (z :: r)).bind (fun n => VafmsBase.readTimes (VafmsBase.readNat 32 126) n.1 n.2) = _
    rw [readNat_cons]
    simp only [rText]
    by_cases c : ((0 : Nat) : Int) ≤ z ∧ z ≤ (most : Int)
    · rw [if_pos c]
      simp only [Option.bind_some, readTimes_nat]
      have e : (fun b : Int => decide (((32 : Nat) : Int) ≤ b) && decide (b ≤ ((126 : Nat) : Int))) = okB := rfl
      rw [e]
      by_cases d : z.toNat ≤ r.length ∧ (r.take z.toNat).all okB = true
      · rw [if_pos d, if_pos ⟨c.1, c.2, by omega, d.2⟩]
      · rw [if_neg d, if_neg (fun q => d ⟨by omega, q.2.2.2⟩)]
    · rw [if_neg c, if_neg (fun q => c ⟨q.1, q.2.1⟩)]
      rfl
/-- two numbers of the Spec are a span if lo is not above hi -/
theorem readSpan_eq (lo hi : Nat) (x : List Int) : VafmsBase.readPair (VafmsBase.readNat lo hi) (VafmsBase.readNat lo hi) x =
    match x with
    | a :: b :: r => if ((lo : Int) ≤ a ∧ a ≤ (hi : Int)) ∧ ((lo : Int) ≤ b ∧ b ≤ (hi : Int)) then some ((a.toNat, b.toNat), r) else none
    | _ => none := by
  match x with
  | [] => rfl
  | [a] =>
    show (VafmsBase.readNat lo hi [a]).bind _ = none
    rw [readNat_cons]
    split <;> rfl
  | a :: b :: r =>
    show (VafmsBase.readNat lo hi (a :: b :: r)).bind _ = _
    rw [readNat_cons]
    by_cases c : (lo : Int) ≤ a ∧ a ≤ (hi : Int)
    · rw [if_pos c]
      show (VafmsBase.readNat lo hi (b :: r)).map _ = _
      rw [readNat_cons]
      by_cases d : (lo : Int) ≤ b ∧ b ≤ (hi : Int)
      · rw [if_pos d]
        simp only
        rw [if_pos ⟨c, d⟩]
        rfl
      · rw [if_neg d]
        simp only
        rw [if_neg (fun q => d q.2)]
        rfl
    · rw [if_neg c]
      simp only
      rw [if_neg (fun q => c q.1)]
      rfl
theorem span_some {lo hi : Nat} {x : List Int} {u : (Nat × Nat) × List Int} (h : VafmsBase.readPair (VafmsBase.readNat lo hi) (VafmsBase.readNat lo hi) x = some u) (c : u.1.1 ≤ u.1.2) : rSpan lo hi x = some u := by
  rw [readSpan_eq] at h
  match x, h with
  | a :: b :: r, h =>
    simp only at h
    split at h
    · rename_i q
      have e := Option.some.inj h
      subst e
      simp only [rSpan]
      rw [if_pos (by simp only at c; omega)]
    · cases h
theorem some_span {lo hi : Nat} {x : List Int} {u : (Nat × Nat) × List Int} (h : rSpan lo hi x = some u) : VafmsBase.readPair (VafmsBase.readNat lo hi) (VafmsBase.readNat lo hi) x = some u := by
  rw [readSpan_eq]
  match x, h with
  | a :: b :: r, h =>
    simp only [rSpan] at h
    split at h
    · rename_i q
      have e := Option.some.inj h
      subst e
      simp only
      rw [if_pos (by omega)]
    · cases h
/-- the Spec's row -/
def sRow (f : Nat) (y : List Int) : Option (Fmt × List Int) := (VafmsBase.readNat 0 VafmsBase.PIECES y).bind fun k => VafmsBase.readPieces f k.1 k.2
/-- the Spec's piece -/
def sKind (f : Nat) (k : Int) (y : List Int) : Option (Pc × List Int) :=
  if k = 0 then (VafmsBase.readText VafmsBase.LITERAL y).map fun w => (.lit w.1, w.2)
  else if k = 1 then (VafmsBase.readPair (VafmsBase.readNat 1 VafmsBase.DIGITS) (VafmsBase.readNat 1 VafmsBase.DIGITS) y).map fun u => (.num u.1.1 u.1.2, u.2)
  else if k = 2 then (VafmsBase.readPair (VafmsBase.readNat 1 VafmsBase.LETTERS) (VafmsBase.readNat 1 VafmsBase.LETTERS) y).map fun u => (.word u.1.1 u.1.2, u.2)
  else if k = 3 then (sRow f y).bind fun a => (sRow f a.2).map fun b => (.alt a.1 b.1, b.2)
  else if k = 4 then (sRow f y).map fun a => (.opt a.1, a.2)
  else if k = 5 then (VafmsBase.readText VafmsBase.LITERAL y).bind fun s => (VafmsBase.readPair (VafmsBase.readNat 0 VafmsBase.TIMES) (VafmsBase.readNat 0 VafmsBase.TIMES) s.2).bind fun u => (sRow f u.2).map fun a => (.rep s.1 u.1.1 u.1.2 a.1, a.2)
  else none
theorem readPieces_zero (f : Nat) (x : List Int) : VafmsBase.readPieces (f + 1) 0 x = some (.done, x) := by
  simp [VafmsBase.readPieces]
theorem readPieces_nil (f n : Nat) : VafmsBase.readPieces (f + 1) (n + 1) [] = none := by
  simp [VafmsBase.readPieces]
theorem readPieces_cons (f n : Nat) (k : Int) (y : List Int) : VafmsBase.readPieces (f + 1) (n + 1) (k :: y) = (sKind f k y).bind fun p => (VafmsBase.readPieces f n p.2).map fun r => (p.1.cons r.1, r.2) := by
  by_cases k0 : k = 0
  · subst k0
    rw [VafmsBase.readPieces, if_neg (by omega)]
    show (VafmsBase.readText VafmsBase.LITERAL y).bind _ = ((VafmsBase.readText VafmsBase.LITERAL y).map _).bind _
    cases VafmsBase.readText VafmsBase.LITERAL y <;> rfl
  by_cases k1 : k = 1
  · subst k1
    rw [VafmsBase.readPieces, if_neg (by omega)]
    show Option.bind _ _ = ((VafmsBase.readPair (VafmsBase.readNat 1 VafmsBase.DIGITS) (VafmsBase.readNat 1 VafmsBase.DIGITS) y).map _).bind _
    cases VafmsBase.readPair (VafmsBase.readNat 1 VafmsBase.DIGITS) (VafmsBase.readNat 1 VafmsBase.DIGITS) y <;> rfl
  by_cases k2 : k = 2
  · subst k2
    rw [VafmsBase.readPieces, if_neg (by omega)]
    show Option.bind _ _ = ((VafmsBase.readPair (VafmsBase.readNat 1 VafmsBase.LETTERS) (VafmsBase.readNat 1 VafmsBase.LETTERS) y).map _).bind _
    cases VafmsBase.readPair (VafmsBase.readNat 1 VafmsBase.LETTERS) (VafmsBase.readNat 1 VafmsBase.LETTERS) y <;> rfl
  by_cases k3 : k = 3
  · subst k3
    rw [VafmsBase.readPieces, if_neg (by omega)]
    show (sRow f y).bind (fun a => (sRow f a.2).bind fun b => (VafmsBase.readPieces f n b.2).map fun r => (Fmt.alt a.1 b.1 r.1, r.2)) = ((sRow f y).bind fun a => (sRow f a.2).map fun b => (Pc.alt a.1 b.1, b.2)).bind _
    cases sRow f y with
    | none => rfl
    | some a =>
      simp only [Option.bind_some]
      cases sRow f a.2 <;> rfl
  by_cases k4 : k = 4
  · subst k4
    rw [VafmsBase.readPieces, if_neg (by omega)]
    show (sRow f y).bind (fun a => (VafmsBase.readPieces f n a.2).map fun r => (Fmt.opt a.1 r.1, r.2)) = ((sRow f y).map fun a => (Pc.opt a.1, a.2)).bind _
    cases sRow f y <;> rfl
  by_cases k5 : k = 5
  · subst k5
    rw [VafmsBase.readPieces, if_neg (by omega)]
    show ((VafmsBase.readText VafmsBase.LITERAL y).bind fun u => (VafmsBase.readPair (VafmsBase.readNat 0 VafmsBase.TIMES) (VafmsBase.readNat 0 VafmsBase.TIMES) u.2).map fun v => ((u.1, v.1), v.2)).bind (fun u => (sRow f u.2).bind fun a => (VafmsBase.readPieces f n a.2).map fun r => (Fmt.rep u.1.1 u.1.2.1 u.1.2.2 a.1 r.1, r.2)) =
      ((VafmsBase.readText VafmsBase.LITERAL y).bind fun s => (VafmsBase.readPair (VafmsBase.readNat 0 VafmsBase.TIMES) (VafmsBase.readNat 0 VafmsBase.TIMES) s.2).bind fun u => (sRow f u.2).map fun a => (Pc.rep s.1 u.1.1 u.1.2 a.1, a.2)).bind fun p => (VafmsBase.readPieces f n p.2).map fun r => (p.1.cons r.1, r.2)
    cases VafmsBase.readText VafmsBase.LITERAL y with
    | none => rfl
    | some s =>
      simp only [Option.bind_some]
      cases VafmsBase.readPair (VafmsBase.readNat 0 VafmsBase.TIMES) (VafmsBase.readNat 0 VafmsBase.TIMES) s.2 with
      | none => rfl
      | some u =>
        simp only [Option.bind_some, Option.map_some]
        cases sRow f u.2 <;> rfl
  · have e : sKind f k y = none := by
      unfold sKind
      rw [if_neg k0, if_neg k1, if_neg k2, if_neg k3, if_neg k4, if_neg k5]
    rw [e, VafmsBase.readPieces, if_neg (by omega)]
    · rfl
    all_goals (intro z q; injection q with q1 q2; omega)
/-- what the Spec reads, within the limits, the program reads -/
theorem spec_prog : ∀ (F n : Nat) (x : List Int) (u : Fmt × List Int), x.length + 1 ≤ F → VafmsBase.readPieces F n x = some u → okSp u.1 = true → rdPs rd1 n x = some u
  | 0, n, x, u, h, _, _ => by omega
  | F + 1, 0, x, u, h, hu, _ => by
    rw [readPieces_zero] at hu
    exact hu
  | F + 1, n + 1, [], u, h, hu, _ => by
    rw [readPieces_nil] at hu
    cases hu
  | F + 1, n + 1, k :: y, u, h, hu, ho => by
    rw [readPieces_cons] at hu
    simp only [Option.bind_eq_some_iff, Option.map_eq_some_iff] at hu
    obtain ⟨p, hp, r, hr, rfl⟩ := hu
    simp only at ho hr
    rw [okSp_cons, Bool.and_eq_true] at ho
    have hy : y.length + 1 ≤ F := by simpa using h
    have row : ∀ z v, z.length ≤ y.length → sRow F z = some v → okSp v.1 = true → rdR z = some v := fun z v hz hv hov => by
      unfold sRow at hv
      cases z with
      | nil => cases hv
      | cons c s =>
        rw [readNat_cons] at hv
        split at hv
        · rename_i cc
          simp only [rdR, rdRow]
          rw [if_pos (show 0 ≤ c by omega)]
          exact spec_prog F _ s v (by simp only [List.length_cons] at hz; omega) hv hov
        · cases hv
    have hk : rd1 (k :: y) = some p := by
      rw [rd1_cons]
      unfold sKind at hp
      unfold rdKind
      have ho1 := ho.1
      repeat' split at hp
      · rename_i e
        rw [if_pos e]
        simp only [Option.map_eq_some_iff] at hp ⊢
        obtain ⟨w, hw, rfl⟩ := hp
        refine ⟨w, ?_, rfl⟩
        rw [readText_eq] at hw
        have hne : w.1 ≠ [] := by
          simp only [Pc.okSp, Bool.and_eq_true, Bool.not_eq_true', List.isEmpty_eq_false_iff] at ho1
          exact ho1.1
        cases y with
        | nil => cases hw
        | cons c s =>
          simp only [rText] at hw ⊢
          split at hw
          · rename_i cc
            have e2 := Option.some.inj hw
            subst e2
            have h0 : c.toNat ≠ 0 := fun e3 => hne (by simp [e3])
            have h1 : (1 : Int) ≤ c := by omega
            rw [if_pos ⟨h1, cc.2⟩]
          · cases hw
      · rename_i e0 e
        rw [if_neg e0, if_pos e]
        simp only [Option.map_eq_some_iff] at hp ⊢
        obtain ⟨w, hw, rfl⟩ := hp
        refine ⟨w, span_some hw ?_, rfl⟩
        simp only [Pc.okSp, Bool.and_eq_true, decide_eq_true_eq] at ho1
        exact ho1.2.1
      · rename_i e0 e1 e
        rw [if_neg e0, if_neg e1, if_pos e]
        simp only [Option.map_eq_some_iff] at hp ⊢
        obtain ⟨w, hw, rfl⟩ := hp
        refine ⟨w, span_some hw ?_, rfl⟩
        simp only [Pc.okSp, Bool.and_eq_true, decide_eq_true_eq] at ho1
        exact ho1.2.1
      · rename_i e0 e1 e2 e
        rw [if_neg e0, if_neg e1, if_neg e2, if_pos e]
        simp only [Option.map_eq_some_iff, Option.bind_eq_some_iff] at hp ⊢
        obtain ⟨a, ha, b, hb, rfl⟩ := hp
        simp only [Pc.okSp, Bool.and_eq_true] at ho1
        have ha' := row y a (Nat.le_refl _) ha ho1.1
        have := rdR_le ha'
        exact ⟨a, ha', b, row _ b (by omega) hb ho1.2, rfl⟩
      · rename_i e0 e1 e2 e3 e
        rw [if_neg e0, if_neg e1, if_neg e2, if_neg e3, if_pos e]
        simp only [Option.map_eq_some_iff] at hp ⊢
        obtain ⟨a, ha, rfl⟩ := hp
        exact ⟨a, row y a (Nat.le_refl _) ha ho1, rfl⟩
      · rename_i e0 e1 e2 e3 e4 e
        rw [if_neg e0, if_neg e1, if_neg e2, if_neg e3, if_neg e4, if_pos e]
        simp only [Option.map_eq_some_iff, Option.bind_eq_some_iff] at hp ⊢
        obtain ⟨s, hs, v, hv, a, ha, rfl⟩ := hp
        simp only [Pc.okSp, Bool.and_eq_true, decide_eq_true_eq] at ho1
        rw [readText_eq] at hs
        have hv' := span_some hv ho1.2.1
        have := rText_le hs
        have := rSpan_le hv'
        exact ⟨s, hs, v, hv', a, row _ a (by omega) ha ho1.2.2.2, rfl⟩
      · cases hp
    simp only [rdPs, hk, Option.bind_some]
    have := rd1_less _ _ hk
    rw [spec_prog F n p.2 r (by simp only [List.length_cons] at this; omega) hr ho.2]
    rfl
theorem row_le_size : ∀ (n : Nat) (x : List Int) (u : Fmt × List Int), rdPs rd1 n x = some u → n ≤ u.1.size
  | 0, x, u, _ => Nat.zero_le _
  | n + 1, x, u, h => by
    simp only [rdPs, Option.bind_eq_some_iff, Option.map_eq_some_iff] at h
    obtain ⟨p, hp, r, hr, rfl⟩ := h
    have := row_le_size n _ r hr
    simp only
    rw [size_cons]
    have : 1 ≤ p.1.size := by cases p.1 <;> simp [Pc.size]
    omega
/-- what the program reads, of few pieces, the Spec reads -/
theorem prog_spec : ∀ (F n : Nat) (x : List Int) (u : Fmt × List Int), x.length + 1 ≤ F → rdPs rd1 n x = some u → u.1.size ≤ 14 → VafmsBase.readPieces F n x = some u
  | 0, n, x, u, h, _, _ => by omega
  | F + 1, 0, x, u, h, hu, _ => by
    rw [readPieces_zero]
    exact hu
  | F + 1, n + 1, [], u, h, hu, _ => by
    simp [rdPs, rd1_nil] at hu
  | F + 1, n + 1, k :: y, u, h, hu, ho => by
    simp only [rdPs, Option.bind_eq_some_iff, Option.map_eq_some_iff] at hu
    obtain ⟨p, hp, r, hr, rfl⟩ := hu
    simp only at ho
    rw [size_cons] at ho
    have hy : y.length + 1 ≤ F := by simpa using h
    have row : ∀ z v, z.length ≤ y.length → rdR z = some v → v.1.size ≤ 14 → sRow F z = some v := fun z v hz hv hov => by
      unfold sRow
      cases z with
      | nil => cases hv
      | cons c s =>
        simp only [rdR, rdRow] at hv
        split at hv
        · rename_i cc
          rw [readNat_cons]
          have q := row_le_size _ _ _ hv
          rw [if_pos ⟨cc, by show c ≤ ((14 : Nat) : Int); omega⟩]
          exact prog_spec F _ s v (by simp only [List.length_cons] at hz; omega) hv hov
        · cases hv
    rw [readPieces_cons]
    have less := rd1_less _ _ hp
    have hk : sKind F k y = some p := by
      rw [rd1_cons] at hp
      unfold rdKind at hp
      unfold sKind
      repeat' split at hp
      · rename_i e
        rw [if_pos e]
        simp only [Option.map_eq_some_iff] at hp ⊢
        obtain ⟨w, hw, rfl⟩ := hp
        refine ⟨w, ?_, rfl⟩
        rw [readText_eq]
        cases y with
        | nil => cases hw
        | cons c s =>
          simp only [rText] at hw ⊢
          split at hw
          · rename_i cc
            rw [if_pos ⟨by omega, cc.2⟩]
            exact hw
          · cases hw
      · rename_i e0 e
        rw [if_neg e0, if_pos e]
        simp only [Option.map_eq_some_iff] at hp ⊢
        obtain ⟨w, hw, rfl⟩ := hp
        exact ⟨w, some_span hw, rfl⟩
      · rename_i e0 e1 e
        rw [if_neg e0, if_neg e1, if_pos e]
        simp only [Option.map_eq_some_iff] at hp ⊢
        obtain ⟨w, hw, rfl⟩ := hp
        exact ⟨w, some_span hw, rfl⟩
      · rename_i e0 e1 e2 e
        rw [if_neg e0, if_neg e1, if_neg e2, if_pos e]
        simp only [Option.map_eq_some_iff, Option.bind_eq_some_iff] at hp ⊢
        obtain ⟨a, ha, b, hb, rfl⟩ := hp
        simp only [Pc.size] at ho
        have := rdR_le ha
        exact ⟨a, row y a (Nat.le_refl _) ha (by omega), b, row _ b (by omega) hb (by omega), rfl⟩
      · rename_i e0 e1 e2 e3 e
        rw [if_neg e0, if_neg e1, if_neg e2, if_neg e3, if_pos e]
        simp only [Option.map_eq_some_iff] at hp ⊢
        obtain ⟨a, ha, rfl⟩ := hp
        simp only [Pc.size] at ho
        exact ⟨a, row y a (Nat.le_refl _) ha (by omega), rfl⟩
      · rename_i e0 e1 e2 e3 e4 e
        rw [if_neg e0, if_neg e1, if_neg e2, if_neg e3, if_neg e4, if_pos e]
        simp only [Option.map_eq_some_iff, Option.bind_eq_some_iff] at hp ⊢
        obtain ⟨s, hs, v, hv, a, ha, rfl⟩ := hp
        simp only [Pc.size] at ho
        have := rText_le hs
        have := rSpan_le hv
        exact ⟨s, by rw [readText_eq]; exact hs, v, some_span hv, a, row _ a (by omega) ha (by omega), rfl⟩
      · cases hp
    rw [hk]
    simp only [Option.bind_some]
    rw [prog_spec F n p.2 r (by simp only [List.length_cons] at less; omega) hr (by omega)]
    rfl
/-- the format that the program takes -/
def fmtIn (x : List Int) : Option Fmt := match rdR x with
  | some (f, []) => if f.size ≤ 14 ∧ f.holes ≤ 8 ∧ bad f = false then some f else none
  | _ => none
theorem fmt_is (x : List Int) : VafmsBase.whole VafmsBase.readFmt x = fmtIn x := by
  have key : ∀ f, VafmsBase.readFmt x = some (f, []) ↔ rdR x = some (f, []) ∧ f.size ≤ 14 ∧ f.holes ≤ 8 ∧ bad f = false := fun f => by
    unfold VafmsBase.readFmt
    cases x with
    | nil =>
      constructor
      · intro h
        cases h
      · intro h
        cases h.1
    | cons z r =>
      rw [readNat_cons]
      constructor
      · intro h
        split at h
        · rename_i c
          simp only [Option.bind_some, Option.bind_eq_some_iff] at h
          obtain ⟨u, hu, h⟩ := h
          split at h
          · rename_i ok
            have e := Option.some.inj h
            subst e
            unfold VafmsBase.okFmt at ok
            simp only [Bool.and_eq_true, decide_eq_true_eq, okPieces_iff, Bool.not_eq_true'] at ok
            refine ⟨?_, ok.2.1, ok.2.2, ok.1.2⟩
            simp only [rdR, rdRow]
            rw [if_pos (show 0 ≤ z by omega)]
            exact spec_prog _ _ _ _ (by simp only [List.length_cons]; omega) hu ok.1.1
          · cases h
        · cases h
      · rintro ⟨h, h1, h2, h3⟩
        have ho := rdR_ok h
        simp only [rdR, rdRow] at h
        split at h
        · rename_i c
          have q := row_le_size _ _ _ h
          rw [if_pos ⟨c, by show z ≤ ((14 : Nat) : Int); simp only at q; omega⟩]
          simp only [Option.bind_some]
          rw [prog_spec _ _ _ _ (by simp only [List.length_cons]; omega) h h1]
          simp only [Option.bind_some]
          rw [if_pos]
          unfold VafmsBase.okFmt
          simp only [Bool.and_eq_true, decide_eq_true_eq, okPieces_iff, Bool.not_eq_true']
          exact ⟨⟨ho, h3⟩, h1, h2⟩
        · cases h
  unfold VafmsBase.whole fmtIn
  cases hr : VafmsBase.readFmt x with
  | none =>
    cases hp : rdR x with
    | none => rfl
    | some u =>
      obtain ⟨f, t⟩ := u
      cases t with
      | cons a t => rfl
      | nil =>
        simp only
        rw [if_neg]
        intro c
        have := (key f).mpr ⟨hp, c⟩
        rw [hr] at this
        cases this
  | some u =>
    obtain ⟨f, t⟩ := u
    cases t with
    | nil =>
      have := (key f).mp hr
      rw [this.1]
      simp only
      rw [if_pos this.2]
    | cons a t =>
      simp only
      cases hp : rdR x with
      | none => rfl
      | some u =>
        obtain ⟨g, t2⟩ := u
        cases t2 with
        | cons a t => rfl
        | nil =>
          simp only
          rw [if_neg]
          intro c
          have := (key g).mpr ⟨hp, c⟩
          rw [hr] at this
          cases this
/-- a format that was taken is within the limits -/
theorem fmtIn_ok {x : List Int} {f : Fmt} (h : fmtIn x = some f) : okSp f = true ∧ f.size ≤ 14 ∧ f.holes ≤ 8 ∧ bad f = false := by
  unfold fmtIn at h
  split at h
  · rename_i g e
    split at h
    · rename_i c
      have e2 := Option.some.inj h
      subst e2
      exact ⟨rdR_ok e, c⟩
    · cases h
  · cases h
/-- texts, values -/
def textIn (x : List Int) : Option Text := match rText 0 24 x with
  | some (t, []) => some t
  | _ => none
theorem text_is (x : List Int) : Vafmsb.textOf x = textIn x := by
  show VafmsBase.whole (VafmsBase.readText 24) x = _
  unfold VafmsBase.whole textIn
  have e : VafmsBase.readText 24 x = rText 0 24 x := readText_eq 24 x
  rw [e]
  rcases rText 0 24 x with _ | ⟨t, _ | _⟩ <;> rfl
def valueIn : List Int → Option Value
  | [] => none
  | z :: r => if z = (r.length : Int) ∧ z ≤ 40 ∧ r.all (fun b => decide (0 ≤ b) && decide (b ≤ 9999)) = true then some (r.map Int.toNat) else none
theorem value_is (x : List Int) : Vafmsb.valueOf x = valueIn x := by
  show VafmsBase.whole (VafmsBase.readListed 0 40 (VafmsBase.readNat 0 9999)) x = _
  cases x with
  | nil => rfl
  | cons z r =>
    unfold VafmsBase.whole
    have e0 : VafmsBase.readListed 0 40 (VafmsBase.readNat 0 9999) (z :: r) = (VafmsBase.readNat 0 40 (z :: r)).bind (fun n => VafmsBase.readTimes (VafmsBase.readNat 0 9999) n.1 n.2) := rfl
    rw [e0, readNat_cons]
    simp only [valueIn]
    by_cases c : ((0 : Nat) : Int) ≤ z ∧ z ≤ ((40 : Nat) : Int)
    · rw [if_pos c]
      simp only [Option.bind_some, readTimes_nat]
      by_cases d : z = (r.length : Int)
      · have e : z.toNat = r.length := by omega
        rw [e, List.take_length, List.drop_length]
        by_cases q : r.all (fun b => decide (0 ≤ b) && decide (b ≤ 9999)) = true
        · rw [if_pos ⟨Nat.le_refl _, q⟩, if_pos ⟨d, c.2, q⟩]
        · rw [if_neg (fun w => q w.2), if_neg (fun w => q w.2.2)]
      · rw [if_neg (show ¬ (z = (r.length : Int) ∧ z ≤ 40 ∧ (r.all fun b => decide (0 ≤ b) && decide (b ≤ 9999)) = true) from fun w => d w.1)]
        split
        · rename_i u t e
          split at e
          · rename_i w
            have e2 := Option.some.inj e
            have e3 : r.drop z.toNat = [] := congrArg (·.2) e2
            have := List.drop_eq_nil_iff.mp e3
            exfalso
            omega
          · cases e
        · rfl
    · rw [if_neg c, if_neg (fun w => c ⟨by omega, w.2.1⟩)]
      rfl
end Asc
/-! Prints, piece by piece; scannings, piece by piece; a print is scanned again. -/
namespace Asc
open VafmsBase (Fmt Text Value)

/-! ### digits -/
theorem digitChar_nat : ∀ k : Nat, k < 10 → (Nat.digitChar k).toNat = 48 + k := by decide
theorem digits_if (n : Nat) : VafmsBase.digitsOf n = if n < 10 then [48 + n] else VafmsBase.digitsOf (n / 10) ++ [48 + n % 10] := by
  unfold VafmsBase.digitsOf
  rw [Nat.toDigits_eq_if (by decide)]
  by_cases h : n < 10
  · rw [if_pos h, if_pos h]
    simp [digitChar_nat n h]
  · rw [if_neg h, if_neg h, List.map_append]
    simp [digitChar_nat (n % 10) (Nat.mod_lt _ (by decide))]
theorem digits_ne (n : Nat) : VafmsBase.digitsOf n ≠ [] := by
  rw [digits_if]
  split <;> simp
theorem digits_all (n : Nat) : (VafmsBase.digitsOf n).all VafmsBase.isDigit = true := by
  induction n using Nat.strongRecOn with
  | ind n ih =>
    rw [digits_if]
    split
    · simp [VafmsBase.isDigit]
      omega
    · rename_i h
      rw [List.all_append, ih (n / 10) (by omega)]
      have := Nat.mod_lt n (show 10 > 0 by decide)
      simp [VafmsBase.isDigit]
      omega
theorem digits_num (n : Nat) : VafmsBase.numberOf (VafmsBase.digitsOf n) = n := by
  induction n using Nat.strongRecOn with
  | ind n ih =>
    rw [digits_if]
    split
    · simp [VafmsBase.numberOf]
    · rename_i h
      have e := ih (n / 10) (by omega)
      unfold VafmsBase.numberOf at e ⊢
      rw [List.foldl_append, e]
      simp only [List.foldl_cons, List.foldl_nil]
      omega
theorem digits_head (n : Nat) (h : n ≠ 0) : (VafmsBase.digitsOf n).head? ≠ some 48 := by
  induction n using Nat.strongRecOn with
  | ind n ih =>
    rw [digits_if]
    split
    · simp
      omega
    · rename_i c
      have := ih (n / 10) (by omega) (by omega)
      have ne := digits_ne (n / 10)
      cases hd : VafmsBase.digitsOf (n / 10) with
      | nil => exact absurd hd ne
      | cons a r =>
        rw [hd] at this
        simpa using this
theorem digits_zero : VafmsBase.digitsOf 0 = [48] := by rw [digits_if]; rfl
theorem pad_num (k : Nat) (d : Text) : VafmsBase.numberOf (List.replicate k 48 ++ d) = VafmsBase.numberOf d := by
  unfold VafmsBase.numberOf
  rw [List.foldl_append]
  have e : (List.replicate k 48).foldl (fun n b => 10 * n + (b - 48)) 0 = 0 := by
    induction k with
    | zero => rfl
    | succ k ih => rw [List.replicate_succ, List.foldl_cons]; exact ih
  rw [e]

/-! ### prints -/
def prP : Pc → Value → Option (Text × Value)
  | .lit w, v => some (w, v)
  | .num lo hi, v => match v with
    | [] => none
    | n :: u => (VafmsBase.printNum lo hi n).map fun d => (d, u)
  | .word lo hi, v => match v with
    | [] => none
    | k :: u => if k < lo ∨ hi < k ∨ u.length < k then none else (VafmsBase.printWord (u.take k)).map fun d => (d, u.drop k)
  | .alt a b, v => match v with
    | 0 :: u => VafmsBase.printed a u
    | 1 :: u => VafmsBase.printed b u
    | _ => none
  | .opt a, v => match v with
    | 0 :: u => some ([], u)
    | 1 :: u => VafmsBase.printed a u
    | _ => none
  | .rep s lo hi a, v => match v with
    | [] => none
    | n :: u => if n < lo ∨ hi < n then none else VafmsBase.printTimes (VafmsBase.printed a) s n true u
theorem printed_cons (p : Pc) (r : Fmt) (v : Value) : VafmsBase.printed (p.cons r) v = (prP p v).bind fun x => (VafmsBase.printed r x.2).map fun y => (x.1 ++ y.1, y.2) := by
  cases p with
  | lit w => rfl
  | num lo hi =>
    cases v with
    | nil => rfl
    | cons n u =>
      show (VafmsBase.printNum lo hi n).bind _ = ((VafmsBase.printNum lo hi n).map _).bind _
      cases VafmsBase.printNum lo hi n <;> rfl
  | word lo hi =>
    cases v with
    | nil => rfl
    | cons k u =>
      simp only [Pc.cons, VafmsBase.printed, prP]
      split
      · rfl
      · cases VafmsBase.printWord (u.take k) <;> rfl
  | alt a b =>
    match v with
    | [] => rfl
    | 0 :: u => rfl
    | 1 :: u => rfl
    | (n + 2) :: u => rfl
  | opt a =>
    match v with
    | [] => rfl
    | 0 :: u =>
      show VafmsBase.printed r u = (VafmsBase.printed r u).map fun y => ([] ++ y.1, y.2)
      cases VafmsBase.printed r u <;> rfl
    | 1 :: u => rfl
    | (n + 2) :: u => rfl
  | rep s lo hi a =>
    cases v with
    | nil => rfl
    | cons n u =>
      simp only [Pc.cons, VafmsBase.printed, prP]
      split <;> rfl
/-- how long a print can be -/
def wide : Fmt → Nat
  | .done => 0
  | .lit w r => w.length + wide r
  | .num _ hi r => hi + wide r
  | .word _ hi r => hi + wide r
  | .alt a b r => wide a + wide b + wide r
  | .opt a r => wide a + wide r
  | .rep s _ hi a r => hi * (s.length + wide a) + wide r
def Pc.wide : Pc → Nat
  | .lit w => w.length
  | .num _ hi => hi
  | .word _ hi => hi
  | .alt a b => Asc.wide a + Asc.wide b
  | .opt a => Asc.wide a
  | .rep s _ hi a => hi * (s.length + Asc.wide a)
theorem wide_cons (p : Pc) (r : Fmt) : wide (p.cons r) = p.wide + wide r := by
  cases p <;> simp only [Pc.cons, wide, Pc.wide]
theorem printNum_le {lo hi n : Nat} {d : Text} (h : VafmsBase.printNum lo hi n = some d) : d.length ≤ hi := by
  unfold VafmsBase.printNum at h
  simp only at h
  split at h
  · split at h
    · have e := Option.some.inj h
      subst e
      simp only [List.length_append, List.length_replicate]
      omega
    · cases h
  · split at h
    · have e := Option.some.inj h
      subst e
      omega
    · cases h
theorem printWord_le {l : List Nat} {d : Text} (h : VafmsBase.printWord l = some d) : d = l.map (fun x => 97 + x) ∧ l.all (fun x => decide (x < 26)) = true := by
  unfold VafmsBase.printWord at h
  split at h
  · rename_i c
    exact ⟨(Option.some.inj h).symm, c⟩
  · cases h
theorem times_le {p : Value → Option (Text × Value)} {m : Nat} (hp : ∀ v x, p v = some x → x.1.length ≤ m) (s : Text) : ∀ (n : Nat) (b : Bool) (v : Value) (x : Text × Value), VafmsBase.printTimes p s n b v = some x → x.1.length ≤ n * (s.length + m)
  | 0, b, v, x, h => by
    have e := Option.some.inj (show some ([], v) = some x from h)
    subst e
    simp
  | n + 1, b, v, x, h => by
    simp only [VafmsBase.printTimes, Option.bind_eq_some_iff, Option.map_eq_some_iff] at h
    obtain ⟨y, hy, z, hz, rfl⟩ := h
    have h1 := hp v y hy
    have h2 := times_le hp s n false _ z hz
    have h3 : (n + 1) * (s.length + m) = n * (s.length + m) + (s.length + m) := Nat.succ_mul _ _
    simp only [List.length_append]
    cases b <;> simp <;> omega
theorem printed_le_cons (p : Pc) (r : Fmt) (hp : ∀ v y, prP p v = some y → y.1.length ≤ p.wide) (hr : ∀ v y, VafmsBase.printed r v = some y → y.1.length ≤ wide r) (v : Value) (x : Text × Value) (h : VafmsBase.printed (p.cons r) v = some x) : x.1.length ≤ wide (p.cons r) := by
  rw [printed_cons] at h
  simp only [Option.bind_eq_some_iff, Option.map_eq_some_iff] at h
  obtain ⟨y, hy, z, hz, rfl⟩ := h
  have h1 := hp _ _ hy
  have h2 := hr _ _ hz
  rw [wide_cons]
  simp only [List.length_append]
  omega
/-- a piece's print, its rows' prints being so long -/
theorem prP_le (p : Pc) (hr : ∀ a ∈ p.rows, ∀ v x, VafmsBase.printed a v = some x → x.1.length ≤ wide a) (v : Value) (y : Text × Value) (e : prP p v = some y) : y.1.length ≤ p.wide := by
  cases p with
  | lit w =>
    have e2 := Option.some.inj (show some (w, v) = some y from e)
    subst e2
    exact Nat.le_refl _
  | num lo hi =>
    cases v with
    | nil => cases e
    | cons n u =>
      simp only [prP, Option.map_eq_some_iff] at e
      obtain ⟨d, hd, rfl⟩ := e
      exact printNum_le hd
  | word lo hi =>
    cases v with
    | nil => cases e
    | cons k u =>
      simp only [prP] at e
      split at e
      · cases e
      · simp only [Option.map_eq_some_iff] at e
        obtain ⟨d, hd, rfl⟩ := e
        have := (printWord_le hd).1
        subst this
        simp only [List.length_map, List.length_take, Pc.wide]
        omega
  | alt a b =>
    match v, e with
    | 0 :: u, e => have := hr a (by simp [Pc.rows]) u y e; simp only [Pc.wide]; omega
    | 1 :: u, e => have := hr b (by simp [Pc.rows]) u y e; simp only [Pc.wide]; omega
  | opt a =>
    match v, e with
    | 0 :: u, e =>
      have e2 := Option.some.inj (show some ([], u) = some y from e)
      subst e2
      exact Nat.zero_le _
    | 1 :: u, e => exact hr a (by simp [Pc.rows]) u y e
  | rep s lo hi a =>
    cases v with
    | nil => cases e
    | cons n u =>
      simp only [prP] at e
      split at e
      · cases e
      · rename_i c
        have h1 := times_le (m := wide a) (hr a (by simp [Pc.rows])) s n true u y e
        have h2 : n * (s.length + wide a) ≤ hi * (s.length + wide a) := Nat.mul_le_mul_right _ (by omega)
        simp only [Pc.wide]
        omega
theorem printed_le : ∀ (f : Fmt) (v : Value) (x : Text × Value), VafmsBase.printed f v = some x → x.1.length ≤ wide f
  | .done, v, x, h => by
    have e := Option.some.inj (show some ([], v) = some x from h)
    subst e
    exact Nat.le_refl _
  | .lit w r, v, x, h => printed_le_cons (.lit w) r (prP_le _ (by simp [Pc.rows])) (printed_le r) v x h
  | .num lo hi r, v, x, h => printed_le_cons (.num lo hi) r (prP_le _ (by simp [Pc.rows])) (printed_le r) v x h
  | .word lo hi r, v, x, h => printed_le_cons (.word lo hi) r (prP_le _ (by simp [Pc.rows])) (printed_le r) v x h
  | .alt a b r, v, x, h => printed_le_cons (.alt a b) r (prP_le _ (by simp only [Pc.rows, List.mem_cons, List.not_mem_nil, or_false]; rintro c (rfl | rfl); exact printed_le _; exact printed_le _)) (printed_le r) v x h
  | .opt a r, v, x, h => printed_le_cons (.opt a) r (prP_le _ (by simp only [Pc.rows, List.mem_cons, List.not_mem_nil, or_false]; rintro c rfl; exact printed_le _)) (printed_le r) v x h
  | .rep s lo hi a r, v, x, h => printed_le_cons (.rep s lo hi a) r (prP_le _ (by simp only [Pc.rows, List.mem_cons, List.not_mem_nil, or_false]; rintro c rfl; exact printed_le _)) (printed_le r) v x h
/-- within the limits a print is short -/
theorem wide_flat : ∀ f : Fmt, okSp f = true → f.hasRep = false → wide f ≤ 8 * f.size
  | .done, _, _ => Nat.le_refl _
  | .lit w r, h, n => by
    simp only [okSp, VafmsBase.okText, Bool.and_eq_true, decide_eq_true_eq] at h
    have := wide_flat r h.2.2 n
    simp only [wide, Fmt.size]
    omega
  | .num lo hi r, h, n => by
    simp only [okSp, Bool.and_eq_true, decide_eq_true_eq] at h
    have := wide_flat r h.2.2.2 n
    simp only [wide, Fmt.size]
    omega
  | .word lo hi r, h, n => by
    simp only [okSp, Bool.and_eq_true, decide_eq_true_eq] at h
    have := wide_flat r h.2.2.2 n
    simp only [wide, Fmt.size]
    omega
  | .alt a b r, h, n => by
    simp only [okSp, Bool.and_eq_true] at h
    simp only [Fmt.hasRep, Bool.or_eq_false_iff] at n
    have := wide_flat r h.2.2 n.2.2
    have := wide_flat a h.1 n.1
    have := wide_flat b h.2.1 n.2.1
    simp only [wide, Fmt.size]
    omega
  | .opt a r, h, n => by
    simp only [okSp, Bool.and_eq_true] at h
    simp only [Fmt.hasRep, Bool.or_eq_false_iff] at n
    have := wide_flat r h.2 n.2
    have := wide_flat a h.1 n.1
    simp only [wide, Fmt.size]
    omega
  | .rep s lo hi a r, h, n => by cases n
theorem wide_le : ∀ f : Fmt, okSp f = true → bad f = false → wide f ≤ 32 * f.size
  | .done, _, _ => Nat.le_refl _
  | .lit w r, h, n => by
    simp only [okSp, VafmsBase.okText, Bool.and_eq_true, decide_eq_true_eq] at h
    simp only [bad, subs, List.any_cons, Pc.bad, Bool.false_or] at n
    have := wide_le r h.2.2 n
    simp only [wide, Fmt.size]
    omega
  | .num lo hi r, h, n => by
    simp only [okSp, Bool.and_eq_true, decide_eq_true_eq] at h
    simp only [bad, subs, List.any_cons, Pc.bad, Bool.false_or] at n
    have := wide_le r h.2.2.2 n
    simp only [wide, Fmt.size]
    omega
  | .word lo hi r, h, n => by
    simp only [okSp, Bool.and_eq_true, decide_eq_true_eq] at h
    simp only [bad, subs, List.any_cons, Pc.bad, Bool.false_or] at n
    have := wide_le r h.2.2.2 n
    simp only [wide, Fmt.size]
    omega
  | .alt a b r, h, n => by
    simp only [okSp, Bool.and_eq_true] at h
    simp only [bad, subs, List.any_cons, List.any_append, Pc.bad, Bool.false_or, Bool.or_eq_false_iff] at n
    have := wide_le r h.2.2 n.2.2
    have := wide_le a h.1 n.1
    have := wide_le b h.2.1 n.2.1
    simp only [wide, Fmt.size]
    omega
  | .opt a r, h, n => by
    simp only [okSp, Bool.and_eq_true] at h
    simp only [bad, subs, List.any_cons, List.any_append, Pc.bad, Bool.false_or, Bool.or_eq_false_iff] at n
    have := wide_le r h.2 n.2
    have := wide_le a h.1 n.1
    simp only [wide, Fmt.size]
    omega
  | .rep s lo hi a r, h, n => by
    simp only [okSp, VafmsBase.okText, Bool.and_eq_true, decide_eq_true_eq] at h
    simp only [bad, subs, List.any_cons, List.any_append, Pc.bad, Bool.or_eq_false_iff] at n
    have := wide_le r h.2.2.2.2 n.2.2
    have h3 := wide_flat a h.2.2.2.1 ((hasRep_subs a).trans n.1)
    have h4 : hi * (s.length + wide a) ≤ 4 * (8 + 8 * a.size) := Nat.mul_le_mul h.2.2.1 (by omega)
    simp only [wide, Fmt.size]
    omega
/-- what is left of a value stands at its end -/
theorem printTimes_rest {p : Value → Option (Text × Value)} (hp : ∀ v x, p v = some x → ∃ u, v = u ++ x.2) (s : Text) : ∀ (n : Nat) (b : Bool) (v : Value) (x : Text × Value), VafmsBase.printTimes p s n b v = some x → ∃ u, v = u ++ x.2
  | 0, b, v, x, h => by
    have e := Option.some.inj (show some ([], v) = some x from h)
    subst e
    exact ⟨[], rfl⟩
  | n + 1, b, v, x, h => by
    simp only [VafmsBase.printTimes, Option.bind_eq_some_iff, Option.map_eq_some_iff] at h
    obtain ⟨y, hy, z, hz, rfl⟩ := h
    obtain ⟨u1, e1⟩ := hp v y hy
    obtain ⟨u2, e2⟩ := printTimes_rest hp s n false _ z hz
    exact ⟨u1 ++ u2, by rw [List.append_assoc, ← e2, ← e1]⟩
theorem prP_rest (p : Pc) (hr : ∀ a ∈ p.rows, ∀ v x, VafmsBase.printed a v = some x → ∃ u, v = u ++ x.2) (v : Value) (y : Text × Value) (e : prP p v = some y) : ∃ u, v = u ++ y.2 := by
  cases p with
  | lit w =>
    have e2 := Option.some.inj (show some (w, v) = some y from e)
    subst e2
    exact ⟨[], rfl⟩
  | num lo hi =>
    cases v with
    | nil => cases e
    | cons n u =>
      simp only [prP, Option.map_eq_some_iff] at e
      obtain ⟨d, hd, rfl⟩ := e
      exact ⟨[n], rfl⟩
  | word lo hi =>
    cases v with
    | nil => cases e
    | cons k u =>
      simp only [prP] at e
      split at e
      · cases e
      · simp only [Option.map_eq_some_iff] at e
        obtain ⟨d, hd, rfl⟩ := e
        exact ⟨k :: u.take k, by simp⟩
  | alt a b =>
    match v, e with
    | 0 :: u, e => obtain ⟨w, q⟩ := hr a (by simp [Pc.rows]) u y e; exact ⟨0 :: w, by rw [q]; rfl⟩
    | 1 :: u, e => obtain ⟨w, q⟩ := hr b (by simp [Pc.rows]) u y e; exact ⟨1 :: w, by rw [q]; rfl⟩
  | opt a =>
    match v, e with
    | 0 :: u, e =>
      have e2 := Option.some.inj (show some ([], u) = some y from e)
      subst e2
      exact ⟨[0], rfl⟩
    | 1 :: u, e => obtain ⟨w, q⟩ := hr a (by simp [Pc.rows]) u y e; exact ⟨1 :: w, by rw [q]; rfl⟩
  | rep s lo hi a =>
    cases v with
    | nil => cases e
    | cons n u =>
      simp only [prP] at e
      split at e
      · cases e
      · obtain ⟨w, q⟩ := printTimes_rest (hr a (by simp [Pc.rows])) s n true u y e
        exact ⟨n :: w, by rw [q]; rfl⟩
theorem printed_rest_cons (p : Pc) (r : Fmt) (hp : ∀ v y, prP p v = some y → ∃ u, v = u ++ y.2) (hr : ∀ v y, VafmsBase.printed r v = some y → ∃ u, v = u ++ y.2) (v : Value) (x : Text × Value) (h : VafmsBase.printed (p.cons r) v = some x) : ∃ u, v = u ++ x.2 := by
  rw [printed_cons] at h
  simp only [Option.bind_eq_some_iff, Option.map_eq_some_iff] at h
  obtain ⟨y, hy, z, hz, rfl⟩ := h
  obtain ⟨u1, e1⟩ := hp _ _ hy
  obtain ⟨u2, e2⟩ := hr _ _ hz
  exact ⟨u1 ++ u2, by rw [List.append_assoc, ← e2, ← e1]⟩
theorem printed_rest : ∀ (f : Fmt) (v : Value) (x : Text × Value), VafmsBase.printed f v = some x → ∃ u, v = u ++ x.2
  | .done, v, x, h => by
    have e := Option.some.inj (show some ([], v) = some x from h)
    subst e
    exact ⟨[], rfl⟩
  | .lit w r, v, x, h => printed_rest_cons (.lit w) r (prP_rest _ (by simp [Pc.rows])) (printed_rest r) v x h
  | .num lo hi r, v, x, h => printed_rest_cons (.num lo hi) r (prP_rest _ (by simp [Pc.rows])) (printed_rest r) v x h
  | .word lo hi r, v, x, h => printed_rest_cons (.word lo hi) r (prP_rest _ (by simp [Pc.rows])) (printed_rest r) v x h
  | .alt a b r, v, x, h => printed_rest_cons (.alt a b) r (prP_rest _ (by simp only [Pc.rows, List.mem_cons, List.not_mem_nil, or_false]; rintro c (rfl | rfl); exact printed_rest _; exact printed_rest _)) (printed_rest r) v x h
  | .opt a r, v, x, h => printed_rest_cons (.opt a) r (prP_rest _ (by simp only [Pc.rows, List.mem_cons, List.not_mem_nil, or_false]; rintro c rfl; exact printed_rest _)) (printed_rest r) v x h
  | .rep s lo hi a r, v, x, h => printed_rest_cons (.rep s lo hi a) r (prP_rest _ (by simp only [Pc.rows, List.mem_cons, List.not_mem_nil, or_false]; rintro c rfl; exact printed_rest _)) (printed_rest r) v x h
theorem rest_drop {v u x : Value} (e : v = u ++ x) : x = v.drop (v.length - x.length) := by
  subst e
  simp

/-! ### scannings -/
abbrev Sc := List (Value × Text)
def scP : Pc → Text → Sc
  | .lit w, t => match VafmsBase.behind w t with
    | none => []
    | some u => [([], u)]
  | .num lo hi, t => VafmsBase.scanNum lo hi t
  | .word lo hi, t => VafmsBase.scanWord lo hi t
  | .alt a b, t => VafmsBase.tagged 0 (VafmsBase.scans a t) ++ VafmsBase.tagged 1 (VafmsBase.scans b t)
  | .opt a, t => VafmsBase.tagged 1 (VafmsBase.scans a t) ++ [([0], t)]
  | .rep s lo hi a, t => (VafmsBase.downFrom lo hi).flatMap fun n => VafmsBase.tagged n (VafmsBase.scanTimes (VafmsBase.scans a) s n true t)
theorem map_id' (l : Sc) : l.map (fun y => ([] ++ y.1, y.2)) = l := by
  simp
theorem scans_cons (p : Pc) (r : Fmt) (t : Text) : VafmsBase.scans (p.cons r) t = VafmsBase.followed (scP p t) (VafmsBase.scans r) := by
  cases p with
  | lit w =>
    show (match VafmsBase.behind w t with | none => [] | some u => VafmsBase.scans r u) = VafmsBase.followed (match VafmsBase.behind w t with | none => [] | some u => [([], u)]) (VafmsBase.scans r)
    cases VafmsBase.behind w t with
    | none => rfl
    | some u =>
      simp only [VafmsBase.followed, List.flatMap_cons, List.flatMap_nil, List.append_nil]
      exact (map_id' _).symm
  | num lo hi => rfl
  | word lo hi => rfl
  | alt a b => rfl
  | opt a => rfl
  | rep s lo hi a => rfl
theorem scans_done (t : Text) : VafmsBase.scans .done t = [([], t)] := rfl

/-! #### a print is scanned again -/
theorem mem_downFrom {lo hi k : Nat} : k ∈ VafmsBase.downFrom lo hi ↔ lo ≤ k ∧ k ≤ hi := by
  unfold VafmsBase.downFrom
  simp only [List.mem_reverse, List.mem_filter, List.mem_range, decide_eq_true_eq]
  omega
theorem behind_self (w s : Text) : VafmsBase.behind w (w ++ s) = some s := by
  induction w with
  | nil => cases s <;> rfl
  | cons a w ih =>
    show (if a = a then VafmsBase.behind w (w ++ s) else none) = some s
    rw [if_pos rfl, ih]
theorem scan_num {lo hi n : Nat} {d : Text} (h : VafmsBase.printNum lo hi n = some d) (s : Text) : ([n], s) ∈ VafmsBase.scanNum lo hi (d ++ s) := by
  have key : lo ≤ d.length ∧ d.length ≤ hi ∧ d.all VafmsBase.isDigit = true ∧ VafmsBase.numberOf d = n ∧ (lo = hi ∨ d.length = 1 ∨ d.head? ≠ some 48) := by
    unfold VafmsBase.printNum at h
    simp only at h
    split at h
    · rename_i e
      split at h
      · have e2 := Option.some.inj h
        subst e2
        refine ⟨?_, ?_, ?_, ?_, .inl e⟩
        · simp only [List.length_append, List.length_replicate]; omega
        · simp only [List.length_append, List.length_replicate]; omega
        · rw [List.all_append, digits_all, Bool.and_true, List.all_eq_true]
          intro b hb
          rw [(List.mem_replicate.mp hb).2]
          rfl
        · rw [pad_num, digits_num]
      · cases h
    · split at h
      · rename_i c
        have e2 := Option.some.inj h
        subst e2
        refine ⟨c.1, c.2, digits_all n, digits_num n, .inr ?_⟩
        by_cases hn : n = 0
        · subst hn
          exact .inl (by rw [digits_zero]; rfl)
        · exact .inr (digits_head n hn)
      · cases h
  obtain ⟨h1, h2, h3, h4, h5⟩ := key
  unfold VafmsBase.scanNum
  rw [List.mem_filterMap]
  refine ⟨d.length, mem_downFrom.mpr ⟨h1, h2⟩, ?_⟩
  simp only [List.take_left, List.drop_left]
  rw [if_pos ⟨trivial, h3, h5⟩, h4]
theorem scan_word {lo hi k : Nat} {l : List Nat} {d : Text} (hk : l.length = k) (h1 : lo ≤ k) (h2 : k ≤ hi) (h : VafmsBase.printWord l = some d) (s : Text) : (k :: l, s) ∈ VafmsBase.scanWord lo hi (d ++ s) := by
  obtain ⟨rfl, ha⟩ := printWord_le h
  unfold VafmsBase.scanWord
  rw [List.mem_filterMap]
  refine ⟨k, mem_downFrom.mpr ⟨h1, h2⟩, ?_⟩
  have e : (l.map (fun x => 97 + x) ++ s).take k = l.map (fun x => 97 + x) := by
    rw [List.take_append_of_le_length (by simp [hk])]
    exact List.take_of_length_le (by simp [hk])
  have e2 : (l.map (fun x => 97 + x) ++ s).drop k = s := by
    rw [List.drop_append_of_le_length (by simp [hk]), List.drop_of_length_le (by simp [hk]), List.nil_append]
  simp only [e, e2]
  rw [if_pos]
  · simp [Function.comp_def]
  · refine ⟨by simp [hk], ?_⟩
    rw [List.all_map, List.all_eq_true]
    intro x hx
    have := List.all_eq_true.mp ha x hx
    simp only [decide_eq_true_eq] at this
    simp [VafmsBase.isLetter]
    omega
/-- printed so, scanned again so -/
def Again (f : Fmt) : Prop := ∀ (v : Value) (x : Text × Value), VafmsBase.printed f v = some x → ∃ u, v = u ++ x.2 ∧ ∀ s, (u, s) ∈ VafmsBase.scans f (x.1 ++ s)
theorem again_times {a : Fmt} (ha : Again a) (sep : Text) : ∀ (n : Nat) (b : Bool) (v : Value) (x : Text × Value), VafmsBase.printTimes (VafmsBase.printed a) sep n b v = some x → ∃ u, v = u ++ x.2 ∧ ∀ s, (u, s) ∈ VafmsBase.scanTimes (VafmsBase.scans a) sep n b (x.1 ++ s)
  | 0, b, v, x, h => by
    have e := Option.some.inj (show some ([], v) = some x from h)
    subst e
    exact ⟨[], rfl, fun s => by simp [VafmsBase.scanTimes]⟩
  | n + 1, b, v, x, h => by
    simp only [VafmsBase.printTimes, Option.bind_eq_some_iff, Option.map_eq_some_iff] at h
    obtain ⟨y, hy, z, hz, rfl⟩ := h
    obtain ⟨u1, e1, m1⟩ := ha v y hy
    obtain ⟨u2, e2, m2⟩ := again_times ha sep n false _ z hz
    refine ⟨u1 ++ u2, by rw [List.append_assoc, ← e2, ← e1], fun s => ?_⟩
    have go : (u1 ++ u2, s) ∈ (VafmsBase.scans a (y.1 ++ (z.1 ++ s))).flatMap fun x => (VafmsBase.scanTimes (VafmsBase.scans a) sep n false x.2).map fun y => (x.1 ++ y.1, y.2) := by
      rw [List.mem_flatMap]
      refine ⟨(u1, z.1 ++ s), m1 _, ?_⟩
      rw [List.mem_map]
      exact ⟨(u2, s), m2 s, rfl⟩
    cases b with
    | true =>
      simp only [VafmsBase.scanTimes, if_true, List.nil_append, List.append_assoc]
      exact go
    | false =>
      have e : ((if false = true then ([] : Text) else sep) ++ (y.1 ++ z.1)) ++ s = sep ++ (y.1 ++ (z.1 ++ s)) := by simp
      simp only at e ⊢
      rw [e]
      simp only [VafmsBase.scanTimes, Bool.false_eq_true, if_false, behind_self]
      exact go
theorem again_P (p : Pc) (hr : ∀ a ∈ p.rows, Again a) (v : Value) (x : Text × Value) (h : prP p v = some x) : ∃ u, v = u ++ x.2 ∧ ∀ s, (u, s) ∈ scP p (x.1 ++ s) := by
  cases p with
  | lit w =>
    have e2 := Option.some.inj (show some (w, v) = some x from h)
    subst e2
    exact ⟨[], rfl, fun s => by simp [scP, behind_self]⟩
  | num lo hi =>
    cases v with
    | nil => cases h
    | cons n u =>
      simp only [prP, Option.map_eq_some_iff] at h
      obtain ⟨d, hd, rfl⟩ := h
      exact ⟨[n], rfl, fun s => scan_num hd s⟩
  | word lo hi =>
    cases v with
    | nil => cases h
    | cons k u =>
      simp only [prP] at h
      split at h
      · cases h
      · rename_i c
        simp only [Option.map_eq_some_iff] at h
        obtain ⟨d, hd, rfl⟩ := h
        exact ⟨k :: u.take k, by simp, fun s => scan_word (by simp; omega) (by omega) (by omega) hd s⟩
  | alt a b =>
    match v, h with
    | 0 :: w, h =>
      obtain ⟨u, e, m⟩ := hr a (by simp [Pc.rows]) w x h
      refine ⟨0 :: u, by rw [e]; rfl, fun s => List.mem_append_left _ ?_⟩
      exact List.mem_map.mpr ⟨_, m s, rfl⟩
    | 1 :: w, h =>
      obtain ⟨u, e, m⟩ := hr b (by simp [Pc.rows]) w x h
      refine ⟨1 :: u, by rw [e]; rfl, fun s => List.mem_append_right _ ?_⟩
      exact List.mem_map.mpr ⟨_, m s, rfl⟩
  | opt a =>
    match v, h with
    | 0 :: w, h =>
      have e2 := Option.some.inj (show some ([], w) = some x from h)
      subst e2
      exact ⟨[0], rfl, fun s => List.mem_append_right _ (by simp)⟩
    | 1 :: w, h =>
      obtain ⟨u, e, m⟩ := hr a (by simp [Pc.rows]) w x h
      refine ⟨1 :: u, by rw [e]; rfl, fun s => List.mem_append_left _ ?_⟩
      exact List.mem_map.mpr ⟨_, m s, rfl⟩
  | rep sep lo hi a =>
    cases v with
    | nil => cases h
    | cons n w =>
      simp only [prP] at h
      split at h
      · cases h
      · rename_i c
        obtain ⟨u, e, m⟩ := again_times (hr a (by simp [Pc.rows])) sep n true w x h
        refine ⟨n :: u, by rw [e]; rfl, fun s => ?_⟩
        show _ ∈ List.flatMap _ _
        rw [List.mem_flatMap]
        refine ⟨n, mem_downFrom.mpr (by omega), List.mem_map.mpr ⟨_, m s, rfl⟩⟩
theorem again_cons (p : Pc) (r : Fmt) (hp : ∀ (v : Value) (x : Text × Value), prP p v = some x → ∃ u, v = u ++ x.2 ∧ ∀ s, (u, s) ∈ scP p (x.1 ++ s)) (hr : Again r) : Again (p.cons r) := fun v x h => by
  rw [printed_cons] at h
  simp only [Option.bind_eq_some_iff, Option.map_eq_some_iff] at h
  obtain ⟨y, hy, z, hz, rfl⟩ := h
  obtain ⟨u1, e1, m1⟩ := hp _ _ hy
  obtain ⟨u2, e2, m2⟩ := hr _ _ hz
  refine ⟨u1 ++ u2, by rw [List.append_assoc, ← e2, ← e1], fun s => ?_⟩
  rw [scans_cons]
  unfold VafmsBase.followed
  rw [List.mem_flatMap]
  refine ⟨(u1, z.1 ++ s), by simp only [List.append_assoc]; exact m1 _, ?_⟩
  rw [List.mem_map]
  exact ⟨(u2, s), m2 s, rfl⟩
theorem again_all : ∀ f : Fmt, Again f
  | .done => fun v x h => by
    have e := Option.some.inj (show some ([], v) = some x from h)
    subst e
    exact ⟨[], rfl, fun s => by simp [scans_done]⟩
  | .lit w r => again_cons (.lit w) r (again_P _ (by simp [Pc.rows])) (again_all r)
  | .num lo hi r => again_cons (.num lo hi) r (again_P _ (by simp [Pc.rows])) (again_all r)
  | .word lo hi r => again_cons (.word lo hi) r (again_P _ (by simp [Pc.rows])) (again_all r)
  | .alt a b r => again_cons (.alt a b) r (again_P _ (by simp only [Pc.rows, List.mem_cons, List.not_mem_nil, or_false]; rintro c (rfl | rfl); exact again_all _; exact again_all _)) (again_all r)
  | .opt a r => again_cons (.opt a) r (again_P _ (by simp only [Pc.rows, List.mem_cons, List.not_mem_nil, or_false]; rintro c rfl; exact again_all _)) (again_all r)
  | .rep s lo hi a r => again_cons (.rep s lo hi a) r (again_P _ (by simp only [Pc.rows, List.mem_cons, List.not_mem_nil, or_false]; rintro c rfl; exact again_all _)) (again_all r)
theorem print_again {f : Fmt} {v : Value} {t : Text} (h : VafmsBase.print f v = some t) : v ∈ VafmsBase.scannings f t := by
  unfold VafmsBase.print at h
  split at h
  · rename_i t' e
    have e2 := Option.some.inj h
    subst e2
    obtain ⟨u, e3, m⟩ := again_all f v _ e
    have := m []
    simp only [List.append_nil] at this e3
    subst e3
    unfold VafmsBase.scannings
    rw [List.mem_map]
    exact ⟨(v, []), List.mem_filter.mpr ⟨this, rfl⟩, rfl⟩
  · cases h
end Asc
/-! Scannings by places; how many there are. -/
namespace Asc
open VafmsBase (Fmt Text Value)

abbrev Ways := List (Value × Nat)
theorem flat_congr {α β : Type} {g h : α → List β} : ∀ {l : List α}, (∀ x ∈ l, g x = h x) → l.flatMap g = l.flatMap h
  | [], _ => rfl
  | x :: l, e => by rw [List.flatMap_cons, List.flatMap_cons, e x List.mem_cons_self, flat_congr (fun y hy => e y (List.mem_cons_of_mem _ hy))]
/-- what is left stands at the end -/
def Suf (l : Sc) (u : Text) : Prop := ∀ x ∈ l, ∃ w, u = w ++ x.2
theorem Suf.trans {l : Sc} {u v : Text} (h : Suf l u) {w : Text} (e : v = w ++ u) : Suf l v := fun x hx => by
  obtain ⟨y, e2⟩ := h x hx
  exact ⟨w ++ y, by rw [e, e2, List.append_assoc]⟩
theorem suf_num (lo hi : Nat) (u : Text) : Suf (VafmsBase.scanNum lo hi u) u := fun x hx => by
  unfold VafmsBase.scanNum at hx
  rw [List.mem_filterMap] at hx
  obtain ⟨k, _, e⟩ := hx
  simp only at e
  split at e
  · have e2 := Option.some.inj e
    subst e2
    exact ⟨u.take k, (List.take_append_drop k u).symm⟩
  · cases e
theorem suf_word (lo hi : Nat) (u : Text) : Suf (VafmsBase.scanWord lo hi u) u := fun x hx => by
  unfold VafmsBase.scanWord at hx
  rw [List.mem_filterMap] at hx
  obtain ⟨k, _, e⟩ := hx
  simp only at e
  split at e
  · have e2 := Option.some.inj e
    subst e2
    exact ⟨u.take k, (List.take_append_drop k u).symm⟩
  · cases e
theorem behind_some : ∀ {w t u : Text}, VafmsBase.behind w t = some u → t = w ++ u
  | [], t, u, h => by
    have e : t = u := by simpa [VafmsBase.behind] using h
    rw [e]
    rfl
  | a :: w, [], u, h => by cases h
  | a :: w, b :: t, u, h => by
    simp only [VafmsBase.behind] at h
    split at h
    · rename_i c
      rw [behind_some h, c]
      rfl
    · cases h
theorem suf_tagged {n : Nat} {l : Sc} {u : Text} (h : Suf l u) : Suf (VafmsBase.tagged n l) u := fun x hx => by
  unfold VafmsBase.tagged at hx
  rw [List.mem_map] at hx
  obtain ⟨y, hy, rfl⟩ := hx
  exact h y hy
theorem suf_append {l m : Sc} {u : Text} (h : Suf l u) (h' : Suf m u) : Suf (l ++ m) u := fun x hx => (List.mem_append.mp hx).elim (h x) (h' x)
theorem suf_followed {l : Sc} {g : Text → Sc} {u : Text} (h : Suf l u) (hg : ∀ v, Suf (g v) v) : Suf (VafmsBase.followed l g) u := fun x hx => by
  unfold VafmsBase.followed at hx
  rw [List.mem_flatMap] at hx
  obtain ⟨y, hy, hx⟩ := hx
  rw [List.mem_map] at hx
  obtain ⟨z, hz, rfl⟩ := hx
  obtain ⟨w1, e1⟩ := h y hy
  obtain ⟨w2, e2⟩ := hg _ z hz
  exact ⟨w1 ++ w2, by rw [List.append_assoc, ← e2, ← e1]⟩
theorem suf_times {g : Text → Sc} (hg : ∀ v, Suf (g v) v) (sep : Text) : ∀ (n : Nat) (b : Bool) (u : Text), Suf (VafmsBase.scanTimes g sep n b u) u
  | 0, b, u => fun x hx => by
    have e : x = ([], u) := by simpa [VafmsBase.scanTimes] using hx
    subst e
    exact ⟨[], rfl⟩
  | n + 1, b, u => by
    have go : ∀ v, Suf (VafmsBase.followed (g v) (VafmsBase.scanTimes g sep n false)) v := fun v => suf_followed (hg v) (suf_times hg sep n false)
    cases b with
    | true => exact go u
    | false =>
      simp only [VafmsBase.scanTimes, Bool.false_eq_true, if_false]
      cases e : VafmsBase.behind sep u with
      | none => exact fun x hx => nomatch hx
      | some v => exact (go v).trans (behind_some e)
theorem suf_P (p : Pc) (hr : ∀ a ∈ p.rows, ∀ u, Suf (VafmsBase.scans a u) u) (u : Text) : Suf (scP p u) u := by
  cases p with
  | lit w =>
    intro x hx
    simp only [scP] at hx
    cases e : VafmsBase.behind w u with
    | none => rw [e] at hx; cases hx
    | some v =>
      rw [e] at hx
      have e2 : x = ([], v) := by simpa using hx
      subst e2
      exact ⟨w, behind_some e⟩
  | num lo hi => exact suf_num lo hi u
  | word lo hi => exact suf_word lo hi u
  | alt a b => exact suf_append (suf_tagged (hr a (by simp [Pc.rows]) u)) (suf_tagged (hr b (by simp [Pc.rows]) u))
  | opt a => exact suf_append (suf_tagged (hr a (by simp [Pc.rows]) u)) (fun x hx => by
      have e2 : x = ([0], u) := by simpa using hx
      subst e2
      exact ⟨[], rfl⟩)
  | rep s lo hi a =>
    intro x hx
    simp only [scP, List.mem_flatMap] at hx
    obtain ⟨n, _, hx⟩ := hx
    exact suf_tagged (suf_times (hr a (by simp [Pc.rows])) s n true u) x hx
theorem suf_cons (p : Pc) (r : Fmt) (hp : ∀ u, Suf (scP p u) u) (hr : ∀ u, Suf (VafmsBase.scans r u) u) (u : Text) : Suf (VafmsBase.scans (p.cons r) u) u := by
  rw [scans_cons]
  exact suf_followed (hp u) hr
theorem suf_all : ∀ (f : Fmt) (u : Text), Suf (VafmsBase.scans f u) u
  | .done, u => fun x hx => by
    have e2 : x = ([], u) := by simpa [scans_done] using hx
    subst e2
    exact ⟨[], rfl⟩
  | .lit w r, u => suf_cons (.lit w) r (suf_P _ (by simp [Pc.rows])) (suf_all r) u
  | .num lo hi r, u => suf_cons (.num lo hi) r (suf_P _ (by simp [Pc.rows])) (suf_all r) u
  | .word lo hi r, u => suf_cons (.word lo hi) r (suf_P _ (by simp [Pc.rows])) (suf_all r) u
  | .alt a b r, u => suf_cons (.alt a b) r (suf_P _ (by simp only [Pc.rows, List.mem_cons, List.not_mem_nil, or_false]; rintro c (rfl | rfl); exact suf_all _; exact suf_all _)) (suf_all r) u
  | .opt a r, u => suf_cons (.opt a) r (suf_P _ (by simp only [Pc.rows, List.mem_cons, List.not_mem_nil, or_false]; rintro c rfl; exact suf_all _)) (suf_all r) u
  | .rep s lo hi a r, u => suf_cons (.rep s lo hi a) r (suf_P _ (by simp only [Pc.rows, List.mem_cons, List.not_mem_nil, or_false]; rintro c rfl; exact suf_all _)) (suf_all r) u
theorem suf_pc (p : Pc) (u : Text) : Suf (scP p u) u := suf_P p (fun a _ => suf_all a) u

/-! ### by places -/
def sI (t : Text) (l : Sc) : Ways := l.map fun x => (x.1, t.length - x.2.length)
theorem place_of {t u w : Text} {k : Nat} (hk : k ≤ t.length) (e : t.drop k = w ++ u) : k ≤ t.length - u.length ∧ t.length - u.length ≤ t.length ∧ t.drop (t.length - u.length) = u := by
  have hl := congrArg List.length e
  rw [List.length_drop, List.length_append] at hl
  refine ⟨by omega, by omega, ?_⟩
  have e2 : t.length - u.length = k + w.length := by omega
  rw [e2, ← List.drop_drop, e, List.drop_left]
theorem sI_place {t : Text} {k : Nat} (hk : k ≤ t.length) {l : Sc} (h : Suf l (t.drop k)) : ∀ x ∈ sI t l, k ≤ x.2 ∧ x.2 ≤ t.length := fun x hx => by
  unfold sI at hx
  rw [List.mem_map] at hx
  obtain ⟨y, hy, rfl⟩ := hx
  obtain ⟨w, e⟩ := h y hy
  have := place_of hk e
  simp only
  omega
theorem sI_append (t : Text) (l m : Sc) : sI t (l ++ m) = sI t l ++ sI t m := List.map_append
theorem sI_followed {t : Text} {k : Nat} (hk : k ≤ t.length) {l : Sc} (h : Suf l (t.drop k)) (g : Text → Sc) :
    sI t (VafmsBase.followed l g) = (sI t l).flatMap fun x => (sI t (g (t.drop x.2))).map fun y => (x.1 ++ y.1, y.2) := by
  unfold VafmsBase.followed sI
  induction l with
  | nil => rfl
  | cons a l ih =>
    rw [List.flatMap_cons, List.map_append, List.map_cons, List.flatMap_cons, ih (fun x hx => h x (List.mem_cons_of_mem _ hx))]
    obtain ⟨w, e⟩ := h a List.mem_cons_self
    have := place_of hk e
    simp only [this.2.2, List.map_map, Function.comp_def]
/-- ways that go on by a row -/
def goW (f : Fmt) (t : Text) (ws : Ways) : Ways := ws.flatMap fun x => (sI t (VafmsBase.scans f (t.drop x.2))).map fun y => (x.1 ++ y.1, y.2)
/-- .. by a piece -/
def goP (p : Pc) (t : Text) (ws : Ways) : Ways := ws.flatMap fun x => (sI t (scP p (t.drop x.2))).map fun y => (x.1 ++ y.1, y.2)
def Within (t : Text) (ws : Ways) : Prop := ∀ x ∈ ws, x.2 ≤ t.length
theorem goP_within {p : Pc} {t : Text} {ws : Ways} (h : Within t ws) : Within t (goP p t ws) := fun x hx => by
  unfold goP at hx
  rw [List.mem_flatMap] at hx
  obtain ⟨y, hy, hx⟩ := hx
  rw [List.mem_map] at hx
  obtain ⟨z, hz, rfl⟩ := hx
  exact (sI_place (h y hy) (suf_pc p _) z hz).2
theorem goW_within {f : Fmt} {t : Text} {ws : Ways} (h : Within t ws) : Within t (goW f t ws) := fun x hx => by
  unfold goW at hx
  rw [List.mem_flatMap] at hx
  obtain ⟨y, hy, hx⟩ := hx
  rw [List.mem_map] at hx
  obtain ⟨z, hz, rfl⟩ := hx
  exact (sI_place (h y hy) (suf_all f _) z hz).2
theorem goW_done {t : Text} {ws : Ways} (h : Within t ws) : goW .done t ws = ws := by
  unfold goW
  induction ws with
  | nil => rfl
  | cons a l ih =>
    rw [List.flatMap_cons, ih (fun x hx => h x (List.mem_cons_of_mem _ hx))]
    have := h a List.mem_cons_self
    have e : t.length - (t.length - a.2) = a.2 := by omega
    simp [scans_done, sI, e]
theorem goW_cons {p : Pc} {r : Fmt} {t : Text} {ws : Ways} (h : Within t ws) : goW (p.cons r) t ws = goW r t (goP p t ws) := by
  unfold goW goP
  rw [List.flatMap_assoc]
  refine flat_congr ?_
  intro x hx
  rw [scans_cons, sI_followed (h x hx) (suf_pc p _), List.map_flatMap, List.flatMap_map]
  refine flat_congr ?_
  intro y hy
  simp only [List.map_map, Function.comp_def, List.append_assoc]
theorem goW_append (f : Fmt) (t : Text) (l m : Ways) : goW f t (l ++ m) = goW f t l ++ goW f t m := List.flatMap_append
theorem goW_nil (f : Fmt) (t : Text) : goW f t [] = [] := rfl
theorem goP_append (p : Pc) (t : Text) (l m : Ways) : goP p t (l ++ m) = goP p t l ++ goP p t m := List.flatMap_append
theorem goP_one (p : Pc) (t : Text) (v : Value) (k : Nat) : goP p t [(v, k)] = (sI t (scP p (t.drop k))).map fun y => (v ++ y.1, y.2) := by
  simp [goP]
/-- the ways of a piece from a place on -/
abbrev wP (p : Pc) (t : Text) (k : Nat) : Ways := sI t (scP p (t.drop k))
/-! #### a literal, numbers, words -/
theorem behind_if (w u : Text) : VafmsBase.behind w u = if u.take w.length = w then some (u.drop w.length) else none := by
  induction w generalizing u with
  | nil => cases u <;> simp [VafmsBase.behind]
  | cons a w ih =>
    cases u with
    | nil => simp [VafmsBase.behind]
    | cons b u =>
      simp only [VafmsBase.behind, List.length_cons, List.take_succ_cons, List.drop_succ_cons, List.cons.injEq]
      by_cases e : a = b
      · rw [if_pos e, ih u]
        by_cases q : u.take w.length = w
        · rw [if_pos q, if_pos ⟨e.symm, q⟩]
        · rw [if_neg q, if_neg (fun z => q z.2)]
      · rw [if_neg e, if_neg (fun z => e z.1.symm)]
/-- ways that go on by a text -/
def behW (w t : Text) (ws : Ways) : Ways := (ws.filter fun x => decide ((t.drop x.2).take w.length = w)).map fun x => (x.1, x.2 + w.length)
theorem take_len {w u : Text} (h : u.take w.length = w) : w.length ≤ u.length := by
  have := congrArg List.length h
  rw [List.length_take] at this
  omega
theorem behW_within {w t : Text} {ws : Ways} (h : Within t ws) : Within t (behW w t ws) := fun x hx => by
  unfold behW at hx
  rw [List.mem_map] at hx
  obtain ⟨y, hy, rfl⟩ := hx
  rw [List.mem_filter, decide_eq_true_eq] at hy
  have := take_len hy.2
  rw [List.length_drop] at this
  have := h y hy.1
  simp only
  omega
theorem wP_lit {w t : Text} {k : Nat} (hk : k ≤ t.length) : wP (.lit w) t k = behW w t [([], k)] := by
  simp only [wP, scP, behind_if, behW, List.filter_cons, List.filter_nil]
  by_cases e : (t.drop k).take w.length = w
  · have := take_len e
    rw [List.length_drop] at this
    rw [if_pos e, decide_eq_true e, if_pos rfl]
    simp only [sI, List.map_cons, List.map_nil, List.length_drop]
    have e2 : t.length - (t.length - k - w.length) = k + w.length := by omega
    rw [e2]
  · rw [if_neg e, decide_eq_false e, if_neg (by decide)]
    rfl
theorem downFrom_eq {lo hi : Nat} (h : lo ≤ hi) : VafmsBase.downFrom lo hi = (List.range (hi + 1 - lo)).map fun i => hi - i := by
  unfold VafmsBase.downFrom
  have e : (List.range (hi + 1)).filter (fun n => decide (lo ≤ n)) = (List.range (hi + 1 - lo)).map fun i => lo + i := by
    have e1 : hi + 1 = lo + (hi + 1 - lo) := by omega
    conv => lhs; rw [e1]
    rw [List.range_add, List.filter_append]
    have a : (List.range lo).filter (fun n => decide (lo ≤ n)) = [] := by
      rw [List.filter_eq_nil_iff]
      intro x hx
      have := List.mem_range.mp hx
      simp
      omega
    rw [a, List.nil_append, List.filter_eq_self.mpr]
    intro x hx
    rw [List.mem_map] at hx
    obtain ⟨y, _, rfl⟩ := hx
    simp
  rw [e]
  refine List.ext_getElem ?_ ?_
  · simp
  · intro i h1 h2
    simp only [List.length_reverse, List.length_map, List.length_range] at h1
    rw [List.getElem_reverse]
    simp only [List.getElem_map, List.getElem_range, List.length_map, List.length_range]
    omega
/-- a number's, a word's way of so many signs -/
def numAt (lo hi : Nat) (t : Text) (k m : Nat) : Option (Value × Nat) :=
  let d := (t.drop k).take m
  if d.length = m ∧ d.all VafmsBase.isDigit = true ∧ (lo = hi ∨ m = 1 ∨ d.head? ≠ some 48) then some ([VafmsBase.numberOf d], k + m) else none
def wordAt (t : Text) (k m : Nat) : Option (Value × Nat) :=
  let d := (t.drop k).take m
  if d.length = m ∧ d.all VafmsBase.isLetter = true then some (m :: d.map (fun b => b - 97), k + m) else none
theorem wP_num {lo hi : Nat} {t : Text} {k : Nat} (hk : k ≤ t.length) : wP (.num lo hi) t k = (VafmsBase.downFrom lo hi).filterMap (numAt lo hi t k) := by
  simp only [wP, scP, VafmsBase.scanNum, sI, List.map_filterMap]
  refine congrArg (fun g => List.filterMap g _) (funext fun m => ?_)
  simp only [numAt]
  split
  · rename_i c
    have := c.1
    rw [List.length_take, List.length_drop] at this
    simp only [Option.map_some, List.length_drop]
    have e2 : t.length - (t.length - k - m) = k + m := by omega
    rw [e2]
  · rfl
theorem wP_word {lo hi : Nat} {t : Text} {k : Nat} (hk : k ≤ t.length) : wP (.word lo hi) t k = (VafmsBase.downFrom lo hi).filterMap (wordAt t k) := by
  simp only [wP, scP, VafmsBase.scanWord, sI, List.map_filterMap]
  refine congrArg (fun g => List.filterMap g _) (funext fun m => ?_)
  simp only [wordAt]
  split
  · rename_i c
    have := c.1
    rw [List.length_take, List.length_drop] at this
    simp only [Option.map_some, List.length_drop]
    have e2 : t.length - (t.length - k - m) = k + m := by omega
    rw [e2]
  · rfl
theorem sI_tagged (t : Text) (n : Nat) (l : Sc) : sI t (VafmsBase.tagged n l) = (sI t l).map fun y => ([n] ++ y.1, y.2) := by
  simp [sI, VafmsBase.tagged]
theorem goW_one (f : Fmt) (t : Text) (v : Value) (k : Nat) : goW f t [(v, k)] = (sI t (VafmsBase.scans f (t.drop k))).map fun y => (v ++ y.1, y.2) := by
  simp [goW]
theorem wP_alt {a b : Fmt} {t : Text} {k : Nat} : wP (.alt a b) t k = goW a t [([0], k)] ++ goW b t [([1], k)] := by
  simp only [wP, scP, sI_append, sI_tagged, goW_one]
theorem wP_opt {a : Fmt} {t : Text} {k : Nat} (hk : k ≤ t.length) : wP (.opt a) t k = goW a t [([1], k)] ++ [([0], k)] := by
  simp only [wP, scP, sI_append, sI_tagged, goW_one]
  have e : t.length - (t.length - k) = k := by omega
  simp [sI, e]
/-- so many times -/
def tmW (a : Fmt) (sep t : Text) : Nat → Bool → Ways → Ways
  | 0, _, ws => ws
  | n + 1, b, ws => tmW a sep t n false (goW a t (if b then ws else behW sep t ws))
theorem tmW_nil (a : Fmt) (sep t : Text) : ∀ (n : Nat) (b : Bool), tmW a sep t n b [] = []
  | 0, _ => rfl
  | n + 1, b => by
    have e : (if b = true then ([] : Ways) else behW sep t []) = [] := by cases b <;> rfl
    simp only [tmW, e, goW_nil]
    exact tmW_nil a sep t n false
theorem tmW_eq (a : Fmt) (sep t : Text) : ∀ (n : Nat) (b : Bool) (ws : Ways), Within t ws →
    tmW a sep t n b ws = ws.flatMap fun x => (sI t (VafmsBase.scanTimes (VafmsBase.scans a) sep n b (t.drop x.2))).map fun y => (x.1 ++ y.1, y.2)
  | 0, b, ws, h => by
    simp only [tmW, VafmsBase.scanTimes]
    exact (goW_done h).symm
  | n + 1, b, ws, h => by
    have h2 : Within t (if b = true then ws else behW sep t ws) := by
      cases b
      · exact behW_within h
      · exact h
    simp only [tmW]
    rw [tmW_eq a sep t n false _ (goW_within h2)]
    have one : ∀ (ws : Ways), Within t ws → (goW a t ws).flatMap (fun x => (sI t (VafmsBase.scanTimes (VafmsBase.scans a) sep n false (t.drop x.2))).map fun y => (x.1 ++ y.1, y.2)) =
        ws.flatMap fun x => (sI t (VafmsBase.followed (VafmsBase.scans a (t.drop x.2)) (VafmsBase.scanTimes (VafmsBase.scans a) sep n false))).map fun y => (x.1 ++ y.1, y.2) := fun ws h => by
      unfold goW
      rw [List.flatMap_assoc]
      refine flat_congr ?_
      intro x hx
      rw [sI_followed (h x hx) (suf_all a _), List.map_flatMap, List.flatMap_map]
      refine flat_congr ?_
      intro y hy
      simp only [List.map_map, Function.comp_def, List.append_assoc]
    rw [one _ h2]
    cases b with
    | true => rfl
    | false =>
      simp only [Bool.false_eq_true, if_false, VafmsBase.scanTimes]
      unfold behW
      clear h2 one
      induction ws with
      | nil => rfl
      | cons x l ih =>
        have ih := ih (fun y hy => h y (List.mem_cons_of_mem _ hy))
        rw [List.filter_cons, List.flatMap_cons, ← ih, behind_if]
        by_cases e : (t.drop x.2).take sep.length = sep
        · rw [if_pos e, decide_eq_true e, if_pos rfl, List.map_cons, List.flatMap_cons]
          simp only [List.drop_drop]
          rfl
        · rw [if_neg e, decide_eq_false e, if_neg (by decide)]
          rfl
theorem wP_rep {s : Text} {lo hi : Nat} {a : Fmt} {t : Text} {k : Nat} (hk : k ≤ t.length) : wP (.rep s lo hi a) t k = (VafmsBase.downFrom lo hi).flatMap fun n => tmW a s t n true [([n], k)] := by
  simp only [wP, scP, sI, List.map_flatMap]
  refine flat_congr ?_
  intro n _
  have h1 : Within t [([n], k)] := fun x hx => by
    have e : x = ([n], k) := by simpa using hx
    rw [e]
    exact hk
  rw [tmW_eq a s t n true _ h1]
  simp [VafmsBase.tagged, sI, Function.comp_def]
/-- all scannings -/
theorem scannings_eq (f : Fmt) (t : Text) : VafmsBase.scannings f t = ((goW f t [([], 0)]).filter fun x => decide (x.2 = t.length)).map (·.1) := by
  have h := suf_all f t
  rw [goW_one]
  unfold VafmsBase.scannings sI
  simp only [List.drop_zero, List.map_map, List.filter_map, Function.comp_def, List.nil_append]
  refine congrArg (List.map _) (List.filter_congr fun x hx => ?_)
  obtain ⟨w, e⟩ := h x hx
  have hl := congrArg List.length e
  rw [List.length_append] at hl
  cases hx2 : x.2 with
  | nil => simp
  | cons a r =>
    rw [hx2] at hl
    simp only [List.length_cons] at hl
    simp
    omega

/-! ### how many -/
theorem pow_le {a b : Nat} (h : a ≤ b) : 5 ^ a ≤ 5 ^ b := Nat.pow_le_pow_right (by decide) h
theorem pow_pos5 (a : Nat) : 1 ≤ 5 ^ a := Nat.one_le_pow _ _ (by decide)
theorem flat_len {α β : Type} (g : α → List β) (m : Nat) : ∀ (l : List α), (∀ x ∈ l, (g x).length ≤ m) → (l.flatMap g).length ≤ l.length * m
  | [], _ => by simp
  | x :: l, h => by
    have h1 := h x List.mem_cons_self
    have h2 := flat_len g m l (fun y hy => h y (List.mem_cons_of_mem _ hy))
    rw [List.flatMap_cons, List.length_append, List.length_cons, Nat.succ_mul]
    omega
theorem followed_len {l : Sc} {g : Text → Sc} {m : Nat} (hg : ∀ u, (g u).length ≤ m) : (VafmsBase.followed l g).length ≤ l.length * m := by
  unfold VafmsBase.followed
  exact flat_len _ m l (fun x _ => by rw [List.length_map]; exact hg _)
theorem times_len {g : Text → Sc} {h : Nat} (hg : ∀ u, (g u).length ≤ 5 ^ h) (sep : Text) : ∀ (n : Nat) (b : Bool) (u : Text), (VafmsBase.scanTimes g sep n b u).length ≤ 5 ^ (n * h)
  | 0, b, u => by simp [VafmsBase.scanTimes]
  | n + 1, b, u => by
    have go : ∀ v, (VafmsBase.followed (g v) (VafmsBase.scanTimes g sep n false)).length ≤ 5 ^ ((n + 1) * h) := fun v => by
      refine Nat.le_trans (followed_len (times_len hg sep n false)) ?_
      rw [Nat.succ_mul, Nat.pow_add, Nat.mul_comm (5 ^ (n * h))]
      exact Nat.mul_le_mul_right _ (hg v)
    cases b with
    | true => exact go u
    | false =>
      simp only [VafmsBase.scanTimes, Bool.false_eq_true, if_false]
      cases e : VafmsBase.behind sep u with
      | none => exact Nat.zero_le _
      | some v => exact go v
theorem downFrom_len {lo hi : Nat} : (VafmsBase.downFrom lo hi).length ≤ hi + 1 := by
  unfold VafmsBase.downFrom
  rw [List.length_reverse]
  exact Nat.le_trans (List.length_filter_le _ _) (by simp)
theorem downFrom_len1 {lo hi : Nat} (h : 1 ≤ lo) : (VafmsBase.downFrom lo hi).length ≤ hi := by
  by_cases c : lo ≤ hi
  · rw [downFrom_eq c]
    simp
    omega
  · unfold VafmsBase.downFrom
    rw [List.filter_eq_nil_iff.mpr]
    · exact Nat.zero_le _
    · intro x hx
      have := List.mem_range.mp hx
      simp
      omega
theorem scP_len (p : Pc) (ok : p.okSp = true) (hr : ∀ a ∈ p.rows, ∀ u, (VafmsBase.scans a u).length ≤ 5 ^ a.holes) (u : Text) : (scP p u).length ≤ 5 ^ p.holes := by
  cases p with
  | lit w =>
    simp only [scP]
    cases VafmsBase.behind w u <;> simp [Pc.holes]
  | num lo hi =>
    simp only [Pc.okSp, Bool.and_eq_true, decide_eq_true_eq] at ok
    have h2 := downFrom_len1 (hi := hi) ok.1
    show (VafmsBase.scanNum lo hi u).length ≤ 5 ^ 1
    unfold VafmsBase.scanNum
    exact Nat.le_trans (List.length_filterMap_le _ _) (by omega)
  | word lo hi =>
    simp only [Pc.okSp, Bool.and_eq_true, decide_eq_true_eq] at ok
    have h2 := downFrom_len1 (hi := hi) ok.1
    show (VafmsBase.scanWord lo hi u).length ≤ 5 ^ 1
    unfold VafmsBase.scanWord
    exact Nat.le_trans (List.length_filterMap_le _ _) (by omega)
  | alt a b =>
    have h1 := hr a (by simp [Pc.rows]) u
    have h2 := hr b (by simp [Pc.rows]) u
    have h3 := pow_le (Nat.le_max_left a.holes b.holes)
    have h4 := pow_le (Nat.le_max_right a.holes b.holes)
    simp only [scP, VafmsBase.tagged, List.length_append, List.length_map, Pc.holes, Nat.pow_succ]
    omega
  | opt a =>
    have h1 := hr a (by simp [Pc.rows]) u
    have h2 := pow_pos5 a.holes
    simp only [scP, VafmsBase.tagged, List.length_append, List.length_map, Pc.holes, Nat.pow_succ, List.length_singleton]
    omega
  | rep s lo hi a =>
    simp only [Pc.okSp, Bool.and_eq_true, decide_eq_true_eq] at ok
    have h1 := flat_len (fun n => VafmsBase.tagged n (VafmsBase.scanTimes (VafmsBase.scans a) s n true u)) (5 ^ (hi * a.holes)) (VafmsBase.downFrom lo hi) (fun n hn => by
      simp only [VafmsBase.tagged, List.length_map]
      refine Nat.le_trans (times_len (hr a (by simp [Pc.rows])) s n true u) (pow_le (Nat.mul_le_mul_right _ (mem_downFrom.mp hn).2)))
    have h2 := downFrom_len (lo := lo) (hi := hi)
    have h3 : (VafmsBase.downFrom lo hi).length * 5 ^ (hi * a.holes) ≤ 5 * 5 ^ (hi * a.holes) := Nat.mul_le_mul_right _ (by omega)
    simp only [scP, Pc.holes, Nat.pow_succ]
    omega
theorem scans_len_cons (p : Pc) (r : Fmt) (hp : ∀ u, (scP p u).length ≤ 5 ^ p.holes) (hr : ∀ u, (VafmsBase.scans r u).length ≤ 5 ^ r.holes) (u : Text) : (VafmsBase.scans (p.cons r) u).length ≤ 5 ^ (p.cons r).holes := by
  rw [scans_cons, holes_cons, Nat.pow_add]
  exact Nat.le_trans (followed_len hr) (Nat.mul_le_mul_right _ (hp u))
theorem scans_len : ∀ (f : Fmt), okSp f = true → ∀ (u : Text), (VafmsBase.scans f u).length ≤ 5 ^ f.holes
  | .done, _, u => by simp [scans_done, Fmt.holes]
  | .lit w r, ok, u => by
    have ok := okSp_cons (.lit w) r ▸ (show okSp (Pc.cons (.lit w) r) = true from ok)
    rw [Bool.and_eq_true] at ok
    exact scans_len_cons (.lit w) r (scP_len _ ok.1 (by simp [Pc.rows])) (scans_len r ok.2) u
  | .num lo hi r, ok, u => by
    have ok := okSp_cons (.num lo hi) r ▸ (show okSp (Pc.cons (.num lo hi) r) = true from ok)
    rw [Bool.and_eq_true] at ok
    exact scans_len_cons (.num lo hi) r (scP_len _ ok.1 (by simp [Pc.rows])) (scans_len r ok.2) u
  | .word lo hi r, ok, u => by
    have ok := okSp_cons (.word lo hi) r ▸ (show okSp (Pc.cons (.word lo hi) r) = true from ok)
    rw [Bool.and_eq_true] at ok
    exact scans_len_cons (.word lo hi) r (scP_len _ ok.1 (by simp [Pc.rows])) (scans_len r ok.2) u
  | .alt a b r, ok, u => by
    have ok := okSp_cons (.alt a b) r ▸ (show okSp (Pc.cons (.alt a b) r) = true from ok)
    rw [Bool.and_eq_true] at ok
    have ok1 := ok.1
    simp only [Pc.okSp, Bool.and_eq_true] at ok1
    exact scans_len_cons (.alt a b) r (scP_len _ ok.1 (by simp only [Pc.rows, List.mem_cons, List.not_mem_nil, or_false]; rintro c (rfl | rfl); exact scans_len _ ok1.1; exact scans_len _ ok1.2)) (scans_len r ok.2) u
  | .opt a r, ok, u => by
    have ok := okSp_cons (.opt a) r ▸ (show okSp (Pc.cons (.opt a) r) = true from ok)
    rw [Bool.and_eq_true] at ok
    have ok1 := ok.1
    simp only [Pc.okSp] at ok1
    exact scans_len_cons (.opt a) r (scP_len _ ok.1 (by simp only [Pc.rows, List.mem_cons, List.not_mem_nil, or_false]; rintro c rfl; exact scans_len _ ok1)) (scans_len r ok.2) u
  | .rep s lo hi a r, ok, u => by
    have ok := okSp_cons (.rep s lo hi a) r ▸ (show okSp (Pc.cons (.rep s lo hi a) r) = true from ok)
    rw [Bool.and_eq_true] at ok
    have ok1 := ok.1
    simp only [Pc.okSp, Bool.and_eq_true] at ok1
    exact scans_len_cons (.rep s lo hi a) r (scP_len _ ok.1 (by simp only [Pc.rows, List.mem_cons, List.not_mem_nil, or_false]; rintro c rfl; exact scans_len _ ok1.2.2.2)) (scans_len r ok.2) u
theorem goW_len {f : Fmt} (ok : okSp f = true) (t : Text) (ws : Ways) : (goW f t ws).length ≤ ws.length * 5 ^ f.holes :=
  flat_len _ _ ws fun x _ => by
    rw [List.length_map]
    unfold sI
    rw [List.length_map]
    exact scans_len f ok _
theorem wP_len {p : Pc} (ok : p.okSp = true) (t : Text) (k : Nat) : (wP p t k).length ≤ 5 ^ p.holes := by
  unfold wP sI
  rw [List.length_map]
  refine scP_len p ok (fun a ha u => scans_len a ?_ u) _
  cases p with
  | lit w => cases ha
  | num lo hi => cases ha
  | word lo hi => cases ha
  | alt a b =>
    simp only [Pc.rows, List.mem_cons, List.not_mem_nil, or_false] at ha
    simp only [Pc.okSp, Bool.and_eq_true] at ok
    rcases ha with rfl | rfl
    · exact ok.1
    · exact ok.2
  | opt a =>
    simp only [Pc.rows, List.mem_cons, List.not_mem_nil, or_false] at ha
    subst ha
    exact ok
  | rep s lo hi a =>
    simp only [Pc.rows, List.mem_cons, List.not_mem_nil, or_false] at ha
    subst ha
    simp only [Pc.okSp, Bool.and_eq_true] at ok
    exact ok.2.2.2
end Asc
/-! How far: the Spec's ways as sets of places and wishes. -/
namespace Asc
open VafmsBase (Fmt Text Value)
open Vafmsb (Going Stuck)

theorem mem_once_aux (l : List (Nat × Text)) : ∀ (k : List (Nat × Text)) (y : Nat × Text), y ∈ l.foldl (fun k x => if k.contains x then k else k ++ [x]) k ↔ y ∈ k ∨ y ∈ l := by
  induction l with
  | nil => intro k y; simp
  | cons a l ih =>
    intro k y
    rw [List.foldl_cons, ih]
    by_cases c : k.contains a = true
    · rw [if_pos c]
      have : a ∈ k := List.contains_iff_mem.mp c
      constructor
      · rintro (h | h)
        · exact .inl h
        · exact .inr (List.mem_cons_of_mem _ h)
      · rintro (h | h)
        · exact .inl h
        · rcases List.mem_cons.mp h with rfl | h
          · exact .inl this
          · exact .inr h
    · rw [if_neg c, List.mem_append, List.mem_singleton, List.mem_cons, or_assoc]
theorem mem_once {l : List (Nat × Text)} {y : Nat × Text} : y ∈ Vafmsb.once l ↔ y ∈ l := by
  unfold Vafmsb.once
  rw [mem_once_aux]
  simp
theorem allOf_aux (l : List Going) : ∀ (g : Going), (l.foldl Vafmsb.both g).at_ = g.at_ ++ l.flatMap Going.at_ ∧ (l.foldl Vafmsb.both g).stuck = g.stuck ++ l.flatMap Going.stuck := by
  induction l with
  | nil => intro g; simp
  | cons a l ih =>
    intro g
    rw [List.foldl_cons, (ih _).1, (ih _).2]
    simp [Vafmsb.both]
theorem allOf_at (l : List Going) : (Vafmsb.allOf l).at_ = l.flatMap Going.at_ := by
  unfold Vafmsb.allOf
  rw [(allOf_aux l _).1]
  rfl
theorem allOf_stuck (l : List Going) : (Vafmsb.allOf l).stuck = l.flatMap Going.stuck := by
  unfold Vafmsb.allOf
  rw [(allOf_aux l _).2]
  rfl
theorem next_at {g : Going} {f : Nat → Text → Going} {y : Nat × Text} : y ∈ (Vafmsb.next g f).at_ ↔ ∃ x ∈ g.at_, y ∈ (f x.1 x.2).at_ := by
  simp only [Vafmsb.next, mem_once, allOf_at, List.mem_flatMap, List.mem_map]
  constructor
  · rintro ⟨h, ⟨x, hx, rfl⟩, hy⟩
    exact ⟨x, hx, hy⟩
  · rintro ⟨x, hx, hy⟩
    exact ⟨_, ⟨x, hx, rfl⟩, hy⟩
theorem next_stuck {g : Going} {f : Nat → Text → Going} {s : Stuck} : s ∈ (Vafmsb.next g f).stuck ↔ s ∈ g.stuck ∨ ∃ x ∈ g.at_, s ∈ (f x.1 x.2).stuck := by
  simp only [Vafmsb.next, List.mem_append, allOf_stuck, List.mem_flatMap, List.mem_map]
  constructor
  · rintro (h | ⟨h, ⟨x, hx, rfl⟩, hy⟩)
    · exact .inl h
    · exact .inr ⟨x, mem_once.mp hx, hy⟩
  · rintro (h | ⟨x, hx, hy⟩)
    · exact .inl h
    · exact .inr ⟨_, ⟨x, mem_once.mpr hx, rfl⟩, hy⟩

/-! ### sets -/
abbrev Goer := Nat → Text → Going
def Rg (F : Goer) (tx : Text) (p q : Nat) : Prop := ∃ u, (q, u) ∈ (F p (tx.drop p)).at_
def Sg (F : Goer) (tx : Text) (p q b : Nat) : Prop := ∃ s ∈ (F p (tx.drop p)).stuck, s.place = q ∧ b ∈ s.wished
/-- what is reached lies in the text -/
def Gd (F : Goer) (tx : Text) : Prop := ∀ p, p ≤ tx.length → ∀ x ∈ (F p (tx.drop p)).at_, x.1 ≤ tx.length ∧ x.2 = tx.drop x.1
/-- H goes by F, then by G -/
structure Nx (F G H : Goer) : Prop where
  at_ : ∀ p t y, y ∈ (H p t).at_ ↔ ∃ x ∈ (F p t).at_, y ∈ (G x.1 x.2).at_
  stuck : ∀ p t s, s ∈ (H p t).stuck ↔ s ∈ (F p t).stuck ∨ ∃ x ∈ (F p t).at_, s ∈ (G x.1 x.2).stuck
theorem nx_next (F G : Goer) : Nx F G (fun p t => Vafmsb.next (F p t) G) := ⟨fun _ _ _ => next_at, fun _ _ _ => next_stuck⟩
theorem Gd.nx {F G H : Goer} {tx : Text} (n : Nx F G H) (hf : Gd F tx) (hg : Gd G tx) : Gd H tx := fun p hp x hx => by
  obtain ⟨y, hy, hx⟩ := (n.at_ _ _ _).mp hx
  obtain ⟨h1, h2⟩ := hf p hp y hy
  rw [h2] at hx
  exact hg _ h1 x hx
theorem Rg.nx {F G H : Goer} {tx : Text} (n : Nx F G H) (hf : Gd F tx) {p q : Nat} (hp : p ≤ tx.length) : Rg H tx p q ↔ ∃ m, m ≤ tx.length ∧ Rg F tx p m ∧ Rg G tx m q := by
  unfold Rg
  constructor
  · rintro ⟨u, h⟩
    obtain ⟨y, hy, hx⟩ := (n.at_ _ _ _).mp h
    obtain ⟨h1, h2⟩ := hf p hp y hy
    rw [h2] at hx
    exact ⟨y.1, h1, ⟨y.2, hy⟩, u, hx⟩
  · rintro ⟨m, hm, ⟨v, hv⟩, u, hu⟩
    obtain ⟨h1, h2⟩ := hf p hp _ hv
    simp only at h1 h2
    exact ⟨u, (n.at_ _ _ _).mpr ⟨(m, v), hv, by simp only; rw [h2]; exact hu⟩⟩
theorem Sg.nx {F G H : Goer} {tx : Text} (n : Nx F G H) (hf : Gd F tx) {p q b : Nat} (hp : p ≤ tx.length) : Sg H tx p q b ↔ Sg F tx p q b ∨ ∃ m, m ≤ tx.length ∧ Rg F tx p m ∧ Sg G tx m q b := by
  unfold Sg Rg
  constructor
  · rintro ⟨s, h, e⟩
    rcases (n.stuck _ _ _).mp h with h | ⟨y, hy, hx⟩
    · exact .inl ⟨s, h, e⟩
    · obtain ⟨h1, h2⟩ := hf p hp y hy
      rw [h2] at hx
      exact .inr ⟨y.1, h1, ⟨y.2, hy⟩, s, hx, e⟩
  · rintro (⟨s, h, e⟩ | ⟨m, hm, ⟨v, hv⟩, s, hs, e⟩)
    · exact ⟨s, (n.stuck _ _ _).mpr (.inl h), e⟩
    · obtain ⟨h1, h2⟩ := hf p hp _ hv
      simp only at h1 h2
      exact ⟨s, (n.stuck _ _ _).mpr (.inr ⟨(m, v), hv, by simp only; rw [h2]; exact hs⟩), e⟩
theorem Gd.both {F G : Goer} {tx : Text} (hf : Gd F tx) (hg : Gd G tx) : Gd (fun p t => Vafmsb.both (F p t) (G p t)) tx := fun p hp x hx => (List.mem_append.mp hx).elim (hf p hp x) (hg p hp x)
theorem Rg.both {F G : Goer} {tx : Text} {p q : Nat} : Rg (fun p t => Vafmsb.both (F p t) (G p t)) tx p q ↔ Rg F tx p q ∨ Rg G tx p q := by
  unfold Rg Vafmsb.both
  simp only [List.mem_append]
  constructor
  · rintro ⟨u, h | h⟩
    · exact .inl ⟨u, h⟩
    · exact .inr ⟨u, h⟩
  · rintro (⟨u, h⟩ | ⟨u, h⟩)
    · exact ⟨u, .inl h⟩
    · exact ⟨u, .inr h⟩
theorem Sg.both {F G : Goer} {tx : Text} {p q b : Nat} : Sg (fun p t => Vafmsb.both (F p t) (G p t)) tx p q b ↔ Sg F tx p q b ∨ Sg G tx p q b := by
  unfold Sg Vafmsb.both
  simp only [List.mem_append]
  constructor
  · rintro ⟨u, h | h, e⟩
    · exact .inl ⟨u, h, e⟩
    · exact .inr ⟨u, h, e⟩
  · rintro (⟨u, h, e⟩ | ⟨u, h, e⟩)
    · exact ⟨u, .inl h, e⟩
    · exact ⟨u, .inr h, e⟩
def here : Goer := fun p t => ⟨[(p, t)], []⟩
theorem Gd.here (tx : Text) : Gd here tx := fun p hp x hx => by
  have e : x = (p, tx.drop p) := by simpa [Asc.here] using hx
  subst e
  exact ⟨hp, rfl⟩
theorem Rg.here {tx : Text} {p q : Nat} : Rg here tx p q ↔ q = p := by
  unfold Rg Asc.here
  simp
theorem Sg.here {tx : Text} {p q b : Nat} : ¬ Sg here tx p q b := by
  unfold Sg Asc.here
  simp
/-! #### a literal -/
def goL (w : Text) : Goer := fun p t => match Vafmsb.goLit w p t with
  | .error s => ⟨[], [s]⟩
  | .ok x => ⟨[x], []⟩
theorem goLit_ok : ∀ {w : Text} {p : Nat} {t : Text} {x : Nat × Text}, Vafmsb.goLit w p t = .ok x → x.1 = p + w.length ∧ x.2 = t.drop w.length ∧ w.length ≤ t.length
  | [], p, t, x, h => by
    have e : (p, t) = x := by simpa [Vafmsb.goLit] using h
    subst e
    exact ⟨rfl, rfl, Nat.zero_le _⟩
  | a :: w, p, [], x, h => by simp [Vafmsb.goLit] at h
  | a :: w, p, b :: t, x, h => by
    simp only [Vafmsb.goLit] at h
    split at h
    · have := goLit_ok h
      simp only [List.length_cons, List.drop_succ_cons]
      exact ⟨by omega, this.2.1, by omega⟩
    · cases h
theorem Gd.goL (w tx : Text) : Gd (goL w) tx := fun p hp x hx => by
  unfold Asc.goL at hx
  cases e : Vafmsb.goLit w p (tx.drop p) with
  | error s => rw [e] at hx; cases hx
  | ok y =>
    rw [e] at hx
    have e2 : x = y := by simpa using hx
    subst e2
    obtain ⟨h1, h2, h3⟩ := goLit_ok e
    rw [List.length_drop] at h3
    refine ⟨by omega, ?_⟩
    rw [h2, h1, List.drop_drop]
/-! #### runs of signs -/
def okc (is : Nat → Bool) (tx : Text) (q : Nat) : Bool := match tx[q]? with
  | some b => is b
  | none => false
theorem okc_drop (is : Nat → Bool) (tx : Text) (p j : Nat) : okc is (tx.drop p) j = okc is tx (p + j) := by
  unfold okc
  rw [List.getElem?_drop]
theorem goRun_at {is : Nat → Bool} {ws : List Nat} {lo : Nat} : ∀ (m n p : Nat) (t : Text) (y : Nat × Text), lo ≤ n + m →
    (y ∈ (Vafmsb.goRun is ws lo m n p t).at_ ↔ ∃ i, i ≤ m ∧ lo ≤ n + i ∧ (∀ j, j < i → okc is t j = true) ∧ y = (p + i, t.drop i))
  | 0, n, p, t, y, h => by
    simp only [Vafmsb.goRun, List.mem_singleton]
    constructor
    · rintro rfl
      exact ⟨0, Nat.le_refl _, h, fun j hj => by omega, by simp⟩
    · rintro ⟨i, hi, _, _, e⟩
      have : i = 0 := by omega
      subst this
      simpa using e
  | m + 1, n, p, t, y, h => by
    have hh : ∀ y, y ∈ (if lo ≤ n then (⟨[(p, t)], []⟩ : Going) else Vafmsb.nowhere).at_ ↔ lo ≤ n ∧ y = (p, t) := fun y => by
      by_cases c : lo ≤ n
      · rw [if_pos c]
        simp [c]
      · rw [if_neg c]
        simp [Vafmsb.nowhere, c]
    cases t with
    | nil =>
      simp only [Vafmsb.goRun, Vafmsb.both, List.mem_append, hh]
      constructor
      · rintro (⟨h1, rfl⟩ | h1)
        · exact ⟨0, Nat.zero_le _, h1, fun j hj => by omega, by simp⟩
        · cases h1
      · rintro ⟨i, hi, hl, hj, e⟩
        have : i = 0 := by
          rcases Nat.eq_zero_or_pos i with z | z
          · exact z
          · have := hj 0 z
            simp [okc] at this
        subst this
        exact .inl ⟨hl, by simpa using e⟩
    | cons b u =>
      by_cases c : is b = true
      · simp only [Vafmsb.goRun, if_pos c, Vafmsb.both, List.mem_append, hh]
        rw [goRun_at m (n + 1) (p + 1) u y (by omega)]
        constructor
        · rintro (⟨h1, rfl⟩ | ⟨i, h1, h2, h3, rfl⟩)
          · exact ⟨0, Nat.zero_le _, h1, fun j hj => by omega, by simp⟩
          · refine ⟨i + 1, by omega, by omega, fun j hj => ?_, by simp only [List.drop_succ_cons, Prod.mk.injEq, and_true]; omega⟩
            cases j with
            | zero => exact c
            | succ j => exact h3 j (by omega)
        · rintro ⟨i, h1, h2, h3, rfl⟩
          cases i with
          | zero => exact .inl ⟨h2, by simp⟩
          | succ i => exact .inr ⟨i, by omega, by omega, fun j hj => h3 (j + 1) (by omega), by simp only [List.drop_succ_cons, Prod.mk.injEq, and_true]; omega⟩
      · simp only [Vafmsb.goRun, if_neg c, Vafmsb.both, List.mem_append, hh]
        constructor
        · rintro (⟨h1, rfl⟩ | h1)
          · exact ⟨0, Nat.zero_le _, h1, fun j hj => by omega, by simp⟩
          · cases h1
        · rintro ⟨i, hi, hl, hj, e⟩
          have : i = 0 := by
            rcases Nat.eq_zero_or_pos i with z | z
            · exact z
            · exact absurd (hj 0 z) c
          subst this
          exact .inl ⟨hl, by simpa using e⟩
theorem goRun_stuck {is : Nat → Bool} {ws : List Nat} {lo : Nat} : ∀ (m n p : Nat) (t : Text) (s : Stuck),
    (s ∈ (Vafmsb.goRun is ws lo m n p t).stuck ↔ ∃ i, i < m ∧ (∀ j, j < i → okc is t j = true) ∧ okc is t i = false ∧ s = ⟨p + i, ws⟩)
  | 0, n, p, t, s => by
    simp only [Vafmsb.goRun]
    constructor
    · intro h
      cases h
    · rintro ⟨i, hi, _⟩
      omega
  | m + 1, n, p, t, s => by
    have hh : (if lo ≤ n then (⟨[(p, t)], []⟩ : Going) else Vafmsb.nowhere).stuck = [] := by
      by_cases c : lo ≤ n
      · rw [if_pos c]
      · rw [if_neg c]
        rfl
    cases t with
    | nil =>
      simp only [Vafmsb.goRun, Vafmsb.both, hh, List.nil_append, List.mem_singleton]
      constructor
      · rintro rfl
        exact ⟨0, by omega, fun j hj => by omega, rfl, rfl⟩
      · rintro ⟨i, hi, hj, _, rfl⟩
        have : i = 0 := by
          rcases Nat.eq_zero_or_pos i with z | z
          · exact z
          · have := hj 0 z
            simp [okc] at this
        subst this
        rfl
    | cons b u =>
      by_cases c : is b = true
      · simp only [Vafmsb.goRun, if_pos c, Vafmsb.both, hh, List.nil_append]
        rw [goRun_stuck m (n + 1) (p + 1) u s]
        constructor
        · rintro ⟨i, h1, h2, h3, rfl⟩
          refine ⟨i + 1, by omega, fun j hj => ?_, h3, by simp only [Stuck.mk.injEq, and_true]; omega⟩
          cases j with
          | zero => exact c
          | succ j => exact h2 j (by omega)
        · rintro ⟨i, h1, h2, h3, rfl⟩
          cases i with
          | zero => exact absurd c (by rw [show is b = okc is (b :: u) 0 from rfl, h3]; decide)
          | succ i => exact ⟨i, by omega, fun j hj => h2 (j + 1) (by omega), h3, by simp only [Stuck.mk.injEq, and_true]; omega⟩
      · simp only [Vafmsb.goRun, if_neg c, Vafmsb.both, hh, List.nil_append, List.mem_singleton]
        constructor
        · rintro rfl
          exact ⟨0, by omega, fun j hj => by omega, by simpa [okc] using c, rfl⟩
        · rintro ⟨i, hi, hj, _, rfl⟩
          have : i = 0 := by
            rcases Nat.eq_zero_or_pos i with z | z
            · exact z
            · exact absurd (hj 0 z) c
          subst this
          rfl
/-- so many signs are right: the first one by f, the others by o -/
def Run (f o : Nat → Bool) (tx : Text) (p n : Nat) : Prop := ∀ j, j < n → okc (if j = 0 then f else o) tx (p + j) = true
/-- the places behind signs; the wishes -/
def sgR (f o : Nat → Bool) (lo hi : Nat) (tx : Text) (p q : Nat) : Prop := ∃ n, 1 ≤ n ∧ lo ≤ n ∧ n ≤ hi ∧ Run f o tx p n ∧ q = p + n
def sgS (f o : Nat → Bool) (lf l2 : List Nat) (hi : Nat) (tx : Text) (p q b : Nat) : Prop := ∃ n, n < hi ∧ Run f o tx p n ∧ okc (if n = 0 then f else o) tx (p + n) = false ∧ q = p + n ∧ b ∈ (if n = 0 then lf else l2)
theorem Run.same {f : Nat → Bool} {tx : Text} {p n : Nat} : Run f f tx p n ↔ ∀ j, j < n → okc f (tx.drop p) j = true := by
  unfold Run
  constructor
  · intro h j hj
    have := h j hj
    rw [okc_drop]
    by_cases c : j = 0 <;> simpa [c] using this
  · intro h j hj
    have := h j hj
    rw [okc_drop] at this
    by_cases c : j = 0 <;> simpa [c] using this
theorem run_R {is : Nat → Bool} {ws : List Nat} {lo hi : Nat} {tx : Text} {p q : Nat} (h1 : 1 ≤ lo) (h2 : lo ≤ hi) : Rg (fun p t => Vafmsb.goRun is ws lo hi 0 p t) tx p q ↔ sgR is is lo hi tx p q := by
  unfold Rg sgR
  constructor
  · rintro ⟨u, h⟩
    obtain ⟨i, a, b, c, e⟩ := (goRun_at hi 0 p _ _ (by omega)).mp h
    injection e with e1 e2
    exact ⟨i, by omega, by omega, a, Run.same.mpr c, e1⟩
  · rintro ⟨n, a, b, c, d, e⟩
    exact ⟨(tx.drop p).drop n, (goRun_at hi 0 p _ _ (by omega)).mpr ⟨n, c, by omega, Run.same.mp d, by rw [e]⟩⟩
theorem run_S {is : Nat → Bool} {ws : List Nat} {lo hi : Nat} {tx : Text} {p q b : Nat} : Sg (fun p t => Vafmsb.goRun is ws lo hi 0 p t) tx p q b ↔ sgS is is ws ws hi tx p q b := by
  unfold Sg sgS
  constructor
  · rintro ⟨s, h, e, hb⟩
    obtain ⟨i, a1, a2, a3, rfl⟩ := (goRun_stuck hi 0 p _ _).mp h
    rw [okc_drop] at a3
    exact ⟨i, a1, Run.same.mpr a2, by simpa using a3, e.symm, by simpa using hb⟩
  · rintro ⟨n, a1, a2, a3, rfl, hb⟩
    refine ⟨⟨p + n, ws⟩, (goRun_stuck hi 0 p _ _).mpr ⟨n, a1, Run.same.mp a2, ?_, rfl⟩, rfl, by simpa using hb⟩
    rw [okc_drop]
    simpa using a3
theorem run_G {is : Nat → Bool} {ws : List Nat} {lo hi : Nat} (tx : Text) (h2 : lo ≤ hi) : Gd (fun p t => Vafmsb.goRun is ws lo hi 0 p t) tx := fun p hp x hx => by
  obtain ⟨i, a, b, c, rfl⟩ := (goRun_at hi 0 p _ _ (by omega)).mp hx
  simp only
  refine ⟨?_, List.drop_drop⟩
  rcases Nat.eq_zero_or_pos i with z | z
  · omega
  · have := c (i - 1) (by omega)
    rw [okc_drop] at this
    unfold okc at this
    split at this
    · rename_i q
      have := (List.getElem?_eq_some_iff.mp q).1
      omega
    · cases this
/-- a digit but 0 -/
def isDigit1 (b : Nat) : Bool := decide (49 ≤ b) && decide (b ≤ 57)
/-- the case of a 0 alone -/
def zeroAt (lo hi : Nat) (tx : Text) (p : Nat) : Bool := decide (lo ≠ hi) && (decide (lo = 1) && decide (tx[p]? = some 48))
def numF (lo hi : Nat) : Nat → Bool := if lo = hi then VafmsBase.isDigit else if lo > 1 then isDigit1 else VafmsBase.isDigit
def numL (lo hi : Nat) : List Nat := if lo = hi then Vafmsb.digits else if lo > 1 then Vafmsb.digits.drop 1 else Vafmsb.digits
def nuR (lo hi : Nat) (tx : Text) (p q : Nat) : Prop := if zeroAt lo hi tx p = true then q = p + 1 else sgR (numF lo hi) VafmsBase.isDigit lo hi tx p q
def nuS (lo hi : Nat) (tx : Text) (p q b : Nat) : Prop := if zeroAt lo hi tx p = true then False else sgS (numF lo hi) VafmsBase.isDigit (numL lo hi) Vafmsb.digits hi tx p q b
theorem drop_cons {tx : Text} {p b : Nat} {u : Text} (h : tx.drop p = b :: u) : tx[p]? = some b ∧ u = tx.drop (p + 1) := by
  have h1 : tx[p]? = (tx.drop p)[0]? := by rw [List.getElem?_drop]; rfl
  refine ⟨by rw [h1, h]; rfl, ?_⟩
  have h2 : tx.drop (p + 1) = (tx.drop p).drop 1 := by rw [List.drop_drop]
  rw [h2, h]
  rfl
theorem drop_nil {tx : Text} {p : Nat} (h : tx.drop p = []) : tx[p]? = none := by
  have h1 : tx[p]? = (tx.drop p)[0]? := by rw [List.getElem?_drop]; rfl
  rw [h1, h]
  rfl
theorem goNum_zero {lo hi p : Nat} {u : Text} (e : lo ≠ hi) : Vafmsb.goNum lo hi p (48 :: u) = if lo ≤ 1 then ⟨[(p + 1, u)], []⟩ else ⟨[], [⟨p, Vafmsb.digits.drop 1⟩]⟩ := by
  unfold Vafmsb.goNum
  rw [if_neg e]
  rfl
theorem goNum_nil {lo hi p : Nat} (e : lo ≠ hi) : Vafmsb.goNum lo hi p [] = if lo ≤ 1 then Vafmsb.goRun VafmsBase.isDigit Vafmsb.digits lo hi 0 p [] else ⟨[], [⟨p, Vafmsb.digits.drop 1⟩]⟩ := by
  unfold Vafmsb.goNum
  rw [if_neg e]
theorem goNum_cons {lo hi p b : Nat} {u : Text} (e : lo ≠ hi) (h : b ≠ 48) : Vafmsb.goNum lo hi p (b :: u) = if lo ≤ 1 then Vafmsb.goRun VafmsBase.isDigit Vafmsb.digits lo hi 0 p (b :: u) else
    if VafmsBase.isDigit b = true then Vafmsb.goRun VafmsBase.isDigit Vafmsb.digits lo (hi - 1) 1 (p + 1) u else ⟨[], [⟨p, Vafmsb.digits.drop 1⟩]⟩ := by
  have h' : ∀ v, b :: u = 48 :: v → False := fun v q => h (by injection q)
  unfold Vafmsb.goNum
  rw [if_neg e, Vafmsb.goNum.match_3.eq_2 _ _ _ _ h']
theorem num_all {lo hi : Nat} (h1 : 1 ≤ lo) (h2 : lo ≤ hi) (tx : Text) (p : Nat) (hp : p ≤ tx.length) :
    (∀ x, x ∈ (Vafmsb.goNum lo hi p (tx.drop p)).at_ → x.1 ≤ tx.length ∧ x.2 = tx.drop x.1) ∧ (∀ q, Rg (Vafmsb.goNum lo hi) tx p q ↔ nuR lo hi tx p q) ∧ ∀ q b, Sg (Vafmsb.goNum lo hi) tx p q b ↔ nuS lo hi tx p q b := by
  by_cases e : lo = hi
  · have z : zeroAt lo hi tx p = false := by simp [zeroAt, e]
    have g : Vafmsb.goNum lo hi = fun p t => Vafmsb.goRun VafmsBase.isDigit Vafmsb.digits lo hi 0 p t := by
      funext p t
      simp only [Vafmsb.goNum]
      rw [if_pos e]
    have f1 : numF lo hi = VafmsBase.isDigit := if_pos e
    have f2 : numL lo hi = Vafmsb.digits := if_pos e
    simp only [nuR, nuS, z, Bool.false_eq_true, if_false, f1, f2]
    refine ⟨fun x hx => ?_, fun q => ?_, fun q b => ?_⟩
    · rw [g] at hx
      exact run_G tx h2 p hp x hx
    · rw [g]
      exact run_R h1 h2
    · rw [g]
      exact run_S
  by_cases zc : tx[p]? = some 48
  · -- a 0 in front
    have hd : tx.drop p = 48 :: tx.drop (p + 1) := by
      have hlt := (List.getElem?_eq_some_iff.mp zc).1
      rw [List.drop_eq_getElem_cons hlt, (List.getElem?_eq_some_iff.mp zc).2]
    have hlt := (List.getElem?_eq_some_iff.mp zc).1
    by_cases l1 : lo = 1
    · have z : zeroAt lo hi tx p = true := by simp [zeroAt, e, l1, zc]; omega
      have g : Vafmsb.goNum lo hi p (tx.drop p) = ⟨[(p + 1, tx.drop (p + 1))], []⟩ := by
        rw [hd, goNum_zero e, if_pos (by omega)]
      simp only [nuR, nuS, z, if_true, Rg, Sg, g]
      refine ⟨fun x hx => ?_, fun q => ?_, fun q b => ?_⟩
      · have e2 : x = (p + 1, tx.drop (p + 1)) := by simpa using hx
        subst e2
        exact ⟨hlt, rfl⟩
      · simp
      · simp
    · have z : zeroAt lo hi tx p = false := by simp [zeroAt, l1]
      have g : Vafmsb.goNum lo hi p (tx.drop p) = ⟨[], [⟨p, Vafmsb.digits.drop 1⟩]⟩ := by
        rw [hd, goNum_zero e, if_neg (by omega)]
      have f1 : numF lo hi = isDigit1 := by unfold numF; rw [if_neg e, if_pos (by omega)]
      have f2 : numL lo hi = Vafmsb.digits.drop 1 := by unfold numL; rw [if_neg e, if_pos (by omega)]
      have bad : okc isDigit1 tx p = false := by
        unfold okc
        rw [zc]
        rfl
      have none1 : ∀ n, 1 ≤ n → ¬ Run isDigit1 VafmsBase.isDigit tx p n := fun n hn h => by
        have := h 0 hn
        rw [if_pos rfl, Nat.add_zero, bad] at this
        cases this
      simp only [nuR, nuS, z, Bool.false_eq_true, if_false, f1, f2, Rg, Sg, g]
      refine ⟨fun x hx => (List.not_mem_nil hx).elim, fun q => ?_, fun q b => ?_⟩
      · constructor
        · rintro ⟨u, h⟩
          cases h
        · rintro ⟨n, a1, a2, a3, a4, a5⟩
          exact absurd a4 (none1 n a1)
      · constructor
        · rintro ⟨s, h, rfl, hb⟩
          have e2 : s = ⟨p, Vafmsb.digits.drop 1⟩ := by simpa using h
          subst e2
          exact ⟨0, by omega, fun j hj => by omega, bad, rfl, hb⟩
        · rintro ⟨n, a1, a2, a3, rfl, hb⟩
          rcases Nat.eq_zero_or_pos n with c | c
          · subst c
            exact ⟨_, List.mem_singleton.mpr rfl, rfl, hb⟩
          · exact absurd a2 (none1 n c)
  · -- no 0 in front
    have z : zeroAt lo hi tx p = false := by simp [zeroAt, zc]
    have n48 : ∀ u, tx.drop p = 48 :: u → False := fun u h => zc (drop_cons h).1
    by_cases l1 : lo = 1
    · have g : Vafmsb.goNum lo hi p (tx.drop p) = Vafmsb.goRun VafmsBase.isDigit Vafmsb.digits lo hi 0 p (tx.drop p) := by
        cases hd : tx.drop p with
        | nil => rw [goNum_nil e, if_pos (by omega)]
        | cons b u => rw [goNum_cons e (fun c => n48 u (by rw [hd, c])), if_pos (by omega)]
      have f1 : numF lo hi = VafmsBase.isDigit := by unfold numF; rw [if_neg e, if_neg (by omega)]
      have f2 : numL lo hi = Vafmsb.digits := by unfold numL; rw [if_neg e, if_neg (by omega)]
      simp only [nuR, nuS, z, Bool.false_eq_true, if_false, f1, f2]
      refine ⟨fun x hx => ?_, fun q => ?_, fun q b => ?_⟩
      · rw [g] at hx
        exact run_G tx h2 p hp x hx
      · unfold Rg
        rw [g]
        exact run_R h1 h2
      · unfold Sg
        rw [g]
        exact run_S
    · have f1 : numF lo hi = isDigit1 := by unfold numF; rw [if_neg e, if_pos (by omega)]
      have f2 : numL lo hi = Vafmsb.digits.drop 1 := by unfold numL; rw [if_neg e, if_pos (by omega)]
      simp only [nuR, nuS, z, Bool.false_eq_true, if_false, f1, f2]
      have stuckAt : Vafmsb.goNum lo hi p (tx.drop p) = ⟨[], [⟨p, Vafmsb.digits.drop 1⟩]⟩ → okc isDigit1 tx p = false →
          (∀ x, x ∈ (Vafmsb.goNum lo hi p (tx.drop p)).at_ → x.1 ≤ tx.length ∧ x.2 = tx.drop x.1) ∧ (∀ q, Rg (Vafmsb.goNum lo hi) tx p q ↔ sgR isDigit1 VafmsBase.isDigit lo hi tx p q) ∧ ∀ q b, Sg (Vafmsb.goNum lo hi) tx p q b ↔ sgS isDigit1 VafmsBase.isDigit (Vafmsb.digits.drop 1) Vafmsb.digits hi tx p q b := fun g bad => by
        have none1 : ∀ n, 1 ≤ n → ¬ Run isDigit1 VafmsBase.isDigit tx p n := fun n hn h => by
          have := h 0 hn
          rw [if_pos rfl, Nat.add_zero, bad] at this
          cases this
        unfold Rg Sg
        rw [g]
        refine ⟨fun x hx => (List.not_mem_nil hx).elim, fun q => ?_, fun q b => ?_⟩
        · constructor
          · rintro ⟨u, h⟩
            cases h
          · rintro ⟨n, a1, a2, a3, a4, a5⟩
            exact absurd a4 (none1 n a1)
        · constructor
          · rintro ⟨s, h, rfl, hb⟩
            have e2 : s = ⟨p, Vafmsb.digits.drop 1⟩ := by simpa using h
            subst e2
            exact ⟨0, by omega, fun j hj => by omega, bad, rfl, hb⟩
          · rintro ⟨n, a1, a2, a3, rfl, hb⟩
            rcases Nat.eq_zero_or_pos n with c | c
            · subst c
              exact ⟨_, List.mem_singleton.mpr rfl, rfl, hb⟩
            · exact absurd a2 (none1 n c)
      cases hd : tx.drop p with
      | nil =>
        rw [← hd]
        refine stuckAt ?_ ?_
        · rw [hd, goNum_nil e, if_neg (by omega)]
        · unfold okc
          rw [drop_nil hd]
      | cons b u =>
        obtain ⟨hb, hu⟩ := drop_cons hd
        have b48 : b ≠ 48 := fun c => zc (by rw [hb, c])
        have g0 : Vafmsb.goNum lo hi p (tx.drop p) = if VafmsBase.isDigit b = true then Vafmsb.goRun VafmsBase.isDigit Vafmsb.digits lo (hi - 1) 1 (p + 1) u else ⟨[], [⟨p, Vafmsb.digits.drop 1⟩]⟩ := by
          rw [hd, goNum_cons e b48, if_neg (by omega)]
        have same : VafmsBase.isDigit b = isDigit1 b := by
          unfold VafmsBase.isDigit isDigit1
          by_cases c : 49 ≤ b
          · simp [c]
            omega
          · have : ¬ 48 ≤ b := by omega
            simp [c, this]
        have first : okc isDigit1 tx p = isDigit1 b := by
          unfold okc
          rw [hb]
        rw [← hd]
        by_cases c : VafmsBase.isDigit b = true
        · rw [if_pos c] at g0
          have ok0 : okc isDigit1 tx p = true := by rw [first, ← same]; exact c
          have lt := (List.getElem?_eq_some_iff.mp hb).1
          have run1 : ∀ n, 1 ≤ n → (Run isDigit1 VafmsBase.isDigit tx p n ↔ ∀ j, j < n - 1 → okc VafmsBase.isDigit u j = true) := fun n hn => by
            rw [hu]
            constructor
            · intro h j hj
              have := h (j + 1) (by omega)
              rw [if_neg (by omega)] at this
              rw [okc_drop]
              rw [show p + 1 + j = p + (j + 1) by omega]
              exact this
            · intro h j hj
              cases j with
              | zero => rw [if_pos rfl]; exact ok0
              | succ j =>
                have := h j (by omega)
                rw [okc_drop] at this
                rw [if_neg (by omega), show p + (j + 1) = p + 1 + j by omega]
                exact this
          unfold Rg Sg
          rw [g0]
          refine ⟨fun x hx => ?_, fun q => ?_, fun q b' => ?_⟩
          · obtain ⟨i, a1, a2, a3, rfl⟩ := (goRun_at (hi - 1) 1 (p + 1) u x (by omega)).mp hx
            simp only
            refine ⟨?_, by rw [hu, List.drop_drop]⟩
            rcases Nat.eq_zero_or_pos i with z | z
            · omega
            · have := a3 (i - 1) (by omega)
              rw [hu, okc_drop] at this
              unfold okc at this
              split at this
              · rename_i q
                have := (List.getElem?_eq_some_iff.mp q).1
                omega
              · cases this
          · constructor
            · rintro ⟨v, h⟩
              obtain ⟨i, a1, a2, a3, e3⟩ := (goRun_at (hi - 1) 1 (p + 1) u _ (by omega)).mp h
              injection e3 with e3 e4
              exact ⟨i + 1, by omega, by omega, by omega, (run1 (i + 1) (by omega)).mpr a3, by omega⟩
            · rintro ⟨n, a1, a2, a3, a4, rfl⟩
              refine ⟨u.drop (n - 1), (goRun_at (hi - 1) 1 (p + 1) u _ (by omega)).mpr ⟨n - 1, by omega, by omega, (run1 n a1).mp a4, ?_⟩⟩
              rw [Prod.mk.injEq]
              exact ⟨by omega, rfl⟩
          · constructor
            · rintro ⟨s, h, rfl, hb'⟩
              obtain ⟨i, a1, a2, a3, rfl⟩ := (goRun_stuck (hi - 1) 1 (p + 1) u _).mp h
              rw [hu, okc_drop] at a3
              refine ⟨i + 1, by omega, (run1 (i + 1) (by omega)).mpr a2, ?_, by simp only; omega, ?_⟩
              · rw [if_neg (by omega), show p + (i + 1) = p + 1 + i by omega]
                exact a3
              · rw [if_neg (by omega)]
                exact hb'
            · rintro ⟨n, a1, a2, a3, rfl, hb'⟩
              rcases Nat.eq_zero_or_pos n with z | z
              · subst z
                rw [if_pos rfl, Nat.add_zero, ok0] at a3
                cases a3
              · rw [if_neg (by omega)] at a3 hb'
                refine ⟨⟨p + n, Vafmsb.digits⟩, (goRun_stuck (hi - 1) 1 (p + 1) u _).mpr ⟨n - 1, by omega, (run1 n z).mp a2, ?_, ?_⟩, rfl, hb'⟩
                · rw [hu, okc_drop, show p + 1 + (n - 1) = p + n by omega]
                  exact a3
                · rw [Stuck.mk.injEq]
                  exact ⟨by omega, rfl⟩
        · rw [if_neg c] at g0
          exact stuckAt g0 (by rw [first, ← same]; simpa using c)
end Asc
/-! Pieces and rows gone through; how much is wished; how far. -/
namespace Asc
open VafmsBase (Fmt Text Value)
open Vafmsb (Going Stuck)

/-! ### a literal's ways -/
theorem goLit_iff : ∀ (w : Text) (p : Nat) (t : Text),
    ((∀ i, i < w.length → t[i]? = w[i]?) ∧ Vafmsb.goLit w p t = .ok (p + w.length, t.drop w.length)) ∨
      ∃ j b, w[j]? = some b ∧ (∀ i, i < j → t[i]? = w[i]?) ∧ t[j]? ≠ w[j]? ∧ Vafmsb.goLit w p t = .error ⟨p + j, [b]⟩
  | [], p, t => .inl ⟨fun i hi => (Nat.not_lt_zero _ hi).elim, rfl⟩
  | a :: w, p, [] => .inr ⟨0, a, rfl, fun i hi => (Nat.not_lt_zero _ hi).elim, by simp, rfl⟩
  | a :: w, p, b :: t => by
    by_cases e : a = b
    · have g : Vafmsb.goLit (a :: w) p (b :: t) = Vafmsb.goLit w (p + 1) t := by
        simp only [Vafmsb.goLit]
        rw [if_pos e]
      rcases goLit_iff w (p + 1) t with ⟨h1, h2⟩ | ⟨j, c, h0, h1, h2, h3⟩
      · refine .inl ⟨fun i hi => ?_, ?_⟩
        · cases i with
          | zero => simp [e]
          | succ i => simpa using h1 i (by simpa using hi)
        · rw [g, h2]
          simp only [List.length_cons, List.drop_succ_cons]
          rw [show p + 1 + w.length = p + (w.length + 1) by omega]
      · refine .inr ⟨j + 1, c, by simpa using h0, fun i hi => ?_, by simpa using h2, ?_⟩
        · cases i with
          | zero => simp [e]
          | succ i => simpa using h1 i (by omega)
        · rw [g, h3, show p + 1 + j = p + (j + 1) by omega]
    · refine .inr ⟨0, a, rfl, fun i hi => (Nat.not_lt_zero _ hi).elim, by simpa using fun q => e q.symm, ?_⟩
      simp only [Vafmsb.goLit]
      rw [if_neg e]
      rfl
def LR (w tx : Text) (p q : Nat) : Prop := (∀ i, i < w.length → tx[p + i]? = w[i]?) ∧ q = p + w.length
def LS (w tx : Text) (p q b : Nat) : Prop := ∃ j, w[j]? = some b ∧ (∀ i, i < j → tx[p + i]? = w[i]?) ∧ tx[p + j]? ≠ w[j]? ∧ q = p + j
theorem goL_R {w tx : Text} {p q : Nat} : Rg (goL w) tx p q ↔ LR w tx p q := by
  have at_ : ∀ i, (tx.drop p)[i]? = tx[p + i]? := fun i => List.getElem?_drop
  unfold Rg LR goL
  rcases goLit_iff w p (tx.drop p) with ⟨h1, h2⟩ | ⟨j, c, h0, h1, h2, h3⟩
  · rw [h2]
    simp only [List.mem_singleton, Prod.mk.injEq, exists_and_left, exists_eq, and_true]
    exact ⟨fun h => ⟨fun i hi => by rw [← at_]; exact h1 i hi, h⟩, fun h => h.2⟩
  · rw [h3]
    constructor
    · rintro ⟨u, h⟩
      cases h
    · rintro ⟨h, _⟩
      exact absurd ((at_ j).trans (h j (List.getElem?_eq_some_iff.mp h0).1)) h2
theorem goL_S {w tx : Text} {p q b : Nat} : Sg (goL w) tx p q b ↔ LS w tx p q b := by
  have at_ : ∀ i, (tx.drop p)[i]? = tx[p + i]? := fun i => List.getElem?_drop
  unfold Sg LS goL
  rcases goLit_iff w p (tx.drop p) with ⟨h1, h2⟩ | ⟨j, c, h0, h1, h2, h3⟩
  · rw [h2]
    constructor
    · rintro ⟨s, h, _⟩
      cases h
    · rintro ⟨j, h3, _, h4, _⟩
      exact absurd ((at_ j).symm.trans (h1 j (List.getElem?_eq_some_iff.mp h3).1)) h4
  · rw [h3]
    constructor
    · rintro ⟨s, h, rfl, hb⟩
      have e : s = ⟨p + j, [c]⟩ := by simpa using h
      subst e
      have e2 : b = c := by simpa using hb
      subst e2
      exact ⟨j, h0, fun i hi => by rw [← at_]; exact h1 i hi, by rw [← at_]; exact h2, rfl⟩
    · rintro ⟨k, k0, k1, k2, rfl⟩
      have e : k = j := by
        rcases Nat.lt_trichotomy k j with c | c | c
        · exact absurd ((at_ k).symm.trans (h1 k c)) k2
        · exact c
        · exact absurd ((at_ j).trans (k1 j c)) h2
      subst e
      rw [h0] at k0
      have e2 : c = b := Option.some.inj k0
      subst e2
      exact ⟨_, List.mem_singleton.mpr rfl, rfl, List.mem_singleton.mpr rfl⟩
/-! ### pieces, rows -/
def goPc : Pc → Goer
  | .lit w => goL w
  | .num lo hi => Vafmsb.goNum lo hi
  | .word lo hi => fun p t => Vafmsb.goRun VafmsBase.isLetter Vafmsb.letters lo hi 0 p t
  | .alt a b => fun p t => Vafmsb.both (Vafmsb.go a p t) (Vafmsb.go b p t)
  | .opt a => fun p t => Vafmsb.both (Vafmsb.go a p t) (here p t)
  | .rep s lo hi a => fun p t => Vafmsb.allOf ((VafmsBase.downFrom lo hi).map fun n => Vafmsb.goTimes (Vafmsb.go a) s n true p t)
theorem nx_cons (p : Pc) (r : Fmt) : Nx (goPc p) (Vafmsb.go r) (Vafmsb.go (p.cons r)) := by
  cases p with
  | lit w =>
    have e : ∀ k t, Vafmsb.go (Pc.cons (.lit w) r) k t = match Vafmsb.goLit w k t with
      | .error s => ⟨[], [s]⟩
      | .ok x => Vafmsb.go r x.1 x.2 := fun _ _ => rfl
    refine ⟨fun k t y => ?_, fun k t s => ?_⟩
    · rw [e]
      simp only [goPc, goL]
      cases Vafmsb.goLit w k t <;> simp
    · rw [e]
      simp only [goPc, goL]
      cases Vafmsb.goLit w k t <;> simp
  | num lo hi => exact nx_next _ _
  | word lo hi => exact nx_next _ _
  | alt a b => exact nx_next _ _
  | opt a => exact nx_next _ _
  | rep s lo hi a => exact nx_next _ _
theorem go_done : Vafmsb.go .done = here := rfl
/-! ### times -/
section
variable (a : Fmt) (s tx : Text)
def ItR (b : Bool) (p q : Nat) : Prop := if b = true then Rg (Vafmsb.go a) tx p q else ∃ m, m ≤ tx.length ∧ LR s tx p m ∧ Rg (Vafmsb.go a) tx m q
def ItS (b : Bool) (p q c : Nat) : Prop := if b = true then Sg (Vafmsb.go a) tx p q c else LS s tx p q c ∨ ∃ m, m ≤ tx.length ∧ LR s tx p m ∧ Sg (Vafmsb.go a) tx m q c
def TR : Nat → Bool → Nat → Nat → Prop
  | 0, _, p, q => q = p
  | n + 1, b, p, q => ∃ m, m ≤ tx.length ∧ ItR a s tx b p m ∧ TR n false m q
def TS : Nat → Bool → Nat → Nat → Nat → Prop
  | 0, _, _, _, _ => False
  | n + 1, b, p, q, c => ItS a s tx b p q c ∨ ∃ m, m ≤ tx.length ∧ ItR a s tx b p m ∧ TS n false m q c
end
theorem nx_times1 (g : Goer) (s : Text) (n : Nat) : Nx g (Vafmsb.goTimes g s n false) (Vafmsb.goTimes g s (n + 1) true) := by
  have e : ∀ p t, Vafmsb.goTimes g s (n + 1) true p t = Vafmsb.next (g p t) (Vafmsb.goTimes g s n false) := fun _ _ => rfl
  exact ⟨fun p t y => by rw [e]; exact next_at, fun p t y => by rw [e]; exact next_stuck⟩
theorem nx_times2 (g : Goer) (s : Text) (n : Nat) : Nx (goL s) (Vafmsb.goTimes g s (n + 1) true) (Vafmsb.goTimes g s (n + 1) false) := by
  have e : ∀ p t, Vafmsb.goTimes g s (n + 1) true p t = Vafmsb.next (g p t) (Vafmsb.goTimes g s n false) := fun _ _ => rfl
  have e2 : ∀ p t, Vafmsb.goTimes g s (n + 1) false p t = match Vafmsb.goLit s p t with
    | .error s => ⟨[], [s]⟩
    | .ok x => Vafmsb.next (g x.1 x.2) (Vafmsb.goTimes g s n false) := fun _ _ => rfl
  refine ⟨fun p t y => ?_, fun p t y => ?_⟩
  · rw [e2]
    simp only [goL, e]
    cases Vafmsb.goLit s p t <;> simp
  · rw [e2]
    simp only [goL, e]
    cases Vafmsb.goLit s p t <;> simp
theorem times_all {a : Fmt} {tx : Text} (s : Text) (ha : Gd (Vafmsb.go a) tx) : ∀ (n : Nat) (b : Bool),
    Gd (Vafmsb.goTimes (Vafmsb.go a) s n b) tx ∧ ∀ p, p ≤ tx.length → (∀ q, Rg (Vafmsb.goTimes (Vafmsb.go a) s n b) tx p q ↔ TR a s tx n b p q) ∧ ∀ q c, Sg (Vafmsb.goTimes (Vafmsb.go a) s n b) tx p q c ↔ TS a s tx n b p q c
  | 0, b => by
    have e : Vafmsb.goTimes (Vafmsb.go a) s 0 b = here := rfl
    rw [e]
    refine ⟨Gd.here tx, fun p hp => ⟨fun q => Rg.here, fun q c => ?_⟩⟩
    exact ⟨fun h => (Sg.here h).elim, fun h => h.elim⟩
  | n + 1, b => by
    have ih := times_all s ha n false
    have g1 : Gd (Vafmsb.goTimes (Vafmsb.go a) s (n + 1) true) tx := Gd.nx (nx_times1 _ s n) ha ih.1
    have R1 : ∀ p, p ≤ tx.length → ∀ q, Rg (Vafmsb.goTimes (Vafmsb.go a) s (n + 1) true) tx p q ↔ ∃ m, m ≤ tx.length ∧ Rg (Vafmsb.go a) tx p m ∧ TR a s tx n false m q := fun p hp q => by
      rw [Rg.nx (nx_times1 _ s n) ha hp]
      constructor
      · rintro ⟨m, h1, h2, h3⟩
        exact ⟨m, h1, h2, ((ih.2 m h1).1 q).mp h3⟩
      · rintro ⟨m, h1, h2, h3⟩
        exact ⟨m, h1, h2, ((ih.2 m h1).1 q).mpr h3⟩
    have S1 : ∀ p, p ≤ tx.length → ∀ q c, Sg (Vafmsb.goTimes (Vafmsb.go a) s (n + 1) true) tx p q c ↔ Sg (Vafmsb.go a) tx p q c ∨ ∃ m, m ≤ tx.length ∧ Rg (Vafmsb.go a) tx p m ∧ TS a s tx n false m q c := fun p hp q c => by
      rw [Sg.nx (nx_times1 _ s n) ha hp]
      constructor
      · rintro (h | ⟨m, h1, h2, h3⟩)
        · exact .inl h
        · exact .inr ⟨m, h1, h2, ((ih.2 m h1).2 q c).mp h3⟩
      · rintro (h | ⟨m, h1, h2, h3⟩)
        · exact .inl h
        · exact .inr ⟨m, h1, h2, ((ih.2 m h1).2 q c).mpr h3⟩
    cases b with
    | true => exact ⟨g1, fun p hp => ⟨fun q => R1 p hp q, fun q c => S1 p hp q c⟩⟩
    | false =>
      refine ⟨Gd.nx (nx_times2 _ s n) (Gd.goL s tx) g1, fun p hp => ⟨fun q => ?_, fun q c => ?_⟩⟩
      · rw [Rg.nx (nx_times2 _ s n) (Gd.goL s tx) hp]
        simp only [TR, ItR, Bool.false_eq_true, if_false]
        constructor
        · rintro ⟨m, h1, h2, h3⟩
          obtain ⟨k, k1, k2, k3⟩ := (R1 m h1 q).mp h3
          exact ⟨k, k1, ⟨m, h1, goL_R.mp h2, k2⟩, k3⟩
        · rintro ⟨k, k1, ⟨m, h1, h2, k2⟩, k3⟩
          exact ⟨m, h1, goL_R.mpr h2, (R1 m h1 q).mpr ⟨k, k1, k2, k3⟩⟩
      · rw [Sg.nx (nx_times2 _ s n) (Gd.goL s tx) hp]
        simp only [TS, ItS, ItR, Bool.false_eq_true, if_false]
        constructor
        · rintro (h | ⟨m, h1, h2, h3⟩)
          · exact .inl (.inl (goL_S.mp h))
          · rcases (S1 m h1 q c).mp h3 with h3 | ⟨k, k1, k2, k3⟩
            · exact .inl (.inr ⟨m, h1, goL_R.mp h2, h3⟩)
            · exact .inr ⟨k, k1, ⟨m, h1, goL_R.mp h2, k2⟩, k3⟩
        · rintro ((h | ⟨m, h1, h2, h3⟩) | ⟨k, k1, ⟨m, h1, h2, k2⟩, k3⟩)
          · exact .inl (goL_S.mpr h)
          · exact .inr ⟨m, h1, goL_R.mpr h2, (S1 m h1 q c).mpr (.inl h3)⟩
          · exact .inr ⟨m, h1, goL_R.mpr h2, (S1 m h1 q c).mpr (.inr ⟨k, k1, k2, k3⟩)⟩
/-- one time more, behind -/
theorem TR_back {a : Fmt} {s tx : Text} : ∀ (n : Nat) (b : Bool) (p q : Nat), p ≤ tx.length → (TR a s tx (n + 1) b p q ↔ ∃ m, m ≤ tx.length ∧ TR a s tx n b p m ∧ (ItR a s tx (b && n == 0) m q ∧ q ≤ tx.length))
  | 0, b, p, q, hp => by
    simp only [TR, beq_self_eq_true, Bool.and_true]
    constructor
    · rintro ⟨m, h1, h2, rfl⟩
      exact ⟨p, hp, rfl, h2, h1⟩
    · rintro ⟨m, h1, rfl, h2, h3⟩
      exact ⟨q, h3, h2, rfl⟩
  | n + 1, b, p, q, hp => by
    have e : (b && n + 1 == 0) = false := by simp
    have e2 : (false && n == 0) = false := rfl
    rw [e]
    constructor
    · rintro ⟨m, h1, h2, h3⟩
      obtain ⟨k, k1, k2, k3⟩ := (TR_back n false m q h1).mp h3
      rw [e2] at k3
      exact ⟨k, k1, ⟨m, h1, h2, k2⟩, k3⟩
    · rintro ⟨k, k1, ⟨m, h1, h2, k2⟩, k3⟩
      refine ⟨m, h1, h2, (TR_back n false m q h1).mpr ⟨k, k1, k2, ?_⟩⟩
      rw [e2]
      exact k3
theorem TS_back {a : Fmt} {s tx : Text} : ∀ (n : Nat) (b : Bool) (p q c : Nat), p ≤ tx.length → (TS a s tx (n + 1) b p q c ↔ TS a s tx n b p q c ∨ ∃ m, m ≤ tx.length ∧ TR a s tx n b p m ∧ ItS a s tx (b && n == 0) m q c)
  | 0, b, p, q, c, hp => by
    simp only [TS, TR, beq_self_eq_true, Bool.and_true, false_or]
    constructor
    · rintro (h | ⟨m, _, _, h⟩)
      · exact ⟨p, hp, rfl, h⟩
      · exact h.elim
    · rintro ⟨m, h1, rfl, h2⟩
      exact .inl h2
  | n + 1, b, p, q, c, hp => by
    have e : (b && n + 1 == 0) = false := by simp
    have e2 : (false && n == 0) = false := rfl
    rw [e]
    constructor
    · rintro (h | ⟨m, h1, h2, h3⟩)
      · exact .inl (.inl h)
      · rcases (TS_back n false m q c h1).mp h3 with h3 | ⟨k, k1, k2, k3⟩
        · exact .inl (.inr ⟨m, h1, h2, h3⟩)
        · rw [e2] at k3
          exact .inr ⟨k, k1, ⟨m, h1, h2, k2⟩, k3⟩
    · rintro ((h | ⟨m, h1, h2, h3⟩) | ⟨k, k1, ⟨m, h1, h2, k2⟩, k3⟩)
      · exact .inl h
      · exact .inr ⟨m, h1, h2, (TS_back n false m q c h1).mpr (.inl h3)⟩
      · refine .inr ⟨m, h1, h2, (TS_back n false m q c h1).mpr (.inr ⟨k, k1, k2, ?_⟩)⟩
        rw [e2]
        exact k3
theorem TS_mono {a : Fmt} {s tx : Text} {b : Bool} {p q c : Nat} (hp : p ≤ tx.length) {n m : Nat} (h : n ≤ m) (x : TS a s tx n b p q c) : TS a s tx m b p q c := by
  induction m with
  | zero =>
    have : n = 0 := by omega
    subst this
    exact x
  | succ m ih =>
    rcases Nat.lt_or_ge m n with k | k
    · have : n = m + 1 := by omega
      subst this
      exact x
    · exact (TS_back m b p q c hp).mpr (.inl (ih k))
/-! ### what a piece reaches and wishes -/
def pR (p : Pc) (tx : Text) (k q : Nat) : Prop := match p with
  | .lit w => LR w tx k q
  | .num lo hi => nuR lo hi tx k q
  | .word lo hi => sgR VafmsBase.isLetter VafmsBase.isLetter lo hi tx k q
  | .alt a b => Rg (Vafmsb.go a) tx k q ∨ Rg (Vafmsb.go b) tx k q
  | .opt a => Rg (Vafmsb.go a) tx k q ∨ q = k
  | .rep s lo hi a => ∃ n, lo ≤ n ∧ n ≤ hi ∧ TR a s tx n true k q
def pS (p : Pc) (tx : Text) (k q c : Nat) : Prop := match p with
  | .lit w => LS w tx k q c
  | .num lo hi => nuS lo hi tx k q c
  | .word lo hi => sgS VafmsBase.isLetter VafmsBase.isLetter Vafmsb.letters Vafmsb.letters hi tx k q c
  | .alt a b => Sg (Vafmsb.go a) tx k q c ∨ Sg (Vafmsb.go b) tx k q c
  | .opt a => Sg (Vafmsb.go a) tx k q c
  | .rep s _ hi a => TS a s tx hi true k q c
theorem pc_all (p : Pc) (tx : Text) (ok : p.okSp = true) (hr : ∀ a ∈ p.rows, Gd (Vafmsb.go a) tx) :
    Gd (goPc p) tx ∧ ∀ k, k ≤ tx.length → (∀ q, Rg (goPc p) tx k q ↔ pR p tx k q) ∧ ∀ q c, Sg (goPc p) tx k q c ↔ pS p tx k q c := by
  cases p with
  | lit w => exact ⟨Gd.goL w tx, fun k hk => ⟨fun q => goL_R, fun q c => goL_S⟩⟩
  | num lo hi =>
    simp only [Pc.okSp, Bool.and_eq_true, decide_eq_true_eq] at ok
    exact ⟨fun k hk => (num_all ok.1 ok.2.1 tx k hk).1, fun k hk => (num_all ok.1 ok.2.1 tx k hk).2⟩
  | word lo hi =>
    simp only [Pc.okSp, Bool.and_eq_true, decide_eq_true_eq] at ok
    exact ⟨run_G tx ok.2.1, fun k hk => ⟨fun q => run_R ok.1 ok.2.1, fun q c => run_S⟩⟩
  | alt a b => exact ⟨Gd.both (hr a (by simp [Pc.rows])) (hr b (by simp [Pc.rows])), fun k hk => ⟨fun q => Rg.both, fun q c => Sg.both⟩⟩
  | opt a =>
    refine ⟨Gd.both (hr a (by simp [Pc.rows])) (Gd.here tx), fun k hk => ⟨fun q => ?_, fun q c => ?_⟩⟩
    · show Rg (fun p t => Vafmsb.both (Vafmsb.go a p t) (here p t)) tx k q ↔ _
      rw [Rg.both, Rg.here]
      rfl
    · show Sg (fun p t => Vafmsb.both (Vafmsb.go a p t) (here p t)) tx k q c ↔ _
      rw [Sg.both]
      exact ⟨fun h => h.elim id (fun h => (Sg.here h).elim), .inl⟩
  | rep s lo hi a =>
    simp only [Pc.okSp, Bool.and_eq_true, decide_eq_true_eq] at ok
    have T := fun n => times_all s (hr a (by simp [Pc.rows])) n true
    refine ⟨fun k hk x hx => ?_, fun k hk => ⟨fun q => ?_, fun q c => ?_⟩⟩
    · simp only [goPc, allOf_at, List.mem_flatMap, List.mem_map] at hx
      obtain ⟨g, ⟨n, hn, rfl⟩, hx⟩ := hx
      exact (T n).1 k hk x hx
    · have e : Rg (goPc (.rep s lo hi a)) tx k q ↔ ∃ n, n ∈ VafmsBase.downFrom lo hi ∧ Rg (Vafmsb.goTimes (Vafmsb.go a) s n true) tx k q := by
        unfold Rg
        simp only [goPc, allOf_at, List.mem_flatMap, List.mem_map]
        constructor
        · rintro ⟨u, g, ⟨n, hn, rfl⟩, hx⟩
          exact ⟨n, hn, u, hx⟩
        · rintro ⟨n, hn, u, hx⟩
          exact ⟨u, _, ⟨n, hn, rfl⟩, hx⟩
      rw [e]
      constructor
      · rintro ⟨n, hn, h⟩
        exact ⟨n, (mem_downFrom.mp hn).1, (mem_downFrom.mp hn).2, (((T n).2 k hk).1 q).mp h⟩
      · rintro ⟨n, h1, h2, h⟩
        exact ⟨n, mem_downFrom.mpr ⟨h1, h2⟩, (((T n).2 k hk).1 q).mpr h⟩
    · have e : Sg (goPc (.rep s lo hi a)) tx k q c ↔ ∃ n, n ∈ VafmsBase.downFrom lo hi ∧ Sg (Vafmsb.goTimes (Vafmsb.go a) s n true) tx k q c := by
        unfold Sg
        simp only [goPc, allOf_stuck, List.mem_flatMap, List.mem_map]
        constructor
        · rintro ⟨u, ⟨g, ⟨n, hn, rfl⟩, hx⟩, z⟩
          exact ⟨n, hn, u, hx, z⟩
        · rintro ⟨n, hn, u, hx, z⟩
          exact ⟨u, ⟨_, ⟨n, hn, rfl⟩, hx⟩, z⟩
      rw [e]
      constructor
      · rintro ⟨n, hn, h⟩
        exact TS_mono hk (mem_downFrom.mp hn).2 ((((T n).2 k hk).2 q c).mp h)
      · intro h
        exact ⟨hi, mem_downFrom.mpr ⟨ok.2.1, Nat.le_refl _⟩, (((T hi).2 k hk).2 q c).mpr h⟩
theorem gd_cons (p : Pc) (r : Fmt) (tx : Text) (ok : p.okSp = true) (hp : ∀ a ∈ p.rows, Gd (Vafmsb.go a) tx) (hr : Gd (Vafmsb.go r) tx) : Gd (Vafmsb.go (p.cons r)) tx :=
  Gd.nx (nx_cons p r) (pc_all p tx ok hp).1 hr
theorem gd_all (tx : Text) : ∀ (f : Fmt), okSp f = true → Gd (Vafmsb.go f) tx
  | .done, _ => Gd.here tx
  | .lit w r, ok => by
    have ok := okSp_cons (.lit w) r ▸ (show okSp (Pc.cons (.lit w) r) = true from ok)
    rw [Bool.and_eq_true] at ok
    exact gd_cons (.lit w) r tx ok.1 (by simp [Pc.rows]) (gd_all tx r ok.2)
  | .num lo hi r, ok => by
    have ok := okSp_cons (.num lo hi) r ▸ (show okSp (Pc.cons (.num lo hi) r) = true from ok)
    rw [Bool.and_eq_true] at ok
    exact gd_cons (.num lo hi) r tx ok.1 (by simp [Pc.rows]) (gd_all tx r ok.2)
  | .word lo hi r, ok => by
    have ok := okSp_cons (.word lo hi) r ▸ (show okSp (Pc.cons (.word lo hi) r) = true from ok)
    rw [Bool.and_eq_true] at ok
    exact gd_cons (.word lo hi) r tx ok.1 (by simp [Pc.rows]) (gd_all tx r ok.2)
  | .alt a b r, ok => by
    have ok := okSp_cons (.alt a b) r ▸ (show okSp (Pc.cons (.alt a b) r) = true from ok)
    rw [Bool.and_eq_true] at ok
    have ok1 := ok.1
    simp only [Pc.okSp, Bool.and_eq_true] at ok1
    exact gd_cons (.alt a b) r tx ok.1 (by simp only [Pc.rows, List.mem_cons, List.not_mem_nil, or_false]; rintro c (rfl | rfl); exact gd_all tx _ ok1.1; exact gd_all tx _ ok1.2) (gd_all tx r ok.2)
  | .opt a r, ok => by
    have ok := okSp_cons (.opt a) r ▸ (show okSp (Pc.cons (.opt a) r) = true from ok)
    rw [Bool.and_eq_true] at ok
    have ok1 := ok.1
    simp only [Pc.okSp] at ok1
    exact gd_cons (.opt a) r tx ok.1 (by simp only [Pc.rows, List.mem_cons, List.not_mem_nil, or_false]; rintro c rfl; exact gd_all tx _ ok1) (gd_all tx r ok.2)
  | .rep s lo hi a r, ok => by
    have ok := okSp_cons (.rep s lo hi a) r ▸ (show okSp (Pc.cons (.rep s lo hi a) r) = true from ok)
    rw [Bool.and_eq_true] at ok
    have ok1 := ok.1
    simp only [Pc.okSp, Bool.and_eq_true] at ok1
    exact gd_cons (.rep s lo hi a) r tx ok.1 (by simp only [Pc.rows, List.mem_cons, List.not_mem_nil, or_false]; rintro c rfl; exact gd_all tx _ ok1.2.2.2) (gd_all tx r ok.2)
theorem rows_ok {p : Pc} (ok : p.okSp = true) {a : Fmt} (ha : a ∈ p.rows) : okSp a = true := by
  cases p with
  | lit w => cases ha
  | num lo hi => cases ha
  | word lo hi => cases ha
  | alt a b =>
    simp only [Pc.rows, List.mem_cons, List.not_mem_nil, or_false] at ha
    simp only [Pc.okSp, Bool.and_eq_true] at ok
    rcases ha with rfl | rfl
    · exact ok.1
    · exact ok.2
  | opt a =>
    simp only [Pc.rows, List.mem_cons, List.not_mem_nil, or_false] at ha
    subst ha
    exact ok
  | rep s lo hi a =>
    simp only [Pc.rows, List.mem_cons, List.not_mem_nil, or_false] at ha
    subst ha
    simp only [Pc.okSp, Bool.and_eq_true] at ok
    exact ok.2.2.2
/-- what a row reaches and wishes -/
abbrev fR (f : Fmt) (tx : Text) (k q : Nat) : Prop := Rg (Vafmsb.go f) tx k q
abbrev fS (f : Fmt) (tx : Text) (k q c : Nat) : Prop := Sg (Vafmsb.go f) tx k q c
theorem pc_ok (p : Pc) (tx : Text) (ok : p.okSp = true) : Gd (goPc p) tx ∧ ∀ k, k ≤ tx.length → (∀ q, Rg (goPc p) tx k q ↔ pR p tx k q) ∧ ∀ q c, Sg (goPc p) tx k q c ↔ pS p tx k q c :=
  pc_all p tx ok fun a ha => gd_all tx a (rows_ok ok ha)
theorem pR_le {p : Pc} {tx : Text} (ok : p.okSp = true) {k q : Nat} (hk : k ≤ tx.length) (h : pR p tx k q) : q ≤ tx.length := by
  obtain ⟨u, hu⟩ := (((pc_ok p tx ok).2 k hk).1 q).mpr h
  exact ((pc_ok p tx ok).1 k hk _ hu).1
theorem fR_le {f : Fmt} {tx : Text} (ok : okSp f = true) {k q : Nat} (hk : k ≤ tx.length) (h : fR f tx k q) : q ≤ tx.length := by
  obtain ⟨u, hu⟩ := h
  exact (gd_all tx f ok k hk _ hu).1
theorem fR_done {tx : Text} {k q : Nat} : fR .done tx k q ↔ q = k := Rg.here
theorem fS_done {tx : Text} {k q c : Nat} : ¬ fS .done tx k q c := Sg.here
theorem fR_cons {p : Pc} {r : Fmt} {tx : Text} (ok : p.okSp = true) {k q : Nat} (hk : k ≤ tx.length) : fR (p.cons r) tx k q ↔ ∃ m, m ≤ tx.length ∧ pR p tx k m ∧ fR r tx m q := by
  unfold fR
  rw [Rg.nx (nx_cons p r) (pc_ok p tx ok).1 hk]
  constructor
  · rintro ⟨m, h1, h2, h3⟩
    exact ⟨m, h1, (((pc_ok p tx ok).2 k hk).1 m).mp h2, h3⟩
  · rintro ⟨m, h1, h2, h3⟩
    exact ⟨m, h1, (((pc_ok p tx ok).2 k hk).1 m).mpr h2, h3⟩
theorem fS_cons {p : Pc} {r : Fmt} {tx : Text} (ok : p.okSp = true) {k q c : Nat} (hk : k ≤ tx.length) : fS (p.cons r) tx k q c ↔ pS p tx k q c ∨ ∃ m, m ≤ tx.length ∧ pR p tx k m ∧ fS r tx m q c := by
  unfold fS
  rw [Sg.nx (nx_cons p r) (pc_ok p tx ok).1 hk, (((pc_ok p tx ok).2 k hk).2 q c)]
  constructor
  · rintro (h | ⟨m, h1, h2, h3⟩)
    · exact .inl h
    · exact .inr ⟨m, h1, (((pc_ok p tx ok).2 k hk).1 m).mp h2, h3⟩
  · rintro (h | ⟨m, h1, h2, h3⟩)
    · exact .inl h
    · exact .inr ⟨m, h1, (((pc_ok p tx ok).2 k hk).1 m).mpr h2, h3⟩
end Asc
/-! Some way is always stuck or done; wishes are bytes; how much is wished; how far. -/
namespace Asc
open VafmsBase (Fmt Text Value)
open Vafmsb (Going Stuck)

/-! ### some way is stuck or done -/
theorem run_or (f o : Nat → Bool) (tx : Text) (p : Nat) : ∀ n, Run f o tx p n ∨ ∃ m, m < n ∧ Run f o tx p m ∧ okc (if m = 0 then f else o) tx (p + m) = false
  | 0 => .inl fun j hj => by omega
  | n + 1 => by
    rcases run_or f o tx p n with h | ⟨m, h1, h2, h3⟩
    · cases c : okc (if n = 0 then f else o) tx (p + n) with
      | true =>
        refine .inl fun j hj => ?_
        rcases Nat.lt_or_ge j n with k | k
        · exact h j k
        · have : j = n := by omega
          subst this
          exact c
      | false => exact .inr ⟨n, by omega, h, c⟩
    · exact .inr ⟨m, by omega, h2, h3⟩
theorem sg_or {f o : Nat → Bool} {lf l2 : List Nat} {lo hi : Nat} {tx : Text} {k : Nat} (h1 : 1 ≤ lo) (h2 : lo ≤ hi) (nf : lf ≠ []) (n2 : l2 ≠ []) : (∃ q, sgR f o lo hi tx k q) ∨ ∃ q c, sgS f o lf l2 hi tx k q c := by
  rcases run_or f o tx k hi with h | ⟨m, a1, a2, a3⟩
  · exact .inl ⟨k + hi, hi, by omega, h2, Nat.le_refl _, h, rfl⟩
  · refine .inr ?_
    by_cases z : m = 0
    · obtain ⟨c, hc⟩ := List.exists_mem_of_ne_nil _ nf
      exact ⟨k + m, c, m, a1, a2, a3, rfl, by rw [if_pos z]; exact hc⟩
    · obtain ⟨c, hc⟩ := List.exists_mem_of_ne_nil _ n2
      exact ⟨k + m, c, m, a1, a2, a3, rfl, by rw [if_neg z]; exact hc⟩
def NE (f : Fmt) (tx : Text) : Prop := ∀ k, k ≤ tx.length → (∃ q, fR f tx k q) ∨ ∃ q c, fS f tx k q c
theorem lit_or (w tx : Text) (k : Nat) (hk : k ≤ tx.length) : (∃ q, q ≤ tx.length ∧ LR w tx k q) ∨ ∃ q c, LS w tx k q c := by
  rcases goLit_iff w k (tx.drop k) with ⟨h1, h2⟩ | ⟨j, c, h0, h1, h2, h3⟩
  · have h : Rg (goL w) tx k (k + w.length) := by
      unfold Rg goL
      rw [h2]
      exact ⟨_, List.mem_singleton.mpr rfl⟩
    obtain ⟨u, hu⟩ := id h
    exact .inl ⟨_, (Gd.goL w tx k hk _ hu).1, goL_R.mp h⟩
  · have h : Sg (goL w) tx k (k + j) c := by
      unfold Sg goL
      rw [h3]
      exact ⟨_, List.mem_singleton.mpr rfl, rfl, List.mem_singleton.mpr rfl⟩
    exact .inr ⟨_, _, goL_S.mp h⟩
theorem times_or {a : Fmt} {s tx : Text} (ok : okSp a = true) (ha : NE a tx) : ∀ (n : Nat) (b : Bool) (k : Nat), k ≤ tx.length → (∃ q, TR a s tx n b k q) ∨ ∃ q c, TS a s tx n b k q c
  | 0, b, k, hk => .inl ⟨k, rfl⟩
  | n + 1, b, k, hk => by
    have it : (∃ m, m ≤ tx.length ∧ ItR a s tx b k m) ∨ ∃ q c, ItS a s tx b k q c := by
      cases b with
      | true =>
        rcases ha k hk with ⟨q, h⟩ | h
        · exact .inl ⟨q, fR_le ok hk h, h⟩
        · exact .inr h
      | false =>
        rcases lit_or s tx k hk with ⟨m, h1, h2⟩ | ⟨q, c, h⟩
        · rcases ha m h1 with ⟨q, h⟩ | ⟨q, c, h⟩
          · exact .inl ⟨q, fR_le ok h1 h, m, h1, h2, h⟩
          · exact .inr ⟨q, c, .inr ⟨m, h1, h2, h⟩⟩
        · exact .inr ⟨q, c, .inl h⟩
    rcases it with ⟨m, h1, h2⟩ | ⟨q, c, h⟩
    · rcases times_or ok ha n false m h1 with ⟨q, h⟩ | ⟨q, c, h⟩
      · exact .inl ⟨q, m, h1, h2, h⟩
      · exact .inr ⟨q, c, .inr ⟨m, h1, h2, h⟩⟩
    · exact .inr ⟨q, c, .inl h⟩
theorem digits_some : Vafmsb.digits ≠ [] ∧ Vafmsb.digits.drop 1 ≠ [] ∧ Vafmsb.letters ≠ [] := by decide
theorem numL_some (lo hi : Nat) : numL lo hi ≠ [] := by
  unfold numL
  split
  · exact digits_some.1
  · split
    · exact digits_some.2.1
    · exact digits_some.1
theorem pc_or (p : Pc) (tx : Text) (ok : p.okSp = true) (hr : ∀ a ∈ p.rows, NE a tx) (k : Nat) (hk : k ≤ tx.length) : (∃ q, pR p tx k q) ∨ ∃ q c, pS p tx k q c := by
  cases p with
  | lit w =>
    rcases lit_or w tx k hk with ⟨q, _, h⟩ | h
    · exact .inl ⟨q, h⟩
    · exact .inr h
  | num lo hi =>
    simp only [Pc.okSp, Bool.and_eq_true, decide_eq_true_eq] at ok
    simp only [pR, pS, nuR, nuS]
    by_cases z : zeroAt lo hi tx k = true
    · simp only [if_pos z]
      exact .inl ⟨_, rfl⟩
    · simp only [if_neg z]
      exact sg_or ok.1 ok.2.1 (numL_some lo hi) digits_some.1
  | word lo hi =>
    simp only [Pc.okSp, Bool.and_eq_true, decide_eq_true_eq] at ok
    exact sg_or ok.1 ok.2.1 digits_some.2.2 digits_some.2.2
  | alt a b =>
    rcases hr a (by simp [Pc.rows]) k hk with ⟨q, h⟩ | ⟨q, c, h⟩
    · exact .inl ⟨q, .inl h⟩
    · exact .inr ⟨q, c, .inl h⟩
  | opt a => exact .inl ⟨k, .inr rfl⟩
  | rep s lo hi a =>
    have oka := rows_ok ok (a := a) (by simp [Pc.rows])
    simp only [Pc.okSp, Bool.and_eq_true, decide_eq_true_eq] at ok
    rcases times_or (s := s) oka (hr a (by simp [Pc.rows])) hi true k hk with ⟨q, h⟩ | h
    · exact .inl ⟨q, hi, ok.2.1, Nat.le_refl _, h⟩
    · exact .inr h
theorem ne_cons (p : Pc) (r : Fmt) (tx : Text) (ok : p.okSp = true) (hr : ∀ a ∈ p.rows, NE a tx) (h : NE r tx) : NE (p.cons r) tx := fun k hk => by
  rcases pc_or p tx ok hr k hk with ⟨m, h1⟩ | ⟨q, c, h1⟩
  · have hm := pR_le ok hk h1
    rcases h m hm with ⟨q, h2⟩ | ⟨q, c, h2⟩
    · exact .inl ⟨q, (fR_cons ok hk).mpr ⟨m, hm, h1, h2⟩⟩
    · exact .inr ⟨q, c, (fS_cons ok hk).mpr (.inr ⟨m, hm, h1, h2⟩)⟩
  · exact .inr ⟨q, c, (fS_cons ok hk).mpr (.inl h1)⟩
/-- induction over formats, with the rows within -/
theorem fmt_ind {P : Fmt → Prop} (h0 : P .done) (h1 : ∀ (p : Pc) (r : Fmt), (∀ a ∈ p.rows, P a) → P r → P (p.cons r)) : ∀ f, P f
  | .done => h0
  | .lit w r => h1 (.lit w) r (by simp [Pc.rows]) (fmt_ind h0 h1 r)
  | .num lo hi r => h1 (.num lo hi) r (by simp [Pc.rows]) (fmt_ind h0 h1 r)
  | .word lo hi r => h1 (.word lo hi) r (by simp [Pc.rows]) (fmt_ind h0 h1 r)
  | .alt a b r => h1 (.alt a b) r (by simp only [Pc.rows, List.mem_cons, List.not_mem_nil, or_false]; rintro c (rfl | rfl); exact fmt_ind h0 h1 _; exact fmt_ind h0 h1 _) (fmt_ind h0 h1 r)
  | .opt a r => h1 (.opt a) r (by simp only [Pc.rows, List.mem_cons, List.not_mem_nil, or_false]; rintro c rfl; exact fmt_ind h0 h1 _) (fmt_ind h0 h1 r)
  | .rep s lo hi a r => h1 (.rep s lo hi a) r (by simp only [Pc.rows, List.mem_cons, List.not_mem_nil, or_false]; rintro c rfl; exact fmt_ind h0 h1 _) (fmt_ind h0 h1 r)
theorem fmt_ind_ok {P : Fmt → Prop} (h0 : P .done) (h1 : ∀ (p : Pc) (r : Fmt), p.okSp = true → (∀ a ∈ p.rows, P a) → P r → P (p.cons r)) (f : Fmt) : okSp f = true → P f := by
  refine fmt_ind (P := fun f => okSp f = true → P f) (fun _ => h0) (fun p r ha hr ok => ?_) f
  rw [okSp_cons, Bool.and_eq_true] at ok
  exact h1 p r ok.1 (fun a h => ha a h (rows_ok ok.1 h)) (hr ok.2)
theorem ne_all (tx : Text) (f : Fmt) (ok : okSp f = true) : NE f tx :=
  fmt_ind_ok (P := fun f => NE f tx) (fun k hk => .inl ⟨k, fR_done.mpr rfl⟩) (fun p r ok ha hr => ne_cons p r tx ok ha hr) f ok

/-! ### wishes are bytes -/
def By (c : Nat) : Prop := 32 ≤ c ∧ c ≤ 126
theorem digits_by : (∀ c ∈ Vafmsb.digits, By c) ∧ (∀ c ∈ Vafmsb.letters, By c) := by
  unfold By
  constructor <;> decide
theorem numL_by (lo hi : Nat) : ∀ c ∈ numL lo hi, By c := fun c hc => by
  refine digits_by.1 c ?_
  unfold numL at hc
  split at hc
  · exact hc
  · split at hc
    · exact List.mem_of_mem_drop hc
    · exact hc
theorem sg_by {f o : Nat → Bool} {lf l2 : List Nat} {hi : Nat} {tx : Text} {k q c : Nat} (nf : ∀ c ∈ lf, By c) (n2 : ∀ c ∈ l2, By c) (h : sgS f o lf l2 hi tx k q c) : By c := by
  obtain ⟨n, _, _, _, _, hc⟩ := h
  split at hc
  · exact nf c hc
  · exact n2 c hc
theorem text_by {m : Nat} {w : Text} (h : VafmsBase.okText m w = true) {j c : Nat} (e : w[j]? = some c) : By c := by
  unfold VafmsBase.okText at h
  rw [Bool.and_eq_true] at h
  have := List.all_eq_true.mp h.2 c (List.mem_of_getElem? e)
  unfold VafmsBase.okByte at this
  simpa [By] using this
theorem times_by {a : Fmt} {s tx : Text} (hs : VafmsBase.okText 8 s = true) (ha : ∀ k q c, k ≤ tx.length → fS a tx k q c → By c) : ∀ (n : Nat) (b : Bool) (k q c : Nat), k ≤ tx.length → TS a s tx n b k q c → By c
  | 0, b, k, q, c, hk, h => h.elim
  | n + 1, b, k, q, c, hk, h => by
    rcases h with h | ⟨m, h1, _, h3⟩
    · cases b with
      | true => exact ha k q c hk h
      | false =>
        rcases h with h | ⟨m, h1, _, h3⟩
        · obtain ⟨j, e, _⟩ := h
          exact text_by hs e
        · exact ha m q c h1 h3
    · exact times_by hs ha n false m q c h1 h3
theorem wish_by (tx : Text) (f : Fmt) (ok : okSp f = true) : ∀ k q c, k ≤ tx.length → fS f tx k q c → By c := by
  refine fmt_ind_ok (P := fun f => ∀ k q c, k ≤ tx.length → fS f tx k q c → By c) (fun k q c _ h => (fS_done h).elim) (fun p r ok ha hr k q c hk h => ?_) f ok
  rcases (fS_cons ok hk).mp h with h | ⟨m, h1, _, h3⟩
  · cases p with
    | lit w =>
      simp only [Pc.okSp, Bool.and_eq_true] at ok
      obtain ⟨j, e, _⟩ := h
      exact text_by ok.2 e
    | num lo hi =>
      simp only [pS, nuS] at h
      split at h
      · exact h.elim
      · exact sg_by (numL_by lo hi) digits_by.1 h
    | word lo hi => exact sg_by digits_by.2 digits_by.2 h
    | alt a b =>
      rcases h with h | h
      · exact ha a (by simp [Pc.rows]) k q c hk h
      · exact ha b (by simp [Pc.rows]) k q c hk h
    | opt a => exact ha a (by simp [Pc.rows]) k q c hk h
    | rep s lo hi a =>
      simp only [Pc.okSp, Bool.and_eq_true] at ok
      exact times_by ok.1 (ha a (by simp [Pc.rows])) hi true k q c hk h
  · exact hr m q c h1 h3

/-! ### each way that is stuck wishes something -/
def WN (F : Goer) : Prop := ∀ p t s, s ∈ (F p t).stuck → s.wished ≠ []
theorem WN.nx {F G H : Goer} (n : Nx F G H) (hf : WN F) (hg : WN G) : WN H := fun p t s h => by
  rcases (n.stuck p t s).mp h with h | ⟨x, _, h⟩
  · exact hf p t s h
  · exact hg _ _ s h
theorem wn_here : WN here := fun p t s h => (List.not_mem_nil h).elim
theorem wn_lit (w : Text) : WN (goL w) := fun p t s h => by
  unfold goL at h
  rcases goLit_iff w p t with ⟨_, e⟩ | ⟨j, c, _, _, _, e⟩
  · rw [e] at h
    exact (List.not_mem_nil h).elim
  · rw [e] at h
    have e2 : s = ⟨p + j, [c]⟩ := by simpa using h
    rw [e2]
    exact List.cons_ne_nil _ _
theorem wn_run {is : Nat → Bool} {ws : List Nat} (lo m n : Nat) (h : ws ≠ []) : WN (fun p t => Vafmsb.goRun is ws lo m n p t) := fun p t s hs => by
  obtain ⟨i, _, _, _, rfl⟩ := (goRun_stuck m n p t s).mp hs
  exact h
theorem wn_num (lo hi : Nat) : WN (Vafmsb.goNum lo hi) := fun p t s hs => by
  by_cases e : lo = hi
  · have g : Vafmsb.goNum lo hi p t = Vafmsb.goRun VafmsBase.isDigit Vafmsb.digits lo hi 0 p t := by
      simp only [Vafmsb.goNum]
      rw [if_pos e]
    rw [g] at hs
    exact wn_run lo hi 0 digits_some.1 p t s hs
  · have one : s ∈ [(⟨p, Vafmsb.digits.drop 1⟩ : Stuck)] → s.wished ≠ [] := fun h => by
      have e2 : s = ⟨p, Vafmsb.digits.drop 1⟩ := by simpa using h
      rw [e2]
      exact digits_some.2.1
    cases t with
    | nil =>
      rw [goNum_nil e] at hs
      split at hs
      · exact wn_run lo hi 0 digits_some.1 p [] s hs
      · exact one hs
    | cons b u =>
      by_cases c : b = 48
      · subst c
        rw [goNum_zero e] at hs
        split at hs
        · exact (List.not_mem_nil hs).elim
        · exact one hs
      · rw [goNum_cons e c] at hs
        split at hs
        · exact wn_run lo hi 0 digits_some.1 p _ s hs
        · split at hs
          · exact wn_run lo (hi - 1) 1 digits_some.1 (p + 1) _ s hs
          · exact one hs
theorem wn_times {g : Goer} (hg : WN g) (s : Text) : ∀ (n : Nat) (b : Bool), WN (Vafmsb.goTimes g s n b)
  | 0, b => fun p t s h => (List.not_mem_nil h).elim
  | n + 1, b => by
    have h1 : WN (Vafmsb.goTimes g s (n + 1) true) := WN.nx (nx_times1 g s n) hg (wn_times hg s n false)
    cases b with
    | true => exact h1
    | false => exact WN.nx (nx_times2 g s n) (wn_lit s) h1
theorem wn_all (f : Fmt) : WN (Vafmsb.go f) := by
  refine fmt_ind (P := fun f => WN (Vafmsb.go f)) wn_here (fun p r ha hr => WN.nx (nx_cons p r) ?_ hr) f
  cases p with
  | lit w => exact wn_lit w
  | num lo hi => exact wn_num lo hi
  | word lo hi => exact wn_run lo hi 0 digits_some.2.2
  | alt a b => exact fun p t s h => (List.mem_append.mp h).elim (ha a (by simp [Pc.rows]) p t s) (ha b (by simp [Pc.rows]) p t s)
  | opt a => exact fun p t s h => (List.mem_append.mp h).elim (ha a (by simp [Pc.rows]) p t s) (fun h => (List.not_mem_nil h).elim)
  | rep s lo hi a =>
    intro p t x hx
    simp only [goPc, allOf_stuck, List.mem_flatMap, List.mem_map] at hx
    obtain ⟨g, ⟨n, _, rfl⟩, hx⟩ := hx
    exact wn_times (ha a (by simp [Pc.rows])) s n true p t x hx

/-! ### how far -/
theorem max_is : ∀ (l : List Nat) (k : Nat), l.foldl Nat.max k = k ∧ (∀ x ∈ l, x ≤ k) ∨ l.foldl Nat.max k ∈ l ∧ k ≤ l.foldl Nat.max k ∧ ∀ x ∈ l, x ≤ l.foldl Nat.max k
  | [], k => .inl ⟨rfl, fun x hx => (List.not_mem_nil hx).elim⟩
  | a :: l, k => by
    rw [List.foldl_cons]
    rcases max_is l (Nat.max k a) with ⟨h1, h2⟩ | ⟨h1, h2, h3⟩
    · rw [h1]
      have hk : k ≤ Nat.max k a := Nat.le_max_left _ _
      have ha : a ≤ Nat.max k a := Nat.le_max_right _ _
      by_cases c : k < a
      · have e : Nat.max k a = a := Nat.max_eq_right (Nat.le_of_lt c)
        refine .inr ⟨by rw [e]; exact List.mem_cons_self, hk, fun x hx => ?_⟩
        rcases List.mem_cons.mp hx with rfl | hx
        · exact ha
        · exact h2 x hx
      · have e : Nat.max k a = k := Nat.max_eq_left (by omega)
        rw [e] at h2 ⊢
        refine .inl ⟨rfl, fun x hx => ?_⟩
        rcases List.mem_cons.mp hx with rfl | hx
        · omega
        · exact h2 x hx
    · have hk : k ≤ Nat.max k a := Nat.le_max_left _ _
      have ha : a ≤ Nat.max k a := Nat.le_max_right _ _
      refine .inr ⟨List.mem_cons_of_mem _ h1, Nat.le_trans hk h2, fun x hx => ?_⟩
      rcases List.mem_cons.mp hx with rfl | hx
      · exact Nat.le_trans ha h2
      · exact h3 x hx
theorem sorted_one : ∀ {l m : List Nat}, l.Pairwise (· < ·) → m.Pairwise (· < ·) → (∀ x, x ∈ l ↔ x ∈ m) → l = m
  | [], [], _, _, _ => rfl
  | [], b :: m, _, _, h => by have := (h b).mpr List.mem_cons_self; cases this
  | a :: l, [], _, _, h => by have := (h a).mp List.mem_cons_self; cases this
  | a :: l, b :: m, hl, hm, h => by
    rw [List.pairwise_cons] at hl hm
    have e : a = b := by
      rcases List.mem_cons.mp ((h a).mp List.mem_cons_self) with e | h1
      · exact e
      · rcases List.mem_cons.mp ((h b).mpr List.mem_cons_self) with e | h2
        · exact e.symm
        · have := hl.1 b h2
          have := hm.1 a h1
          omega
    subst e
    rw [sorted_one hl.2 hm.2 fun x => ?_]
    constructor
    · intro hx
      rcases List.mem_cons.mp ((h x).mp (List.mem_cons_of_mem _ hx)) with rfl | h2
      · have := hl.1 x hx
        omega
      · exact h2
    · intro hx
      rcases List.mem_cons.mp ((h x).mpr (List.mem_cons_of_mem _ hx)) with rfl | h2
      · have := hm.1 x hx
        omega
      · exact h2
theorem far_is {f : Fmt} {tx : Text} (ok : okSp f = true) {E : List Nat} {m : Nat} (hE : ∀ q, q ∈ E ↔ fR f tx 0 q) (hm : (fR f tx 0 m ∨ ∃ c, fS f tx 0 m c)) (hx : ∀ q, (fR f tx 0 q ∨ ∃ c, fS f tx 0 q c) → q ≤ m) :
    (Vafmsb.far f tx).place = m ∧ (Vafmsb.far f tx).ends = decide (m ∈ E) ∧ ∀ l : List Nat, l.Pairwise (· < ·) → (∀ c, c ∈ l ↔ fS f tx 0 m c) → (Vafmsb.far f tx).wished = l := by
  have d0 : tx.drop 0 = tx := List.drop_zero
  have at_iff : ∀ q, (∃ u, (q, u) ∈ (Vafmsb.go f 0 tx).at_) ↔ fR f tx 0 q := fun q => by
    unfold fR Rg
    rw [d0]
  have st_iff : ∀ q c, (∃ s ∈ (Vafmsb.go f 0 tx).stuck, s.place = q ∧ c ∈ s.wished) ↔ fS f tx 0 q c := fun q c => by
    unfold fS Sg
    rw [d0]
  have places : ∀ q, q ∈ ((Vafmsb.go f 0 tx).stuck ++ (Vafmsb.go f 0 tx).at_.map fun x => (⟨x.1, []⟩ : Stuck)).map (fun s => s.place) ↔ fR f tx 0 q ∨ ∃ c, fS f tx 0 q c := fun q => by
    rw [List.mem_map]
    constructor
    · rintro ⟨s, hs, rfl⟩
      rcases List.mem_append.mp hs with hs | hs
      · obtain ⟨c, hc⟩ := List.exists_mem_of_ne_nil _ (wn_all f 0 tx s hs)
        exact .inr ⟨c, (st_iff _ c).mp ⟨s, hs, rfl, hc⟩⟩
      · obtain ⟨x, hx, rfl⟩ := List.mem_map.mp hs
        exact .inl ((at_iff _).mp ⟨x.2, hx⟩)
    · rintro (h | ⟨c, h⟩)
      · obtain ⟨u, hu⟩ := (at_iff q).mpr h
        exact ⟨_, List.mem_append_right _ (List.mem_map.mpr ⟨_, hu, rfl⟩), rfl⟩
      · obtain ⟨s, hs, e, _⟩ := (st_iff q c).mpr h
        exact ⟨s, List.mem_append_left _ hs, e⟩
  have place : (Vafmsb.far f tx).place = m := by
    show List.foldl Nat.max 0 _ = m
    have hmem := (places m).mpr hm
    rcases max_is (((Vafmsb.go f 0 tx).stuck ++ (Vafmsb.go f 0 tx).at_.map fun x => (⟨x.1, []⟩ : Stuck)).map (fun s => s.place)) 0 with ⟨h1, h2⟩ | ⟨h1, _, h3⟩
    · have := h2 m hmem
      rw [h1]
      omega
    · have a := h3 m hmem
      have b := hx _ ((places _).mp h1)
      omega
  refine ⟨place, ?_, fun l hl hc => ?_⟩
  · show ((Vafmsb.go f 0 tx).at_.any fun x => x.1 == (Vafmsb.far f tx).place) = _
    rw [place, Bool.eq_iff_iff, List.any_eq_true, decide_eq_true_eq, hE, ← at_iff]
    constructor
    · rintro ⟨x, h1, h2⟩
      have e : x.1 = m := by simpa using h2
      exact ⟨x.2, by rw [← e]; exact h1⟩
    · rintro ⟨u, h⟩
      exact ⟨_, h, by simp⟩
  · show Vafmsb.setOf ((((Vafmsb.go f 0 tx).stuck ++ (Vafmsb.go f 0 tx).at_.map fun x => (⟨x.1, []⟩ : Stuck)).filter fun s => s.place == (Vafmsb.far f tx).place).flatMap fun s => s.wished) = l
    rw [place]
    unfold Vafmsb.setOf
    refine sorted_one ?_ hl fun c => ?_
    · exact List.Pairwise.filter _ List.pairwise_lt_range
    · rw [List.mem_filter, List.mem_range, List.contains_iff_mem, List.mem_flatMap, hc]
      constructor
      · rintro ⟨_, s, hs, hw⟩
        rw [List.mem_filter] at hs
        rcases List.mem_append.mp hs.1 with h | h
        · exact (st_iff m c).mp ⟨s, h, by simpa using hs.2, hw⟩
        · obtain ⟨x, _, rfl⟩ := List.mem_map.mp h
          exact (List.not_mem_nil hw).elim
      · intro h
        have b := wish_by tx f ok 0 m c (Nat.zero_le _) h
        unfold By at b
        obtain ⟨s, h1, h2, h3⟩ := (st_iff m c).mpr h
        exact ⟨by omega, s, List.mem_filter.mpr ⟨List.mem_append_left _ h1, by simpa using h2⟩, h3⟩

/-! ### how much is wished -/
def rc (c h : Nat) : Nat → Nat
  | 0 => 0
  | n + 1 => rc c h n + 5 ^ (n * h) * (1 + c)
def cost : Fmt → Nat
  | .done => 0
  | .lit _ r => 1 + 5 ^ 0 * cost r
  | .num _ _ r => 10 + 5 ^ 1 * cost r
  | .word _ _ r => 26 + 5 ^ 1 * cost r
  | .alt a b r => cost a + cost b + 5 ^ (max a.holes b.holes + 1) * cost r
  | .opt a r => cost a + 5 ^ (a.holes + 1) * cost r
  | .rep _ _ hi a r => rc (cost a) a.holes hi + 5 ^ (hi * a.holes + 1) * cost r
def Pc.cost : Pc → Nat
  | .lit _ => 1
  | .num _ _ => 10
  | .word _ _ => 26
  | .alt a b => Asc.cost a + Asc.cost b
  | .opt a => Asc.cost a
  | .rep _ _ hi a => rc (Asc.cost a) a.holes hi
theorem cost_cons (p : Pc) (r : Fmt) : cost (p.cons r) = p.cost + 5 ^ p.holes * cost r := by
  cases p <;> rfl
theorem rc_le {c s h : Nat} (hc : 4 * c + 26 ≤ (4 * s + 26) * 5 ^ h) : ∀ n, 4 * rc c h n + 26 ≤ (4 * (s + 1) * n + 26) * 5 ^ (n * h)
  | 0 => by simp [rc]
  | n + 1 => by
    have ih := rc_le hc n
    simp only [rc]
    have e : 5 ^ ((n + 1) * h) = 5 ^ (n * h) * 5 ^ h := by rw [Nat.succ_mul, Nat.pow_add]
    rw [e]
    generalize 5 ^ (n * h) = X at *
    have h1 : 1 ≤ 5 ^ h := pow_pos5 h
    generalize 5 ^ h = Y at *
    have a1 : 4 * (rc c h n + X * (1 + c)) + 26 = (4 * rc c h n + 26) + X * (4 * c + 26) + X * 4 - X * 26 := by
      have : X * (4 * c + 26) = X * (4 * c) + X * 26 := Nat.mul_add _ _ _
      have : X * (1 + c) = X * 1 + X * c := Nat.mul_add _ _ _
      have : X * (4 * c) = 4 * (X * c) := Nat.mul_left_comm _ _ _
      omega
    have a2 : X * (4 * c + 26) ≤ X * ((4 * s + 26) * Y) := Nat.mul_le_mul_left _ hc
    have a3 : (4 * (s + 1) * n + 26) * X ≤ 4 * (s + 1) * n * (X * Y) + 26 * X := by
      rw [Nat.add_mul]
      have : 4 * (s + 1) * n * X ≤ 4 * (s + 1) * n * (X * Y) := Nat.mul_le_mul_left _ (Nat.le_mul_of_pos_right _ h1)
      omega
    have a4 : X * 4 ≤ 4 * (X * Y) := by
      have := Nat.le_mul_of_pos_right X h1
      omega
    have a5 : X * ((4 * s + 26) * Y) = (4 * s + 26) * (X * Y) := by rw [Nat.mul_left_comm]
    have a6 : (4 * (s + 1) * (n + 1) + 26) * (X * Y) = 4 * (s + 1) * n * (X * Y) + (4 * s + 26) * (X * Y) + 4 * (X * Y) := by
      have e9 : 4 * (s + 1) * (n + 1) + 26 = 4 * (s + 1) * n + (4 * s + 26) + 4 := by
        rw [Nat.mul_succ]
        omega
      rw [← Nat.add_mul, ← Nat.add_mul, e9]
    omega
theorem cost_le (f : Fmt) (ok : okSp f = true) : 4 * cost f + 26 ≤ (4 * f.size + 26) * 5 ^ f.holes := by
  refine fmt_ind_ok (P := fun f => 4 * cost f + 26 ≤ (4 * f.size + 26) * 5 ^ f.holes) (by simp [cost, Fmt.size, Fmt.holes]) (fun p r ok ha hr => ?_) f ok
  have hp : 4 * p.cost + 26 ≤ (4 * p.size + 26) * 5 ^ p.holes := by
    cases p with
    | lit w => simp [Pc.cost, Pc.size, Pc.holes]
    | num lo hi => simp [Pc.cost, Pc.size, Pc.holes]
    | word lo hi => simp [Pc.cost, Pc.size, Pc.holes]
    | alt a b =>
      have h1 := ha a (by simp [Pc.rows])
      have h2 := ha b (by simp [Pc.rows])
      have h3 := pow_le (Nat.le_max_left a.holes b.holes)
      have h4 := pow_le (Nat.le_max_right a.holes b.holes)
      have g1 : (4 * a.size + 26) * 5 ^ a.holes ≤ (4 * a.size + 26) * 5 ^ (max a.holes b.holes) := Nat.mul_le_mul_left _ h3
      have g2 : (4 * b.size + 26) * 5 ^ b.holes ≤ (4 * b.size + 26) * 5 ^ (max a.holes b.holes) := Nat.mul_le_mul_left _ h4
      simp only [Pc.cost, Pc.size, Pc.holes, Nat.pow_succ]
      generalize 5 ^ (max a.holes b.holes) = M at *
      have e1 : (4 * (a.size + b.size + 1) + 26) * (M * 5) = 20 * (a.size * M) + 20 * (b.size * M) + 150 * M := by
        have : (4 * (a.size + b.size + 1) + 26) * (M * 5) = (20 * a.size + 20 * b.size + 150) * M := by
          rw [← Nat.mul_assoc, Nat.mul_right_comm]
          congr 1
          omega
        rw [this, Nat.add_mul, Nat.add_mul, Nat.mul_assoc, Nat.mul_assoc]
      have e2 : (4 * a.size + 26) * M = 4 * (a.size * M) + 26 * M := by rw [Nat.add_mul, Nat.mul_assoc]
      have e3 : (4 * b.size + 26) * M = 4 * (b.size * M) + 26 * M := by rw [Nat.add_mul, Nat.mul_assoc]
      omega
    | opt a =>
      have h1 := ha a (by simp [Pc.rows])
      simp only [Pc.cost, Pc.size, Pc.holes, Nat.pow_succ]
      generalize 5 ^ a.holes = M at *
      have e1 : (4 * (a.size + 1) + 26) * (M * 5) = 20 * (a.size * M) + 150 * M := by
        have : (4 * (a.size + 1) + 26) * (M * 5) = (20 * a.size + 150) * M := by
          rw [← Nat.mul_assoc, Nat.mul_right_comm]
          congr 1
          omega
        rw [this, Nat.add_mul, Nat.mul_assoc]
      have e2 : (4 * a.size + 26) * M = 4 * (a.size * M) + 26 * M := by rw [Nat.add_mul, Nat.mul_assoc]
      omega
    | rep s lo hi a =>
      simp only [Pc.okSp, Bool.and_eq_true, decide_eq_true_eq] at ok
      have h1 := rc_le (ha a (by simp [Pc.rows])) hi
      have h2 : 4 * (a.size + 1) * hi ≤ 4 * (a.size + 1) * 4 := Nat.mul_le_mul_left _ ok.2.2.1
      simp only [Pc.cost, Pc.size, Pc.holes, Nat.pow_succ]
      generalize 5 ^ (hi * a.holes) = M at *
      have h3 : (4 * (a.size + 1) * hi + 26) * M ≤ (4 * (a.size + 1) * 4 + 26) * M := Nat.mul_le_mul_right _ (by omega)
      have h4 : (4 * (a.size + 1) * 4 + 26) * M ≤ (4 * (a.size + 1) + 26) * (M * 5) := by
        have e5 : (4 * (a.size + 1) + 26) * (M * 5) = (4 * (a.size + 1) + 26) * 5 * M := by rw [Nat.mul_assoc, Nat.mul_comm M 5]
        rw [e5]
        exact Nat.mul_le_mul_right _ (by omega)
      omega
  rw [cost_cons, size_cons, holes_cons, Nat.pow_add]
  have h1 : 1 ≤ 5 ^ r.holes := pow_pos5 _
  generalize 5 ^ p.holes = X at *
  generalize 5 ^ r.holes = Y at *
  have a1 : X * (4 * cost r + 26) ≤ X * ((4 * r.size + 26) * Y) := Nat.mul_le_mul_left _ hr
  have a2 : X * (4 * cost r + 26) = 4 * (X * cost r) + 26 * X := by rw [Nat.mul_add, Nat.mul_left_comm, Nat.mul_comm X 26]
  have a3 : X * ((4 * r.size + 26) * Y) = (4 * r.size + 26) * (X * Y) := by rw [Nat.mul_left_comm]
  have a4 : (4 * p.size + 26) * X = 4 * p.size * X + 26 * X := Nat.add_mul _ _ _
  have a5 : 4 * p.size * X ≤ 4 * p.size * (X * Y) := Nat.mul_le_mul_left _ (Nat.le_mul_of_pos_right _ h1)
  have a6 : (4 * (p.size + r.size) + 26) * (X * Y) = 4 * p.size * (X * Y) + (4 * r.size + 26) * (X * Y) := by
    rw [← Nat.add_mul]
    congr 1
    omega
  omega
theorem cost_small {f : Fmt} (ok : okSp f = true) (h1 : f.size ≤ 14) (h2 : f.holes ≤ 8) : cost f ≤ 8100000 := by
  have h := cost_le f ok
  have a : 5 ^ f.holes ≤ 5 ^ 8 := pow_le h2
  have b : (4 * f.size + 26) * 5 ^ f.holes ≤ 82 * 5 ^ 8 := Nat.mul_le_mul (by omega) a
  have c : 82 * 5 ^ 8 = 32031250 := by decide
  omega
end Asc
/-! How long a scanning's value is. -/
namespace Asc
open VafmsBase (Fmt Text Value)
def ValsIn (m : Nat) (l : Sc) : Prop := ∀ x ∈ l, x.1.length ≤ m
theorem vals_followed {l : Sc} {g : Text → Sc} {a b : Nat} (h1 : ValsIn a l) (h2 : ∀ u, ValsIn b (g u)) : ValsIn (a + b) (VafmsBase.followed l g) := fun x hx => by
  unfold VafmsBase.followed at hx
  obtain ⟨y, hy, hx⟩ := List.mem_flatMap.mp hx
  obtain ⟨z, hz, rfl⟩ := List.mem_map.mp hx
  have := h1 y hy
  have := h2 _ z hz
  rw [List.length_append]
  omega
theorem vals_times {g : Text → Sc} {h : Nat} (hg : ∀ u, ValsIn h (g u)) (sep : Text) : ∀ (n : Nat) (b : Bool) (u : Text), ValsIn (n * h) (VafmsBase.scanTimes g sep n b u)
  | 0, b, u => fun x hx => by
    have : x = ([], u) := by simpa [VafmsBase.scanTimes] using hx
    subst this
    exact Nat.zero_le _
  | n + 1, b, u => by
    have go : ∀ v, ValsIn ((n + 1) * h) (VafmsBase.followed (g v) (VafmsBase.scanTimes g sep n false)) := fun v => by
      rw [Nat.succ_mul, Nat.add_comm]
      exact vals_followed (hg v) (vals_times hg sep n false)
    cases b with
    | true => exact go u
    | false =>
      simp only [VafmsBase.scanTimes, Bool.false_eq_true, if_false]
      cases e : VafmsBase.behind sep u with
      | none => exact fun x hx => (List.not_mem_nil hx).elim
      | some v => exact go v
theorem vals_P (p : Pc) (ok : p.okSp = true) (hr : ∀ a ∈ p.rows, ∀ u, ValsIn (5 * a.holes) (VafmsBase.scans a u)) (u : Text) : ValsIn (5 * p.holes) (scP p u) := by
  cases p with
  | lit w =>
    intro x hx
    simp only [scP] at hx
    cases e : VafmsBase.behind w u with
    | none => rw [e] at hx; cases hx
    | some v =>
      rw [e] at hx
      have : x = ([], v) := by simpa using hx
      subst this
      exact Nat.zero_le _
  | num lo hi =>
    intro x hx
    have hx : x ∈ VafmsBase.scanNum lo hi u := hx
    unfold VafmsBase.scanNum at hx
    obtain ⟨k, hk, e⟩ := List.mem_filterMap.mp hx
    simp only at e
    split at e
    · have := Option.some.inj e
      subst this
      show 1 ≤ 5 * 1
      omega
    · cases e
  | word lo hi =>
    simp only [Pc.okSp, Bool.and_eq_true, decide_eq_true_eq] at ok
    intro x hx
    have hx : x ∈ VafmsBase.scanWord lo hi u := hx
    unfold VafmsBase.scanWord at hx
    obtain ⟨k, hk, e⟩ := List.mem_filterMap.mp hx
    have := (mem_downFrom.mp hk).2
    simp only at e
    split at e
    · have := Option.some.inj e
      subst this
      show (_ :: List.map _ _).length ≤ 5 * 1
      rw [List.length_cons, List.length_map, List.length_take]
      omega
    · cases e
  | alt a b =>
    intro x hx
    simp only [scP, VafmsBase.tagged, List.mem_append, List.mem_map] at hx
    have m1 := Nat.le_max_left a.holes b.holes
    have m2 := Nat.le_max_right a.holes b.holes
    simp only [Pc.holes]
    rcases hx with ⟨y, hy, rfl⟩ | ⟨y, hy, rfl⟩
    · have := hr a (by simp [Pc.rows]) u y hy
      simp only [List.length_cons]
      omega
    · have := hr b (by simp [Pc.rows]) u y hy
      simp only [List.length_cons]
      omega
  | opt a =>
    intro x hx
    simp only [scP, VafmsBase.tagged, List.mem_append, List.mem_map, List.mem_singleton] at hx
    simp only [Pc.holes]
    rcases hx with ⟨y, hy, rfl⟩ | rfl
    · have := hr a (by simp [Pc.rows]) u y hy
      simp only [List.length_cons]
      omega
    · simp only [List.length_singleton]
      omega
  | rep s lo hi a =>
    intro x hx
    have hx : x ∈ List.flatMap (fun n => VafmsBase.tagged n (VafmsBase.scanTimes (VafmsBase.scans a) s n true u)) (VafmsBase.downFrom lo hi) := hx
    obtain ⟨n, hn, hx⟩ := List.mem_flatMap.mp hx
    have hn := (mem_downFrom.mp hn).2
    obtain ⟨y, hy, rfl⟩ := List.mem_map.mp hx
    have h1 := vals_times (hr a (by simp [Pc.rows])) s n true u y hy
    have h2 : n * (5 * a.holes) ≤ hi * (5 * a.holes) := Nat.mul_le_mul_right _ hn
    have h3 : hi * (5 * a.holes) = 5 * (hi * a.holes) := by rw [← Nat.mul_assoc, Nat.mul_comm hi 5, Nat.mul_assoc]
    simp only [Pc.holes, List.length_cons]
    omega
theorem vals_len : ∀ f : Fmt, okSp f = true → ∀ u, ValsIn (5 * f.holes) (VafmsBase.scans f u) := by
  refine fmt_ind_ok (P := fun f => ∀ u, ValsIn (5 * f.holes) (VafmsBase.scans f u)) ?_ ?_
  · intro u x hx
    have : x = ([], u) := by simpa [scans_done] using hx
    subst this
    exact Nat.zero_le _
  · intro p r ok hp hr u
    rw [scans_cons, holes_cons, Nat.mul_add]
    exact vals_followed (vals_P p ok hp u) hr
def ValW (m : Nat) (ws : Ways) : Prop := ∀ x ∈ ws, x.1.length ≤ m
theorem rows_okS {p : Pc} {a : Fmt} (ok : p.okSp = true) (ha : a ∈ p.rows) : okSp a = true := by
  cases p with
  | lit w => cases ha
  | num lo hi => cases ha
  | word lo hi => cases ha
  | alt a b =>
    simp only [Pc.rows, List.mem_cons, List.not_mem_nil, or_false] at ha
    simp only [Pc.okSp, Bool.and_eq_true] at ok
    rcases ha with rfl | rfl
    · exact ok.1
    · exact ok.2
  | opt a =>
    simp only [Pc.rows, List.mem_cons, List.not_mem_nil, or_false] at ha
    subst ha
    exact ok
  | rep s lo hi a =>
    simp only [Pc.rows, List.mem_cons, List.not_mem_nil, or_false] at ha
    subst ha
    simp only [Pc.okSp, Bool.and_eq_true] at ok
    exact ok.2.2.2
theorem vals_goP {p : Pc} (ok : p.okSp = true) {t : Text} {ws : Ways} {m : Nat} (h : ValW m ws) : ValW (m + 5 * p.holes) (goP p t ws) := fun x hx => by
  unfold goP at hx
  obtain ⟨y, hy, hx⟩ := List.mem_flatMap.mp hx
  obtain ⟨z, hz, rfl⟩ := List.mem_map.mp hx
  unfold sI at hz
  obtain ⟨v, hv, rfl⟩ := List.mem_map.mp hz
  have h1 := h y hy
  have h2 := vals_P p ok (fun a ha u => vals_len a (rows_okS ok ha) u) _ v hv
  rw [List.length_append]
  simp only
  omega
theorem vals_goW {f : Fmt} (ok : okSp f = true) {t : Text} {ws : Ways} {m : Nat} (h : ValW m ws) : ValW (m + 5 * f.holes) (goW f t ws) := fun x hx => by
  unfold goW at hx
  obtain ⟨y, hy, hx⟩ := List.mem_flatMap.mp hx
  obtain ⟨z, hz, rfl⟩ := List.mem_map.mp hx
  unfold sI at hz
  obtain ⟨v, hv, rfl⟩ := List.mem_map.mp hz
  have h1 := h y hy
  have h2 := vals_len f ok _ v hv
  rw [List.length_append]
  simp only
  omega
theorem vals_behW {w t : Text} {ws : Ways} {m : Nat} (h : ValW m ws) : ValW m (behW w t ws) := fun x hx => by
  unfold behW at hx
  obtain ⟨y, hy, rfl⟩ := List.mem_map.mp hx
  exact h y (List.mem_filter.mp hy).1
theorem goP_len {p : Pc} (ok : p.okSp = true) (t : Text) (ws : Ways) : (goP p t ws).length ≤ ws.length * 5 ^ p.holes :=
  flat_len _ _ ws fun x _ => by
    rw [List.length_map]
    exact wP_len ok t _
theorem behW_len (w t : Text) (ws : Ways) : (behW w t ws).length ≤ ws.length := by
  unfold behW
  rw [List.length_map]
  exact List.length_filter_le _ _
end Asc
/-! What a reader leaves stands at the list's end. -/
namespace Asc
open VafmsBase (Fmt Text Value)
def SufR {α : Type} (rp : List Int → Option (α × List Int)) : Prop := ∀ x p, rp x = some p → ∃ w, x = w ++ p.2
theorem sufText (l m : Int) : SufR (rText l m) := fun x p h => by
  cases x with
  | nil => cases h
  | cons z r =>
    simp only [rText] at h
    split at h
    · have e := Option.some.inj h
      subst e
      exact ⟨z :: r.take z.toNat, by simp⟩
    · cases h
theorem sufSpan (l m : Int) : SufR (rSpan l m) := fun x p h => by
  match x, h with
  | a :: b :: r, h =>
    simp only [rSpan] at h
    split at h
    · have e := Option.some.inj h
      subst e
      exact ⟨[a, b], rfl⟩
    · cases h
theorem sufPs {rp : List Int → Option (Pc × List Int)} (hs : SufR rp) : ∀ (n : Nat), SufR (rdPs rp n)
  | 0 => fun x u h => by
    have e := Option.some.inj (show some (Fmt.done, x) = some u from h)
    subst e
    exact ⟨[], rfl⟩
  | n + 1 => fun x u h => by
    simp only [rdPs, Option.bind_eq_some_iff, Option.map_eq_some_iff] at h
    obtain ⟨p, hp, r, hr, rfl⟩ := h
    obtain ⟨w1, e1⟩ := hs x p hp
    obtain ⟨w2, e2⟩ := sufPs hs n _ r hr
    exact ⟨w1 ++ w2, by rw [List.append_assoc, ← e2, ← e1]⟩
theorem sufRow {rp : List Int → Option (Pc × List Int)} (hs : SufR rp) : SufR (rdRow rp) := fun x u h => by
  cases x with
  | nil => cases h
  | cons z r =>
    simp only [rdRow] at h
    split at h
    · obtain ⟨w, e⟩ := sufPs hs _ r u h
      exact ⟨z :: w, by rw [e]; rfl⟩
    · cases h
theorem sufKind {row : List Int → Option (Fmt × List Int)} (hs : SufR row) (k : Int) : SufR (rdKind row k) := fun y p h => by
  unfold rdKind at h
  repeat' split at h
  · simp only [Option.map_eq_some_iff] at h
    obtain ⟨w, hw, rfl⟩ := h
    exact sufText _ _ _ _ hw
  · simp only [Option.map_eq_some_iff] at h
    obtain ⟨w, hw, rfl⟩ := h
    exact sufSpan _ _ _ _ hw
  · simp only [Option.map_eq_some_iff] at h
    obtain ⟨w, hw, rfl⟩ := h
    exact sufSpan _ _ _ _ hw
  · simp only [Option.map_eq_some_iff, Option.bind_eq_some_iff] at h
    obtain ⟨a, ha, b, hb, rfl⟩ := h
    obtain ⟨w1, e1⟩ := hs _ _ ha
    obtain ⟨w2, e2⟩ := hs _ _ hb
    exact ⟨w1 ++ w2, by rw [List.append_assoc, ← e2, ← e1]⟩
  · simp only [Option.map_eq_some_iff] at h
    obtain ⟨w, hw, rfl⟩ := h
    exact hs _ _ hw
  · simp only [Option.map_eq_some_iff, Option.bind_eq_some_iff] at h
    obtain ⟨s, h1, u, h2, a, h3, rfl⟩ := h
    obtain ⟨w1, e1⟩ := sufText _ _ _ _ h1
    obtain ⟨w2, e2⟩ := sufSpan _ _ _ _ h2
    obtain ⟨w3, e3⟩ := hs _ _ h3
    exact ⟨w1 ++ (w2 ++ w3), by rw [List.append_assoc, List.append_assoc, ← e3, ← e2, ← e1]⟩
  · cases h
theorem sufP : ∀ F, SufR (rdP F)
  | 0, x, p, h => by cases h
  | F + 1, [], p, h => by cases h
  | F + 1, k :: y, p, h => by
    obtain ⟨w, e⟩ := sufKind (sufRow (sufP F)) k y p h
    exact ⟨k :: w, by rw [e]; rfl⟩
theorem suf1 : SufR rd1 := fun x p h => sufP _ x p h
theorem sufR : SufR rdR := sufRow suf1
/-- by places -/
theorem suf_at {α : Type} {rp : List Int → Option (α × List Int)} (hs : SufR rp) {ns : List Int} {k : Nat} (hk : k ≤ ns.length) {u : α × List Int} (h : rp (ns.drop k) = some u) :
    k ≤ ns.length - u.2.length ∧ ns.length - u.2.length ≤ ns.length ∧ ns.drop (ns.length - u.2.length) = u.2 := by
  obtain ⟨w, e⟩ := hs _ _ h
  have hl := congrArg List.length e
  rw [List.length_drop, List.length_append] at hl
  refine ⟨by omega, by omega, ?_⟩
  rw [show ns.length - u.2.length = k + w.length by omega, ← List.drop_drop, e, List.drop_left]
/-- the depth of what is read -/
theorem rdPs_deep {rp : List Int → Option (Pc × List Int)} {m : Nat} (hl : Less rp) (hd : ∀ x p, x.length ≤ m → rp x = some p → 2 * p.1.depth ≤ x.length) : ∀ (n : Nat) (x : List Int) (u : Fmt × List Int), x.length ≤ m → rdPs rp n x = some u → 2 * depth u.1 ≤ x.length
  | 0, x, u, _, h => by
    have e := Option.some.inj (show some (Fmt.done, x) = some u from h)
    subst e
    exact Nat.zero_le _
  | n + 1, x, u, hx, h => by
    simp only [rdPs, Option.bind_eq_some_iff, Option.map_eq_some_iff] at h
    obtain ⟨p, hp, r, hr, rfl⟩ := h
    have h1 := hl x p hp
    have h2 := hd x p hx hp
    have h3 := rdPs_deep hl hd n _ r (by omega) hr
    simp only
    rw [depth_cons]
    omega
theorem rd1_deep : ∀ (m : Nat) (x : List Int) (p : Pc × List Int), x.length ≤ m → rd1 x = some p → 2 * p.1.depth ≤ x.length := by
  intro m
  induction m with
  | zero =>
    intro x p h hx
    have e : x = [] := List.length_eq_zero_iff.mp (by omega)
    subst e
    cases hx
  | succ m ih =>
    intro x p h hx
    cases x with
    | nil => cases hx
    | cons k y =>
      have hy : y.length ≤ m := by simpa using h
      rw [rd1_cons] at hx
      have hrow : ∀ z u, z.length ≤ m → rdR z = some u → 2 * depth u.1 + 1 ≤ z.length := fun z u hz hu => by
        cases z with
        | nil => cases hu
        | cons c r =>
          simp only [rdR, rdRow] at hu
          split at hu
          · have := rdPs_deep rd1_less ih _ _ _ (show r.length ≤ m by simp only [List.length_cons] at hz; omega) hu
            simp only [List.length_cons]
            omega
          · cases hu
      simp only [List.length_cons]
      unfold rdKind at hx
      repeat' split at hx
      · simp only [Option.map_eq_some_iff] at hx
        obtain ⟨w, hw, rfl⟩ := hx
        exact Nat.zero_le _
      · simp only [Option.map_eq_some_iff] at hx
        obtain ⟨w, hw, rfl⟩ := hx
        exact Nat.zero_le _
      · simp only [Option.map_eq_some_iff] at hx
        obtain ⟨w, hw, rfl⟩ := hx
        exact Nat.zero_le _
      · simp only [Option.map_eq_some_iff, Option.bind_eq_some_iff] at hx
        obtain ⟨a, ha, b, hb, rfl⟩ := hx
        have h0 := rdR_le ha
        have h1 := hrow _ _ hy ha
        have h2 := hrow _ _ (by omega) hb
        simp only [Pc.depth]
        omega
      · simp only [Option.map_eq_some_iff] at hx
        obtain ⟨w, hw, rfl⟩ := hx
        have h1 := hrow _ _ hy hw
        simp only [Pc.depth]
        omega
      · simp only [Option.map_eq_some_iff, Option.bind_eq_some_iff] at hx
        obtain ⟨s, hs, u, hu, a, ha, rfl⟩ := hx
        have h1 := rText_le hs
        have h2 := rSpan_le hu
        have h3 := hrow _ _ (show u.2.length ≤ m by omega) ha
        simp only [Pc.depth]
        omega
      · cases hx
theorem rdR_deep {x : List Int} {u : Fmt × List Int} (h : rdR x = some u) : 2 * depth u.1 ≤ x.length := by
  cases x with
  | nil => cases h
  | cons c r =>
    simp only [rdR, rdRow] at h
    split at h
    · have := rdPs_deep rd1_less (rd1_deep r.length) _ _ _ (Nat.le_refl _) h
      simp only [List.length_cons]
      omega
    · cases h
end Asc
/-! The calls, one by one. -/
namespace Asc
open VafmsBase (Fmt)
/-- a call, by its number, its whole number, its list -/
def callC (c k : Int) (ns : List Int) : Vafmsb.Call := if c = 0 then .format ns else if c = 1 then .print ns else if c = 2 then .scan ns else if c = 3 then .count ns else if c = 4 then .kth ns k else
  if c = 5 then .far ns else if c = 6 then .again ns else if c = 7 then .least else if c = 8 then .ambiguous else .texts k
def shape : Int → Option (Nat × Nat) := PyVafmsb.shape
theorem row_some {x : List Int} {u : List Int × List Int} (h : PyFlat.row x = some u) : x = (u.1.length : Int) :: (u.1 ++ u.2) := by
  cases x with
  | nil => cases h
  | cons n r =>
    simp only [PyFlat.row] at h
    split at h
    · rename_i c
      have e := Option.some.inj h
      subst e
      simp only [List.length_take, List.take_append_drop]
      congr 1
      omega
    · cases h
theorem rows_one {x : List Int} {u : List (List Int) × List Int} (h : PyFlat.rows 1 x = some u) : ∃ ns, u.1 = [ns] ∧ x = (ns.length : Int) :: (ns ++ u.2) := by
  unfold PyFlat.rows at h
  cases e : PyFlat.row x with
  | none => rw [e] at h; cases h
  | some v =>
    rw [e] at h
    have e2 := Option.some.inj h
    subst e2
    exact ⟨v.1, rfl, row_some e⟩
theorem rows_zero {x : List Int} {u : List (List Int) × List Int} (h : PyFlat.rows 0 x = some u) : u = ([], x) := (Option.some.inj h).symm
/-- how a call is spelled -/
inductive Spelled (p : Int) (r t : List Int) (c : List (List Int)) : Prop
  | rowed (h : p = 0 ∨ p = 1 ∨ p = 2 ∨ p = 3 ∨ p = 5 ∨ p = 6) (ns : List Int) (e : r = (ns.length : Int) :: (ns ++ t)) (ec : c = [[p], ns])
  | kth (h : p = 4) (k : Int) (ns : List Int) (e : r = k :: (ns.length : Int) :: (ns ++ t)) (ec : c = [[p, k], ns])
  | bare (h : p = 7 ∨ p = 8) (e : r = t) (ec : c = [[p]])
  | texts (h : p = 9) (k : Int) (e : r = k :: t) (ec : c = [[p, k]])
theorem call_spelled {p : Int} {r t : List Int} {c : List (List Int)} (h : PyFlat.call PyVafmsb.shape (p :: r) = some (c, t)) : Spelled p r t c := by
  simp only [PyFlat.call] at h
  have cases4 : (∃ (q : p = 0 ∨ p = 1 ∨ p = 2 ∨ p = 3 ∨ p = 5 ∨ p = 6), PyVafmsb.shape p = some (0, 1)) ∨ (p = 4 ∧ PyVafmsb.shape p = some (1, 1)) ∨ ((p = 7 ∨ p = 8) ∧ PyVafmsb.shape p = some (0, 0)) ∨ (p = 9 ∧ PyVafmsb.shape p = some (1, 0)) ∨ PyVafmsb.shape p = none := by
    unfold PyVafmsb.shape
    by_cases h0 : p = 0
    · subst h0; exact .inl ⟨by simp, rfl⟩
    by_cases h1 : p = 1
    · subst h1; exact .inl ⟨by simp, rfl⟩
    by_cases h2 : p = 2
    · subst h2; exact .inl ⟨by simp, rfl⟩
    by_cases h3 : p = 3
    · subst h3; exact .inl ⟨by simp, rfl⟩
    by_cases h4 : p = 4
    · subst h4; exact .inr (.inl ⟨rfl, rfl⟩)
    by_cases h5 : p = 5
    · subst h5; exact .inl ⟨by simp, rfl⟩
    by_cases h6 : p = 6
    · subst h6; exact .inl ⟨by simp, rfl⟩
    by_cases h7 : p = 7
    · subst h7; exact .inr (.inr (.inl ⟨.inl rfl, rfl⟩))
    by_cases h8 : p = 8
    · subst h8; exact .inr (.inr (.inl ⟨.inr rfl, rfl⟩))
    by_cases h9 : p = 9
    · subst h9; exact .inr (.inr (.inr (.inl ⟨rfl, rfl⟩)))
    simp [h0, h1, h2, h3, h4, h5, h6, h7, h8, h9]
  rcases cases4 with ⟨q, e⟩ | ⟨q, e⟩ | ⟨q, e⟩ | ⟨q, e⟩ | e
  · rw [e] at h
    simp only [Nat.not_lt_zero, if_false, List.drop_zero, List.take_zero] at h
    cases e2 : PyFlat.rows 1 r with
    | none => rw [e2] at h; cases h
    | some u =>
      rw [e2] at h
      obtain ⟨ns, h1, h2⟩ := rows_one e2
      have e3 := Option.some.inj h
      injection e3 with e4 e5
      subst e5
      rw [h1] at e4
      exact .rowed q ns h2 e4.symm
  · rw [e] at h
    simp only at h
    split at h
    · cases h
    · rename_i c1
      cases r with
      | nil => exact absurd (show ([] : List Int).length < 1 by decide) c1
      | cons k r =>
        simp only [List.drop_succ_cons, List.drop_zero, List.take_succ_cons, List.take_zero] at h
        cases e2 : PyFlat.rows 1 r with
        | none => rw [e2] at h; cases h
        | some u =>
          rw [e2] at h
          obtain ⟨ns, h1, h2⟩ := rows_one e2
          have e3 := Option.some.inj h
          injection e3 with e4 e5
          subst e5
          rw [h1] at e4
          exact .kth q k ns (by rw [h2]) e4.symm
  · rw [e] at h
    simp only [Nat.not_lt_zero, if_false, List.drop_zero, List.take_zero] at h
    have e3 := Option.some.inj h
    injection e3 with e4 e5
    exact .bare q e5 e4.symm
  · rw [e] at h
    simp only at h
    split at h
    · cases h
    · rename_i c1
      cases r with
      | nil => exact absurd (show ([] : List Int).length < 1 by decide) c1
      | cons k r =>
        simp only [List.drop_succ_cons, List.drop_zero, List.take_succ_cons, List.take_zero] at h
        have e3 := Option.some.inj h
        injection e3 with e4 e5
        exact .texts q k (by rw [e5]) e4.symm
  · rw [e] at h
    cases h
/-- the step, by the call -/
theorem step_call {p : Int} {r t : List Int} {c : List (List Int)} (s : Vafmsb.State) (sp : Spelled p r t c) : ∃ (k : Int) (ns : List Int), VafmsbNeutral.step s (PyVafmsb.whole c) = Vafmsb.step s (callC p k ns) ∧
    ((p = 0 ∨ p = 1 ∨ p = 2 ∨ p = 3 ∨ p = 5 ∨ p = 6) ∧ k = 0 ∧ r = (ns.length : Int) :: (ns ++ t) ∧ c = [[p], ns] ∨ p = 4 ∧ r = k :: (ns.length : Int) :: (ns ++ t) ∧ c = [[p, k], ns] ∨ (p = 7 ∨ p = 8) ∧ k = 0 ∧ ns = [] ∧ r = t ∧ c = [[p]] ∨ p = 9 ∧ ns = [] ∧ r = k :: t ∧ c = [[p, k]]) := by
  cases sp with
  | rowed h ns e ec =>
    subst ec
    refine ⟨0, ns, ?_, .inl ⟨h, rfl, e, rfl⟩⟩
    rcases h with rfl | rfl | rfl | rfl | rfl | rfl <;> rfl
  | kth h k ns e ec =>
    subst ec
    refine ⟨k, ns, ?_, .inr (.inl ⟨h, e, rfl⟩)⟩
    subst h
    rfl
  | bare h e ec =>
    subst ec
    refine ⟨0, [], ?_, .inr (.inr (.inl ⟨h, rfl, rfl, e, rfl⟩))⟩
    rcases h with rfl | rfl <;> rfl
  | texts h k e ec =>
    subst ec
    refine ⟨k, [], ?_, .inr (.inr (.inr ⟨h, rfl, e, rfl⟩))⟩
    subst h
    rfl
theorem bound_row {p : Int} {ns : List Int} (h : p = 0 ∨ p = 1 ∨ p = 2 ∨ p = 3 ∨ p = 5 ∨ p = 6) (q : PyInside.call PyVafmsb.bound [[p], ns] = true) : ns.length ≤ 200 := by
  rcases h with rfl | rfl | rfl | rfl | rfl | rfl <;> simp [PyInside.call, PyVafmsb.bound, PyInside.each, PyInside.lists] at q <;> omega
theorem bound_kth {k : Int} {ns : List Int} (q : PyInside.call PyVafmsb.bound [[4, k], ns] = true) : ns.length ≤ 200 := by
  simp [PyInside.call, PyVafmsb.bound, PyInside.each, PyInside.lists] at q
  omega
end Asc
/-! Rules that the layer lacks: set(..) of many ints that are few, sorted of it; tuple * int for any int; a < b < c < d. -/
namespace Asc
open PySem PySem.Spec PyProof.Rows L2

/-! ### few ints -/
theorem few_nat : ∀ (B : Nat) (l : List Nat), l.Nodup → (∀ x ∈ l, x < B) → l.length ≤ B
  | 0, [], _, _ => Nat.le_refl _
  | 0, x :: l, _, h => absurd (h x List.mem_cons_self) (Nat.not_lt_zero _)
  | B + 1, l, nd, h => by
    have h1 := few_nat B (l.erase B) (nd.erase B) fun x hx => by
      have h2 := nd.mem_erase_iff.mp hx
      have h3 := h x h2.2
      have := h2.1
      omega
    have h2 : l.length ≤ (l.erase B).length + 1 := by
      rw [List.length_erase]
      split <;> omega
    omega
theorem sub_len : ∀ {l m : List Int}, l.Nodup → (∀ x ∈ l, x ∈ m) → l.length ≤ m.length
  | [], m, _, _ => Nat.zero_le _
  | a :: l, m, nd, h => by
    rw [List.nodup_cons] at nd
    have h1 := sub_len (m := m.erase a) nd.2 fun x hx => (List.mem_erase_of_ne (fun e : x = a => nd.1 (by rw [← e]; exact hx))).mpr (h x (List.mem_cons_of_mem _ hx))
    have h2 := List.length_erase_of_mem (h a List.mem_cons_self)
    have h3 := List.length_pos_of_mem (h a List.mem_cons_self)
    rw [List.length_cons]
    omega
theorem few_int {B : Nat} {l : List Int} (nd : l.Nodup) (h : ∀ x ∈ l, 0 ≤ x ∧ x < (B : Int)) : l.length ≤ B := by
  have h1 := few_nat B (l.map Int.toNat) ?_ ?_
  · rw [List.length_map] at h1
    exact h1
  · unfold List.Nodup
    rw [List.pairwise_map]
    refine List.Pairwise.imp_of_mem ?_ nd
    intro a b ha hb hab e
    have := h a ha
    have := h b hb
    exact hab (by omega)
  · intro x hx
    obtain ⟨y, hy, rfl⟩ := List.mem_map.mp hx
    have := h y hy
    omega
theorem setR_few {w : World} {h : Heap} {a : Addr} {S : Int → Bool} {n B : Nat} (R : SetR w h a S n) (hs : ∀ k, S k = true → 0 ≤ k ∧ k < (B : Int)) : n ≤ B := by
  obtain ⟨o, es, ep, t, _, _, _, _, nd, hm, _, _, hn, _⟩ := R
  have h1 := few_int (B := B) nd fun x hx => hs x ((hm x).mpr hx)
  rw [List.length_map, Array.length_toList] at h1
  omega

/-! ### set(..) -/
section
variable {P : Program} {w : World} {A : Around} {E : PySem.Value → Shared → Prop} {s : Shared}
/-- the new empty set's object -/
abbrev set0 (w : World) : Obj :=
  { cls := .type "set", dict := none,
    data := .set #[] 0 (.fresh 0 0 (!w.params.followText "set-order")) }
/-- the loop that fills a new set: all that's drawn is within 0 .. 4000 -/
theorem set_fill {I : Addr} {fp wr : List Addr} {G : Array GenState → Array GenState → Prop} {n : Nat}
    {Pv : Nat → PySem.Value → Prop} {St : Nat → Shared → Prop} {R : Result → Shared → Prop}
    (W : WalksS P w A.in1 I fp wr G n Pv St) (a : Addr) (out : a ∉ fp) (ns : List Int) (hn : n = ns.length)
    (small : ∀ k ∈ ns, 0 ≤ k ∧ k < ((4000 : Nat) : Int)) (got : ∀ i v, Pv i v → ∃ k t, ns[i]? = some k ∧ v = .int k t) (k : Nat) :
    ∀ (i : Nat) (s : Shared), n - i = k → i ≤ n → St i s → (∃ c, SetR w s.heap a (fun j => decide (j ∈ ns.take i)) c) →
      (∀ s2 c, Moved (a :: wr) G s s2 → SetR w s2.heap a (fun j => decide (j ∈ ns)) c → R (.ok (.ret .none)) s2) →
      codeAny (model P w) A (.builtin "set.update.loop" ⟨[.ref a, .ref I], []⟩) R s := by
  have wsub : ∀ b ∈ wr, b ∈ a :: wr := fun b hb => List.mem_cons_of_mem _ hb
  have outw : a ∉ wr := fun z => out (W.sub _ z)
  induction k with
  | zero =>
    rintro i s e hi st ⟨c, hS⟩ hR
    obtain rfl : i = n := by omega
    refine codeAny_builtin F.entry_set_update_loop ?_
    rw [Around.under_plainId F.plain_set_update_loop _]
    show wpAny _ A.in1 (pyNext (.ref I) >>= _) _ _ s
    refine wpAny_bind (W.done s _ _ st fun s2 mv => ?_)
    rw [List.take_of_length_le (Nat.le_of_eq hn.symm)] at hS
    have hS2 := hS.at (h' := s2.heap) fun o z => mv.heap a o outw z
    exact wpAny_pure (hR s2 c (mv.mono wsub) hS2)
  | succ k ih =>
    rintro i s e hi st ⟨c, hS⟩ hR
    have lt : i < n := by omega
    have few : c ≤ 4000 := setR_few hS fun j hj => small j (List.mem_of_mem_take (of_decide_eq_true hj))
    refine codeAny_builtin F.entry_set_update_loop ?_
    rw [Around.under_plainId F.plain_set_update_loop _]
    show wpAny _ A.in1 (pyNext (.ref I) >>= _) _ _ s
    refine wpAny_bind (W.item i s _ _ lt st fun v s2 pv st2 mv => ?_)
    obtain ⟨z, t, hz, rfl⟩ := got i v pv
    have hS2 := hS.at (h' := s2.heap) fun o q => mv.heap a o outw q
    show wpAny _ A.in1 (holding [Value.int z t] (setAdd a (.int z t)) >>= _) _ _ s2
    refine wpAny_bind (wpAny_holding ?_)
    unfold setAdd
    refine wpAny_holding (wpAny_bind ((intKind P w).pyHash (k := z) (intKind_is _ _ _ _) ?_))
    refine setR_add_hashed (s := { s2 with toks := s2.toks + 1 }) hS2 (by show c + 1 < 4096; omega) fun h3 but hS3 => ?_
    have hS4 := hS3.congr (S' := fun j => decide (j ∈ ns.take (i + 1))) fun j => by
      rw [List.take_add_one, hz]
      simp [List.mem_append]
    refine wpAny_pure ⟨plainId_quiet F.plain_set_update_loop _, ?_⟩
    refine ih (i + 1) _ (by omega) lt (W.frame _ s2 _ _ st2 (Nat.le_succ _) fun b hb o q => ?_) ⟨_, hS4⟩ fun s4 c4 mv4 hS5 => ?_
    · exact (but.2 b fun z => out (z ▸ hb)).trans q
    · refine hR s4 c4 (Moved.trans W.gtrans ((mv.mono wsub).then_heap (Nat.le_succ _) fun b o hb q => ?_) mv4) hS5
      exact (but.2 b fun z => hb (by rw [z]; exact List.mem_cons_self)).trans q
set_option maxHeartbeats 8000000 in
/-- set(a list of ints), few of them different -/
theorem set_of_list {l : Addr} {its : Array PySem.Value} (ns : List Int) {Q : PySem.Value → Shared → Prop} (hh : A.handled = none)
    (hl : s.heap.IsList l its) (hit : IntsAre its.toList ns) (small : ∀ k ∈ ns, 0 ≤ k ∧ k < ((4000 : Nat) : Int))
    (done : ∀ (h2 : Heap) (tk c : Nat), SetR w h2 s.heap.objs.size (fun j => decide (j ∈ ns)) c →
      (∀ b o, s.heap.get? b = some o → h2.get? b = some o) → Q (.ref s.heap.objs.size) { s with heap := h2, toks := tk }) :
    wpAny (model P w) A (call (.type "set") [.ref l]) Q E s := by
  have size : its.size = ns.length := by
    have z := IntsAre.length hit
    rwa [Array.length_toList] at z
  have made := F.called_set.made
  have subs := F.called_set.sub
  have isT := F.called_set.notType
  have may := F.called_set.canCreate
  have chk := F.typeCall_set_1 (.ref l)
  obtain ⟨c0, tl, mro⟩ := F.called_set.mro
  refine wpAny_call (codeAny_of_tree ?_)
  show wpAny _ _ (callAny (.type "set") _) _ _ _
  refine wpAny_pure ⟨Code.quiet_builtin _ (by decide +kernel), codeAny_builtin F.entry_type_call ?_⟩
  rw [Around.under_plain (weight_type_call_type "set" [.ref l] []) rfl]
  repeat (any_goals (first | assumption | wp_step))
  refine codeAny_mono (code_set_led1 (.ref l) (E := E)
    (Q₁ := fun v s1 => v = .ref s.heap.objs.size ∧ s1 = { s with heap := s.heap.push (set0 w) }) ⟨rfl, rfl⟩) fun r s1 hr => ?_
  cases r with
  | error e => exact hr
  | ok fl =>
    cases fl with
    | ret v =>
      obtain ⟨rfl, rfl⟩ := hr
      have new : (s.heap.push (set0 w)).get? s.heap.objs.size = some (set0 w) := Heap.get?_push_size _ rfl
      have ty : Shared.TypeIs { s with heap := s.heap.push (set0 w) } (.ref s.heap.objs.size) "set" := ⟨_, new, rfl⟩
      have ini := F.called_set.init.lookup
      have bnd := F.called_set.init.bind (.ref s.heap.objs.size)
      repeat (any_goals (first | assumption | wp_step))
      refine codeAny_mono (codeAny_call_builtin (R := wants (fun r s2 => r = .none ∧ ∃ h2 tk c, s2 = { s with heap := h2, toks := tk } ∧
        SetR w h2 s.heap.objs.size (fun j => decide (j ∈ ns)) c ∧ ∀ b o, s.heap.get? b = some o → h2.get? b = some o) E)
        F.called_set.init.plain F.entry_set_init (check_set_init_1 ty ?_)) fun r2 s2 hr2 => ?_
      · obtain ⟨⟨ocl, odi, oda, osl⟩, ol, hcl, nl, hda⟩ := hl
        simp only at hcl hda
        subst hcl hda
        have ol2 : (s.heap.push (set0 w)).get? l = some { cls := .type "list", dict := odi, data := .seq its nl, slots := osl } := Heap.get?_push_of_some _ ol
        have s1 := F.sub_list_set
        have s2 := F.sub_list_frozenset
        have nodict : (Value.type "list" == Value.type "dict") = false := by decide
        have isl : (s.heap.push (set0 w)).IsList l its := ⟨_, ol2, rfl, nl, rfl⟩
        unfold Builtin.«set.__init__» noKeywords Builtin.Frozenset.updateFrom
        generalize hIt : pyIter = it
        wp_walk
        subst hIt
        refine wpAny_pyIter_list isl ?_
        refine wpAny_bind (wpAny_runValue ?_)
        have below : l < s.heap.objs.size := Heap.lt_size ol
        have next1 : (s.heap.push (set0 w)).objs.size = s.heap.objs.size + 1 := Heap.size_push ..
        have calm : A.in1.in1.in1.handled = none := by simp [hh]
        have apart : l ≠ (s.heap.push (set0 w)).objs.size := by
          rw [next1]
          exact Nat.ne_of_lt (Nat.lt_succ_of_lt below)
        have away : s.heap.objs.size ∉ [(s.heap.push (set0 w)).objs.size, l] := by
          rw [next1]
          simp only [List.mem_cons, List.not_mem_nil, or_false, not_or]
          exact ⟨Nat.ne_of_lt (Nat.lt_succ_self _), Nat.ne_of_gt below⟩
        have got : ∀ (i : Nat) (v : PySem.Value), its[i]? = some v → ∃ k t, ns[i]? = some k ∧ v = .int k t := fun i v hv => by
          have lt : i < ns.length := by
            rw [← size]
            exact (Array.getElem?_eq_some_iff.mp hv).1
          obtain ⟨t, e⟩ := PyProof.Rows.IntsAre.int_at hit i v (by rw [Array.getElem?_toList]; exact hv)
          refine ⟨ns[i], t, List.getElem?_eq_getElem lt, ?_⟩
          rw [e, List.getD_eq_getElem?_getD, List.getElem?_eq_getElem lt] <;> rfl
        have st0 : ((s.heap.push (set0 w)).push { cls := .type "list_iterator", data := .fields #[.ref l, .int 0 0] }).get? s.heap.objs.size = some (set0 w) := Heap.get?_push_of_some _ new
        refine set_fill ((Walks.list calm _ l apart its).toS) s.heap.objs.size away ns size small got (its.size - 0) 0 _ rfl (Nat.zero_le _)
          ⟨⟨_, Heap.get?_push_size _ rfl, rfl, rfl⟩, isl.push _⟩ ⟨0, setR_new_at st0⟩ fun s3 c mv hS => ?_
        obtain ⟨h3, g3, d3, t3, o3⟩ := s3
        obtain rfl : g3 = s.gens := mv.gens
        obtain rfl : d3 = s.drawn := mv.drawn
        obtain rfl : o3 = s.os := mv.os
        show wpAny _ _ _ _ _ _
        refine wpAny_pure ?_
        show wpAny _ _ (ret Value.none) _ _ _
        refine wpAny_pure ⟨rfl, h3, t3, c, rfl, hS, fun b o z => ?_⟩
        have lt := Heap.lt_size z
        refine mv.heap b o ?_ (Heap.get?_push_of_some _ (Heap.get?_push_of_some _ z))
        rw [next1]
        simp only [List.mem_cons, List.not_mem_nil, or_false, not_or]
        exact ⟨Nat.ne_of_lt lt, Nat.ne_of_lt (Nat.lt_succ_of_lt lt)⟩
      · cases r2 with
        | error e => exact hr2
        | ok fl2 =>
          cases fl2 with
          | ret v =>
            obtain ⟨rfl, h2, tk, c, rfl, hS, kept⟩ := hr2
            repeat (any_goals (first | assumption | wp_step))
            exact done _ _ _ hS kept
          | _ => exact hr2.elim
    | _ => exact hr.elim
set_option maxHeartbeats 8000000 in
/-- set(a tuple of ints), few of them different -/
theorem set_of_tuple {l : Addr} {its : Array PySem.Value} (ns : List Int) {Q : PySem.Value → Shared → Prop} (hh : A.handled = none)
    (hl : s.heap.IsTuple l its) (hit : IntsAre its.toList ns) (small : ∀ k ∈ ns, 0 ≤ k ∧ k < ((4000 : Nat) : Int))
    (done : ∀ (h2 : Heap) (tk c : Nat), SetR w h2 s.heap.objs.size (fun j => decide (j ∈ ns)) c →
      (∀ b o, s.heap.get? b = some o → h2.get? b = some o) → Q (.ref s.heap.objs.size) { s with heap := h2, toks := tk }) :
    wpAny (model P w) A (call (.type "set") [.ref l]) Q E s := by
  have size : its.size = ns.length := by
    have z := IntsAre.length hit
    rwa [Array.length_toList] at z
  have made := F.called_set.made
  have subs := F.called_set.sub
  have isT := F.called_set.notType
  have may := F.called_set.canCreate
  have chk := F.typeCall_set_1 (.ref l)
  obtain ⟨c0, tl, mro⟩ := F.called_set.mro
  refine wpAny_call (codeAny_of_tree ?_)
  show wpAny _ _ (callAny (.type "set") _) _ _ _
  refine wpAny_pure ⟨Code.quiet_builtin _ (by decide +kernel), codeAny_builtin F.entry_type_call ?_⟩
  rw [Around.under_plain (weight_type_call_type "set" [.ref l] []) rfl]
  repeat (any_goals (first | assumption | wp_step))
  refine codeAny_mono (code_set_led1 (.ref l) (E := E)
    (Q₁ := fun v s1 => v = .ref s.heap.objs.size ∧ s1 = { s with heap := s.heap.push (set0 w) }) ⟨rfl, rfl⟩) fun r s1 hr => ?_
  cases r with
  | error e => exact hr
  | ok fl =>
    cases fl with
    | ret v =>
      obtain ⟨rfl, rfl⟩ := hr
      have new : (s.heap.push (set0 w)).get? s.heap.objs.size = some (set0 w) := Heap.get?_push_size _ rfl
      have ty : Shared.TypeIs { s with heap := s.heap.push (set0 w) } (.ref s.heap.objs.size) "set" := ⟨_, new, rfl⟩
      have ini := F.called_set.init.lookup
      have bnd := F.called_set.init.bind (.ref s.heap.objs.size)
      repeat (any_goals (first | assumption | wp_step))
      refine codeAny_mono (codeAny_call_builtin (R := wants (fun r s2 => r = .none ∧ ∃ h2 tk c, s2 = { s with heap := h2, toks := tk } ∧
        SetR w h2 s.heap.objs.size (fun j => decide (j ∈ ns)) c ∧ ∀ b o, s.heap.get? b = some o → h2.get? b = some o) E)
        F.called_set.init.plain F.entry_set_init (check_set_init_1 ty ?_)) fun r2 s2 hr2 => ?_
      · obtain ⟨⟨ocl, odi, oda, osl⟩, ol, hcl, nl, hda⟩ := hl
        simp only at hcl hda
        subst hcl hda
        have ol2 : (s.heap.push (set0 w)).get? l = some { cls := .type "tuple", dict := odi, data := .seq its nl, slots := osl } := Heap.get?_push_of_some _ ol
        have s1 := F.sub_tuple_set
        have s2 := F.sub_tuple_frozenset
        have nodict : (Value.type "tuple" == Value.type "dict") = false := by decide
        have isl : (s.heap.push (set0 w)).IsTuple l its := ⟨_, ol2, rfl, nl, rfl⟩
        unfold Builtin.«set.__init__» noKeywords Builtin.Frozenset.updateFrom
        generalize hIt : pyIter = it
        wp_walk
        subst hIt
        refine wpAny_pyIter_tuple isl ?_
        refine wpAny_bind (wpAny_runValue ?_)
        have below : l < s.heap.objs.size := Heap.lt_size ol
        have next1 : (s.heap.push (set0 w)).objs.size = s.heap.objs.size + 1 := Heap.size_push ..
        have calm : A.in1.in1.in1.handled = none := by simp [hh]
        have apart : l ≠ (s.heap.push (set0 w)).objs.size := by
          rw [next1]
          exact Nat.ne_of_lt (Nat.lt_succ_of_lt below)
        have away : s.heap.objs.size ∉ [(s.heap.push (set0 w)).objs.size, l] := by
          rw [next1]
          simp only [List.mem_cons, List.not_mem_nil, or_false, not_or]
          exact ⟨Nat.ne_of_lt (Nat.lt_succ_self _), Nat.ne_of_gt below⟩
        have got : ∀ (i : Nat) (v : PySem.Value), its[i]? = some v → ∃ k t, ns[i]? = some k ∧ v = .int k t := fun i v hv => by
          have lt : i < ns.length := by
            rw [← size]
            exact (Array.getElem?_eq_some_iff.mp hv).1
          obtain ⟨t, e⟩ := PyProof.Rows.IntsAre.int_at hit i v (by rw [Array.getElem?_toList]; exact hv)
          refine ⟨ns[i], t, List.getElem?_eq_getElem lt, ?_⟩
          rw [e, List.getD_eq_getElem?_getD, List.getElem?_eq_getElem lt] <;> rfl
        have st0 : ((s.heap.push (set0 w)).push { cls := .type "tuple_iterator", data := .fields #[.ref l, .int 0 0] }).get? s.heap.objs.size = some (set0 w) := Heap.get?_push_of_some _ new
        refine set_fill ((Walks.tuple calm _ l apart its).toS) s.heap.objs.size away ns size small got (its.size - 0) 0 _ rfl (Nat.zero_le _)
          ⟨⟨_, Heap.get?_push_size _ rfl, rfl, rfl⟩, isl.push _⟩ ⟨0, setR_new_at st0⟩ fun s3 c mv hS => ?_
        obtain ⟨h3, g3, d3, t3, o3⟩ := s3
        obtain rfl : g3 = s.gens := mv.gens
        obtain rfl : d3 = s.drawn := mv.drawn
        obtain rfl : o3 = s.os := mv.os
        show wpAny _ _ _ _ _ _
        refine wpAny_pure ?_
        show wpAny _ _ (ret Value.none) _ _ _
        refine wpAny_pure ⟨rfl, h3, t3, c, rfl, hS, fun b o z => ?_⟩
        have lt := Heap.lt_size z
        refine mv.heap b o ?_ (Heap.get?_push_of_some _ (Heap.get?_push_of_some _ z))
        rw [next1]
        simp only [List.mem_cons, List.not_mem_nil, or_false, not_or]
        exact ⟨Nat.ne_of_lt lt, Nat.ne_of_lt (Nat.lt_succ_of_lt lt)⟩
      · cases r2 with
        | error e => exact hr2
        | ok fl2 =>
          cases fl2 with
          | ret v =>
            obtain ⟨rfl, h2, tk, c, rfl, hS, kept⟩ := hr2
            repeat (any_goals (first | assumption | wp_step))
            exact done _ _ _ hS kept
          | _ => exact hr2.elim
    | _ => exact hr.elim
/-- sorted(a set of ints) -/
theorem sorted_big {a : Addr} {S : Int → Bool} {n : Nat} {Q : PySem.Value → Shared → Prop} (R : SetR w s.heap a S n) (hh : A.handled = none)
    (done : ∀ s2 p (out : Array PySem.Value) (c : Nat) (ns : List Int), (∀ b o, s.heap.get? b = some o → s2.heap.get? b = some o) → s2.gens = s.gens → s2.os = s.os → s.heap.objs.size ≤ p →
      s2.heap.get? p = some (seqObj "list" out c) → IntsAre out.toList ns → ns.Pairwise (· < ·) → (∀ k, k ∈ ns ↔ S k = true) → Q (.ref p) s2) :
    wpAny (model P w) A (call (.builtin "sorted") [.ref a]) Q E s := by
  obtain ⟨o, es, ep, t, ho, hex, hd, good, nd, hm, hb, hf, hn, hr, hled⟩ := R
  refine Calls.call_function_entry kind_sorted plain_sorted entry_sorted (args_sorted1 _) ?_
  unfold Builtin.«sorted»
  refine wpAny_bind (m := checkCount "sorted" 1 1 _) (wpAny_pure ?_)
  refine wpAny_bind (collect_set (A := A.in1) hh ⟨o, ho, hex.1, hd⟩ hf hb hr hled fun s1 vs k1 z1 g1 o1 pm => ?_)
  have small : vs.length < 4096 := by
    have e := pm.length_eq
    rw [List.length_map, Array.length_toList (xs := es)] at e
    rw [e]
    exact hb
  have isI : IntsAre vs (vs.map Builtin.Re.reRawOf) := ints_of vs fun v hv => by
    obtain ⟨e, he, q⟩ := List.mem_map.mp (pm.mem_iff.mp hv)
    obtain ⟨k, tk, e1, _⟩ := good e he
    exact ⟨k, tk, q ▸ e1⟩
  have keys : (vs.map Builtin.Re.reRawOf).Perm (es.toList.map keyOf) := by
    have q := pm.map Builtin.Re.reRawOf
    rwa [List.map_map] at q
  refine wpAny_bind (wpAny_newList ?_ (by rw [sizeLine_eq]; omega))
  have hL : (s1.heap.push (seqObj "list" vs.toArray 0)).get? s1.heap.objs.size = some (seqObj "list" vs.toArray 0) := Heap.get?_push_size _ rfl
  refine wpAny_bind (wpAny_holding (wpAny_call_entry PyProof.Rows.slot_list_sort ⟨_, hL, rfl⟩ PyProof.Rows.entry_list_sort
    (SrtO.list_sort_ord SrtO.swo_int hL (by rw [sizeLine_eq]; omega) (fun h2 => SrtO.ints_sortable isI h2) fun out q1 q2 => ⟨_, rfl, ?_⟩) (PyProof.Rows.args_list_sort _)))
  obtain ⟨w1, w2, w3⟩ := SrtO.ints_out isI q1 q2
  obtain ⟨c, hc⟩ := PyProof.Rows.sortedHeap_at (vs := vs) (out := out.toArray) hL
  have pn := w2.trans keys
  refine wpAny_pure ⟨_, rfl, done _ s1.heap.objs.size out.toArray c _ (fun b u e => ?_) g1 o1 z1 hc w1 (lt_of_le_nodup _ w3 (pn.nodup_iff.mpr nd)) (fun k => by rw [pn.mem_iff, ← hm k])⟩
  have q := k1 b u e
  have lt := Heap.lt_size q
  show (sortedHeap (s1.heap.push (seqObj "list" vs.toArray 0)) s1.heap.objs.size vs out.toArray).get? b = some u
  rw [PyProof.Rows.sortedHeap_old (Nat.ne_of_lt lt) (by rw [Heap.size_push]; exact Nat.lt_succ_of_lt lt)]
  exact Heap.get?_push_of_some _ q
end

section
variable {X : Cx}
/-- set(x), x a list or a tuple of ints from 0 to 3999 -/
def rSetI (K : PySem.W.Frag) (w : World) : List V → Hp → VK → Prop := fun xs H Q => ∃ (p : Addr) (ns : List Int), xs = [.ref p] ∧ (SqL K H p (ns.map V.int) ∨ SqT K H p (ns.map V.int)) ∧
  (∀ k ∈ ns, 0 ≤ k ∧ k < ((4000 : Nat) : Int)) ∧ ∀ (a : Addr) (c : Nat), H a = none → Q (.ref a) (upd H a (SetO w a (fun j => decide (j ∈ ns)) c))
theorem cr_setI (hc : X.calm = true) : CallR X (.type "set") (rSetI X.K X.w) := by
  intro pins s σ H xs us Q I r h
  obtain ⟨p, ns, rfl, hq, small, q⟩ := h
  rw [Vals.ref1 r]
  have fin : ∀ (h2 : Heap) (tk c : Nat), SetR X.w h2 s.heap.objs.size (fun j => decide (j ∈ ns)) c → (∀ b o, s.heap.get? b = some o → h2.get? b = some o) →
      EP X pins σ Q (.ref s.heap.objs.size) { s with heap := h2, toks := tk } := fun h2 tk c R kept =>
    ⟨.ref _, _, I.laid (o := SetO X.w s.heap.objs.size (fun j => decide (j ∈ ns)) c) (t' := tk) kept (Nat.le_refl _) (setO_new R), rfl, q _ c (I.hok.fresh (Nat.le_refl _))⟩
  rcases hq with hq | hq
  · obtain ⟨its, rv, hl, _⟩ := I.list hq
    exact set_of_list ns (I.ok.hd hc) hl.isList (by simpa using rv.ints) small fin
  · obtain ⟨its, rv, ht, _⟩ := I.tuple hq
    exact set_of_tuple ns (I.ok.hd hc) ht (by simpa using rv.ints) small fin
/-- sorted(s) -/
def rSortS (w : World) : List V → Hp → VK → Prop := fun vs H Q => ∃ (a : Addr) (S : Int → Bool) (n : Nat), vs = [V.ref a] ∧ H a = some (SetO w a S n) ∧
  ∀ (ns : List Int) (p : Addr), ns.Pairwise (· < ·) → (∀ k : Int, k ∈ ns ↔ S k = true) → H p = none → Q (.ref p) (upd H p (.lst (ns.map V.int)))
theorem cr_sortS (hc : X.calm = true) : CallR X (.builtin "sorted") (rSortS X.w) := by
  intro pins s σ H vs us Q I r h
  obtain ⟨a, S, n, rfl, ha, q⟩ := h
  have R := setO_get I ha
  rw [Vals.ref1 r]
  refine sorted_big R (I.ok.hd hc) fun s2 p out c ns kept g o hp hg hi hs hm => ?_
  have few : n < 4096 := by
    obtain ⟨_, es, _, _, _, _, _, _, _, _, hb, _, hn, _⟩ := R
    rw [← hn]
    exact hb
  have len : (ns.map V.int).length ≤ sizeLine := by
    obtain ⟨_, es, _, _, _, _, _, _, nd, hm2, hb, _, _, _⟩ := R
    have l1 : ns.length ≤ (es.toList.map keyOf).length := by
      have nd2 : ns.Nodup := hs.imp fun h => Int.ne_of_lt h
      exact sub_len nd2 fun x hx => (hm2 x).mp ((hm x).mp hx)
    rw [List.length_map, Array.length_toList (xs := es)] at l1
    have hb2 : es.size < 4096 := hb
    rw [List.length_map, sizeLine_eq]
    omega
  have free : H p = none := I.hok.fresh hp
  have J : Inv X pins σ (upd H p (.lst (ns.map V.int))) { s with heap := s2.heap, gens := s2.gens, drawn := s2.drawn, toks := s2.toks } :=
    I.call (ch := []) (Un.laid kept hp free) (I.hok.laid kept hp ⟨len, out.toList, c, vals_of_ints hi, hg⟩) (by rw [g]; exact I.bare) (fun _ z => nomatch z)
  have e : s2 = { s with heap := s2.heap, gens := s2.gens, drawn := s2.drawn, toks := s2.toks } := by
    cases s2
    cases s
    cases o
    rfl
  rw [e]
  exact ⟨.ref p, _, J, rfl, q ns p hs hm free⟩
/-- a op1 b op2 c op3 d, as a test -/
def tChain3 (r r2 r3 : R2) (ta tb tc td : TE) : TE := fun σ H Q => ta σ H fun x H1 => tb σ H1 fun y H2 => r x y H2 fun z H3 => ∃ k, z = .bl k ∧
  (if k = true then tc σ H3 fun v H4 => r2 y v H4 fun z2 H5 => ∃ k2, z2 = .bl k2 ∧ (if k2 = true then td σ H5 fun u H6 => r3 v u H6 Q else Q (.bl false) H5) else Q (.bl false) H3)
theorem pt_chain3 {a b c d : Expr} {ta tb tc td : TE} {pos : Pos} {op op2 op3 : CmpOp} {r r2 r3 : R2} (ho : OpR X (compareOp op) r) (ho2 : OpR X (compareOp op2) r2) (ho3 : OpR X (compareOp op3) r3)
    (ha : PE X a ta) (hb : PE X b tb) (hc : PE X c tc) (hd : PE X d td) (hm : lastMarks [op, op2, op3] [b, c, d] = false := by with_unfolding_all rfl) :
    PT X (.Compare a [op, op2, op3] [b, c, d] pos) (tTest (tChain3 r r2 r3 ta tb tc td)) := by
  refine ⟨fun pins s σ H Q I h => ?_⟩
  refine isTrue_chain (thn (ha.run pins s σ H _ I h) fun v s1 ⟨x, H1, I1, r1, q1⟩ => test_link (thn (hb.run pins s1 σ H1 _ I1 q1) fun u s2 ⟨y, H2, I2, ry, q2⟩ =>
    thn (ho pins s2 σ H2 x y v u _ I2 r1 ry q2) fun e s3 ⟨z, H3, I3, rz, k, ez, q3⟩ => ?_)) hm
  subst ez
  cases rz
  refine wpAny_truthy_bool ?_
  cases k with
  | false =>
    obtain ⟨k', e', q'⟩ := q3
    cases e'
    exact ite_ff ⟨H3, I3, q'⟩
  | true =>
    refine ite_tt (test_link (thn (hc.run pins s3 σ H3 _ I3 q3) fun v4 s4 ⟨z4, H4, I4, r4, q4⟩ =>
      thn (ho2 pins s4 σ H4 y z4 u v4 _ I4 ry r4 q4) fun e5 s5 ⟨z5, H5, I5, r5, k5, e5', q5⟩ => ?_))
    subst e5'
    cases r5
    refine wpAny_truthy_bool ?_
    cases k5 with
    | false =>
      obtain ⟨k', e', q'⟩ := q5
      cases e'
      exact ite_ff ⟨H5, I5, q'⟩
    | true =>
      refine ite_tt (test_last (thn (hd.run pins s5 σ H5 _ I5 q5) fun v6 s6 ⟨z6, H6, I6, r6, q6⟩ =>
        thn (ho3 pins s6 σ H6 z4 z6 v4 v6 _ I6 r4 r6 q6) fun e7 s7 ⟨z7, H7, I7, r7, k7, e7', q7⟩ => ?_))
      subst e7'
      cases r7
      exact wpAny_truthy_bool ⟨H7, I7, q7⟩
/-- tuple * int: not above 0, just 1, or more -/
theorem tuple_mul0 (l : Addr) (items : Array PySem.Value) (n : Nat) (dd : Option Addr) (sl : Array (Option PySem.Value)) (x : Int) (u : Tok) (c0 : (decide (x < -(2 ^ 63)) || decide (x ≥ 2 ^ 63)) = false) (c1 : (items.isEmpty || x == 1) = false) (c2 : (decide (x ≤ 0) || items.isEmpty) = true) :
    Meets (Builtin.«tuple.__mul__» ⟨[.ref l, .int x u], []⟩) (fun _ R s => s.heap.get? l = some { cls := .type "tuple", dict := dd, data := .seq items n, slots := sl } ∧
      R (.ok (.ret (Value.ref s.heap.objs.size))) { s with heap := s.heap.push { cls := Value.type "tuple", data := Data.seq #[] }, toks := s.toks }) :=
  .of_wp fun prog w A R s h => by
    obtain ⟨hp, g, d, tk, os⟩ := s
    obtain ⟨hl, h⟩ := h
    have f1 := AutoSeq1.idx_int
    wp_walk using wpAny_loadPart' hl
    repeat (first
      | (refine wpAny_ite_false (decide_eq_false (by rw [c0]; decide)) ?_; wp_walk using wpAny_loadPart' hl)
      | (refine wpAny_ite_false (decide_eq_false (by rw [c1]; decide)) ?_; wp_walk using wpAny_loadPart' hl)
      | (refine wpAny_ite_true (decide_eq_true c2) ?_; wp_walk using wpAny_loadPart' hl))
    exact ⟨_, rfl, h⟩
theorem tuple_mul1 (l : Addr) (items : Array PySem.Value) (n : Nat) (dd : Option Addr) (sl : Array (Option PySem.Value)) (x : Int) (u : Tok) (c0 : (decide (x < -(2 ^ 63)) || decide (x ≥ 2 ^ 63)) = false) (c1 : (items.isEmpty || x == 1) = true) :
    Meets (Builtin.«tuple.__mul__» ⟨[.ref l, .int x u], []⟩) (fun _ R s => s.heap.get? l = some { cls := .type "tuple", dict := dd, data := .seq items n, slots := sl } ∧ R (.ok (.ret (Value.ref l))) s) :=
  .of_wp fun prog w A R s h => by
    obtain ⟨hp, g, d, tk, os⟩ := s
    obtain ⟨hl, h⟩ := h
    have f1 := AutoSeq1.idx_int
    wp_walk using wpAny_loadPart' hl
    repeat (first
      | (refine wpAny_ite_false (decide_eq_false (by rw [c0]; decide)) ?_; wp_walk using wpAny_loadPart' hl)
      | (refine wpAny_ite_true (decide_eq_true c1) ?_; wp_walk using wpAny_loadPart' hl))
    exact ⟨_, rfl, h⟩
end
end Asc
/-! What stands in the heap: tuples, rows of pieces, ways; the layer's rules in these words; comprehensions that map. -/
namespace Asc
open PySem PySem.Spec PyProof.Rows L2
open VafmsBase (Fmt)

theorem same_new {H : Hp} {p : Addr} {o : HO} (h : H p = none) : Same H (upd H p o) := fun b u q => by
  rw [upd_ne (ne_of_none q h)]
  exact q
/-- what H does not know may change -/
theorem _root_.L2.Same.mut {H H1 : Hp} {p : Addr} {o : HO} (s : Same H H1) (h : H p = none) : Same H (upd H1 p o) := fun b u q => by
  rw [upd_ne (ne_of_none q h)]
  exact s b u q
/-- all tuples stand -/
def SameT (H H1 : Hp) : Prop := ∀ a xs, H a = some (.tup xs) → H1 a = some (.tup xs)
theorem _root_.L2.Same.t {H H1 : Hp} (s : Same H H1) : SameT H H1 := fun a xs h => s a _ h
theorem sameT_lst {H : Hp} {D : Addr} {ys zs : List V} (h : H D = some (.lst ys)) : SameT H (upd H D (.lst zs)) := fun a xs q => by
  rw [upd_ne (ne_of q h (by intro z; cases z))]
  exact q
/-- natural numbers as values -/
def ni (t : List Nat) : List V := t.map fun n : Nat => V.int (n : Int)
theorem ni_length (t : List Nat) : (ni t).length = t.length := List.length_map _
theorem ni_append (t u : List Nat) : ni (t ++ u) = ni t ++ ni u := List.map_append
theorem ni_get {t : List Nat} {j n : Nat} (h : t[j]? = some n) : (ni t)[j]? = some (.int (n : Int)) := by
  unfold ni
  rw [List.getElem?_map, h]
  rfl
theorem ni_nil {t : List Nat} : ni t = [] ↔ t = [] := by
  unfold ni
  exact List.map_eq_nil_iff
def Tup (H : Hp) (v : V) (xs : List V) : Prop := ∃ a, v = .ref a ∧ H a = some (.tup xs)
abbrev TN (H : Hp) (v : V) (t : List Nat) : Prop := Tup H v (ni t)
theorem Tup.monoT {H H1 : Hp} {v : V} {xs : List V} (s : SameT H H1) (h : Tup H v xs) : Tup H1 v xs := by
  obtain ⟨a, e, q⟩ := h
  exact ⟨a, e, s a _ q⟩
theorem Tup.mono {H H1 : Hp} {v : V} {xs : List V} (s : Same H H1) (h : Tup H v xs) : Tup H1 v xs := h.monoT s.t
theorem Tup.at {H : Hp} {a : Addr} {xs : List V} (h : Tup H (.ref a) xs) : H a = some (.tup xs) := by
  obtain ⟨b, e, q⟩ := h
  cases e
  exact q
theorem Tup.of {H : Hp} {a : Addr} {xs : List V} (h : H a = some (.tup xs)) : Tup H (.ref a) xs := ⟨a, rfl, h⟩
theorem Tup.inj {H : Hp} {v : V} {xs ys : List V} (h : Tup H v xs) (h2 : Tup H v ys) : xs = ys := by
  obtain ⟨a, rfl, q⟩ := h
  have := h2.at
  rw [q] at this
  injection this with e
  injection e
theorem ni_inj : ∀ {t u : List Nat}, ni t = ni u → t = u
  | [], [], _ => rfl
  | [], _ :: _, h => by cases h
  | _ :: _, [], h => by cases h
  | a :: t, b :: u, h => by
    have h' : V.int (a : Int) :: ni t = V.int (b : Int) :: ni u := h
    injection h' with h1 h2
    injection h1 with h3
    rw [ni_inj h2]
    congr 1
    omega
/-! ### rows of pieces -/
def RowL (H : Hp) : Fmt → List V → Prop
  | .done, ps => ps = []
  | .lit w r, ps => ∃ v qs x, ps = v :: qs ∧ (Tup H v [.int 0, x] ∧ TN H x w) ∧ RowL H r qs
  | .num lo hi r, ps => ∃ v qs, ps = v :: qs ∧ Tup H v [.int 1, .int (lo : Int), .int (hi : Int)] ∧ RowL H r qs
  | .word lo hi r, ps => ∃ v qs, ps = v :: qs ∧ Tup H v [.int 2, .int (lo : Int), .int (hi : Int)] ∧ RowL H r qs
  | .alt a b r, ps => ∃ v qs x y xs ys, ps = v :: qs ∧ (Tup H v [.int 3, x, y] ∧ (Tup H x xs ∧ RowL H a xs) ∧ (Tup H y ys ∧ RowL H b ys)) ∧ RowL H r qs
  | .opt a r, ps => ∃ v qs x xs, ps = v :: qs ∧ (Tup H v [.int 4, x] ∧ (Tup H x xs ∧ RowL H a xs)) ∧ RowL H r qs
  | .rep s lo hi a r, ps => ∃ v qs t x xs, ps = v :: qs ∧ (Tup H v [.int 5, t, .int (lo : Int), .int (hi : Int), x] ∧ TN H t s ∧ (Tup H x xs ∧ RowL H a xs)) ∧ RowL H r qs
def RowAt (H : Hp) (f : Fmt) (v : V) : Prop := ∃ xs, Tup H v xs ∧ RowL H f xs
def PcAt (H : Hp) (p : Pc) (v : V) : Prop := match p with
  | .lit w => ∃ x, Tup H v [.int 0, x] ∧ TN H x w
  | .num lo hi => Tup H v [.int 1, .int (lo : Int), .int (hi : Int)]
  | .word lo hi => Tup H v [.int 2, .int (lo : Int), .int (hi : Int)]
  | .alt a b => ∃ x y, Tup H v [.int 3, x, y] ∧ RowAt H a x ∧ RowAt H b y
  | .opt a => ∃ x, Tup H v [.int 4, x] ∧ RowAt H a x
  | .rep s lo hi a => ∃ t x, Tup H v [.int 5, t, .int (lo : Int), .int (hi : Int), x] ∧ TN H t s ∧ RowAt H a x
theorem rowL_done {H : Hp} {ps : List V} : RowL H .done ps ↔ ps = [] := Iff.rfl
theorem rowL_cons {H : Hp} (p : Pc) (r : Fmt) (ps : List V) : RowL H (p.cons r) ps ↔ ∃ v qs, ps = v :: qs ∧ PcAt H p v ∧ RowL H r qs := by
  cases p with
  | lit w =>
    constructor
    · rintro ⟨v, qs, x, e, h1, h2⟩
      exact ⟨v, qs, e, ⟨x, h1⟩, h2⟩
    · rintro ⟨v, qs, e, ⟨x, h1⟩, h2⟩
      exact ⟨v, qs, x, e, h1, h2⟩
  | num lo hi => exact Iff.rfl
  | word lo hi => exact Iff.rfl
  | alt a b =>
    constructor
    · rintro ⟨v, qs, x, y, xs, ys, e, ⟨h1, h2, h3⟩, h4⟩
      exact ⟨v, qs, e, ⟨x, y, h1, ⟨xs, h2⟩, ⟨ys, h3⟩⟩, h4⟩
    · rintro ⟨v, qs, e, ⟨x, y, h1, ⟨xs, h2⟩, ⟨ys, h3⟩⟩, h4⟩
      exact ⟨v, qs, x, y, xs, ys, e, ⟨h1, h2, h3⟩, h4⟩
  | opt a =>
    constructor
    · rintro ⟨v, qs, x, xs, e, ⟨h1, h2⟩, h4⟩
      exact ⟨v, qs, e, ⟨x, h1, ⟨xs, h2⟩⟩, h4⟩
    · rintro ⟨v, qs, e, ⟨x, h1, ⟨xs, h2⟩⟩, h4⟩
      exact ⟨v, qs, x, xs, e, ⟨h1, h2⟩, h4⟩
  | rep s lo hi a =>
    constructor
    · rintro ⟨v, qs, t, x, xs, e, ⟨h1, h2, h3⟩, h4⟩
      exact ⟨v, qs, e, ⟨t, x, h1, h2, ⟨xs, h3⟩⟩, h4⟩
    · rintro ⟨v, qs, e, ⟨t, x, h1, h2, ⟨xs, h3⟩⟩, h4⟩
      exact ⟨v, qs, t, x, xs, e, ⟨h1, h2, h3⟩, h4⟩
theorem RowL.monoT {H H1 : Hp} (s : SameT H H1) : ∀ {f : Fmt} {ps : List V}, RowL H f ps → RowL H1 f ps
  | .done, _, h => h
  | .lit w r, _, h => by
    obtain ⟨v, qs, x, e, ⟨h1, h2⟩, h3⟩ := h
    exact ⟨v, qs, x, e, ⟨h1.monoT s, h2.monoT s⟩, RowL.monoT s h3⟩
  | .num lo hi r, _, h => by
    obtain ⟨v, qs, e, h1, h3⟩ := h
    exact ⟨v, qs, e, h1.monoT s, RowL.monoT s h3⟩
  | .word lo hi r, _, h => by
    obtain ⟨v, qs, e, h1, h3⟩ := h
    exact ⟨v, qs, e, h1.monoT s, RowL.monoT s h3⟩
  | .alt a b r, _, h => by
    obtain ⟨v, qs, x, y, xs, ys, e, ⟨h1, ⟨h2, h3⟩, h4, h5⟩, h6⟩ := h
    exact ⟨v, qs, x, y, xs, ys, e, ⟨h1.monoT s, ⟨h2.monoT s, RowL.monoT s h3⟩, h4.monoT s, RowL.monoT s h5⟩, RowL.monoT s h6⟩
  | .opt a r, _, h => by
    obtain ⟨v, qs, x, xs, e, ⟨h1, h2, h3⟩, h6⟩ := h
    exact ⟨v, qs, x, xs, e, ⟨h1.monoT s, h2.monoT s, RowL.monoT s h3⟩, RowL.monoT s h6⟩
  | .rep t lo hi a r, _, h => by
    obtain ⟨v, qs, y, x, xs, e, ⟨h1, h2, h3, h4⟩, h6⟩ := h
    exact ⟨v, qs, y, x, xs, e, ⟨h1.monoT s, h2.monoT s, h3.monoT s, RowL.monoT s h4⟩, RowL.monoT s h6⟩
theorem RowAt.monoT {H H1 : Hp} (s : SameT H H1) {f : Fmt} {v : V} (h : RowAt H f v) : RowAt H1 f v := by
  obtain ⟨xs, h1, h2⟩ := h
  exact ⟨xs, h1.monoT s, h2.monoT s⟩
theorem PcAt.monoT {H H1 : Hp} (s : SameT H H1) {p : Pc} {v : V} (h : PcAt H p v) : PcAt H1 p v := by
  cases p with
  | lit w =>
    obtain ⟨x, h1, h2⟩ := h
    exact ⟨x, h1.monoT s, h2.monoT s⟩
  | num lo hi => exact Tup.monoT s h
  | word lo hi => exact Tup.monoT s h
  | alt a b =>
    obtain ⟨x, y, h1, h2, h3⟩ := h
    exact ⟨x, y, h1.monoT s, h2.monoT s, h3.monoT s⟩
  | opt a =>
    obtain ⟨x, h1, h2⟩ := h
    exact ⟨x, h1.monoT s, h2.monoT s⟩
  | rep t lo hi a =>
    obtain ⟨y, x, h1, h2, h3⟩ := h
    exact ⟨y, x, h1.monoT s, h2.monoT s, h3.monoT s⟩
theorem RowL.mono {H H1 : Hp} (s : Same H H1) {f : Fmt} {ps : List V} (h : RowL H f ps) : RowL H1 f ps := h.monoT s.t
theorem RowAt.mono {H H1 : Hp} (s : Same H H1) {f : Fmt} {v : V} (h : RowAt H f v) : RowAt H1 f v := h.monoT s.t
theorem PcAt.mono {H H1 : Hp} (s : Same H H1) {p : Pc} {v : V} (h : PcAt H p v) : PcAt H1 p v := h.monoT s.t
def Pc.kind : Pc → Int
  | .lit _ => 0
  | .num _ _ => 1
  | .word _ _ => 2
  | .alt _ _ => 3
  | .opt _ => 4
  | .rep _ _ _ _ => 5
theorem PcAt.kind {H : Hp} {p : Pc} {v : V} (h : PcAt H p v) : ∃ a xs, v = .ref a ∧ H a = some (.tup (.int p.kind :: xs)) := by
  cases p with
  | lit w =>
    obtain ⟨x, ⟨a, e, h1⟩, h2⟩ := h
    exact ⟨a, _, e, h1⟩
  | num lo hi =>
    obtain ⟨a, e, h1⟩ := h
    exact ⟨a, _, e, h1⟩
  | word lo hi =>
    obtain ⟨a, e, h1⟩ := h
    exact ⟨a, _, e, h1⟩
  | alt a b =>
    obtain ⟨x, y, ⟨a, e, h1⟩, h2⟩ := h
    exact ⟨a, _, e, h1⟩
  | opt a =>
    obtain ⟨x, ⟨a, e, h1⟩, h2⟩ := h
    exact ⟨a, _, e, h1⟩
  | rep t lo hi a =>
    obtain ⟨y, x, ⟨a, e, h1⟩, h2⟩ := h
    exact ⟨a, _, e, h1⟩
/-- rows, one behind another -/
def app : Fmt → Fmt → Fmt
  | .done, g => g
  | .lit w r, g => .lit w (app r g)
  | .num lo hi r, g => .num lo hi (app r g)
  | .word lo hi r, g => .word lo hi (app r g)
  | .alt a b r, g => .alt a b (app r g)
  | .opt a r, g => .opt a (app r g)
  | .rep s lo hi a r, g => .rep s lo hi a (app r g)
theorem app_cons (p : Pc) (r g : Fmt) : app (p.cons r) g = p.cons (app r g) := by cases p <;> rfl
theorem app_done (f : Fmt) : app f .done = f := by
  refine row_ind (P := fun f => app f .done = f) rfl (fun p r h => ?_) f
  rw [app_cons, h]
theorem app_assoc (f g h : Fmt) : app (app f g) h = app f (app g h) := by
  refine row_ind (P := fun f => app (app f g) h = app f (app g h)) rfl (fun p r e => ?_) f
  rw [app_cons, app_cons, app_cons, e]
theorem rowL_app {H : Hp} {g : Fmt} {qs : List V} (h2 : RowL H g qs) : ∀ {f : Fmt} {ps : List V}, RowL H f ps → RowL H (app f g) (ps ++ qs) := by
  intro f
  refine row_ind (P := fun f => ∀ {ps : List V}, RowL H f ps → RowL H (app f g) (ps ++ qs)) (fun h => ?_) (fun p r ih ps h => ?_) f
  · rw [rowL_done] at h
    subst h
    exact h2
  · obtain ⟨v, us, rfl, h3, h4⟩ := (rowL_cons p r ps).mp h
    rw [app_cons]
    exact (rowL_cons p (app r g) _).mpr ⟨v, us ++ qs, rfl, h3, ih h4⟩
theorem rowL_len {H : Hp} : ∀ {f : Fmt} {ps : List V}, RowL H f ps → ps.length ≤ f.size := by
  intro f
  refine row_ind (P := fun f => ∀ {ps : List V}, RowL H f ps → ps.length ≤ f.size) (fun h => ?_) (fun p r ih ps h => ?_) f
  · rw [rowL_done] at h
    subst h
    exact Nat.le_refl _
  · obtain ⟨v, us, rfl, h3, h4⟩ := (rowL_cons p r ps).mp h
    have := ih h4
    rw [size_cons, List.length_cons]
    have : 1 ≤ p.size := by cases p <;> simp [Pc.size]
    omega
/-! ### lists of things told -/
/-- each of some values is told by its own datum -/
inductive All2 {α : Type} (R : V → α → Prop) : List V → List α → Prop
  | nil : All2 R [] []
  | cons {v : V} {d : α} {vs : List V} {ds : List α} : R v d → All2 R vs ds → All2 R (v :: vs) (d :: ds)
theorem All2.mono {α : Type} {R S : V → α → Prop} (h : ∀ v d, R v d → S v d) : ∀ {vs : List V} {ds : List α}, All2 R vs ds → All2 S vs ds
  | _, _, .nil => .nil
  | _, _, .cons a r => .cons (h _ _ a) (All2.mono h r)
theorem All2.length {α : Type} {R : V → α → Prop} : ∀ {vs : List V} {ds : List α}, All2 R vs ds → vs.length = ds.length
  | _, _, .nil => rfl
  | _, _, .cons _ r => congrArg (· + 1) (All2.length r)
theorem All2.append {α : Type} {R : V → α → Prop} : ∀ {vs ws : List V} {ds es : List α}, All2 R vs ds → All2 R ws es → All2 R (vs ++ ws) (ds ++ es)
  | _, _, _, _, .nil, h => h
  | _, _, _, _, .cons a r, h => .cons a (All2.append r h)
theorem All2.get {α : Type} {R : V → α → Prop} : ∀ {vs : List V} {ds : List α} {i : Nat} {v : V}, All2 R vs ds → vs[i]? = some v → ∃ d, ds[i]? = some d ∧ R v d
  | _, _, 0, _, .cons a _, e => by
    cases e
    exact ⟨_, rfl, a⟩
  | _, _, i + 1, v, .cons _ r, e => All2.get (i := i) r e
theorem All2.get2 {α : Type} {R : V → α → Prop} : ∀ {vs : List V} {ds : List α} {i : Nat} {d : α}, All2 R vs ds → ds[i]? = some d → ∃ v, vs[i]? = some v ∧ R v d
  | _, _, 0, _, .cons a _, e => by
    cases e
    exact ⟨_, rfl, a⟩
  | _, _, i + 1, v, .cons _ r, e => All2.get2 (i := i) r e
theorem All2.one {α : Type} {R : V → α → Prop} {v : V} {d : α} (h : R v d) : All2 R [v] [d] := .cons h .nil
theorem All2.take {α : Type} {R : V → α → Prop} : ∀ {vs : List V} {ds : List α} (n : Nat), All2 R vs ds → All2 R (vs.take n) (ds.take n)
  | _, _, 0, _ => .nil
  | _, _, _ + 1, .nil => .nil
  | _, _, n + 1, .cons a r => .cons a (All2.take n r)
/-- a way: its value, its place -/
def WayAt (H : Hp) (v : V) (w : List Nat × Nat) : Prop := ∃ x, Tup H v [x, .int (w.2 : Int)] ∧ TN H x w.1
theorem WayAt.monoT {H H1 : Hp} (s : SameT H H1) {v : V} {w : List Nat × Nat} (h : WayAt H v w) : WayAt H1 v w := by
  obtain ⟨x, h1, h2⟩ := h
  exact ⟨x, h1.monoT s, h2.monoT s⟩
theorem WayAt.mono {H H1 : Hp} (s : Same H H1) {v : V} {w : List Nat × Nat} (h : WayAt H v w) : WayAt H1 v w := h.monoT s.t
def Lst (H : Hp) (v : V) (xs : List V) : Prop := ∃ a, v = .ref a ∧ H a = some (.lst xs)
theorem Lst.mono {H H1 : Hp} {v : V} {xs : List V} (s : Same H H1) (h : Lst H v xs) : Lst H1 v xs := by
  obtain ⟨a, e, q⟩ := h
  exact ⟨a, e, s a _ q⟩
/-- a list of ways, of tuples -/
def WaysAt (H : Hp) (v : V) (ws : List (List Nat × Nat)) : Prop := ∃ xs, Lst H v xs ∧ All2 (WayAt H) xs ws
def TNs (H : Hp) (v : V) (ts : List (List Nat)) : Prop := ∃ xs, Lst H v xs ∧ All2 (TN H) xs ts
abbrev LN (H : Hp) (v : V) (t : List Nat) : Prop := Lst H v (ni t)
theorem All2.waymono {H H1 : Hp} (s : Same H H1) {vs : List V} {ws : List (List Nat × Nat)} (h : All2 (WayAt H) vs ws) : All2 (WayAt H1) vs ws := h.mono fun _ _ => WayAt.mono s
theorem All2.tnmono {H H1 : Hp} (s : Same H H1) {vs : List V} {ws : List (List Nat)} (h : All2 (TN H) vs ws) : All2 (TN H1) vs ws := h.mono fun _ _ => Tup.mono s
theorem WaysAt.mono {H H1 : Hp} (s : Same H H1) {v : V} {ws : List (List Nat × Nat)} (h : WaysAt H v ws) : WaysAt H1 v ws := by
  obtain ⟨xs, h1, h2⟩ := h
  exact ⟨xs, h1.mono s, h2.waymono s⟩
theorem TNs.mono {H H1 : Hp} (s : Same H H1) {v : V} {ws : List (List Nat)} (h : TNs H v ws) : TNs H1 v ws := by
  obtain ⟨xs, h1, h2⟩ := h
  exact ⟨xs, h1.mono s, h2.tnmono s⟩

/-! ### the layer's rules in these words -/
section
variable {X : Cx}
theorem opR_imp {f : PySem.Value → PySem.Value → Sem PySem.Value} {r r' : R2} (h : OpR X f r) (hi : ∀ x y H Q, r' x y H Q → r x y H Q) : OpR X f r' :=
  fun pins s σ H x y v u Q I rx ry q => h pins s σ H x y v u Q I rx ry (hi x y H Q q)
theorem callR_imp {f : PySem.Value} {r r' : List V → Hp → VK → Prop} (h : CallR X f r) (hi : ∀ xs H Q, r' xs H Q → r xs H Q) : CallR X f r' :=
  fun pins s σ H xs us Q I rr q => h pins s σ H xs us Q I rr (hi xs H Q q)
/-- t + u: some tuple of both -/
def rCat2 : R2 := fun x y H Q => ∃ xs ys, Tup H x xs ∧ Tup H y ys ∧ xs.length + ys.length ≤ sizeLine ∧ ∀ v H1, Same H H1 → Tup H1 v (xs ++ ys) → Q v H1
theorem op_cat2 : OpR X (binaryOp .Add) rCat2 := by
  refine opR_imp op_catA fun x y H Q h => ?_
  obtain ⟨xs, ys, ⟨a, rfl, ha⟩, ⟨b, rfl, hb⟩, z, q⟩ := h
  refine ⟨a, b, xs, ys, rfl, rfl, SqT.of ha, SqT.of hb, z, fun e => ?_, fun _ e => ?_, fun _ _ p hp => ?_⟩
  · subst e
    exact q _ _ (Same.refl H) ⟨b, rfl, hb⟩
  · subst e
    exact q _ _ (Same.refl H) ⟨a, rfl, by rw [List.append_nil]; exact ha⟩
  · exact q _ _ (same_new hp) ⟨p, rfl, upd_same⟩
/-- t[lo:hi]: some tuple of it -/
def rSl2 : V → Option Int → Option Int → Hp → VK → Prop := fun x lo hi H Q => ∃ xs, Tup H x xs ∧ ∀ v H1, Same H H1 → Tup H1 v (cutV xs lo hi) → Q v H1
theorem cut_whole {xs : List V} {lo hi : Option Int} (h : HT.sIx xs.length 0 lo = 0 ∧ HT.sIx xs.length xs.length hi = xs.length) : cutV xs lo hi = xs := by
  unfold cutV
  rw [h.1, h.2]
  simp
theorem sl_tup2 : SlR X rSl2 := by
  intro pins s σ H x v vl vu lo hi sl Q I rx hs pl pu h
  obtain ⟨xs, ⟨a, rfl, ha⟩, q⟩ := h
  refine sl_tupA pins s σ H _ v vl vu lo hi sl Q I rx hs pl pu ⟨a, xs, rfl, SqT.of ha, fun e => ?_, fun _ p hp => ?_⟩
  · exact q _ _ (Same.refl H) ⟨a, rfl, by rw [cut_whole e]; exact ha⟩
  · exact q _ _ (same_new hp) ⟨p, rfl, upd_same⟩
/-- t * k -/
def rMul2 : R2 := fun x y H Q => ∃ xs k, Tup H x xs ∧ y = .int k ∧ -1000 ≤ k ∧ k ≤ 1000 ∧ xs.length ≤ 1000 ∧ ∀ v H1, Same H H1 → Tup H1 v (List.replicate k.toNat xs).flatten → Q v H1
theorem op_mul2 : OpR X (binaryOp .Mult) rMul2 := by
  intro pins s σ H x y v u Q I rx ry h
  obtain ⟨xs, k, ⟨a, rfl, ha⟩, rfl, k1, k2, hz, q⟩ := h
  by_cases big : xs ≠ [] ∧ 2 ≤ k
  · exact op_repT pins s σ H _ _ v u Q I rx ry ⟨a, k, xs, rfl, rfl, SqT.of ha, big.1, big.2, k2, hz, fun p hp => q _ _ (same_new hp) ⟨p, rfl, upd_same⟩⟩
  cases rx
  obtain ⟨t, rfl⟩ := ry
  obtain ⟨its, r, ⟨⟨cls, dd, data, sl⟩, ho, hc, n, hd⟩, hs⟩ := I.tuple (SqT.of (K := X.K) ha)
  simp only at hc hd
  subst hc hd
  have c0 : (decide (k < -(2 ^ 63)) || decide (k ≥ 2 ^ 63)) = false := by
    rw [decide_eq_false (by omega), decide_eq_false (by omega)]
    rfl
  have nil_iff : its.toArray.isEmpty = true ↔ xs = [] := by
    have hl := r.length
    cases its with
    | nil =>
      cases xs with
      | nil => simp
      | cons _ _ => cases hl
    | cons b c =>
      cases xs with
      | nil => cases hl
      | cons _ _ => simp
  refine wpAny_binaryOp_repeat_ref (T := "tuple") (U := "int") (by decide) ⟨_, ho, rfl⟩ (fun s2 => typeIs_int s2 k t) noFill_tuple_mul F.fills_int_mul F.slot_int_rmul repeat_tuple F.slot_int_index.lookup
    (call_meets F.slot_int_rmul (typeIs_int s k t) F.entry_int_rmul (F.args_int_rmul_2 _ _) (int_rmul_tuple k t a its.toArray n dd sl) ⟨ho, rfl, ⟨_, ho, rfl⟩, ?_⟩)
  by_cases c1 : (its.toArray.isEmpty || k == 1) = true
  · refine call_meets F.slot_tuple_mul ⟨_, ho, rfl⟩ F.entry_tuple_mul (F.args_tuple_mul_2 _ _) (tuple_mul1 a its.toArray n dd sl k t c0 c1) ⟨ho, ?_⟩
    refine ⟨.ref a, H, I, rfl, q _ _ (Same.refl H) ⟨a, rfl, ?_⟩⟩
    rw [ha]
    rw [Bool.or_eq_true] at c1
    rcases c1 with c1 | c1
    · rw [nil_iff.mp c1]
      simp
    · have e : k = 1 := by simpa using c1
      subst e
      simp
  · have c1' : (its.toArray.isEmpty || k == 1) = false := by simpa using c1
    have c1'' := c1'
    rw [Bool.or_eq_false_iff] at c1''
    have hk : k ≤ 0 := by
      have n1 : k ≠ 1 := fun e => by rw [e] at c1''; exact absurd c1''.2 (by decide)
      have n2 : xs ≠ [] := fun e => by rw [nil_iff.mpr e] at c1''; cases c1''.1
      rcases Int.lt_or_le k 2 with h | h
      · omega
      · exact absurd ⟨n2, h⟩ big
    have c2 : (decide (k ≤ 0) || its.toArray.isEmpty) = true := by rw [decide_eq_true hk]; rfl
    refine call_meets F.slot_tuple_mul ⟨_, ho, rfl⟩ F.entry_tuple_mul (F.args_tuple_mul_2 _ _) (tuple_mul0 a its.toArray n dd sl k t c0 c1' c2) ⟨ho, ?_⟩
    have hn := I.hok.fresh (Nat.le_refl s.heap.objs.size)
    refine ⟨.ref s.heap.objs.size, _, I.laid (t' := s.toks) (o := .tup []) (fun b ob z => Heap.get?_push_of_some _ z) (Nat.le_refl _) ⟨Nat.zero_le _, [], .nil, IsTup.new _ _⟩, rfl, q _ _ (same_new hn) ⟨_, rfl, ?_⟩⟩
    have e : k.toNat = 0 := by omega
    rw [e, upd_same]
    rfl
/-! #### == of tuples of numbers, of a list and [] -/
def nD (t : List Nat) : PyData := .tuple (t.map fun n : Nat => PyData.int (n : Int))
theorem nD_all {K : PySem.W.Frag} {H : Hp} : ∀ t : List Nat, DpAll K H (ni t) (t.map fun n : Nat => PyData.int (n : Int))
  | [] => .nil
  | _ :: t => .cons (.int _) (nD_all t)
theorem nD_lays : ∀ t : List Nat, PyData.canLayAll0 (t.map fun n : Nat => PyData.int (n : Int)) = true
  | [] => by simp [PyData.canLayAll0]
  | _ :: t => by simp [PyData.canLayAll0, PyData.canLay0, nD_lays t]
theorem nD_deep : ∀ t : List Nat, PyData.depthAll (t.map fun n : Nat => PyData.int (n : Int)) = 0
  | [] => by simp [PyData.depthAll]
  | _ :: t => by simp [PyData.depthAll, PyData.depth, nD_deep t]
theorem nD_shaped (t : List Nat) : SeqAt.shaped (nD t) = true := by
  show ((nD t).canLay0 && decide ((nD t).depth ≤ 64)) = true
  simp [nD, PyData.canLay0, nD_lays, PyData.depth, nD_deep]
theorem nD_eqvs : ∀ t u : List Nat, PyData.eqvAll (t.map fun n : Nat => PyData.int (n : Int)) (u.map fun n : Nat => PyData.int (n : Int)) = decide (t = u)
  | [], [] => by simp [PyData.eqvAll]
  | [], b :: u => by simp [PyData.eqvAll]
  | a :: t, [] => by simp [PyData.eqvAll]
  | a :: t, b :: u => by
    simp only [List.map_cons, PyData.eqvAll, PyData.eqv, nD_eqvs t u, List.cons.injEq, Bool.decide_and]
    congr 1
    rw [Bool.eq_iff_iff]
    simp
    omega
theorem nD_eqv (t u : List Nat) : PyData.eqv (nD t) (nD u) = decide (t = u) := by
  unfold nD
  simp only [PyData.eqv]
  exact nD_eqvs t u
theorem TN.dp {K : PySem.W.Frag} {H : Hp} {v : V} {t : List Nat} (h : TN H v t) : Dp K H v (nD t) := by
  obtain ⟨a, rfl, ha⟩ := h
  exact .tup (SqT.of ha) (nD_all t)
def rEqT : R2 := fun x y H Q => ∃ t u : List Nat, TN H x t ∧ TN H y u ∧ Q (.bl (decide (t = u))) H
theorem op_eqT (hu : X.A.units + 64 < cLine) : OpR X (compareOp .Eq) rEqT := by
  refine opR_imp (op_eqD hu) fun x y H Q h => ?_
  obtain ⟨t, u, hx, hy, q⟩ := h
  exact ⟨nD t, nD u, hx.dp, hy.dp, nD_shaped t, nD_shaped u, by rw [nD_eqv]; exact q⟩
/-- data of a list, one deep at most -/
structure Dats (K : PySem.W.Frag) (H : Hp) (xs : List V) where
  ds : List PyData
  all : DpAll K H xs ds
  lay : PyData.canLayAll0 ds = true
  deep : PyData.depthAll ds ≤ 1
theorem dats_ints {K : PySem.W.Frag} {H : Hp} (ns : List Int) : Nonempty (Dats K H (ns.map V.int)) := by
  induction ns with
  | nil => exact ⟨[], .nil, by simp [PyData.canLayAll0], by simp [PyData.depthAll]⟩
  | cons n ns ih =>
    obtain ⟨ds, h1, h2, h3⟩ := ih
    exact ⟨.int n :: ds, .cons (.int n) h1, by simp [PyData.canLayAll0, PyData.canLay0, h2], by simp [PyData.depthAll, PyData.depth, h3]⟩
theorem dats_tups {K : PySem.W.Frag} {H : Hp} {vs : List V} {ts : List (List Nat)} (h : All2 (TN H) vs ts) : ∃ d : Dats K H vs, d.ds = ts.map nD := by
  induction h with
  | nil => exact ⟨⟨[], .nil, by simp [PyData.canLayAll0], by simp [PyData.depthAll]⟩, rfl⟩
  | @cons v t vs ts h1 _ ih =>
    obtain ⟨⟨ds, q1, q2, q3⟩, e⟩ := ih
    refine ⟨⟨nD t :: ds, .cons (TN.dp h1) q1, ?_, ?_⟩, ?_⟩
    · simp [PyData.canLayAll0, q2, nD, PyData.canLay0, nD_lays]
    · simp only [PyData.depthAll, nD, PyData.depth, nD_deep]
      omega
    · simp only at e
      simp [e]
def rEqE (K : PySem.W.Frag) (b : Bool) : R2 := fun x y H Q => ∃ a xs c, x = .ref a ∧ y = .ref c ∧ H a = some (.lst xs) ∧ Nonempty (Dats K H xs) ∧ H c = some (.lst []) ∧ Q (.bl (if b then xs.isEmpty else !xs.isEmpty)) H
theorem eqv_nil {K : PySem.W.Frag} {H : Hp} {xs : List V} (d : Dats K H xs) : PyData.eqv (.list d.ds) (.list []) = xs.isEmpty := by
  obtain ⟨ds, h, _, _⟩ := d
  cases h <;> simp [PyData.eqv, PyData.eqvAll]
theorem dats_shaped {K : PySem.W.Frag} {H : Hp} {xs : List V} (d : Dats K H xs) : SeqAt.shaped (.list d.ds) = true := by
  show (PyData.canLay0 (.list d.ds) && decide (PyData.depth (.list d.ds) ≤ 64)) = true
  have h := d.deep
  rw [show PyData.canLay0 (.list d.ds) = true by simp only [PyData.canLay0]; exact d.lay, Bool.true_and]
  refine decide_eq_true ?_
  simp only [PyData.depth]
  exact Nat.le_trans (Nat.add_le_add_right h 1) (by decide)
theorem op_eqE (hu : X.A.units + 64 < cLine) : OpR X (compareOp .Eq) (rEqE X.K true) := by
  refine opR_imp (op_eqD hu) fun x y H Q h => ?_
  obtain ⟨a, xs, c, rfl, rfl, ha, ⟨d⟩, hc, q⟩ := h
  refine ⟨.list d.ds, .list [], .lst (SqL.of ha) d.all, .lst (SqL.of hc) .nil, dats_shaped d, by decide, ?_⟩
  rw [eqv_nil]
  exact q
theorem op_neE (hu : X.A.units + 64 < cLine) : OpR X (compareOp .NotEq) (rEqE X.K false) := by
  refine opR_imp (op_neD hu) fun x y H Q h => ?_
  obtain ⟨a, xs, c, rfl, rfl, ha, ⟨d⟩, hc, q⟩ := h
  refine ⟨.list d.ds, .list [], .lst (SqL.of ha) d.all, .lst (SqL.of hc) .nil, dats_shaped d, by decide, ?_⟩
  rw [eqv_nil]
  exact q
/-- some.index(value) -/
def rIndexT : V → List V → Hp → VK → Prop := fun x xs H Q => ∃ (ts : List (List Nat)) (t : List Nat) (y : V) (j : Nat), TNs H x ts ∧ xs = [y] ∧ TN H y t ∧ ts[j]? = some t ∧ (∀ m, m < j → ts[m]? ≠ some t) ∧ Q (.int (j : Int)) H
theorem mt_indexT (hu : X.A.units + 65 < cLine) : MtR X "list.index" rIndexT := by
  intro pins s σ H x xs v us Q I rx rxs h
  obtain ⟨ts, t, y, j, ⟨vs, ⟨a, rfl, ha⟩, hv⟩, rfl, hy, hj, hno, q⟩ := h
  obtain ⟨d, hd⟩ := dats_tups (K := X.K) hv
  refine mt_indexD hu pins s σ H _ _ v us Q I rx rxs ⟨a, y, nD t, d.ds, j, nD t, rfl, rfl, .lst (SqL.of ha) d.all, hy.dp, dats_shaped d, nD_shaped t, ?_, ?_, fun m z hm hz => ?_, q⟩
  · rw [hd, List.getElem?_map, hj]
    rfl
  · rw [nD_eqv]
    simp
  · rw [hd, List.getElem?_map] at hz
    cases e : ts[m]? with
    | none =>
      rw [e] at hz
      cases hz
    | some u =>
      rw [e] at hz
      have e2 : nD u = z := Option.some.inj hz
      subst e2
      rw [nD_eqv, decide_eq_false]
      rintro rfl
      exact hno m hm e
end

/-! ### a comprehension that maps a list, a tuple -/
/-- what each turn does: the item x at turn i, over H1 (all of H stands in it, and D's list), gives some y told by R i, or none -/
def Maps (g : TG) (te : TE) (tt : TT) (vs : List Nat) (σ : L2.St) (xs : List V) (H : Hp) (D : Addr) (R : Nat → Option V → Hp → Prop) : Prop :=
  ∀ i x H1 acc, xs[i]? = some x → Same H H1 → H1 D = some (.lst acc) → ∀ Qn : Hp → Prop, ∀ Qy : V → Hp → Prop, (∀ H2, Same H1 H2 → R i none H2 → Qn H2) → (∀ y H2, Same H1 H2 → R i (some y) H2 → Qy y H2) →
    g x (wipe σ vs) H1 fun σ2 H2 => wipe σ2 vs = wipe σ vs ∧ tt σ2 H2 fun b H3 => if b = true then te σ2 H3 Qy else Qn H3
/-- what comes out: the items that were kept, in order -/
def Made (R : Nat → Option V → Hp → Prop) (H : Hp) : Nat → List V → Prop
  | 0, ys => ys = []
  | n + 1, ys => (∃ zs y, ys = zs ++ [y] ∧ Made R H n zs ∧ R n (some y) H) ∨ (Made R H n ys ∧ R n none H)
theorem Made.mono {R : Nat → Option V → Hp → Prop} (hR : ∀ i y H H1, Same H H1 → R i y H → R i y H1) {H H1 : Hp} (s : Same H H1) : ∀ {n : Nat} {ys : List V}, Made R H n ys → Made R H1 n ys
  | 0, _, h => h
  | n + 1, ys, h => by
    rcases h with ⟨zs, y, e, h1, h2⟩ | ⟨h1, h2⟩
    · exact .inl ⟨zs, y, e, Made.mono hR s h1, hR _ _ _ _ s h2⟩
    · exact .inr ⟨Made.mono hR s h1, hR _ _ _ _ s h2⟩
theorem Made.length {R : Nat → Option V → Hp → Prop} {H : Hp} : ∀ {n : Nat} {ys : List V}, Made R H n ys → ys.length ≤ n
  | 0, ys, h => by
    rw [show ys = [] from h]
    exact Nat.le_refl _
  | n + 1, ys, h => by
    rcases h with ⟨zs, y, e, h1, h2⟩ | ⟨h1, h2⟩
    · subst e
      have := Made.length h1
      rw [List.length_append, List.length_singleton]
      omega
    · have := Made.length h1
      omega
section
variable {K : PySem.W.Frag}
/-- what holds through the turns: D's list, all of H, what was made -/
def Turns (D : Addr) (H : Hp) (R : Nat → Option V → Hp → Prop) (i : Nat) (H2 : Hp) : Prop := ∃ ys, Same H H2 ∧ H2 D = some (.lst ys) ∧ Made R H2 i ys
theorem turns_step {g : TG} {te : TE} {tt : TT} {vs : List Nat} {σ : L2.St} {xs : List V} {H : Hp} {R : Nat → Option V → Hp → Prop} (hR : ∀ i y H H1, Same H H1 → R i y H → R i y H1) {D : Addr} (hm : Maps g te tt vs σ xs H D R) (hz : xs.length ≤ sizeLine)
    (hD : H D = none) {i : Nat} {x : V} {H2 : Hp} (hx : xs[i]? = some x) (h : Turns D H R i H2)
    (hRD : ∀ i y H1 ys, H1 D = some (.lst ys) → R i y H1 → ∀ zs, R i y (upd H1 D (.lst zs))) :
    g x (wipe σ vs) H2 fun σ2 H3 => wipe σ2 vs = wipe σ vs ∧ tt σ2 H3 fun b H4 => if b = true then te σ2 H4 (fun y H5 => ∃ acc, H5 D = some (.lst acc) ∧ acc.length < sizeLine ∧ Turns D H R (i + 1) (upd H5 D (.lst (acc ++ [y])))) else Turns D H R (i + 1) H4 := by
  obtain ⟨ys, s1, hd, md⟩ := h
  have lt : i < xs.length := (List.getElem?_eq_some_iff.mp hx).1
  have mdD : ∀ {n : Nat} {ws : List V} {H1 : Hp} {us : List V}, H1 D = some (.lst us) → Made R H1 n ws → ∀ zs, Made R (upd H1 D (.lst zs)) n ws := by
    intro n
    induction n with
    | zero => intro ws H1 us _ h zs; exact h
    | succ n ih =>
      intro ws H1 us e h zs
      rcases h with ⟨as, y, e1, h1, h2⟩ | ⟨h1, h2⟩
      · exact .inl ⟨as, y, e1, ih e h1 zs, hRD _ _ _ _ e h2 zs⟩
      · exact .inr ⟨ih e h1 zs, hRD _ _ _ _ e h2 zs⟩
  refine hm i x H2 ys hx s1 hd _ _ (fun H3 s3 r => ?_) (fun y H3 s3 r => ?_)
  · exact ⟨ys, s1.trans s3, s3 D _ hd, .inr ⟨md.mono hR s3, r⟩⟩
  · have e3 := s3 D _ hd
    have := md.length
    refine ⟨ys, e3, by omega, ys ++ [y], Same.mut (s1.trans s3) hD, upd_same, ?_⟩
    exact .inl ⟨ys, y, rfl, mdD e3 (md.mono hR s3) _, hRD _ _ _ _ e3 r _⟩
/-- R says nothing of D's list: told of what is other than a list -/
theorem lc_mapL {a : Addr} {xs : List V} {g : TG} {tt : TT} {te : TE} {vs : List Nat} {σ : L2.St} {H : Hp} {Q : Addr → Hp → Prop} (R : Addr → Nat → Option V → Hp → Prop) (hl : SqL K H a xs) (hz : xs.length ≤ sizeLine)
    (hR : ∀ D i y H H1, Same H H1 → R D i y H → R D i y H1) (hRD : ∀ D i y H1 ys, H1 D = some (.lst ys) → R D i y H1 → ∀ zs, R D i y (upd H1 D (.lst zs)))
    (hm : ∀ D, H D = none → Maps g te tt vs σ xs H D (R D)) (hd : ∀ D ys H1, H D = none → Same H H1 → H1 D = some (.lst ys) → Made (R D) H1 xs.length ys → Q D H1) :
    ∀ D, H D = none → ∃ W : Nat → Nat → Hp → Prop, (∃ m, W 0 m (upd H D (.lst []))) ∧ ∀ i m H, W i m H →
      ((Itl K a).stop i H ∧ Q D H) ∨ ((Itl K a).go i H ∧ ∃ Nx : Hp → Prop, (∀ H', Nx H' → ∃ m', m' < m ∧ W (i + 1) m' H') ∧ ∀ x H', (Itl K a).yld i H x H' → g x (wipe σ vs) H' fun σ2 H2 => wipe σ2 vs = wipe σ vs ∧ tt σ2 H2 fun b H3 =>
        if b = true then te σ2 H3 fun y H4 => ∃ acc, H4 D = some (.lst acc) ∧ acc.length < sizeLine ∧ Nx (upd H4 D (.lst (acc ++ [y]))) else Nx H3) := by
  intro D hD
  refine lc_list (K := K) (a := a) (xs := xs) (Turns D H (R D)) ⟨[], same_new hD, upd_same, rfl⟩ (fun i H2 _ h => ?_) (fun i x H2 hx h => ?_) (fun H2 h => ?_)
  · obtain ⟨ys, s1, _⟩ := h
    exact s1.seq hl
  · exact turns_step (hR D) (hm D hD) hz hD hx h fun i y H1 ys e r zs => hRD D i y H1 ys e r zs
  · obtain ⟨ys, s1, e, md⟩ := h
    exact hd D ys H2 hD s1 e md
theorem lc_mapT {a : Addr} {xs : List V} {g : TG} {tt : TT} {te : TE} {vs : List Nat} {σ : L2.St} {H : Hp} {Q : Addr → Hp → Prop} (R : Addr → Nat → Option V → Hp → Prop) (hl : H a = some (.tup xs)) (hz : xs.length ≤ sizeLine)
    (hR : ∀ D i y H H1, Same H H1 → R D i y H → R D i y H1) (hRD : ∀ D i y H1 ys, H1 D = some (.lst ys) → R D i y H1 → ∀ zs, R D i y (upd H1 D (.lst zs)))
    (hm : ∀ D, H D = none → Maps g te tt vs σ xs H D (R D)) (hd : ∀ D ys H1, H D = none → Same H H1 → H1 D = some (.lst ys) → Made (R D) H1 xs.length ys → Q D H1) :
    ∀ D, H D = none → ∃ W : Nat → Nat → Hp → Prop, (∃ m, W 0 m (upd H D (.lst []))) ∧ ∀ i m H, W i m H →
      ((Itt K a).stop i H ∧ Q D H) ∨ ((Itt K a).go i H ∧ ∃ Nx : Hp → Prop, (∀ H', Nx H' → ∃ m', m' < m ∧ W (i + 1) m' H') ∧ ∀ x H', (Itt K a).yld i H x H' → g x (wipe σ vs) H' fun σ2 H2 => wipe σ2 vs = wipe σ vs ∧ tt σ2 H2 fun b H3 =>
        if b = true then te σ2 H3 fun y H4 => ∃ acc, H4 D = some (.lst acc) ∧ acc.length < sizeLine ∧ Nx (upd H4 D (.lst (acc ++ [y]))) else Nx H3) := by
  intro D hD
  refine lc_tup (K := K) (a := a) (xs := xs) (Turns D H (R D)) ⟨[], same_new hD, upd_same, rfl⟩ (fun i H2 _ h => ?_) (fun i x H2 hx h => ?_) (fun H2 h => ?_)
  · obtain ⟨ys, s1, _⟩ := h
    exact SqT.of (s1 a _ hl)
  · exact turns_step (hR D) (hm D hD) hz hD hx h fun i y H1 ys e r zs => hRD D i y H1 ys e r zs
  · obtain ⟨ys, s1, e, md⟩ := h
    exact hd D ys H2 hD s1 e md
end
/-- each item gives just one value, a function of it -/
theorem made_map {α : Type} {F : α → V} {ds : List α} {H : Hp} : ∀ {n : Nat} {ys : List V}, n ≤ ds.length → Made (fun i y _ => ∃ d, ds[i]? = some d ∧ y = some (F d)) H n ys → ys = (ds.take n).map F
  | 0, ys, _, h => by
    rw [show ys = [] from h]
    rfl
  | n + 1, ys, hn, h => by
    rcases h with ⟨zs, y, rfl, h1, d, e, h2⟩ | ⟨h1, d, e, h2⟩
    · rw [made_map (by omega) h1, List.take_add_one, e, List.map_append]
      cases h2
      rfl
    · cases h2
end Asc
/-! The text by places: each def, its scope, what the top has written. -/
namespace Asc
open PySem PySem.Spec PyProof.Rows L2
def topS (i : Nat) : Stmt := PySem.Challenge.pw_allscannings_s01_answers.main.body.getD i (.Pass ⟨0, 0, 0, 0⟩)
abbrev s_read_text : Stmt := topS 14
theorem sc_read_text : FnScope ["n", "at", "least", "most", "text", "byte"] ["n", "at", "least", "most"] (defScope s_read_text) := ⟨rfl, rfl, rfl, by decide +kernel, rfl, by decide +kernel, by decide +kernel⟩
abbrev s_read_span : Stmt := topS 15
theorem sc_read_span : FnScope ["n", "at", "least", "most"] ["n", "at", "least", "most"] (defScope s_read_span) := ⟨rfl, rfl, rfl, by decide +kernel, rfl, by decide +kernel, by decide +kernel⟩
abbrev s_read_row : Stmt := topS 16
theorem sc_read_row : FnScope ["n", "at", "many", "pieces", "found"] ["n", "at"] (defScope s_read_row) := ⟨rfl, rfl, rfl, by decide +kernel, rfl, by decide +kernel, by decide +kernel⟩
abbrev s_read_either : Stmt := topS 17
theorem sc_read_either : FnScope ["n", "at", "one", "other"] ["n", "at"] (defScope s_read_either) := ⟨rfl, rfl, rfl, by decide +kernel, rfl, by decide +kernel, by decide +kernel⟩
abbrev s_read_repeat : Stmt := topS 18
theorem sc_read_repeat : FnScope ["n", "at", "text", "span", "row"] ["n", "at"] (defScope s_read_repeat) := ⟨rfl, rfl, rfl, by decide +kernel, rfl, by decide +kernel, by decide +kernel⟩
abbrev s_read_piece : Stmt := topS 19
theorem sc_read_piece : FnScope ["n", "at", "kind", "text", "span", "row"] ["n", "at"] (defScope s_read_piece) := ⟨rfl, rfl, rfl, by decide +kernel, rfl, by decide +kernel, by decide +kernel⟩
abbrev s_rows_in : Stmt := topS 20
theorem sc_rows_in : FnScope ["piece"] ["piece"] (defScope s_rows_in) := ⟨rfl, rfl, rfl, by decide +kernel, rfl, by decide +kernel, by decide +kernel⟩
abbrev s_all_pieces : Stmt := topS 21
theorem sc_all_pieces : FnScope ["row", "found", "piece", "inner"] ["row"] (defScope s_all_pieces) := ⟨rfl, rfl, rfl, by decide +kernel, rfl, by decide +kernel, by decide +kernel⟩
abbrev s_gone_through : Stmt := topS 22
theorem sc_gone_through : FnScope ["row", "found", "piece", "inner", "times", "one"] ["row"] (defScope s_gone_through) := ⟨rfl, rfl, rfl, by decide +kernel, rfl, by decide +kernel, by decide +kernel⟩
abbrev s_has_repeat_in_repeat : Stmt := topS 23
theorem sc_has_repeat_in_repeat : FnScope ["row", "piece", "one"] ["row"] (defScope s_has_repeat_in_repeat) := ⟨rfl, rfl, rfl, by decide +kernel, rfl, by decide +kernel, by decide +kernel⟩
abbrev s_format_in : Stmt := topS 24
theorem sc_format_in : FnScope ["n", "found"] ["n"] (defScope s_format_in) := ⟨rfl, rfl, rfl, by decide +kernel, rfl, by decide +kernel, by decide +kernel⟩
abbrev s_text_in : Stmt := topS 25
theorem sc_text_in : FnScope ["n", "most", "found"] ["n", "most"] (defScope s_text_in) := ⟨rfl, rfl, rfl, by decide +kernel, rfl, by decide +kernel, by decide +kernel⟩
abbrev s_value_in : Stmt := topS 26
theorem sc_value_in : FnScope ["n", "most", "greatest", "one"] ["n", "most", "greatest"] (defScope s_value_in) := ⟨rfl, rfl, rfl, by decide +kernel, rfl, by decide +kernel, by decide +kernel⟩
abbrev s_digits_of : Stmt := topS 31
theorem sc_digits_of : FnScope ["number", "sign"] ["number"] (defScope s_digits_of) := ⟨rfl, rfl, rfl, by decide +kernel, rfl, by decide +kernel, by decide +kernel⟩
abbrev s_print_number : Stmt := topS 32
theorem sc_print_number : FnScope ["piece", "value", "at", "kind", "least", "most", "digits"] ["piece", "value", "at"] (defScope s_print_number) := ⟨rfl, rfl, rfl, by decide +kernel, rfl, by decide +kernel, by decide +kernel⟩
abbrev s_print_word : Stmt := topS 33
theorem sc_print_word : FnScope ["piece", "value", "at", "kind", "least", "most", "letters", "letter"] ["piece", "value", "at"] (defScope s_print_word) := ⟨rfl, rfl, rfl, by decide +kernel, rfl, by decide +kernel, by decide +kernel⟩
abbrev s_print_times : Stmt := topS 34
theorem sc_print_times : FnScope ["piece", "value", "at", "kind", "separator", "least", "most", "row", "text", "behind", "k", "one"] ["piece", "value", "at"] (defScope s_print_times) := ⟨rfl, rfl, rfl, by decide +kernel, rfl, by decide +kernel, by decide +kernel⟩
abbrev s_print_chosen : Stmt := topS 35
theorem sc_print_chosen : FnScope ["rows", "value", "at"] ["rows", "value", "at"] (defScope s_print_chosen) := ⟨rfl, rfl, rfl, by decide +kernel, rfl, by decide +kernel, by decide +kernel⟩
abbrev s_print_piece : Stmt := topS 36
theorem sc_print_piece : FnScope ["piece", "value", "at"] ["piece", "value", "at"] (defScope s_print_piece) := ⟨rfl, rfl, rfl, by decide +kernel, rfl, by decide +kernel, by decide +kernel⟩
abbrev s_print_row : Stmt := topS 37
theorem sc_print_row : FnScope ["row", "value", "at", "text", "piece", "found"] ["row", "value", "at"] (defScope s_print_row) := ⟨rfl, rfl, rfl, by decide +kernel, rfl, by decide +kernel, by decide +kernel⟩
abbrev s_print_of : Stmt := topS 38
theorem sc_print_of : FnScope ["row", "value", "found"] ["row", "value"] (defScope s_print_of) := ⟨rfl, rfl, rfl, by decide +kernel, rfl, by decide +kernel, by decide +kernel⟩
abbrev s_is_digit : Stmt := topS 41
theorem sc_is_digit : FnScope ["byte"] ["byte"] (defScope s_is_digit) := ⟨rfl, rfl, rfl, by decide +kernel, rfl, by decide +kernel, by decide +kernel⟩
abbrev s_is_letter : Stmt := topS 42
theorem sc_is_letter : FnScope ["byte"] ["byte"] (defScope s_is_letter) := ⟨rfl, rfl, rfl, by decide +kernel, rfl, by decide +kernel, by decide +kernel⟩
abbrev s_number_of : Stmt := topS 43
theorem sc_number_of : FnScope ["digits", "found", "byte"] ["digits"] (defScope s_number_of) := ⟨rfl, rfl, rfl, by decide +kernel, rfl, by decide +kernel, by decide +kernel⟩
abbrev s_are_right : Stmt := topS 44
theorem sc_are_right : FnScope ["piece", "digits", "byte"] ["piece", "digits"] (defScope s_are_right) := ⟨rfl, rfl, rfl, by decide +kernel, rfl, by decide +kernel, by decide +kernel⟩
abbrev s_ways_of_number : Stmt := topS 45
theorem sc_ways_of_number : FnScope ["piece", "text", "at", "found", "many", "digits"] ["piece", "text", "at"] (defScope s_ways_of_number) := ⟨rfl, rfl, rfl, by decide +kernel, rfl, by decide +kernel, by decide +kernel⟩
abbrev s_ways_of_word : Stmt := topS 46
theorem sc_ways_of_word : FnScope ["piece", "text", "at", "found", "many", "letters", "byte"] ["piece", "text", "at"] (defScope s_ways_of_word) := ⟨rfl, rfl, rfl, by decide +kernel, rfl, by decide +kernel, by decide +kernel⟩
abbrev s_ways_of_rows : Stmt := topS 47
theorem sc_ways_of_rows : FnScope ["rows", "text", "at", "found", "number", "row"] ["rows", "text", "at"] (defScope s_ways_of_rows) := ⟨rfl, rfl, rfl, by decide +kernel, rfl, by decide +kernel, by decide +kernel⟩
abbrev s_behind_text : Stmt := topS 48
theorem sc_behind_text : FnScope ["wanted", "text", "ways", "many", "value", "at"] ["wanted", "text", "ways"] (defScope s_behind_text) := ⟨rfl, rfl, rfl, by decide +kernel, rfl, by decide +kernel, by decide +kernel⟩
abbrev s_ways_of_times : Stmt := topS 49
theorem sc_ways_of_times : FnScope ["piece", "text", "at", "kind", "separator", "least", "most", "row", "found", "times", "ways", "k"] ["piece", "text", "at"] (defScope s_ways_of_times) := ⟨rfl, rfl, rfl, by decide +kernel, rfl, by decide +kernel, by decide +kernel⟩
abbrev s_ways_of : Stmt := topS 50
theorem sc_ways_of : FnScope ["piece", "text", "at"] ["piece", "text", "at"] (defScope s_ways_of) := ⟨rfl, rfl, rfl, by decide +kernel, rfl, by decide +kernel, by decide +kernel⟩
abbrev s_ways_of_row : Stmt := topS 51
theorem sc_ways_of_row : FnScope ["row", "text", "ways", "piece", "longer", "value", "at", "more", "behind"] ["row", "text", "ways"] (defScope s_ways_of_row) := ⟨rfl, rfl, rfl, by decide +kernel, rfl, by decide +kernel, by decide +kernel⟩
abbrev s_scannings : Stmt := topS 52
theorem sc_scannings : FnScope ["row", "text", "value", "at"] ["row", "text"] (defScope s_scannings) := ⟨rfl, rfl, rfl, by decide +kernel, rfl, by decide +kernel, by decide +kernel⟩
abbrev s_digits : Stmt := topS 55
theorem sc_digits : FnScope ["least", "k"] ["least"] (defScope s_digits) := ⟨rfl, rfl, rfl, by decide +kernel, rfl, by decide +kernel, by decide +kernel⟩
abbrev s_letters : Stmt := topS 56
theorem sc_letters : FnScope ["k"] [] (defScope s_letters) := ⟨rfl, rfl, rfl, by decide +kernel, rfl, by decide +kernel, by decide +kernel⟩
abbrev s_Walk_init : Stmt := inClass (topS 57) 0
theorem sc_Walk_init : FnScope ["self", "row", "text"] ["self", "row", "text"] (defScope s_Walk_init) := ⟨rfl, rfl, rfl, by decide +kernel, rfl, by decide +kernel, by decide +kernel⟩
abbrev s_Walk_is_stuck : Stmt := inClass (topS 57) 1
theorem sc_Walk_is_stuck : FnScope ["self", "at", "wanted"] ["self", "at", "wanted"] (defScope s_Walk_is_stuck) := ⟨rfl, rfl, rfl, by decide +kernel, rfl, by decide +kernel, by decide +kernel⟩
abbrev s_Walk_by_text : Stmt := inClass (topS 57) 2
theorem sc_Walk_by_text : FnScope ["self", "wanted", "at", "k"] ["self", "wanted", "at"] (defScope s_Walk_by_text) := ⟨rfl, rfl, rfl, by decide +kernel, rfl, by decide +kernel, by decide +kernel⟩
abbrev s_Walk_by_signs : Stmt := inClass (topS 57) 3
theorem sc_Walk_by_signs : FnScope ["self", "first", "others", "least", "most", "at", "found", "many"] ["self", "first", "others", "least", "most", "at"] (defScope s_Walk_by_signs) := ⟨rfl, rfl, rfl, by decide +kernel, rfl, by decide +kernel, by decide +kernel⟩
abbrev s_Walk_by_number : Stmt := inClass (topS 57) 4
theorem sc_Walk_by_number : FnScope ["self", "least", "most", "at"] ["self", "least", "most", "at"] (defScope s_Walk_by_number) := ⟨rfl, rfl, rfl, by decide +kernel, rfl, by decide +kernel, by decide +kernel⟩
abbrev s_Walk_by_times : Stmt := inClass (topS 57) 5
theorem sc_Walk_by_times : FnScope ["self", "piece", "at", "kind", "separator", "least", "most", "row", "found", "places", "k", "place"] ["self", "piece", "at"] (defScope s_Walk_by_times) := ⟨rfl, rfl, rfl, by decide +kernel, rfl, by decide +kernel, by decide +kernel⟩
abbrev s_Walk_by_piece : Stmt := inClass (topS 57) 6
theorem sc_Walk_by_piece : FnScope ["self", "piece", "at"] ["self", "piece", "at"] (defScope s_Walk_by_piece) := ⟨rfl, rfl, rfl, by decide +kernel, rfl, by decide +kernel, by decide +kernel⟩
abbrev s_Walk_all_behind : Stmt := inClass (topS 57) 7
theorem sc_Walk_all_behind : FnScope ["self", "rows", "found", "places"] ["self", "rows"] (defScope s_Walk_all_behind) := ⟨rfl, rfl, rfl, by decide +kernel, rfl, by decide +kernel, by decide +kernel⟩
abbrev s_Walk_through : Stmt := inClass (topS 57) 8
theorem sc_Walk_through : FnScope ["self", "row", "places", "piece", "at"] ["self", "row", "places"] (defScope s_Walk_through) := ⟨rfl, rfl, rfl, by decide +kernel, rfl, by decide +kernel, by decide +kernel⟩
abbrev s_Walk_furthest : Stmt := inClass (topS 57) 9
theorem sc_Walk_furthest : FnScope ["self"] ["self"] (defScope s_Walk_furthest) := ⟨rfl, rfl, rfl, by decide +kernel, rfl, by decide +kernel, by decide +kernel⟩
abbrev s_Walk_wished_at : Stmt := inClass (topS 57) 10
theorem sc_Walk_wished_at : FnScope ["self", "place"] ["self", "place"] (defScope s_Walk_wished_at) := ⟨rfl, rfl, rfl, by decide +kernel, rfl, by decide +kernel, by decide +kernel⟩
abbrev s_Walk_goes_on_by : Stmt := inClass (topS 57) 11
theorem sc_Walk_goes_on_by : FnScope ["self"] ["self"] (defScope s_Walk_goes_on_by) := ⟨rfl, rfl, rfl, by decide +kernel, rfl, by decide +kernel, by decide +kernel⟩
abbrev s_longer_ones : Stmt := topS 61
theorem sc_longer_ones : FnScope ["row", "texts", "found", "text", "byte"] ["row", "texts"] (defScope s_longer_ones) := ⟨rfl, rfl, rfl, by decide +kernel, rfl, by decide +kernel, by decide +kernel⟩
abbrev s_kept : Stmt := topS 62
theorem sc_kept : FnScope ["row", "length", "found", "k"] ["row", "length"] (defScope s_kept) := ⟨rfl, rfl, rfl, by decide +kernel, rfl, by decide +kernel, by decide +kernel⟩
abbrev s_those_with : Stmt := topS 63
theorem sc_those_with : FnScope ["row", "texts", "many", "text"] ["row", "texts", "many"] (defScope s_those_with) := ⟨rfl, rfl, rfl, by decide +kernel, rfl, by decide +kernel, by decide +kernel⟩
abbrev s_first_with : Stmt := topS 64
theorem sc_first_with : FnScope ["row", "many", "texts", "length", "some"] ["row", "many"] (defScope s_first_with) := ⟨rfl, rfl, rfl, by decide +kernel, rfl, by decide +kernel, by decide +kernel⟩
abbrev s_counted : Stmt := topS 78
theorem sc_counted : FnScope ["some"] ["some"] (defScope s_counted) := ⟨rfl, rfl, rfl, by decide +kernel, rfl, by decide +kernel, by decide +kernel⟩
abbrev s_scanned : Stmt := topS 79
theorem sc_scanned : FnScope ["some"] ["some"] (defScope s_scanned) := ⟨rfl, rfl, rfl, by decide +kernel, rfl, by decide +kernel, by decide +kernel⟩
abbrev s_kth : Stmt := topS 80
theorem sc_kth : FnScope ["some", "number"] ["some", "number"] (defScope s_kth) := ⟨rfl, rfl, rfl, by decide +kernel, rfl, by decide +kernel, by decide +kernel⟩
abbrev s_far : Stmt := topS 81
theorem sc_far : FnScope ["row", "text", "walk", "place"] ["row", "text"] (defScope s_far) := ⟨rfl, rfl, rfl, by decide +kernel, rfl, by decide +kernel, by decide +kernel⟩
abbrev s_again : Stmt := topS 82
theorem sc_again : FnScope ["row", "value", "text", "some", "number"] ["row", "value"] (defScope s_again) := ⟨rfl, rfl, rfl, by decide +kernel, rfl, by decide +kernel, by decide +kernel⟩
abbrev s_of_text : Stmt := topS 83
theorem sc_of_text : FnScope ["row", "call", "number", "n", "text", "some"] ["row", "call", "number", "n"] (defScope s_of_text) := ⟨rfl, rfl, rfl, by decide +kernel, rfl, by decide +kernel, by decide +kernel⟩
abbrev s_of_value : Stmt := topS 84
theorem sc_of_value : FnScope ["row", "call", "n", "value", "text"] ["row", "call", "n"] (defScope s_of_value) := ⟨rfl, rfl, rfl, by decide +kernel, rfl, by decide +kernel, by decide +kernel⟩
abbrev s_first_told : Stmt := topS 85
theorem sc_first_told : FnScope ["row", "many", "text"] ["row", "many"] (defScope s_first_told) := ⟨rfl, rfl, rfl, by decide +kernel, rfl, by decide +kernel, by decide +kernel⟩
abbrev s_texts : Stmt := topS 86
theorem sc_texts : FnScope ["row", "length", "some"] ["row", "length"] (defScope s_texts) := ⟨rfl, rfl, rfl, by decide +kernel, rfl, by decide +kernel, by decide +kernel⟩
abbrev s_Desk_init : Stmt := inClass (topS 87) 0
theorem sc_Desk_init : FnScope ["self"] ["self"] (defScope s_Desk_init) := ⟨rfl, rfl, rfl, by decide +kernel, rfl, by decide +kernel, by decide +kernel⟩
abbrev s_Desk_set_format : Stmt := inClass (topS 87) 1
theorem sc_Desk_set_format : FnScope ["self", "n", "found"] ["self", "n"] (defScope s_Desk_set_format) := ⟨rfl, rfl, rfl, by decide +kernel, rfl, by decide +kernel, by decide +kernel⟩
abbrev s_Desk_answer : Stmt := inClass (topS 87) 2
theorem sc_Desk_answer : FnScope ["self", "call", "number", "n"] ["self", "call", "number", "n"] (defScope s_Desk_answer) := ⟨rfl, rfl, rfl, by decide +kernel, rfl, by decide +kernel, by decide +kernel⟩
abbrev s_answers : Stmt := topS 88
theorem sc_answers : FnScope ["calls", "desk", "found", "at", "call", "number", "n", "one"] ["calls"] (defScope s_answers) := ⟨rfl, rfl, rfl, by decide +kernel, rfl, by decide +kernel, by decide +kernel⟩
/-- a def of the top -/
structure Df (K : PySem.W.Frag) (mg : Str → Option PySem.Value) (x : Str) (st : Stmt) (ps : List Str) where
  f : Addr
  fd : FuncData
  F : Fun K x x st f fd
  b : Binds K fd ps []
  m : mg x = some (.ref f)
/-- a method of the class at C -/
structure Dm (K : PySem.W.Frag) (C : Addr) (x q : Str) (st : Stmt) (ps : List Str) where
  f : Addr
  fd : FuncData
  F : Fun K x q st f fd
  b : Binds K fd ps []
  me : Meth K C x f
/-- __init__ of the class at C -/
structure Di (K : PySem.W.Frag) (C : Addr) (q : Str) (st : Stmt) (ps : List Str) where
  f : Addr
  fd : FuncData
  F : Fun K "__init__" q st f fd
  b : Binds K fd ps []
  mks : Mk K C f
/-- what the top has written -/
structure Txt (K : PySem.W.Frag) (mg : Str → Option PySem.Value) where
  d_read_text : Df K mg "read_text" s_read_text ["n", "at", "least", "most"]
  d_read_span : Df K mg "read_span" s_read_span ["n", "at", "least", "most"]
  d_read_row : Df K mg "read_row" s_read_row ["n", "at"]
  d_read_either : Df K mg "read_either" s_read_either ["n", "at"]
  d_read_repeat : Df K mg "read_repeat" s_read_repeat ["n", "at"]
  d_read_piece : Df K mg "read_piece" s_read_piece ["n", "at"]
  d_rows_in : Df K mg "rows_in" s_rows_in ["piece"]
  d_all_pieces : Df K mg "all_pieces" s_all_pieces ["row"]
  d_gone_through : Df K mg "gone_through" s_gone_through ["row"]
  d_has_repeat_in_repeat : Df K mg "has_repeat_in_repeat" s_has_repeat_in_repeat ["row"]
  d_format_in : Df K mg "format_in" s_format_in ["n"]
  d_text_in : Df K mg "text_in" s_text_in ["n", "most"]
  d_value_in : Df K mg "value_in" s_value_in ["n", "most", "greatest"]
  d_digits_of : Df K mg "digits_of" s_digits_of ["number"]
  d_print_number : Df K mg "print_number" s_print_number ["piece", "value", "at"]
  d_print_word : Df K mg "print_word" s_print_word ["piece", "value", "at"]
  d_print_times : Df K mg "print_times" s_print_times ["piece", "value", "at"]
  d_print_chosen : Df K mg "print_chosen" s_print_chosen ["rows", "value", "at"]
  d_print_piece : Df K mg "print_piece" s_print_piece ["piece", "value", "at"]
  d_print_row : Df K mg "print_row" s_print_row ["row", "value", "at"]
  d_print_of : Df K mg "print_of" s_print_of ["row", "value"]
  d_is_digit : Df K mg "is_digit" s_is_digit ["byte"]
  d_is_letter : Df K mg "is_letter" s_is_letter ["byte"]
  d_number_of : Df K mg "number_of" s_number_of ["digits"]
  d_are_right : Df K mg "are_right" s_are_right ["piece", "digits"]
  d_ways_of_number : Df K mg "ways_of_number" s_ways_of_number ["piece", "text", "at"]
  d_ways_of_word : Df K mg "ways_of_word" s_ways_of_word ["piece", "text", "at"]
  d_ways_of_rows : Df K mg "ways_of_rows" s_ways_of_rows ["rows", "text", "at"]
  d_behind_text : Df K mg "behind_text" s_behind_text ["wanted", "text", "ways"]
  d_ways_of_times : Df K mg "ways_of_times" s_ways_of_times ["piece", "text", "at"]
  d_ways_of : Df K mg "ways_of" s_ways_of ["piece", "text", "at"]
  d_ways_of_row : Df K mg "ways_of_row" s_ways_of_row ["row", "text", "ways"]
  d_scannings : Df K mg "scannings" s_scannings ["row", "text"]
  d_digits : Df K mg "digits" s_digits ["least"]
  d_letters : Df K mg "letters" s_letters []
  d_longer_ones : Df K mg "longer_ones" s_longer_ones ["row", "texts"]
  d_kept : Df K mg "kept" s_kept ["row", "length"]
  d_those_with : Df K mg "those_with" s_those_with ["row", "texts", "many"]
  d_first_with : Df K mg "first_with" s_first_with ["row", "many"]
  d_counted : Df K mg "counted" s_counted ["some"]
  d_scanned : Df K mg "scanned" s_scanned ["some"]
  d_kth : Df K mg "kth" s_kth ["some", "number"]
  d_far : Df K mg "far" s_far ["row", "text"]
  d_again : Df K mg "again" s_again ["row", "value"]
  d_of_text : Df K mg "of_text" s_of_text ["row", "call", "number", "n"]
  d_of_value : Df K mg "of_value" s_of_value ["row", "call", "n"]
  d_first_told : Df K mg "first_told" s_first_told ["row", "many"]
  d_texts : Df K mg "texts" s_texts ["row", "length"]
  d_answers : Df K mg "answers" s_answers ["calls"]
  cWalk : Addr
  Walk_g : mg "Walk" = some (.ref cWalk)
  Walk_cl : Cls K cWalk
  Walk_init : Di K cWalk "Walk.__init__" s_Walk_init ["self", "row", "text"]
  m_is_stuck : Dm K cWalk "is_stuck" "Walk.is_stuck" s_Walk_is_stuck ["self", "at", "wanted"]
  m_by_text : Dm K cWalk "by_text" "Walk.by_text" s_Walk_by_text ["self", "wanted", "at"]
  m_by_signs : Dm K cWalk "by_signs" "Walk.by_signs" s_Walk_by_signs ["self", "first", "others", "least", "most", "at"]
  m_by_number : Dm K cWalk "by_number" "Walk.by_number" s_Walk_by_number ["self", "least", "most", "at"]
  m_by_times : Dm K cWalk "by_times" "Walk.by_times" s_Walk_by_times ["self", "piece", "at"]
  m_by_piece : Dm K cWalk "by_piece" "Walk.by_piece" s_Walk_by_piece ["self", "piece", "at"]
  m_all_behind : Dm K cWalk "all_behind" "Walk.all_behind" s_Walk_all_behind ["self", "rows"]
  m_through : Dm K cWalk "through" "Walk.through" s_Walk_through ["self", "row", "places"]
  m_furthest : Dm K cWalk "furthest" "Walk.furthest" s_Walk_furthest ["self"]
  m_wished_at : Dm K cWalk "wished_at" "Walk.wished_at" s_Walk_wished_at ["self", "place"]
  m_goes_on_by : Dm K cWalk "goes_on_by" "Walk.goes_on_by" s_Walk_goes_on_by ["self"]
  cDesk : Addr
  Desk_g : mg "Desk" = some (.ref cDesk)
  Desk_cl : Cls K cDesk
  Desk_init : Di K cDesk "Desk.__init__" s_Desk_init ["self"]
  m_set_format : Dm K cDesk "set_format" "Desk.set_format" s_Desk_set_format ["self", "n"]
  m_answer : Dm K cDesk "answer" "Desk.answer" s_Desk_answer ["self", "call", "number", "n"]
  nW_text : NoAttr K cWalk "text"
  nW_wished : NoAttr K cWalk "wished"
  nW_ends : NoAttr K cWalk "ends"
  nD_row : NoAttr K cDesk "row"
  c_LITERAL : { t : Tok // mg "LITERAL" = some (.int 0 t) }
  c_NUMBER : { t : Tok // mg "NUMBER" = some (.int 1 t) }
  c_WORD : { t : Tok // mg "WORD" = some (.int 2 t) }
  c_EITHER : { t : Tok // mg "EITHER" = some (.int 3 t) }
  c_OPTIONAL : { t : Tok // mg "OPTIONAL" = some (.int 4 t) }
  c_REPEAT : { t : Tok // mg "REPEAT" = some (.int 5 t) }
  c_LEAST_BYTE : { t : Tok // mg "LEAST_BYTE" = some (.int 32 t) }
  c_GREATEST_BYTE : { t : Tok // mg "GREATEST_BYTE" = some (.int 126 t) }
  c_MOST_LITERAL : { t : Tok // mg "MOST_LITERAL" = some (.int 8 t) }
  c_MOST_LONG : { t : Tok // mg "MOST_LONG" = some (.int 4 t) }
  c_MOST_TIMES : { t : Tok // mg "MOST_TIMES" = some (.int 4 t) }
  c_MOST_PIECES : { t : Tok // mg "MOST_PIECES" = some (.int 14 t) }
  c_MOST_GONE_THROUGH : { t : Tok // mg "MOST_GONE_THROUGH" = some (.int 8 t) }
  c_NOUGHT : { t : Tok // mg "NOUGHT" = some (.int 48 t) }
  c_SMALL_A : { t : Tok // mg "SMALL_A" = some (.int 97 t) }
  c_LETTERS : { t : Tok // mg "LETTERS" = some (.int 26 t) }
  c_TEN : { t : Tok // mg "TEN" = some (.int 10 t) }
  c_DIGITS : { t : Tok // mg "DIGITS" = some (.int 10 t) }
  c_MOST_KEPT : { t : Tok // mg "MOST_KEPT" = some (.int 40 t) }
  c_LONGEST : { t : Tok // mg "LONGEST" = some (.int 5 t) }
  c_FORMAT : { t : Tok // mg "FORMAT" = some (.int 0 t) }
  c_KTH : { t : Tok // mg "KTH" = some (.int 4 t) }
  c_LEAST : { t : Tok // mg "LEAST" = some (.int 7 t) }
  c_AMBIGUOUS : { t : Tok // mg "AMBIGUOUS" = some (.int 8 t) }
  c_TEXTS : { t : Tok // mg "TEXTS" = some (.int 9 t) }
  c_NOT_WHOLE : { t : Tok // mg "NOT_WHOLE" = some (.int (-1) t) }
  c_NO_SUCH_SCANNING : { t : Tok // mg "NO_SUCH_SCANNING" = some (.int (-2) t) }
  c_NO_SUCH_LENGTH : { t : Tok // mg "NO_SUCH_LENGTH" = some (.int (-3) t) }
  c_MOST_BYTES : { t : Tok // mg "MOST_BYTES" = some (.int 24 t) }
  c_MOST_NUMBERS : { t : Tok // mg "MOST_NUMBERS" = some (.int 40 t) }
  c_GREATEST : { t : Tok // mg "GREATEST" = some (.int 9999 t) }
  c_LONGEST_ASKED : { t : Tok // mg "LONGEST_ASKED" = some (.int 6 t) }
  b_len : mg "len" = none
  b_all : mg "all" = none
  b_any : mg "any" = none
  b_max : mg "max" = none
  b_sorted : mg "sorted" = none
  b_set : mg "set" = none
  b_tuple : mg "tuple" = none
  b_list : mg "list" = none
  b_int : mg "int" = none
  b_str : mg "str" = none
  b_range : mg "range" = none
end Asc
namespace Asc
open PySem PySem.Spec PyProof.Rows L2
/-! Small helps for readings. -/
def rLenK (K : PySem.W.Frag) : List V → Hp → VK → Prop := fun xs H Q => ∃ p ys, xs = [.ref p] ∧ (SqL K H p ys ∨ SqT K H p ys) ∧ Q (.int ys.length) H
/-- an if on a negated test -/
theorem iteN {c A B : Prop} [Decidable c] (h1 : ¬ c → A) (h2 : c → B) : if (!decide c) = true then A else B := by
  by_cases h : c
  · rw [decide_eq_true h]
    exact iteF (h2 h)
  · rw [decide_eq_false h]
    exact iteT (h1 h)
theorem iteD {c A B : Prop} [Decidable c] (h1 : c → A) (h2 : ¬ c → B) : if decide c = true then A else B := by
  by_cases h : c
  · rw [decide_eq_true h]
    exact iteT (h1 h)
  · rw [decide_eq_false h]
    exact iteF (h2 h)
theorem iteB {b : Bool} {A B : Prop} (h1 : b = true → A) (h2 : b = false → B) : if b = true then A else B := by
  cases b
  · exact iteF (h2 rfl)
  · exact iteT (h1 rfl)
theorem iteBN {b : Bool} {A B : Prop} (h1 : b = false → A) (h2 : b = true → B) : if (!b) = true then A else B := by
  cases b
  · exact iteT (h1 rfl)
  · exact iteF (h2 rfl)
/-- for an if whose test is known -/
theorem ifT {c : Bool} {A B : Prop} (h : c = true) (x : A) : if c = true then A else B := by
  rw [h]
  exact iteT x
theorem ifF {c : Bool} {A B : Prop} (h : c = false) (x : B) : if c = true then A else B := by
  rw [h]
  exact iteF x
theorem atZ {ns : List Int} {i : Int} {j : Nat} {z : Int} (e : i = (j : Int)) (h : ns[j]? = some z) : atI (ns.map V.int) i = some (.int z) :=
  at_of e (by rw [List.getElem?_map, h]; rfl)
theorem atNi {t : List Nat} {i : Int} {j n : Nat} (e : i = (j : Int)) (h : t[j]? = some n) : atI (ni t) i = some (.int (n : Int)) := at_of e (ni_get h)
theorem sIx_pos {n d : Nat} {i : Int} {a : Nat} (e : i = (a : Int)) : HT.sIx n d (some i) = min a n := by
  subst e
  exact HT.sIx_nat n d a
theorem cut_two {xs : List V} {i j : Int} {a b : Nat} (e : i = (a : Int)) (e2 : j = (b : Int)) : cutV xs (some i) (some j) = (xs.drop a).take (b - a) := by
  unfold cutV
  rw [sIx_pos e, sIx_pos e2]
  by_cases h : a ≤ xs.length
  · rw [Nat.min_eq_left h]
    by_cases h2 : b ≤ xs.length
    · rw [Nat.min_eq_left h2]
    · rw [Nat.min_eq_right (by omega)]
      have l1 : (xs.drop a).length = xs.length - a := List.length_drop
      rw [List.take_of_length_le (by omega), List.take_of_length_le (by omega)]
  · rw [Nat.min_eq_right (show xs.length ≤ a by omega), List.drop_length, List.take_nil, List.drop_of_length_le (show xs.length ≤ a by omega), List.take_nil]
theorem cut_from {xs : List V} {i : Int} {a : Nat} (e : i = (a : Int)) : cutV xs (some i) none = xs.drop a := by
  unfold cutV
  rw [sIx_pos e, HT.sIx_none]
  by_cases h : a ≤ xs.length
  · rw [Nat.min_eq_left h]
    have l1 : (xs.drop a).length = xs.length - a := List.length_drop
    exact List.take_of_length_le (by omega)
  · rw [Nat.min_eq_right (by omega), List.drop_length, List.take_nil, List.drop_of_length_le (by omega)]
theorem cut_to {xs : List V} {j : Int} {b : Nat} (e : j = (b : Int)) : cutV xs none (some j) = xs.take b := by
  unfold cutV
  rw [sIx_pos e, HT.sIx_none, List.drop_zero, Nat.sub_zero]
  by_cases h : b ≤ xs.length
  · rw [Nat.min_eq_left h]
  · rw [Nat.min_eq_right (by omega), List.take_length, List.take_of_length_le (by omega)]
theorem ni_cut {t : List Nat} {a n : Nat} : ((ni t).drop a).take n = ni ((t.drop a).take n) := by
  unfold ni
  rw [← List.map_drop, ← List.map_take]
theorem small_le {n : Nat} (h : n ≤ 1000000) : n ≤ sizeLine := Nat.le_trans h (by decide)
theorem small_lt {n : Nat} (h : n < 1000000) : n < sizeLine := Nat.lt_of_lt_of_le h (by decide)
/-- all the items of a comprehension: each gives just F of it -/
theorem fnR {α : Type} {F : α → V} {ds : List α} (D : Addr) : (∀ (i : Nat) (y : Option V) (H H1 : Hp), Same H H1 → (∃ d, ds[i]? = some d ∧ y = some (F d)) → ∃ d, ds[i]? = some d ∧ y = some (F d)) := fun _ _ _ _ _ h => h
theorem lc_fnT {K : PySem.W.Frag} {α : Type} {a : Addr} {toV F : α → V} {ds : List α} {g : TG} {te : TE} {vs : List Nat} {σ : L2.St} {H : Hp} {Q : Addr → Hp → Prop} (hl : H a = some (.tup (ds.map toV))) (hz : ds.length ≤ sizeLine)
    (step : ∀ d, d ∈ ds → ∀ H1, Same H H1 → ∀ Qy : V → Hp → Prop, (∀ H2, Same H1 H2 → Qy (F d) H2) → g (toV d) (wipe σ vs) H1 fun σ2 H2 => wipe σ2 vs = wipe σ vs ∧ te σ2 H2 Qy)
    (hd : ∀ D H1, H D = none → Same H H1 → H1 D = some (.lst (ds.map F)) → Q D H1)
    (hg : ∀ x σ H (A B : L2.St → Hp → Prop), (∀ σ H, A σ H → B σ H) → g x σ H A → g x σ H B) :
    ∀ D, H D = none → ∃ W : Nat → Nat → Hp → Prop, (∃ m, W 0 m (upd H D (.lst []))) ∧ ∀ i m H, W i m H →
      ((Itt K a).stop i H ∧ Q D H) ∨ ((Itt K a).go i H ∧ ∃ Nx : Hp → Prop, (∀ H', Nx H' → ∃ m', m' < m ∧ W (i + 1) m' H') ∧ ∀ x H', (Itt K a).yld i H x H' → g x (wipe σ vs) H' fun σ2 H2 => wipe σ2 vs = wipe σ vs ∧ tYes σ2 H2 fun b H3 =>
        if b = true then te σ2 H3 fun y H4 => ∃ acc, H4 D = some (.lst acc) ∧ acc.length < sizeLine ∧ Nx (upd H4 D (.lst (acc ++ [y]))) else Nx H3) := by
  refine lc_mapT (fun _ i y _ => ∃ d, ds[i]? = some d ∧ y = some (F d)) hl (by rw [List.length_map]; exact hz) (fun D => fnR D) (fun _ _ _ _ _ _ h _ => h) (fun D hD i x H1 acc hx s1 hacc Qn Qy qn qy => ?_) (fun D ys H1 hD s1 e md => ?_)
  · rw [List.getElem?_map] at hx
    cases e : ds[i]? with
    | none =>
      rw [e] at hx
      cases hx
    | some d =>
      rw [e] at hx
      have e2 : toV d = x := Option.some.inj hx
      subst e2
      refine hg _ _ _ _ _ ?_ (step d (List.mem_of_getElem? e) H1 s1 Qy fun H2 s2 => qy _ H2 s2 ⟨d, e, rfl⟩)
      exact fun σ2 H2 h => ⟨h.1, iteT (A := te σ2 H2 Qy) (B := Qn H2) h.2⟩
  · have := made_map (ds := ds) (F := F) (by rw [List.length_map]; exact Nat.le_refl _) md
    rw [List.length_map, List.take_length] at this
    subst this
    exact hd D H1 hD s1 e
theorem lc_fnL {K : PySem.W.Frag} {α : Type} {a : Addr} {toV F : α → V} {ds : List α} {g : TG} {te : TE} {vs : List Nat} {σ : L2.St} {H : Hp} {Q : Addr → Hp → Prop} (hl : SqL K H a (ds.map toV)) (hz : ds.length ≤ sizeLine)
    (step : ∀ d, d ∈ ds → ∀ H1, Same H H1 → ∀ Qy : V → Hp → Prop, (∀ H2, Same H1 H2 → Qy (F d) H2) → g (toV d) (wipe σ vs) H1 fun σ2 H2 => wipe σ2 vs = wipe σ vs ∧ te σ2 H2 Qy)
    (hd : ∀ D H1, H D = none → Same H H1 → H1 D = some (.lst (ds.map F)) → Q D H1)
    (hg : ∀ x σ H (A B : L2.St → Hp → Prop), (∀ σ H, A σ H → B σ H) → g x σ H A → g x σ H B) :
    ∀ D, H D = none → ∃ W : Nat → Nat → Hp → Prop, (∃ m, W 0 m (upd H D (.lst []))) ∧ ∀ i m H, W i m H →
      ((Itl K a).stop i H ∧ Q D H) ∨ ((Itl K a).go i H ∧ ∃ Nx : Hp → Prop, (∀ H', Nx H' → ∃ m', m' < m ∧ W (i + 1) m' H') ∧ ∀ x H', (Itl K a).yld i H x H' → g x (wipe σ vs) H' fun σ2 H2 => wipe σ2 vs = wipe σ vs ∧ tYes σ2 H2 fun b H3 =>
        if b = true then te σ2 H3 fun y H4 => ∃ acc, H4 D = some (.lst acc) ∧ acc.length < sizeLine ∧ Nx (upd H4 D (.lst (acc ++ [y]))) else Nx H3) := by
  refine lc_mapL (fun _ i y _ => ∃ d, ds[i]? = some d ∧ y = some (F d)) hl (by rw [List.length_map]; exact hz) (fun D => fnR D) (fun _ _ _ _ _ _ h _ => h) (fun D hD i x H1 acc hx s1 hacc Qn Qy qn qy => ?_) (fun D ys H1 hD s1 e md => ?_)
  · rw [List.getElem?_map] at hx
    cases e : ds[i]? with
    | none =>
      rw [e] at hx
      cases hx
    | some d =>
      rw [e] at hx
      have e2 : toV d = x := Option.some.inj hx
      subst e2
      refine hg _ _ _ _ _ ?_ (step d (List.mem_of_getElem? e) H1 s1 Qy fun H2 s2 => qy _ H2 s2 ⟨d, e, rfl⟩)
      exact fun σ2 H2 h => ⟨h.1, iteT (A := te σ2 H2 Qy) (B := Qn H2) h.2⟩
  · have := made_map (ds := ds) (F := F) (by rw [List.length_map]; exact Nat.le_refl _) md
    rw [List.length_map, List.take_length] at this
    subst this
    exact hd D H1 hD s1 e
/-- names as targets carry over -/
theorem gN {i : Nat} : ∀ x σ H (A B : L2.St → Hp → Prop), (∀ σ H, A σ H → B σ H) → gName i x σ H A → gName i x σ H B := fun _ _ _ _ _ h q => h _ _ q
end Asc
namespace Asc
open PySem PySem.Spec PyProof.Rows L2
/-! Deep recursion: one frame a call. -/
structure RoomF (k : Nat) (A : Around) : Prop where
  hd : A.handled = none
  dp : A.depth + k + 8 < recursionLimit
  un : A.units + 3 * k + 230 < cLine
theorem RoomF.mono {j k : Nat} {A : Around} (r : RoomF k A) (h : j ≤ k) : RoomF j A := ⟨r.hd, by have := r.dp; omega, by have := r.un; omega⟩
theorem RoomF.deeper {k : Nat} {A : Around} (r : RoomF (k + 1) A) (env : Env) : RoomF k (A.deeper env) :=
  ⟨r.hd, by have := r.dp; show A.depth + 1 + k + 8 < _; omega, by have := r.un; show A.units + 3 + 3 * k + 230 < _; omega⟩
theorem RoomF.r1 {k : Nat} {A : Around} (r : RoomF k A) : Room 1 A := ⟨r.hd, by have := r.dp; omega, by have := r.un; omega⟩
theorem RoomF.of {k j : Nat} {A : Around} (r : Room j A) (h : k ≤ 3 * j - 3) (h1 : 3 ≤ j) : RoomF k A := ⟨r.hd, by have := r.dp; omega, by have := r.un; omega⟩
/-- a def that's called so deep -/
structure FnF (P : Program) (w : World) (K : PySem.W.Frag) (mg : Str → Option PySem.Value) (base : Heap) (k : Nat) (f : Addr) (fd : FuncData) (ps : List Str) (sp : Sp) : Prop where
  len : ∀ vs H Q E, sp vs H Q E → vs.length = ps.length
  run : ∀ A, RoomF k A → ∀ (outer : List Env) (s : Shared) (H : Hp) (args : Args) (us : List PySem.Value) (vs : List V) (Q : VK) (E : XK), Env0 P w K mg base A outer s H → BindsTo s fd args (ps.zip us) → Vals vs us → sp vs H Q E →
    codeAny (model P w) A (.call (.ref f) args) (CR CX0 outer P w H s Q E) s
theorem FnF.ok {P : Program} {w : World} {K : PySem.W.Frag} {mg : Str → Option PySem.Value} {base : Heap} {k : Nat} {f : Addr} {fd : FuncData} {ps : List Str} {sp : Sp} (F : FnF P w K mg base k f fd ps sp) (j : Nat) (h : k ≤ 3 * j - 3) (h1 : 3 ≤ j) :
    FnOk P w K mg base CX0 j f fd ps sp := ⟨F.len, fun A outer s H args us vs Q E r => F.run A (RoomF.of r h h1) outer s H args us vs Q E⟩
/-- a body's walk, where the room is told otherwise -/
theorem okF {P : Program} {w : World} {K : PySem.W.Frag} {mg : Str → Option PySem.Value} {base : Heap} {x qual : Str} {st : Stmt} {f : Addr} {fd : FuncData} {N ps : List Str} {k : Nat} {sp : Sp} (F : Fun K x qual st f fd) (S : FnScope N ps (defScope st)) (len : ∀ vs H Q E, sp vs H Q E → vs.length = ps.length)
    (body : ∀ (cdv : PySem.Value) (A : Around) (outer : List Env) (s : Shared) (H : Hp) (vs : List V) (Q : VK) (E : XK), RoomF k (A.deeper (envOfC qual (defScope st) s.heap.objs.size f cdv)) → sp vs H Q E →
      ∃ t, PSs (cxOf CX0 P w K mg base N qual (defScope st) f cdv A outer s H E).nox (defBody st) t ∧ t { nx := fun _ H' => Q .non H', rt := Q } (L2.start N vs) H) : FnF P w K mg base (k + 1) f fd ps sp := by
  obtain ⟨oc, od, kV, doc, pm, an, cdv, ct, osl, rfl, lk, code⟩ := F.ex
  refine ⟨len, fun A room outer s H args us vs Q E env0 bind rel told => ?_⟩
  have few := len _ _ _ _ told
  have inK : K.In s.heap := env0.mod.kin.keeps fun b o e => (env0.bs b o e).1
  have free : s.heap.NoLimit := env0.mod.nolimit.keeps fun b o e => (env0.bs b o e).1
  have kinds : ∀ y ∈ ps.zip us, (defScope st).names.lookup y.1 = some .local ∨ ((defScope st).names.lookup y.1 = some .cell ∧ ((cellsFrom (s.heap.objs.size + 1) (defScope st).names []).lookup y.1).isSome = true) := by
    rintro ⟨n, v⟩ hy
    exact (S.par n (List.of_mem_zip hy).1).imp id fun q => ⟨q, PySem.W.cellsFrom_some _ _ _ (.inl q)⟩
  refine codeAny_call_function room.r1.depth (inK _ _ lk) rfl S.co S.gen rfl (PySem.W.codeRec_of inK code) (bind _ _ _ _ ?_)
  refine wpAny_newFunctionEnv_cells S.kind kinds fun env he s1 grown => ?_
  subst he
  refine ⟨free.keeps grown.toInCall.keep, codeAny_func ?_⟩
  obtain ⟨t, walk, said⟩ := body cdv A outer s H vs Q E (room.deeper _) told
  have I : Inv (cxOf CX0 P w K mg base N qual (defScope st) f cdv A outer s H E) [] (L2.start N vs) H s1 := inv_start S room.hd env0 few rel grown
  refine wpAny_mono (walk.nox.run [] s1 (L2.start N vs) H _ I said) (fun fl s' hs => ?_) fun e s' hs => hs
  cases fl with
  | ret u =>
    obtain ⟨v, σ', H', J, rv, q⟩ := hs
    exact ⟨v, H', J.os, J.bare, J.base, J.hok, rv, q⟩
  | next =>
    obtain ⟨σ', H', J, q⟩ := hs
    exact ⟨.non, H', J.os, J.bare, J.base, J.hok, rfl, q⟩
  | brk =>
    obtain ⟨_, _, _, q⟩ := hs
    exact q.elim
  | cont =>
    obtain ⟨_, _, _, q⟩ := hs
    exact q.elim
theorem noneF {P : Program} {w : World} {K : PySem.W.Frag} {mg : Str → Option PySem.Value} {base : Heap} {f : Addr} {fd : FuncData} {ps : List Str} {sp : Sp} {k : Nat} (no : ∀ vs H Q E, ¬ sp vs H Q E) : FnF P w K mg base k f fd ps sp :=
  ⟨fun vs H Q E h => (no vs H Q E h).elim, fun A r outer s H args us vs Q E e0 bd rel h => (no vs H Q E h).elim⟩
section
variable {X : Cx} {k : Nat} {f : Addr} {fd : FuncData} {ps : List Str} {sp : Sp} {x : Str} {e : Expr} {es : List Expr} {t : TA} {p pos : Pos}
/-- such a call -/
theorem pe_callF (F : FnF X.prog X.w X.K X.mg X.base k f fd ps sp) (room : RoomF k X.A) (hg : Gl X x) (hm : X.mg x = some (.ref f)) (hk : PySem.W.keepIn X.K (.ref f) = true) (hb : Binds X.K fd ps [])
    (ha : PA X (e :: es) t) (hdb : (x == ("__debug__" : Str)) = false := by decide) (he : starEach (e :: es) X.env = (false, eval e X.env) :: starEach es X.env := by rfl) (hpl : (backTo pos (starEach es X.env)).any (·.1) = false := by rfl) :
    PE X (.Call (.Name x p) (e :: es) [] pos) (tCall sp [] E0 t) := by
  refine ⟨fun pins s σ H Q I h => wpAny_Call_Name_kw (ld_glob I hg hm ?_ hdb)⟩
  refine PySem.W.callWith_K (h₀ := X.base) I.ok.mod.kin hk (thn (ha.run pos pins s σ H _ I h) fun us s1 ⟨vs, H1, I1, r, q⟩ => ⟨I1.kIn, ?_⟩) he hpl
  have r2 : Vals (vs ++ []) (us ++ []) := r.append .nil
  have few : (us ++ []).length = ps.length := r2.length.symm.trans (F.len _ _ _ _ q)
  refine wpAny_call (codeAny_mono (F.run X.A room X.stack s1 H1 ⟨us, []⟩ (us ++ []) (vs ++ []) Q E0 I1.env0 (hb s1 us I1.kIn few) r2 q) fun r s' hq => ?_)
  cases r with
  | error e => exact (pass0 (X := X) pins σ H1 s1 e s' I1 hq)
  | ok fl =>
    cases fl with
    | ret u => exact I1.after hq
    | next => exact hq.elim
    | brk => exact hq.elim
    | cont => exact hq.elim
end
end Asc
namespace Asc
open PySem PySem.Spec PyProof.Rows L2
section
variable {P : Program} {w : World} {K : PySem.W.Frag} {mg : Str → Option PySem.Value} {base : Heap}

/-! ### readers -/
/-- what a reader hands back -/
def Got {α : Type} (R : Hp → V → α → Prop) (len : Nat) (o : Option (α × List Int)) (v : V) (H : Hp) : Prop := match o with
  | none => v = .non
  | some u => ∃ x, Tup H v [x, .int ((len - u.2.length : Nat) : Int)] ∧ R H x u.1
def spReadText : Sp := fun vs H Q _ => ∃ (a : Addr) (ns : List Int) (k : Nat) (l m : Int), vs = [.ref a, .int (k : Int), .int l, .int m] ∧ H a = some (.lst (ns.map V.int)) ∧ ns.length ≤ 200 ∧ k ≤ ns.length ∧ 0 ≤ l ∧
  ∀ v H1, Same H H1 → Got (fun H v t => TN H v t) ns.length (rText l m (ns.drop k)) v H1 → Q v H1
theorem bytes_all (l : List Int) : ((l.map fun b => decide (32 ≤ b) && decide (b ≤ 126)).all id) = l.all okB := by
  rw [List.all_map]
  rfl
theorem ok_read_text (T : Txt K mg) : FnOk P w K mg base CX0 1 T.d_read_text.f T.d_read_text.fd ["n", "at", "least", "most"] spReadText := by
  refine T.d_read_text.F.ok sc_read_text (fun vs H Q E h => ?_) (fun cdv A outer s H vs Q E hr h => ?_)
  · obtain ⟨a, ns, k, l, m, rfl, _⟩ := h
    rfl
  obtain ⟨a, ns, k, l, m, rfl, ha, h200, hk, hl, q⟩ := h
  refine ⟨_, (pss_cons (ps_if (PW.pt (pw_or (pt_cmpR op_ge (pv 1) (pe_callB call_len_seq (by rfl) T.b_len PySem.boot_len (pa_cons (pv 0) pa_nil)) (nomark _)) (pw_or (pt_not (pt_chain op_le op_le (pv 2) (pe_ix ix_list (pv 0) (pv 1) (fun _ _ => rfl)) (pv 3))) (pw_or1 (pt_cmpR op_gt (pe_op op_add (pe_op op_add (pv 1) pe_int) (pe_ix ix_list (pv 0) (pv 1) (fun _ _ => rfl))) (pe_callB call_len_seq (by rfl) T.b_len PySem.boot_len (pa_cons (pv 0) pa_nil)) (nomark _))))))
    (pss_one (ps_ret pe_non))
    pss_nil)
    (pss_cons (ps_set (i := 4) sc_read_text.nd rfl (Or.inl rfl) (pe_callTy call_tuple_of (by rfl) T.b_tuple (by decide +kernel) (pa_cons (pe_slice sl_list (pv 0) (po_some (pe_op op_add (pv 1) pe_int)) (po_some (pe_op op_add (pe_op op_add (pv 1) pe_int) (pe_ix ix_list (pv 0) (pv 1) (fun _ _ => rfl))))) pa_nil)))
    (pss_cons (ps_if (pt_not (pt_val (pe_callB (cr_all rfl) (by rfl) T.b_all (by decide +kernel) (pa_cons (pe_lc (own := [("byte", 5)]) rfl sc_read_text.nd (pi_tup (pv 4)) (blkOk_by (own := [("byte", 5)]) (N := ["n", "at", "least", "most", "text", "byte"]) (sc := defScope s_read_text) (by decide +kernel)) (fun _ _ _ _ _ => (pg_name (i := 5) sc_read_text.nd rfl (Or.inl rfl))) (fun _ _ _ _ _ => pts_nil) (fun _ _ _ _ _ => (pe_chain op_le op_le (pe_glob (v := .int 32) rfl T.c_LEAST_BYTE.2 ⟨_, rfl⟩) (pv 5) (pe_glob (v := .int 126) rfl T.c_GREATEST_BYTE.2 ⟨_, rfl⟩)))) pa_nil))))
    (pss_one (ps_ret pe_non))
    pss_nil)
    (pss_one (ps_ret (pe_tup (pa_cons (pv 4) (pa_cons (pe_op op_add (pe_op op_add (pv 1) pe_int) (pe_ix ix_list (pv 0) (pv 1) (fun _ _ => rfl))) pa_nil)))))))), ?_⟩
  have len : (ns.map V.int).length = ns.length := List.length_map _
  have fail : rText l m (ns.drop k) = none → Q .non H := fun e => q _ _ (Same.refl H) (by rw [e]; rfl)
  refine ⟨_, rfl, _, rfl, a, _, rfl, .inl (SqL.of ha), _, _, rfl, rfl, _, rfl, ?_⟩
  refine iteD (fun c => iteT (fail ?_)) (fun c => ?_)
  · rw [List.drop_of_length_le (by omega)]
    rfl
  rw [len] at c
  have hlt : k < ns.length := by omega
  have hz : ns[k]? = some ns[k] := List.getElem?_eq_getElem hlt
  have hd : ns.drop k = ns[k] :: ns.drop (k + 1) := List.drop_eq_getElem_cons hlt
  generalize ns[k] = z at hz hd
  rw [hd] at fail q
  simp only [rText] at fail q
  refine ⟨_, rfl, _, rfl, _, rfl, a, _, _, _, rfl, rfl, SqL.of ha, atZ rfl hz, _, _, rfl, rfl, _, rfl, ?_⟩
  refine iteD (fun c1 => ?_) (fun c1 => ?_)
  case refine_2 => exact ⟨_, rfl, iteT (iteT (fail (if_neg fun x => c1 x.1)))⟩
  refine ⟨_, rfl, _, _, rfl, rfl, _, rfl, ?_⟩
  refine iteN (fun c2 => iteT (fail (if_neg fun x => c2 x.2.1))) (fun c2 => ?_)
  have dl : (ns.drop (k + 1)).length = ns.length - (k + 1) := List.length_drop
  refine ⟨_, rfl, _, _, rfl, rfl, _, rfl, _, rfl, a, _, _, _, rfl, rfl, SqL.of ha, atZ rfl hz, _, _, rfl, rfl, _, rfl, a, _, rfl, .inl (SqL.of ha), _, _, rfl, rfl, _, rfl, ?_⟩
  refine iteD (fun c3 => ?_) (fun c3 => ?_)
  · refine fail (if_neg fun x => ?_)
    have := x.2.2.1
    rw [len] at c3
    omega
  rw [len] at c3
  -- text
  refine ⟨_, rfl, _, rfl, _, _, rfl, rfl, _, rfl, _, rfl, _, _, rfl, rfl, _, rfl, _, rfl, a, _, _, _, rfl, rfl, SqL.of ha, atZ rfl hz, _, _, rfl, rfl, _, rfl, a, _, rfl, SqL.of ha, fun p hp => ?_⟩
  refine ⟨p, _, rfl, .inl ⟨SqL.of upd_same, fun t ht => ?_⟩⟩
  have s2 : Same H (upd (upd H p (.lst (cutV (ns.map V.int) (some ((k : Int) + 1)) (some ((k : Int) + 1 + z))))) t (.tup (cutV (ns.map V.int) (some ((k : Int) + 1)) (some ((k : Int) + 1 + z))))) := (same_new hp).trans (same_new ht)
  have cut : cutV (ns.map V.int) (some ((k : Int) + 1)) (some ((k : Int) + 1 + z)) = ((ns.drop (k + 1)).take z.toNat).map V.int := by
    rw [cut_two (a := k + 1) (b := k + 1 + z.toNat) (by omega) (by omega), List.map_take, List.map_drop, Nat.add_sub_cancel_left]
  have hT : (upd (upd H p (.lst (cutV (ns.map V.int) (some ((k : Int) + 1)) (some ((k : Int) + 1 + z))))) t (.tup (cutV (ns.map V.int) (some ((k : Int) + 1)) (some ((k : Int) + 1 + z))))) t = some (.tup (((ns.drop (k + 1)).take z.toNat).map V.int)) := by
    rw [upd_same, cut]
  generalize (upd (upd H p (.lst (cutV (ns.map V.int) (some ((k : Int) + 1)) (some ((k : Int) + 1 + z))))) t (.tup (cutV (ns.map V.int) (some ((k : Int) + 1)) (some ((k : Int) + 1 + z))))) = H2 at s2 hT
  have tl : ((ns.drop (k + 1)).take z.toNat).length = z.toNat := by
    rw [List.length_take, dl]
    omega
  -- all([..])
  refine ⟨_, rfl, t, rfl, ⟨_, SqT.of hT⟩, lc_fnT (F := fun b => V.bl (decide (32 ≤ b) && decide (b ≤ 126))) hT (by rw [tl]; exact small_le (by omega)) (fun b hb H3 s3 Qy k3 => ?_) (fun D H3 hD s3 e3 => ?_) gN⟩
  · refine ⟨rfl, _, rfl, _, _, rfl, rfl, _, rfl, ?_⟩
    refine iteD (fun c4 => ?_) (fun c4 => ?_)
    · refine ⟨_, _, rfl, rfl, ?_⟩
      have := k3 H3 (Same.refl _)
      rw [decide_eq_true c4, Bool.true_and] at this
      exact this
    · have := k3 H3 (Same.refl _)
      rw [decide_eq_false c4, Bool.false_and] at this
      exact this
  refine ⟨D, ((ns.drop (k + 1)).take z.toNat).map (fun b => decide (32 ≤ b) && decide (b ≤ 126)), rfl, SqL.of (by rw [e3, List.map_map]; rfl), _, rfl, ?_⟩
  rw [bytes_all]
  have hA := s3 a _ (s2 a _ ha)
  have good : ∀ v H4, Same H H4 → Got (fun H v t => TN H v t) ns.length (if l ≤ z ∧ z ≤ m ∧ z ≤ ((ns.drop (k + 1)).length : Int) ∧ ((ns.drop (k + 1)).take z.toNat).all okB = true then some (((ns.drop (k + 1)).take z.toNat).map Int.toNat, (ns.drop (k + 1)).drop z.toNat) else none) v H4 → Q v H4 := q
  refine iteBN (fun c5 => good _ _ (s2.trans s3) ?_) (fun c5 => ?_)
  · rw [if_neg (fun x => by rw [x.2.2.2] at c5; cases c5)]
    rfl
  refine ⟨_, rfl, _, rfl, _, _, rfl, rfl, _, rfl, _, rfl, a, _, _, _, rfl, rfl, SqL.of hA, atZ rfl hz, _, _, rfl, rfl, (by show 2 ≤ sizeLine; decide), fun r hr2 => ?_⟩
  refine good _ _ ((s2.trans s3).trans (same_new hr2)) ?_
  rw [if_pos ⟨c1, c2, by rw [dl]; omega, c5⟩]
  refine ⟨_, Tup.of (upd_same.trans ?_), ⟨t, rfl, ?_⟩⟩
  · have e : (k : Int) + 1 + z = ((ns.length - ((ns.drop (k + 1)).drop z.toNat).length : Nat) : Int) := by
      rw [List.length_drop, dl]
      omega
    exact congrArg (fun z => some (HO.tup [V.ref t, .int z])) e
  · rw [upd_ne (ne_of_none (s3 t _ hT) hr2), s3 t _ hT]
    unfold ni
    rw [List.map_map]
    refine congrArg (fun x => some (HO.tup x)) (List.map_congr_left fun b hb => ?_)
    have := List.all_eq_true.mp c5 b hb
    unfold okB at this
    simp only [Bool.and_eq_true, decide_eq_true_eq] at this
    simp only [Function.comp]
    congr 1
    omega
def PairAt (H : Hp) (v : V) (u : Nat × Nat) : Prop := Tup H v [.int (u.1 : Int), .int (u.2 : Int)]
def spReadSpan : Sp := fun vs H Q _ => ∃ (a : Addr) (ns : List Int) (k : Nat) (l m : Int), vs = [.ref a, .int (k : Int), .int l, .int m] ∧ H a = some (.lst (ns.map V.int)) ∧ ns.length ≤ 200 ∧ k ≤ ns.length ∧ 0 ≤ l ∧
  ∀ v H1, Same H H1 → Got PairAt ns.length (rSpan l m (ns.drop k)) v H1 → Q v H1
theorem ok_read_span (T : Txt K mg) : FnOk P w K mg base CX0 1 T.d_read_span.f T.d_read_span.fd ["n", "at", "least", "most"] spReadSpan := by
  refine T.d_read_span.F.ok sc_read_span (fun vs H Q E h => ?_) (fun cdv A outer s H vs Q E hr h => ?_)
  · obtain ⟨a, ns, k, l, m, rfl, _⟩ := h
    rfl
  obtain ⟨a, ns, k, l, m, rfl, ha, h200, hk, hl, q⟩ := h
  refine ⟨_, (pss_cons (ps_if (PW.pt (pw_or (pt_cmpR op_gt (pe_op op_add (pv 1) pe_int) (pe_callB call_len_seq (by rfl) T.b_len PySem.boot_len (pa_cons (pv 0) pa_nil)) (nomark _)) (pw_or1 (pt_not (pt_chain3 op_le op_le op_le (pv 2) (pe_ix ix_list (pv 0) (pv 1) (fun _ _ => rfl)) (pe_ix ix_list (pv 0) (pe_op op_add (pv 1) pe_int) (fun _ _ => rfl)) (pv 3))))))
    (pss_one (ps_ret pe_non))
    pss_nil)
    (pss_one (ps_ret (pe_tup (pa_cons (pe_tup (pa_cons (pe_ix ix_list (pv 0) (pv 1) (fun _ _ => rfl)) (pa_cons (pe_ix ix_list (pv 0) (pe_op op_add (pv 1) pe_int) (fun _ _ => rfl)) pa_nil))) (pa_cons (pe_op op_add (pv 1) pe_int) pa_nil)))))), ?_⟩
  have len : (ns.map V.int).length = ns.length := List.length_map _
  have fail : rSpan l m (ns.drop k) = none → Q .non H := fun e => q _ _ (Same.refl H) (by rw [e]; rfl)
  refine ⟨_, rfl, _, _, rfl, rfl, _, rfl, a, _, rfl, .inl (SqL.of ha), _, _, rfl, rfl, _, rfl, ?_⟩
  refine iteD (fun c => iteT (fail ?_)) (fun c => ?_)
  · rw [len] at c
    have dl : (ns.drop k).length = ns.length - k := List.length_drop
    match e : ns.drop k with
    | [] => rfl
    | [_] => rfl
    | _ :: _ :: r =>
      rw [e] at dl
      simp only [List.length_cons] at dl
      omega
  rw [len] at c
  have hlt : k < ns.length := by omega
  have hlt2 : k + 1 < ns.length := by omega
  have hz : ns[k]? = some ns[k] := List.getElem?_eq_getElem hlt
  have hz2 : ns[k + 1]? = some ns[k + 1] := List.getElem?_eq_getElem hlt2
  have hd : ns.drop k = ns[k] :: ns[k + 1] :: ns.drop (k + 2) := by
    rw [List.drop_eq_getElem_cons hlt, List.drop_eq_getElem_cons hlt2]
  generalize ns[k] = z at hz hd
  generalize ns[k + 1] = y at hz2 hd
  rw [hd] at fail q
  simp only [rSpan] at fail q
  refine ⟨_, rfl, _, rfl, _, rfl, a, _, _, _, rfl, rfl, SqL.of ha, atZ rfl hz, _, _, rfl, rfl, _, rfl, ?_⟩
  refine iteD (fun c1 => ?_) (fun c1 => ?_)
  case refine_2 => exact ⟨_, rfl, iteT (fail (if_neg fun x => c1 x.1))⟩
  refine ⟨_, rfl, _, rfl, _, _, rfl, rfl, a, _, _, _, rfl, rfl, SqL.of ha, atZ (j := k + 1) (by omega) hz2, _, _, rfl, rfl, _, rfl, ?_⟩
  refine iteD (fun c2 => ?_) (fun c2 => ?_)
  case refine_2 => exact ⟨_, rfl, iteT (fail (if_neg fun x => c2 x.2.1))⟩
  refine ⟨_, rfl, _, _, rfl, rfl, _, rfl, ?_⟩
  refine iteN (fun c3 => fail (if_neg fun x => c3 x.2.2)) (fun c3 => ?_)
  refine ⟨_, rfl, _, rfl, a, _, _, _, rfl, rfl, SqL.of ha, atZ rfl hz, _, rfl, _, rfl, _, _, rfl, rfl, a, _, _, _, rfl, rfl, SqL.of ha, atZ (j := k + 1) (by omega) hz2, (by show 2 ≤ sizeLine; decide), fun p hp => ?_⟩
  refine ⟨_, rfl, _, _, rfl, rfl, (by show 2 ≤ sizeLine; decide), fun r hr2 => ?_⟩
  refine q _ _ ((same_new hp).trans (same_new hr2)) ?_
  rw [if_pos ⟨c1, c2, c3⟩]
  refine ⟨_, Tup.of (upd_same.trans ?_), ⟨p, rfl, ?_⟩⟩
  · have e : (k : Int) + 2 = ((ns.length - (ns.drop (k + 2)).length : Nat) : Int) := by
      rw [List.length_drop]
      omega
    exact congrArg (fun z => some (HO.tup [V.ref p, .int z])) e
  · rw [upd_ne (ne_of_none upd_same hr2), upd_same]
    have e1 : ((z.toNat : Nat) : Int) = z := by omega
    have e2 : ((y.toNat : Nat) : Int) = y := by omega
    rw [e1, e2]
end
end Asc
namespace Asc
open PySem PySem.Spec PyProof.Rows L2
open VafmsBase (Fmt)
section
variable {P : Program} {w : World} {K : PySem.W.Frag} {mg : Str → Option PySem.Value} {base : Heap}

/-- a reader from a place of a list on: what is left from there is short enough for j rounds -/
def spRd {α : Type} (R : Hp → V → α → Prop) (rp : List Int → Option (α × List Int)) (d j : Nat) : Sp := fun vs H Q _ => ∃ (a : Addr) (ns : List Int) (k : Nat), vs = [.ref a, .int (k : Int)] ∧ H a = some (.lst (ns.map V.int)) ∧ ns.length ≤ 200 ∧ k ≤ ns.length ∧ ns.length - k + d ≤ 2 * j ∧
  ∀ v H1, Same H H1 → Got R ns.length (rp (ns.drop k)) v H1 → Q v H1
abbrev spReadRow (j : Nat) : Sp := spRd (fun H v f => RowAt H f v) rdR 2 j
abbrev spReadPiece (j : Nat) : Sp := spRd (fun H v p => PcAt H p v) rd1 1 j
def rdEither (x : List Int) : Option (Pc × List Int) := (rdR x).bind fun a => (rdR a.2).map fun b => (.alt a.1 b.1, b.2)
def rdRepeat (x : List Int) : Option (Pc × List Int) := (rText 0 8 x).bind fun s => (rSpan 0 4 s.2).bind fun u => (rdR u.2).map fun a => (.rep s.1 u.1.1 u.1.2 a.1, a.2)
abbrev spReadEither (j : Nat) : Sp := spRd (fun H v p => PcAt H p v) rdEither 2 j
abbrev spReadRepeat (j : Nat) : Sp := spRd (fun H v p => PcAt H p v) rdRepeat 2 j
theorem atTup {H : Hp} {v : V} {xs : List V} (h : Tup H v xs) : ∃ a, v = .ref a ∧ SqT K H a xs := by
  obtain ⟨a, e, q⟩ := h
  exact ⟨a, e, SqT.of q⟩
theorem ok_read_either {j : Nat} (T : Txt K mg) (G_read_row : FnF P w K mg base (3 * j + 1) T.d_read_row.f T.d_read_row.fd ["n", "at"] (spReadRow j)) :
    FnF P w K mg base (3 * j + 2) T.d_read_either.f T.d_read_either.fd ["n", "at"] (spReadEither j) := by
  refine okF T.d_read_either.F sc_read_either (fun vs H Q E h => ?_) (fun cdv A outer s H vs Q E hr h => ?_)
  · obtain ⟨a, ns, k, rfl, _⟩ := h
    rfl
  obtain ⟨a, ns, k, rfl, ha, h200, hk, hj, q⟩ := h
  refine ⟨_, (pss_cons (ps_set (i := 2) sc_read_either.nd rfl (Or.inl rfl) (pe_callF G_read_row (hr.mono (by omega)) rfl T.d_read_row.m T.d_read_row.F.kp T.d_read_row.b (pa_cons (pv 0) (pa_cons (pv 1) pa_nil))))
    (pss_cons (ps_set (i := 3) sc_read_either.nd rfl (Or.inl rfl) (pe_ifExp (pt_cmpR op_isN (pv 2) pe_non (nomark _)) pe_non (pe_callF G_read_row (hr.mono (by omega)) rfl T.d_read_row.m T.d_read_row.F.kp T.d_read_row.b (pa_cons (pv 0) (pa_cons (pe_ix ix_tup (pv 2) pe_int (fun _ _ => rfl)) pa_nil)))))
    (pss_one (ps_ret (pe_ifExp (pt_cmpR op_isN (pv 3) pe_non (nomark _)) pe_non (pe_tup (pa_cons (pe_tup (pa_cons (pe_glob (v := .int 3) rfl T.c_EITHER.2 ⟨_, rfl⟩) (pa_cons (pe_ix ix_tup (pv 2) pe_int (fun _ _ => rfl)) (pa_cons (pe_ix ix_tup (pv 3) pe_int (fun _ _ => rfl)) pa_nil)))) (pa_cons (pe_ix ix_tup (pv 3) pe_int (fun _ _ => rfl)) pa_nil)))))))), ?_⟩
  refine ⟨_, rfl, _, rfl, a, ns, k, rfl, ha, h200, hk, hj, fun v1 H1 s1 g1 => ?_⟩
  have bad : rdEither (ns.drop k) = none → ∀ H2, Same H H2 → Q .non H2 := fun e H2 s2 => q _ _ s2 (by rw [e]; rfl)
  unfold rdEither at bad q
  cases e1 : rdR (ns.drop k) with
  | none =>
    rw [e1] at g1 bad
    have e2 : v1 = .non := g1
    subst e2
    refine ⟨_, rfl, rfl, _, rfl, iteT ⟨_, rfl, rfl, _, rfl, iteT (bad rfl H1 s1)⟩⟩
  | some u1 =>
    rw [e1] at g1 bad q
    simp only [Option.bind_some] at bad q
    obtain ⟨x1, t1, r1⟩ := g1
    obtain ⟨b1, rfl, t1'⟩ := t1
    obtain ⟨p1, p2, p3⟩ := suf_at sufR hk e1
    refine ⟨_, rfl, rfl, _, rfl, iteF ?_⟩
    refine ⟨_, rfl, _, rfl, b1, _, 1, _, rfl, rfl, SqT.of t1', rfl, a, ns, ns.length - u1.2.length, rfl, s1 a _ ha, h200, p2, by omega, fun v2 H2 s2 g2 => ?_⟩
    rw [p3] at g2
    cases e2 : rdR u1.2 with
    | none =>
      rw [e2] at g2 bad
      have e3 : v2 = .non := g2
      subst e3
      exact ⟨_, rfl, rfl, _, rfl, iteT (bad rfl H2 (s1.trans s2))⟩
    | some u2 =>
      rw [e2] at g2 q
      simp only [Option.map_some] at q
      obtain ⟨x2, t2, r2⟩ := g2
      obtain ⟨b2, rfl, t2'⟩ := t2
      refine ⟨_, rfl, rfl, _, rfl, iteF ?_⟩
      refine ⟨_, rfl, b1, _, 0, _, rfl, rfl, SqT.of (s2 b1 _ t1'), rfl, _, rfl, b2, _, 0, _, rfl, rfl, SqT.of t2', rfl, (by show 3 ≤ sizeLine; decide), fun c hc => ?_⟩
      refine ⟨_, rfl, b2, _, 1, _, rfl, rfl, SqT.of ((same_new hc) b2 _ t2'), rfl, (by show 2 ≤ sizeLine; decide), fun d hd => ?_⟩
      have s3 := (same_new (o := .tup [.int 3, x1, x2]) hc).trans (same_new (o := .tup [.ref c, .int ((ns.length - u2.2.length : Nat) : Int)]) hd)
      refine q _ _ ((s1.trans s2).trans s3) ⟨.ref c, Tup.of upd_same, x1, x2, Tup.of ?_, (r1.mono s2).mono s3, r2.mono s3⟩
      rw [upd_ne (ne_of_none upd_same hd), upd_same]
theorem ok_read_repeat {j : Nat} (T : Txt K mg) (G_read_row : FnF P w K mg base (3 * j + 1) T.d_read_row.f T.d_read_row.fd ["n", "at"] (spReadRow j)) :
    FnF P w K mg base (3 * j + 2) T.d_read_repeat.f T.d_read_repeat.fd ["n", "at"] (spReadRepeat j) := by
  have G_read_text := ok_read_text (P := P) (w := w) (base := base) T
  have G_read_span := ok_read_span (P := P) (w := w) (base := base) T
  refine okF T.d_read_repeat.F sc_read_repeat (fun vs H Q E h => ?_) (fun cdv A outer s H vs Q E hr h => ?_)
  · obtain ⟨a, ns, k, rfl, _⟩ := h
    rfl
  obtain ⟨a, ns, k, rfl, ha, h200, hk, hj, q⟩ := h
  refine ⟨_, (pss_cons (ps_set (i := 2) sc_read_repeat.nd rfl (Or.inl rfl) (pe_call G_read_text hr.r1 rfl T.d_read_text.m T.d_read_text.F.kp T.d_read_text.b .nil pass0 (pa_cons (pv 0) (pa_cons (pv 1) (pa_cons pe_int (pa_cons (pe_glob (v := .int 8) rfl T.c_MOST_LITERAL.2 ⟨_, rfl⟩) pa_nil))))))
    (pss_cons (ps_set (i := 3) sc_read_repeat.nd rfl (Or.inl rfl) (pe_ifExp (pt_cmpR op_isN (pv 2) pe_non (nomark _)) pe_non (pe_call G_read_span hr.r1 rfl T.d_read_span.m T.d_read_span.F.kp T.d_read_span.b .nil pass0 (pa_cons (pv 0) (pa_cons (pe_ix ix_tup (pv 2) pe_int (fun _ _ => rfl)) (pa_cons pe_int (pa_cons (pe_glob (v := .int 4) rfl T.c_MOST_TIMES.2 ⟨_, rfl⟩) pa_nil)))))))
    (pss_cons (ps_set (i := 4) sc_read_repeat.nd rfl (Or.inl rfl) (pe_ifExp (pt_cmpR op_isN (pv 3) pe_non (nomark _)) pe_non (pe_callF G_read_row (hr.mono (by omega)) rfl T.d_read_row.m T.d_read_row.F.kp T.d_read_row.b (pa_cons (pv 0) (pa_cons (pe_ix ix_tup (pv 3) pe_int (fun _ _ => rfl)) pa_nil)))))
    (pss_one (ps_ret (pe_ifExp (pt_cmpR op_isN (pv 4) pe_non (nomark _)) pe_non (pe_tup (pa_cons (pe_op op_cat2 (pe_op op_cat2 (pe_tup (pa_cons (pe_glob (v := .int 5) rfl T.c_REPEAT.2 ⟨_, rfl⟩) (pa_cons (pe_ix ix_tup (pv 2) pe_int (fun _ _ => rfl)) pa_nil))) (pe_ix ix_tup (pv 3) pe_int (fun _ _ => rfl))) (pe_tup (pa_cons (pe_ix ix_tup (pv 4) pe_int (fun _ _ => rfl)) pa_nil))) (pa_cons (pe_ix ix_tup (pv 4) pe_int (fun _ _ => rfl)) pa_nil))))))))), ?_⟩
  have bad : rdRepeat (ns.drop k) = none → ∀ H2, Same H H2 → Q .non H2 := fun e H2 s2 => q _ _ s2 (by rw [e]; rfl)
  unfold rdRepeat at bad q
  refine ⟨_, rfl, _, rfl, a, ns, k, 0, 8, rfl, ha, h200, hk, Int.le_refl 0, fun v1 H1 s1 g1 => ?_⟩
  cases e1 : rText 0 8 (ns.drop k) with
  | none =>
    rw [e1] at g1 bad
    have e2 : v1 = .non := g1
    subst e2
    refine ⟨_, rfl, rfl, _, rfl, iteT ⟨_, rfl, rfl, _, rfl, iteT ⟨_, rfl, rfl, _, rfl, iteT (bad rfl H1 s1)⟩⟩⟩
  | some u1 =>
    rw [e1] at g1 bad q
    simp only [Option.bind_some] at bad q
    obtain ⟨x1, t1, r1⟩ := g1
    obtain ⟨b1, rfl, t1'⟩ := t1
    obtain ⟨p1, p2, p3⟩ := suf_at (sufText 0 8) hk e1
    refine ⟨_, rfl, rfl, _, rfl, iteF ?_⟩
    refine ⟨_, rfl, _, rfl, b1, _, 1, _, rfl, rfl, SqT.of t1', rfl, a, ns, ns.length - u1.2.length, 0, 4, rfl, s1 a _ ha, h200, p2, Int.le_refl 0, fun v2 H2 s2 g2 => ?_⟩
    rw [p3] at g2
    cases e2 : rSpan 0 4 u1.2 with
    | none =>
      rw [e2] at g2 bad
      have e3 : v2 = .non := g2
      subst e3
      exact ⟨_, rfl, rfl, _, rfl, iteT ⟨_, rfl, rfl, _, rfl, iteT (bad rfl H2 (s1.trans s2))⟩⟩
    | some u2 =>
      rw [e2] at g2 bad q
      simp only [Option.bind_some] at bad q
      obtain ⟨x2, t2, r2⟩ := g2
      obtain ⟨b2, rfl, t2'⟩ := t2
      have e2' := e2
      rw [← p3] at e2'
      obtain ⟨p4, p5, p6⟩ := suf_at (sufSpan 0 4) p2 e2'
      refine ⟨_, rfl, rfl, _, rfl, iteF ?_⟩
      refine ⟨_, rfl, _, rfl, b2, _, 1, _, rfl, rfl, SqT.of t2', rfl, a, ns, ns.length - u2.2.length, rfl, s2 a _ (s1 a _ ha), h200, p5, by omega, fun v3 H3 s3 g3 => ?_⟩
      rw [p6] at g3
      cases e3 : rdR u2.2 with
      | none =>
        rw [e3] at g3 bad
        have e4 : v3 = .non := g3
        subst e4
        exact ⟨_, rfl, rfl, _, rfl, iteT (bad rfl H3 ((s1.trans s2).trans s3))⟩
      | some u3 =>
        rw [e3] at g3 q
        simp only [Option.map_some] at q
        obtain ⟨x3, t3, r3⟩ := g3
        obtain ⟨b3, rfl, t3'⟩ := t3
        refine ⟨_, rfl, rfl, _, rfl, iteF ?_⟩
        refine ⟨_, rfl, b1, _, 0, _, rfl, rfl, SqT.of (s3 b1 _ (s2 b1 _ t1')), rfl, (by show 2 ≤ sizeLine; decide), fun c hc => ?_⟩
        have s4 := same_new (o := .tup [.int 5, x1]) hc
        refine ⟨_, rfl, b2, _, 0, _, rfl, rfl, SqT.of (s4 b2 _ (s3 b2 _ t2')), rfl, _, _, Tup.of upd_same, (r2.mono s3).mono s4, (by show 2 + 2 ≤ sizeLine; decide), fun v5 H5 s5 t5 => ?_⟩
        refine ⟨_, rfl, b3, _, 0, _, rfl, rfl, SqT.of (s5 b3 _ (s4 b3 _ t3')), rfl, (by show 1 ≤ sizeLine; decide), fun d hd => ?_⟩
        have s6 := same_new (o := .tup [x3]) hd
        refine ⟨_, _, t5.mono s6, Tup.of upd_same, (by show 4 + 1 ≤ sizeLine; decide), fun v7 H7 s7 t7 => ?_⟩
        refine ⟨_, rfl, b3, _, 1, _, rfl, rfl, SqT.of (s7 b3 _ (s6 b3 _ (s5 b3 _ (s4 b3 _ t3')))), rfl, (by show 2 ≤ sizeLine; decide), fun e he => ?_⟩
        have s8 := same_new (o := .tup [v7, .int ((ns.length - u3.2.length : Nat) : Int)]) he
        have s38 := (((s4.trans s5).trans s6).trans s7).trans s8
        refine q _ _ (((s1.trans s2).trans s3).trans s38) ⟨v7, Tup.of upd_same, x1, x3, t7.mono s8, ((r1.mono s2).mono s3).mono s38, r3.mono s38⟩
end
end Asc
namespace Asc
open PySem PySem.Spec PyProof.Rows L2
open VafmsBase (Fmt)
section
variable {P : Program} {w : World} {K : PySem.W.Frag} {mg : Str → Option PySem.Value} {base : Heap}

/-- kind == a number, where the kind is known -/
theorem kindT {i j : Int} {A B : Prop} (e : i = j) (h : A) : if decide (V.int i = V.int j) = true then A else B := by
  subst e
  exact ifT (decide_eq_true rfl) h
theorem kindF {i j : Int} {A B : Prop} (e : i ≠ j) (h : B) : if decide (V.int i = V.int j) = true then A else B :=
  ifF (decide_eq_false (by intro z; injection z with z; exact e z)) h
theorem ok_read_piece {j : Nat} (T : Txt K mg) (G_read_row : FnF P w K mg base (3 * j + 1) T.d_read_row.f T.d_read_row.fd ["n", "at"] (spReadRow j)) :
    FnF P w K mg base (3 * j + 3) T.d_read_piece.f T.d_read_piece.fd ["n", "at"] (spReadPiece j) := by
  have G_read_text := ok_read_text (P := P) (w := w) (base := base) T
  have G_read_span := ok_read_span (P := P) (w := w) (base := base) T
  have G_read_either := ok_read_either T G_read_row
  have G_read_repeat := ok_read_repeat T G_read_row
  refine okF T.d_read_piece.F sc_read_piece (fun vs H Q E h => ?_) (fun cdv A outer s H vs Q E hr h => ?_)
  · obtain ⟨a, ns, k, rfl, _⟩ := h
    rfl
  obtain ⟨a, ns, k, rfl, ha, h200, hk, hj, q⟩ := h
  refine ⟨_, (pss_cons (ps_set (i := 2) sc_read_piece.nd rfl (Or.inl rfl) (pe_ifExp (pt_cmpR op_lt (pv 1) (pe_callB call_len_seq (by rfl) T.b_len PySem.boot_len (pa_cons (pv 0) pa_nil)) (nomark _)) (pe_ix ix_list (pv 0) (pv 1) (fun _ _ => rfl)) pe_non))
    (pss_cons (ps_if (pt_cmpR op_eq (pv 2) (pe_glob (v := .int 0) rfl T.c_LITERAL.2 ⟨_, rfl⟩) (nomark _))
    (pss_cons (ps_set (i := 3) sc_read_piece.nd rfl (Or.inl rfl) (pe_call G_read_text hr.r1 rfl T.d_read_text.m T.d_read_text.F.kp T.d_read_text.b .nil pass0 (pa_cons (pv 0) (pa_cons (pe_op op_add (pv 1) pe_int) (pa_cons pe_int (pa_cons (pe_glob (v := .int 8) rfl T.c_MOST_LITERAL.2 ⟨_, rfl⟩) pa_nil))))))
    (pss_one (ps_ret (pe_ifExp (pt_cmpR op_isN (pv 3) pe_non (nomark _)) pe_non (pe_tup (pa_cons (pe_tup (pa_cons (pe_glob (v := .int 0) rfl T.c_LITERAL.2 ⟨_, rfl⟩) (pa_cons (pe_ix ix_tup (pv 3) pe_int (fun _ _ => rfl)) pa_nil))) (pa_cons (pe_ix ix_tup (pv 3) pe_int (fun _ _ => rfl)) pa_nil)))))))
    pss_nil)
    (pss_cons (ps_if (pt_cmpR op_in_seq (pv 2) (pe_tup (pa_cons (pe_glob (v := .int 1) rfl T.c_NUMBER.2 ⟨_, rfl⟩) (pa_cons (pe_glob (v := .int 2) rfl T.c_WORD.2 ⟨_, rfl⟩) pa_nil))) (by rfl))
    (pss_cons (ps_set (i := 4) sc_read_piece.nd rfl (Or.inl rfl) (pe_call G_read_span hr.r1 rfl T.d_read_span.m T.d_read_span.F.kp T.d_read_span.b .nil pass0 (pa_cons (pv 0) (pa_cons (pe_op op_add (pv 1) pe_int) (pa_cons pe_int (pa_cons (pe_glob (v := .int 4) rfl T.c_MOST_LONG.2 ⟨_, rfl⟩) pa_nil))))))
    (pss_one (ps_ret (pe_ifExp (pt_cmpR op_isN (pv 4) pe_non (nomark _)) pe_non (pe_tup (pa_cons (pe_op op_cat2 (pe_tup (pa_cons (pv 2) pa_nil)) (pe_ix ix_tup (pv 4) pe_int (fun _ _ => rfl))) (pa_cons (pe_ix ix_tup (pv 4) pe_int (fun _ _ => rfl)) pa_nil)))))))
    pss_nil)
    (pss_cons (ps_if (pt_cmpR op_eq (pv 2) (pe_glob (v := .int 3) rfl T.c_EITHER.2 ⟨_, rfl⟩) (nomark _))
    (pss_one (ps_ret (pe_callF G_read_either (hr.mono (by omega)) rfl T.d_read_either.m T.d_read_either.F.kp T.d_read_either.b (pa_cons (pv 0) (pa_cons (pe_op op_add (pv 1) pe_int) pa_nil)))))
    pss_nil)
    (pss_cons (ps_if (pt_cmpR op_eq (pv 2) (pe_glob (v := .int 4) rfl T.c_OPTIONAL.2 ⟨_, rfl⟩) (nomark _))
    (pss_cons (ps_set (i := 5) sc_read_piece.nd rfl (Or.inl rfl) (pe_callF G_read_row (hr.mono (by omega)) rfl T.d_read_row.m T.d_read_row.F.kp T.d_read_row.b (pa_cons (pv 0) (pa_cons (pe_op op_add (pv 1) pe_int) pa_nil))))
    (pss_one (ps_ret (pe_ifExp (pt_cmpR op_isN (pv 5) pe_non (nomark _)) pe_non (pe_tup (pa_cons (pe_tup (pa_cons (pe_glob (v := .int 4) rfl T.c_OPTIONAL.2 ⟨_, rfl⟩) (pa_cons (pe_ix ix_tup (pv 5) pe_int (fun _ _ => rfl)) pa_nil))) (pa_cons (pe_ix ix_tup (pv 5) pe_int (fun _ _ => rfl)) pa_nil)))))))
    pss_nil)
    (pss_one (ps_ret (pe_ifExp (pt_cmpR op_eq (pv 2) (pe_glob (v := .int 5) rfl T.c_REPEAT.2 ⟨_, rfl⟩) (nomark _)) (pe_callF G_read_repeat (hr.mono (by omega)) rfl T.d_read_repeat.m T.d_read_repeat.F.kp T.d_read_repeat.b (pa_cons (pv 0) (pa_cons (pe_op op_add (pv 1) pe_int) pa_nil))) pe_non)))))))), ?_⟩
  have len : (ns.map V.int).length = ns.length := List.length_map _
  refine ⟨_, rfl, _, rfl, a, _, rfl, .inl (SqL.of ha), _, _, rfl, rfl, _, rfl, ?_⟩
  refine iteD (fun c => ?_) (fun c => ?_)
  case refine_2 =>
    -- kind is None
    rw [len] at c
    have e0 : rd1 (ns.drop k) = none := by
      rw [List.drop_of_length_le (by omega)]
      rfl
    have fin : ∀ H2, Same H H2 → Q .non H2 := fun H2 s2 => q _ _ s2 (by rw [e0]; rfl)
    refine ⟨_, rfl, rfl, _, rfl, iteF ?_⟩
    refine ⟨_, rfl, (by show 2 ≤ sizeLine; decide), fun p hp => ?_⟩
    refine ⟨p, _, rfl, .inr (SqT.of upd_same), rfl, rfl, _, rfl, iteF ?_⟩
    refine ⟨_, rfl, rfl, _, rfl, iteF ?_⟩
    refine ⟨_, rfl, rfl, _, rfl, iteF ?_⟩
    refine ⟨_, rfl, rfl, _, rfl, iteF (fin _ (same_new hp))⟩
  rw [len] at c
  have hlt : k < ns.length := by omega
  have hz : ns[k]? = some ns[k] := List.getElem?_eq_getElem hlt
  have hd : ns.drop k = ns[k] :: ns.drop (k + 1) := List.drop_eq_getElem_cons hlt
  generalize ns[k] = z at hz hd
  rw [hd, rd1_cons] at q
  have bad : rdKind rdR z (ns.drop (k + 1)) = none → ∀ H2, Same H H2 → Q .non H2 := fun e H2 s2 => q _ _ s2 (by rw [e]; rfl)
  have good : ∀ u, rdKind rdR z (ns.drop (k + 1)) = some u → ∀ v H2, Same H H2 → (∃ x, Tup H2 v [x, .int ((ns.length - u.2.length : Nat) : Int)] ∧ PcAt H2 u.1 x) → Q v H2 := fun u e v H2 s2 g => q _ _ s2 (by rw [e]; exact g)
  refine ⟨_, rfl, _, rfl, a, _, _, _, rfl, rfl, SqL.of ha, atZ rfl hz, ?_⟩
  refine ⟨_, rfl, rfl, _, rfl, ?_⟩
  by_cases k0 : z = 0
  · refine kindT k0 ?_
    subst k0
    refine ⟨_, rfl, _, rfl, _, _, rfl, rfl, a, ns, k + 1, 1, 8, rfl, ha, h200, hlt, by decide, fun v1 H1 s1 g1 => ?_⟩
    have e0 : rdKind rdR 0 (ns.drop (k + 1)) = (rText 1 8 (ns.drop (k + 1))).map fun w => (Pc.lit w.1, w.2) := rfl
    rw [e0] at bad good
    cases e1 : rText 1 8 (ns.drop (k + 1)) with
    | none =>
      rw [e1] at g1 bad
      have e2 : v1 = .non := g1
      subst e2
      exact ⟨_, rfl, rfl, _, rfl, iteT (bad rfl H1 s1)⟩
    | some u1 =>
      rw [e1] at g1 good
      obtain ⟨x1, t1, r1⟩ := g1
      obtain ⟨b1, rfl, t1'⟩ := t1
      refine ⟨_, rfl, rfl, _, rfl, iteF ?_⟩
      refine ⟨_, rfl, b1, _, 0, _, rfl, rfl, SqT.of t1', rfl, (by show 2 ≤ sizeLine; decide), fun c hc => ?_⟩
      have s2 := same_new (o := .tup [.int 0, x1]) hc
      refine ⟨_, rfl, b1, _, 1, _, rfl, rfl, SqT.of (s2 b1 _ t1'), rfl, (by show 2 ≤ sizeLine; decide), fun d hd2 => ?_⟩
      have s3 := same_new (o := .tup [.ref c, .int ((ns.length - u1.2.length : Nat) : Int)]) hd2
      exact good _ rfl _ _ ((s1.trans s2).trans s3) ⟨.ref c, Tup.of upd_same, x1, (Tup.of upd_same).mono s3, (r1.mono s2).mono s3⟩
  refine kindF k0 ?_
  refine ⟨_, rfl, (by show 2 ≤ sizeLine; decide), fun p hp => ?_⟩
  have sp := same_new (o := .tup [.int 1, .int 2]) hp
  refine ⟨p, _, rfl, .inr (SqT.of upd_same), rfl, rfl, _, rfl, ?_⟩
  have mem12 : inV (V.int z) [V.int 1, V.int 2] = (decide (z = 1) || decide (z = 2)) := by
    show ((1 : Int) == z || ((2 : Int) == z || false)) = _
    rw [Bool.eq_iff_iff]
    simp only [Bool.or_eq_true, beq_iff_eq, decide_eq_true_eq, Bool.or_false]
    constructor <;> rintro (h | h) <;> omega
  rw [if_neg (by decide), mem12]
  generalize upd H p (.tup [.int 1, .int 2]) = H0 at sp
  by_cases k12 : z = 1 ∨ z = 2
  · refine ifT (by rcases k12 with h | h <;> simp [h]) ?_
    refine ⟨_, rfl, _, rfl, _, _, rfl, rfl, a, ns, k + 1, 1, 4, rfl, sp a _ ha, h200, hlt, by decide, fun v1 H1 s1 g1 => ?_⟩
    have mk : ∃ F : (Nat × Nat) → Pc, (rdKind rdR z (ns.drop (k + 1)) = (rSpan 1 4 (ns.drop (k + 1))).map fun u => (F u.1, u.2)) ∧ ∀ H v u, Tup H v [.int z, .int (u.1 : Int), .int (u.2 : Int)] → PcAt H (F u) v := by
      rcases k12 with h | h
      · subst h
        exact ⟨fun u => .num u.1 u.2, rfl, fun H v u t => t⟩
      · subst h
        exact ⟨fun u => .word u.1 u.2, rfl, fun H v u t => t⟩
    obtain ⟨F, e0, hF⟩ := mk
    rw [e0] at bad good
    cases e1 : rSpan 1 4 (ns.drop (k + 1)) with
    | none =>
      rw [e1] at g1 bad
      have e2 : v1 = .non := g1
      subst e2
      exact ⟨_, rfl, rfl, _, rfl, iteT (bad rfl H1 (sp.trans s1))⟩
    | some u1 =>
      rw [e1] at g1 good
      obtain ⟨x1, t1, r1⟩ := g1
      obtain ⟨b1, rfl, t1'⟩ := t1
      refine ⟨_, rfl, rfl, _, rfl, iteF ?_⟩
      refine ⟨_, rfl, (by show 1 ≤ sizeLine; decide), fun c hc => ?_⟩
      have s2 := same_new (o := .tup [.int z]) hc
      refine ⟨_, rfl, b1, _, 0, _, rfl, rfl, SqT.of (s2 b1 _ t1'), rfl, _, _, Tup.of upd_same, r1.mono s2, (by show 1 + 2 ≤ sizeLine; decide), fun v5 H5 s5 t5 => ?_⟩
      refine ⟨_, rfl, b1, _, 1, _, rfl, rfl, SqT.of (s5 b1 _ (s2 b1 _ t1')), rfl, (by show 2 ≤ sizeLine; decide), fun d hd2 => ?_⟩
      have s3 := same_new (o := .tup [v5, .int ((ns.length - u1.2.length : Nat) : Int)]) hd2
      exact good _ rfl _ _ ((sp.trans s1).trans ((s2.trans s5).trans s3)) ⟨v5, Tup.of upd_same, hF _ _ _ (t5.mono s3)⟩
  refine ifF (by rw [decide_eq_false (fun h => k12 (.inl h)), decide_eq_false (fun h => k12 (.inr h))]; rfl) ?_
  refine ⟨_, rfl, rfl, _, rfl, ?_⟩
  by_cases k3 : z = 3
  · refine kindT k3 ?_
    subst k3
    refine ⟨_, rfl, _, rfl, _, _, rfl, rfl, a, ns, k + 1, rfl, sp a _ ha, h200, hlt, by omega, fun v1 H1 s1 g1 => ?_⟩
    exact q _ _ (sp.trans s1) g1
  refine kindF k3 ?_
  refine ⟨_, rfl, rfl, _, rfl, ?_⟩
  by_cases k4 : z = 4
  · refine kindT k4 ?_
    subst k4
    refine ⟨_, rfl, _, rfl, _, _, rfl, rfl, a, ns, k + 1, rfl, sp a _ ha, h200, hlt, by omega, fun v1 H1 s1 g1 => ?_⟩
    have e0 : rdKind rdR 4 (ns.drop (k + 1)) = (rdR (ns.drop (k + 1))).map fun w => (Pc.opt w.1, w.2) := rfl
    rw [e0] at bad good
    cases e1 : rdR (ns.drop (k + 1)) with
    | none =>
      rw [e1] at g1 bad
      have e2 : v1 = .non := g1
      subst e2
      exact ⟨_, rfl, rfl, _, rfl, iteT (bad rfl H1 (sp.trans s1))⟩
    | some u1 =>
      rw [e1] at g1 good
      obtain ⟨x1, t1, r1⟩ := g1
      obtain ⟨b1, rfl, t1'⟩ := t1
      refine ⟨_, rfl, rfl, _, rfl, iteF ?_⟩
      refine ⟨_, rfl, b1, _, 0, _, rfl, rfl, SqT.of t1', rfl, (by show 2 ≤ sizeLine; decide), fun c hc => ?_⟩
      have s2 := same_new (o := .tup [.int 4, x1]) hc
      refine ⟨_, rfl, b1, _, 1, _, rfl, rfl, SqT.of (s2 b1 _ t1'), rfl, (by show 2 ≤ sizeLine; decide), fun d hd2 => ?_⟩
      have s3 := same_new (o := .tup [.ref c, .int ((ns.length - u1.2.length : Nat) : Int)]) hd2
      exact good _ rfl _ _ ((sp.trans s1).trans (s2.trans s3)) ⟨.ref c, Tup.of upd_same, x1, (Tup.of upd_same).mono s3, (r1.mono s2).mono s3⟩
  refine kindF k4 ?_
  refine ⟨_, rfl, rfl, _, rfl, ?_⟩
  by_cases k5 : z = 5
  · refine kindT k5 ?_
    subst k5
    refine ⟨_, rfl, _, rfl, _, _, rfl, rfl, a, ns, k + 1, rfl, sp a _ ha, h200, hlt, by omega, fun v1 H1 s1 g1 => ?_⟩
    exact q _ _ (sp.trans s1) g1
  refine kindF k5 (bad ?_ _ sp)
  unfold rdKind
  rw [if_neg k0, if_neg (fun h => k12 (.inl h)), if_neg (fun h => k12 (.inr h)), if_neg k3, if_neg k4, if_neg k5]
theorem ok_read_row {j : Nat} (T : Txt K mg) (G_read_piece : FnF P w K mg base (3 * j + 3) T.d_read_piece.f T.d_read_piece.fd ["n", "at"] (spReadPiece j)) :
    FnF P w K mg base (3 * (j + 1) + 1) T.d_read_row.f T.d_read_row.fd ["n", "at"] (spReadRow (j + 1)) := by
  refine okF T.d_read_row.F sc_read_row (fun vs H Q E h => ?_) (fun cdv A outer s H vs Q E hr h => ?_)
  · obtain ⟨a, ns, k, rfl, _⟩ := h
    rfl
  obtain ⟨a, ns, k, rfl, ha, h200, hk, hj, q⟩ := h
  refine ⟨_, (pss_cons (ps_if (PW.pt (pw_or (pt_cmpR op_ge (pv 1) (pe_callB call_len_seq (by rfl) T.b_len PySem.boot_len (pa_cons (pv 0) pa_nil)) (nomark _)) (pw_or1 (pt_cmpR op_lt (pe_ix ix_list (pv 0) (pv 1) (fun _ _ => rfl)) pe_int (nomark _)))))
    (pss_one (ps_ret pe_non))
    pss_nil)
    (pss_cons (ps_set (i := 2) sc_read_row.nd rfl (Or.inl rfl) (pe_ix ix_list (pv 0) (pv 1) (fun _ _ => rfl)))
    (pss_cons (ps_set (i := 1) sc_read_row.nd rfl (Or.inl rfl) (pe_op op_add (pv 1) pe_int))
    (pss_cons (ps_set (i := 3) sc_read_row.nd rfl (Or.inl rfl) (pe_lst pa_nil))
    (pss_cons (ps_while PassesOwn.never (pt_cmpR op_lt (pe_callB call_len_seq (by rfl) T.b_len PySem.boot_len (pa_cons (pv 3) pa_nil)) (pv 2) (nomark _))
    (pss_cons (ps_set (i := 4) sc_read_row.nd rfl (Or.inl rfl) (pe_callF G_read_piece (hr.mono (by omega)) rfl T.d_read_piece.m T.d_read_piece.F.kp T.d_read_piece.b (pa_cons (pv 0) (pa_cons (pv 1) pa_nil))))
    (pss_cons (ps_if (pt_cmpR op_isN (pv 4) pe_non (nomark _))
    (pss_one (ps_ret pe_non))
    pss_nil)
    (pss_cons (ps_expr (pe_bm PySem.F.plainAttrs_list PySem.F.slot_list_append PySem.F.type_list_append mt_append (pv 3) (pa_cons (pe_ix ix_tup (pv 4) pe_int (fun _ _ => rfl)) pa_nil)))
    (pss_one (ps_set (i := 1) sc_read_row.nd rfl (Or.inl rfl) (pe_ix ix_tup (pv 4) pe_int (fun _ _ => rfl))))))))
    (pss_one (ps_ret (pe_tup (pa_cons (pe_callTy call_tuple_of (by rfl) T.b_tuple (by decide +kernel) (pa_cons (pv 3) pa_nil)) (pa_cons (pv 1) pa_nil)))))))))), ?_⟩
  have len : (ns.map V.int).length = ns.length := List.length_map _
  have bad0 : rdR (ns.drop k) = none → ∀ H2, Same H H2 → Q .non H2 := fun e H2 s2 => q _ _ s2 (by rw [e]; rfl)
  refine ⟨_, rfl, _, rfl, a, _, rfl, .inl (SqL.of ha), _, _, rfl, rfl, _, rfl, ?_⟩
  refine iteD (fun c => ?_) (fun c => ?_)
  · rw [len] at c
    exact iteT (bad0 (by rw [List.drop_of_length_le (by omega)]; rfl) H (Same.refl H))
  rw [len] at c
  have hlt : k < ns.length := by omega
  have hz : ns[k]? = some ns[k] := List.getElem?_eq_getElem hlt
  have hd : ns.drop k = ns[k] :: ns.drop (k + 1) := List.drop_eq_getElem_cons hlt
  generalize ns[k] = z at hz hd
  rw [hd] at q bad0
  simp only [rdR, rdRow] at q bad0
  refine ⟨_, rfl, _, rfl, a, _, _, _, rfl, rfl, SqL.of ha, atZ rfl hz, _, _, rfl, rfl, _, rfl, ?_⟩
  refine iteD (fun c1 => ?_) (fun c1 => ?_)
  · exact bad0 (if_neg (by omega)) H (Same.refl H)
  have z0 : 0 ≤ z := by omega
  rw [if_pos z0] at q bad0
  refine ⟨_, rfl, _, rfl, a, _, _, _, rfl, rfl, SqL.of ha, atZ rfl hz, ?_⟩
  refine ⟨_, rfl, _, _, rfl, rfl, ?_⟩
  refine ⟨(by show 0 ≤ sizeLine; decide), fun l hl => ?_⟩
  refine ⟨fun m σ H1 => ∃ (kk : Nat) (g : Fmt) (ps : List V) (fv : Option V), σ = [some (.ref a), some (.int (kk : Int)), some (.int z), some (.ref l), fv] ∧ Same H H1 ∧ H1 l = some (.lst ps) ∧ RowL H1 g ps ∧ m = z.toNat - ps.length ∧ ps.length ≤ z.toNat ∧
      kk ≤ ns.length ∧ ps.length + k + 1 ≤ kk ∧ rdPs rd1 z.toNat (ns.drop (k + 1)) = (rdPs rd1 (z.toNat - ps.length) (ns.drop kk)).map fun u => (app g u.1, u.2), ⟨z.toNat, k + 1, .done, [], none, rfl, same_new hl, upd_same, rfl, rfl, Nat.zero_le _, hlt, by simp, ?_⟩, ?_⟩
  · simp only [List.length_nil, Nat.sub_zero]
    cases rdPs rd1 z.toNat (ns.drop (k + 1)) <;> rfl
  rintro m σ H1 ⟨kk, g, ps, fv, rfl, s1, hl1, rl, rfl, hps, hkk, hlen, eq⟩
  refine ⟨_, rfl, l, _, rfl, .inl (SqL.of hl1), _, rfl, _, _, rfl, rfl, _, rfl, ?_⟩
  refine iteD (fun c2 => ?_) (fun c2 => ?_)
  · -- a piece more
    refine ⟨fun σ2 H2 => ∃ m2, m2 < z.toNat - ps.length ∧ ∃ (kk : Nat) (g : Fmt) (ps : List V) (fv : Option V), σ2 = [some (.ref a), some (.int (kk : Int)), some (.int z), some (.ref l), fv] ∧ Same H H2 ∧ H2 l = some (.lst ps) ∧ RowL H2 g ps ∧ m2 = z.toNat - ps.length ∧ ps.length ≤ z.toNat ∧
      kk ≤ ns.length ∧ ps.length + k + 1 ≤ kk ∧ rdPs rd1 z.toNat (ns.drop (k + 1)) = (rdPs rd1 (z.toNat - ps.length) (ns.drop kk)).map fun u => (app g u.1, u.2), fun _ _ h => h, ?_⟩
    refine ⟨_, rfl, _, rfl, a, ns, kk, rfl, s1 a _ ha, h200, hkk, by omega, fun v2 H2 s2 g2 => ?_⟩
    have hm : ∃ m, z.toNat - ps.length = m + 1 := ⟨z.toNat - ps.length - 1, by omega⟩
    obtain ⟨m, hm⟩ := hm
    rw [hm] at eq
    simp only [rdPs] at eq
    cases e1 : rd1 (ns.drop kk) with
    | none =>
      rw [e1] at g2 eq
      have e2 : v2 = .non := g2
      subst e2
      exact ⟨_, rfl, rfl, _, rfl, iteT (bad0 (by rw [eq]; rfl) _ (s1.trans s2))⟩
    | some u1 =>
      rw [e1] at g2 eq
      simp only [Option.bind_some] at eq
      obtain ⟨x1, t1, r1⟩ := g2
      obtain ⟨b1, rfl, t1'⟩ := t1
      obtain ⟨p1, p2, p3⟩ := suf_at suf1 hkk e1
      have less := rd1_less _ _ e1
      rw [List.length_drop] at less
      refine ⟨_, rfl, rfl, _, rfl, iteF ?_⟩
      have hl2 := s2 l _ hl1
      refine ⟨_, rfl, .inl ⟨rfl, _, SqL.of hl2⟩, _, rfl, b1, _, 0, _, rfl, rfl, SqT.of t1', rfl, l, ps, x1, rfl, rfl, hl2, small_lt (by omega), ?_⟩
      have s3 : Same H (upd H2 l (.lst (ps ++ [x1]))) := (s1.trans s2).mut hl
      have st := sameT_lst (zs := ps ++ [x1]) hl2
      refine ⟨_, rfl, b1, _, 1, _, rfl, rfl, SqT.of (st b1 _ t1'), rfl, ?_⟩
      refine ⟨m, by omega, ns.length - u1.2.length, app g (u1.1.cons .done), ps ++ [x1], some (.ref b1), rfl, s3, upd_same, ?_, by rw [List.length_append, List.length_singleton]; omega, by rw [List.length_append, List.length_singleton]; omega, p2, by rw [List.length_append, List.length_singleton]; omega, ?_⟩
      · refine rowL_app ?_ ((rl.mono s2).monoT st)
        exact (rowL_cons _ _ _).mpr ⟨x1, [], rfl, r1.monoT st, rfl⟩
      · rw [eq, p3, List.length_append, List.length_singleton, show z.toNat - (ps.length + 1) = m by omega]
        cases rdPs rd1 m u1.2 with
        | none => rfl
        | some u2 =>
          simp only [Option.map_some, app_assoc, app_cons]
          rfl
  · -- all pieces
    have e0 : z.toNat - ps.length = 0 := by omega
    rw [e0] at eq
    simp only [rdPs, Option.map_some, app_done] at eq
    refine ⟨_, rfl, l, _, rfl, .inl ⟨SqL.of hl1, fun t ht => ?_⟩⟩
    have s2 := same_new (o := .tup ps) ht
    refine ⟨_, rfl, (by show 2 ≤ sizeLine; decide), fun r hr2 => ?_⟩
    have s3 := same_new (o := .tup [.ref t, .int (kk : Int)]) hr2
    refine q _ _ (s1.trans (s2.trans s3)) ?_
    rw [eq]
    have e1 : ns.length - (ns.length - kk) = kk := by omega
    exact ⟨.ref t, by rw [List.length_drop, e1]; exact Tup.of upd_same, ps, (Tup.of upd_same).mono s3, rl.mono (s2.trans s3)⟩
theorem none_left {f : Addr} {fd : FuncData} {ps : List Str} {sp : Sp} {k : Nat} (no : ∀ vs H Q E, ¬ sp vs H Q E) : FnOk P w K mg base CX0 k f fd ps sp :=
  ⟨fun vs H Q E h => absurd h (no vs H Q E), fun A outer s H args us vs Q E _ _ _ _ h => absurd h (no vs H Q E)⟩
theorem rows_ok_all (T : Txt K mg) : ∀ j : Nat, FnF P w K mg base (3 * j + 1) T.d_read_row.f T.d_read_row.fd ["n", "at"] (spReadRow j)
  | 0 => noneF fun vs H Q E h => by
    obtain ⟨a, ns, k, _, _, _, _, h, _⟩ := h
    omega
  | j + 1 => ok_read_row T (ok_read_piece T (rows_ok_all T j))
/-- read_row of a list of at most 200 numbers -/
theorem read_row_ok (T : Txt K mg) : FnOk P w K mg base CX0 103 T.d_read_row.f T.d_read_row.fd ["n", "at"] (spReadRow 101) := (rows_ok_all T 101).ok 103 (by omega) (by omega)
end
end Asc
namespace Asc
open PySem PySem.Spec PyProof.Rows L2
open VafmsBase (Fmt)
section
variable {P : Program} {w : World} {K : PySem.W.Frag} {mg : Str → Option PySem.Value} {base : Heap}

theorem at0 {α : Type} {x : α} {xs : List α} : atI (x :: xs) 0 = some x := atI_nat (j := 0) rfl
theorem All2.zip {α : Type} {R : V → α → Prop} : ∀ {vs : List V} {ds : List α}, All2 R vs ds → ∃ zs : List (V × α), zs.map (·.1) = vs ∧ zs.map (·.2) = ds ∧ ∀ z ∈ zs, R z.1 z.2
  | _, _, .nil => ⟨[], rfl, rfl, fun z h => (List.not_mem_nil h).elim⟩
  | v :: vs, d :: ds, .cons h r => by
    obtain ⟨zs, h1, h2, h3⟩ := All2.zip r
    refine ⟨(v, d) :: zs, by rw [List.map_cons, h1], by rw [List.map_cons, h2], fun z hz => ?_⟩
    rcases List.mem_cons.mp hz with rfl | hz
    · exact h
    · exact h3 z hz
theorem rows_deep {p : Pc} {a : Fmt} (h : a ∈ p.rows) : depth a + 1 ≤ p.depth := by
  cases p with
  | lit w => cases h
  | num lo hi => cases h
  | word lo hi => cases h
  | alt a b =>
    simp only [Pc.rows, List.mem_cons, List.not_mem_nil, or_false] at h
    rcases h with rfl | rfl <;> simp only [Pc.depth] <;> omega
  | opt a =>
    simp only [Pc.rows, List.mem_cons, List.not_mem_nil, or_false] at h
    subst h
    exact Nat.le_refl _
  | rep s lo hi a =>
    simp only [Pc.rows, List.mem_cons, List.not_mem_nil, or_false] at h
    subst h
    exact Nat.le_refl _
/-- rows told by formats -/
abbrev RowsAt (H : Hp) (xs : List V) (fs : List Fmt) : Prop := All2 (fun v f => RowAt H f v) xs fs
def spRowsIn : Sp := fun vs H Q _ => ∃ (v : V) (p : Pc), vs = [v] ∧ PcAt H p v ∧
  ∀ l H1 xs, Same H H1 → H l = none → H1 l = some (.lst xs) → RowsAt H1 xs p.rows → Q (.ref l) H1
theorem ok_rows_in (T : Txt K mg) : FnOk P w K mg base CX0 1 T.d_rows_in.f T.d_rows_in.fd ["piece"] spRowsIn := by
  refine T.d_rows_in.F.ok sc_rows_in (fun vs H Q E h => ?_) (fun cdv A outer s H vs Q E hr h => ?_)
  · obtain ⟨v, p, rfl, _⟩ := h
    rfl
  obtain ⟨v, p, rfl, hp, q⟩ := h
  refine ⟨_, (pss_cons (ps_if (pt_cmpR op_eq (pe_ix ix_tup (pv 0) pe_int (fun _ _ => rfl)) (pe_glob (v := .int 3) rfl T.c_EITHER.2 ⟨_, rfl⟩) (nomark _))
    (pss_one (ps_ret (pe_lst (pa_cons (pe_ix ix_tup (pv 0) pe_int (fun _ _ => rfl)) (pa_cons (pe_ix ix_tup (pv 0) pe_int (fun _ _ => rfl)) pa_nil)))))
    pss_nil)
    (pss_cons (ps_if (pt_cmpR op_eq (pe_ix ix_tup (pv 0) pe_int (fun _ _ => rfl)) (pe_glob (v := .int 4) rfl T.c_OPTIONAL.2 ⟨_, rfl⟩) (nomark _))
    (pss_one (ps_ret (pe_lst (pa_cons (pe_ix ix_tup (pv 0) pe_int (fun _ _ => rfl)) pa_nil))))
    pss_nil)
    (pss_one (ps_ret (pe_ifExp (pt_cmpR op_eq (pe_ix ix_tup (pv 0) pe_int (fun _ _ => rfl)) (pe_glob (v := .int 5) rfl T.c_REPEAT.2 ⟨_, rfl⟩) (nomark _)) (pe_lst (pa_cons (pe_ix ix_tup (pv 0) pe_int (fun _ _ => rfl)) pa_nil)) (pe_lst pa_nil)))))), ?_⟩
  obtain ⟨a, xs, rfl, ha⟩ := hp.kind
  refine ⟨_, rfl, a, _, 0, _, rfl, rfl, SqT.of ha, at0, rfl, _, rfl, ?_⟩
  cases p with
  | lit w =>
    refine kindF (by simp only [Pc.kind]; decide) ?_
    refine ⟨_, rfl, a, _, 0, _, rfl, rfl, SqT.of ha, at0, rfl, _, rfl, kindF (by simp only [Pc.kind]; decide) ?_⟩
    refine ⟨_, rfl, a, _, 0, _, rfl, rfl, SqT.of ha, at0, rfl, _, rfl, kindF (by simp only [Pc.kind]; decide) ?_⟩
    exact ⟨(by show 0 ≤ sizeLine; decide), fun l hl => q l _ [] (same_new hl) hl upd_same .nil⟩
  | num lo hi =>
    refine kindF (by simp only [Pc.kind]; decide) ?_
    refine ⟨_, rfl, a, _, 0, _, rfl, rfl, SqT.of ha, at0, rfl, _, rfl, kindF (by simp only [Pc.kind]; decide) ?_⟩
    refine ⟨_, rfl, a, _, 0, _, rfl, rfl, SqT.of ha, at0, rfl, _, rfl, kindF (by simp only [Pc.kind]; decide) ?_⟩
    exact ⟨(by show 0 ≤ sizeLine; decide), fun l hl => q l _ [] (same_new hl) hl upd_same .nil⟩
  | word lo hi =>
    refine kindF (by simp only [Pc.kind]; decide) ?_
    refine ⟨_, rfl, a, _, 0, _, rfl, rfl, SqT.of ha, at0, rfl, _, rfl, kindF (by simp only [Pc.kind]; decide) ?_⟩
    refine ⟨_, rfl, a, _, 0, _, rfl, rfl, SqT.of ha, at0, rfl, _, rfl, kindF (by simp only [Pc.kind]; decide) ?_⟩
    exact ⟨(by show 0 ≤ sizeLine; decide), fun l hl => q l _ [] (same_new hl) hl upd_same .nil⟩
  | alt f g =>
    obtain ⟨x, y, t, rx, ry⟩ := hp
    have hb := t.at
    refine kindT rfl ?_
    refine ⟨_, rfl, a, _, 1, _, rfl, rfl, SqT.of hb, rfl, _, rfl, a, _, 2, _, rfl, rfl, SqT.of hb, rfl, (by show 2 ≤ sizeLine; decide), fun l hl => ?_⟩
    have s1 := same_new (o := .lst [x, y]) hl
    exact q l _ _ s1 hl upd_same (.cons (rx.mono s1) (.cons (ry.mono s1) .nil))
  | opt f =>
    obtain ⟨x, t, rx⟩ := hp
    have hb := t.at
    refine kindF (by simp only [Pc.kind]; decide) ?_
    refine ⟨_, rfl, a, _, 0, _, rfl, rfl, SqT.of ha, at0, rfl, _, rfl, kindT rfl ?_⟩
    refine ⟨_, rfl, a, _, 1, _, rfl, rfl, SqT.of hb, rfl, (by show 1 ≤ sizeLine; decide), fun l hl => ?_⟩
    have s1 := same_new (o := .lst [x]) hl
    exact q l _ _ s1 hl upd_same (.cons (rx.mono s1) .nil)
  | rep s lo hi f =>
    obtain ⟨y, x, t, ty, rx⟩ := hp
    have hb := t.at
    refine kindF (by simp only [Pc.kind]; decide) ?_
    refine ⟨_, rfl, a, _, 0, _, rfl, rfl, SqT.of ha, at0, rfl, _, rfl, kindF (by simp only [Pc.kind]; decide) ?_⟩
    refine ⟨_, rfl, a, _, 0, _, rfl, rfl, SqT.of ha, at0, rfl, _, rfl, kindT rfl ?_⟩
    refine ⟨_, rfl, a, _, 4, _, rfl, rfl, SqT.of hb, rfl, (by show 1 ≤ sizeLine; decide), fun l hl => ?_⟩
    have s1 := same_new (o := .lst [x]) hl
    exact q l _ _ s1 hl upd_same (.cons (rx.mono s1) .nil)
/-- pieces told -/
abbrev PcsAt (H : Hp) (xs : List V) (ps : List Pc) : Prop := All2 (fun v p => PcAt H p v) xs ps
theorem PcsAt.monoT {H H1 : Hp} (s : SameT H H1) {xs : List V} {ps : List Pc} (h : PcsAt H xs ps) : PcsAt H1 xs ps := All2.mono (fun _ _ => PcAt.monoT s) h
def spAllPieces (n : Nat) : Sp := fun vs H Q _ => ∃ (v : V) (f : Fmt), vs = [v] ∧ RowAt H f v ∧ depth f < n ∧ f.size ≤ 1000 ∧
  ∀ l H1 xs, Same H H1 → H l = none → H1 l = some (.lst xs) → PcsAt H1 xs (subs f) → Q (.ref l) H1
theorem subs_all (p : Pc) (r : Fmt) : subs (p.cons r) = (p :: p.rows.flatMap subs) ++ subs r := by
  rw [subs_cons]
  rfl
theorem flat_le {p : Pc} : ∀ i, ((p.rows.take i).flatMap subs).length + 1 ≤ p.size := by
  have e : ∀ i, ((p.rows.take i).flatMap subs).length ≤ (p.rows.flatMap subs).length := fun i => by
    conv => rhs; rw [← List.take_append_drop i p.rows, List.flatMap_append, List.length_append]
    omega
  intro i
  have h := e i
  have h2 : (p.rows.flatMap subs).length + 1 = p.size := by
    cases p <;> simp [Pc.rows, Pc.size, subs_length]
  omega
theorem ok_all_pieces {n : Nat} (T : Txt K mg) (G_all_pieces : FnOk P w K mg base CX0 (n + 1) T.d_all_pieces.f T.d_all_pieces.fd ["row"] (spAllPieces n)) :
    FnOk P w K mg base CX0 (n + 1 + 1) T.d_all_pieces.f T.d_all_pieces.fd ["row"] (spAllPieces (n + 1)) := by
  have G_rows_in := ok_rows_in (P := P) (w := w) (base := base) T
  refine T.d_all_pieces.F.ok sc_all_pieces (fun vs H Q E h => ?_) (fun cdv A outer s H vs Q E hr h => ?_)
  · obtain ⟨v, f, rfl, _⟩ := h
    rfl
  obtain ⟨v, f, rfl, ⟨ps, ⟨a, rfl, ha⟩, rl⟩, hn, hz, q⟩ := h
  refine ⟨_, (pss_cons (ps_set (i := 1) sc_all_pieces.nd rfl (Or.inl rfl) (pe_lst pa_nil))
    (pss_cons (ps_for PassesOwn.never rfl (pi_tup (pv 0)) (pg_name (i := 2) sc_all_pieces.nd rfl (Or.inl rfl))
    (pss_cons (ps_expr (pe_bm PySem.F.plainAttrs_list PySem.F.slot_list_append PySem.F.type_list_append mt_append (pv 1) (pa_cons (pv 2) pa_nil)))
    (pss_one (ps_for PassesOwn.never rfl (pi_list (pe_call G_rows_in (hr.mono (by omega)) rfl T.d_rows_in.m T.d_rows_in.F.kp T.d_rows_in.b .nil pass0 (pa_cons (pv 2) pa_nil))) (pg_name (i := 3) sc_all_pieces.nd rfl (Or.inl rfl))
    (pss_one (ps_expr (pe_bm PySem.F.plainAttrs_list PySem.F.slot_list_extend PySem.F.type_list_extend mt_extend (pv 1) (pa_cons (pe_call G_all_pieces (hr.mono (by omega)) rfl T.d_all_pieces.m T.d_all_pieces.F.kp T.d_all_pieces.b .nil pass0 (pa_cons (pv 3) pa_nil)) pa_nil))))))))
    (pss_one (ps_ret (pv 1))))), ?_⟩
  refine ⟨(by show 0 ≤ sizeLine; decide), fun l hl => ?_⟩
  have lenf := rowL_len rl
  -- the loop over the row
  refine ⟨_, rfl, a, rfl, ⟨_, SqT.of ((same_new hl) a _ ha)⟩, for_tup (K := K) (a := a) (xs := ps) (fun i σ H1 => ∃ (v2 v3 : Option V) (r : Fmt) (ys : List V) (done : List Pc), σ = [some (.ref a), some (.ref l), v2, v3] ∧ Same H H1 ∧ H1 l = some (.lst ys) ∧ PcsAt H1 ys done ∧
    RowL H (r) (ps.drop i) ∧ done ++ subs r = subs f ∧ depth r ≤ depth f ∧ done.length + r.size = f.size) ⟨none, none, f, [], [], rfl, same_new hl, upd_same, .nil, rl, rfl, Nat.le_refl _, by simp⟩ (fun i σ H1 _ h => ?_) (fun i x σ H1 hx h => ?_) (fun σ H1 h => ?_)⟩
  · obtain ⟨_, _, _, _, _, _, s1, _⟩ := h
    exact SqT.of (s1 a _ ha)
  · obtain ⟨v2, v3, r, ys, done, rfl, s1, hl1, pa, rl1, eq, dp, sz⟩ := h
    rw [List.drop_eq_getElem_cons (List.getElem?_eq_some_iff.mp hx).1, (List.getElem?_eq_some_iff.mp hx).2] at rl1
    rcases row_cases r with rfl | ⟨p, r', rfl⟩
    · cases rl1
    obtain ⟨x', qs, e, hpx, rl2⟩ := (rowL_cons p r' _).mp rl1
    injection e with e1 e2
    subst e1 e2
    rw [depth_cons] at dp
    rw [size_cons] at sz
    rw [subs_all, ← List.append_assoc] at eq
    have hpx1 := hpx.mono s1
    have lys := pa.length
    have hps : 1 ≤ p.size := by cases p <;> simp [Pc.size]
    refine ⟨_, rfl, .inl ⟨rfl, _, SqL.of hl1⟩, _, rfl, l, ys, x, rfl, rfl, hl1, small_lt (by omega), ?_⟩
    have st := sameT_lst (zs := ys ++ [x]) hl1
    have s2 : Same H (upd H1 l (.lst (ys ++ [x]))) := s1.mut hl
    -- the rows within
    refine ⟨_, rfl, x, p, rfl, hpx1.monoT st, fun b H2 bs s3 hb hb2 rb => ?_⟩
    have hl3 : H2 l = some (.lst (ys ++ [x])) := s3 l _ upd_same
    have lb := rb.length
    refine ⟨b, rfl, ⟨_, SqL.of hb2⟩, for_list (K := K) (a := b) (xs := bs) (fun j σ H3 => ∃ (v3 : Option V) (zs : List V), σ = [some (.ref a), some (.ref l), some x, v3] ∧ Same H H3 ∧ H3 b = some (.lst bs) ∧ RowsAt H3 bs p.rows ∧ H3 l = some (.lst zs) ∧ PcsAt H3 zs (done ++ (p :: (p.rows.take j).flatMap subs))) ?_ (fun j σ H3 _ h => ?_) (fun j y σ H3 hy h => ?_) (fun σ H3 h => ?_)⟩
    · refine ⟨v3, ys ++ [x], rfl, s2.trans s3, hb2, rb, hl3, ?_⟩
      refine PcsAt.monoT s3.t ?_
      refine All2.append (PcsAt.monoT st pa) ?_
      rw [List.take_zero]
      exact .cons (hpx1.monoT st) .nil
    · obtain ⟨_, _, _, _, hb3, _⟩ := h
      exact SqL.of hb3
    · obtain ⟨v3, zs, rfl, s4, hb3, rb3, hl4, pz⟩ := h
      obtain ⟨g, hg, rg⟩ := rb3.get hy
      have gm : g ∈ p.rows := List.mem_of_getElem? hg
      have gd := rows_deep gm
      have gs : g.size ≤ 1000 := by
        have h1 := flat_le (p := p) (j + 1)
        rw [List.take_add_one, hg, List.flatMap_append, List.length_append] at h1
        simp only [Option.toList, List.flatMap_cons, List.flatMap_nil, List.append_nil, subs_length] at h1
        omega
      refine ⟨_, rfl, .inl ⟨rfl, _, SqL.of hl4⟩, _, rfl, y, g, rfl, rg, by omega, gs, fun c H5 cs s5 hc hc2 pc => ?_⟩
      have hl5 := s5 l _ hl4
      have lz := pz.length
      have lc := pc.length
      rw [subs_length] at lc
      have fl := flat_le (p := p) j
      rw [List.length_append, List.length_cons] at lz
      refine ⟨l, c, zs, cs, rfl, rfl, hl5, hc2, small_le (by omega), ?_⟩
      have st5 := sameT_lst (zs := zs ++ cs) hl5
      have bl : b ≠ l := fun e => by
        rw [e] at hb
        rw [upd_same] at hb
        cases hb
      refine ⟨some y, zs ++ cs, rfl, (s4.trans s5).mut hl, ?_, ?_, upd_same, ?_⟩
      · rw [upd_ne bl]
        exact s5 b _ hb3
      · exact All2.mono (fun _ _ h => (h.mono s5).monoT st5) rb3
      · rw [List.take_add_one, hg, List.flatMap_append]
        simp only [Option.toList, List.flatMap_cons, List.flatMap_nil, List.append_nil]
        rw [← List.cons_append, ← List.append_assoc]
        exact All2.append (PcsAt.monoT st5 (PcsAt.monoT s5.t pz)) (PcsAt.monoT st5 pc)
    · obtain ⟨v3, zs, rfl, s4, hb3, rb3, hl4, pz⟩ := h
      rw [lb, List.take_length] at pz
      refine ⟨_, _, r', zs, done ++ (p :: p.rows.flatMap subs), rfl, s4, hl4, pz, rl2, eq, by omega, ?_⟩
      have h2 : (p.rows.flatMap subs).length + 1 = p.size := by
        cases p <;> simp [Pc.rows, Pc.size, subs_length]
      rw [List.length_append, List.length_cons]
      omega
  · obtain ⟨v2, v3, r, ys, done, rfl, s1, hl1, pa, rl1, eq, dp, sz⟩ := h
    rw [List.drop_length] at rl1
    rcases row_cases r with rfl | ⟨p, r', rfl⟩
    · simp only [subs, List.append_nil] at eq
      subst eq
      exact ⟨_, rfl, q l H1 ys s1 hl hl1 pa⟩
    · obtain ⟨x', qs, e, _⟩ := (rowL_cons p r' _).mp rl1
      cases e
theorem all_pieces_ok (T : Txt K mg) : ∀ n : Nat, FnOk P w K mg base CX0 (n + 1) T.d_all_pieces.f T.d_all_pieces.fd ["row"] (spAllPieces n)
  | 0 => none_left fun vs H Q E h => by
    obtain ⟨v, f, _, _, h, _⟩ := h
    omega
  | n + 1 => ok_all_pieces T (all_pieces_ok T n)
end
end Asc
namespace Asc
open PySem PySem.Spec PyProof.Rows L2
open VafmsBase (Fmt)
section
variable {P : Program} {w : World} {K : PySem.W.Frag} {mg : Str → Option PySem.Value} {base : Heap}

def spGone (n : Nat) : Sp := fun vs H Q _ => ∃ (v : V) (f : Fmt), vs = [v] ∧ RowAt H f v ∧ depth f < n ∧ okSp f = true ∧
  ∀ H1, Same H H1 → Q (.int (f.holes : Int)) H1
theorem rows_holes (p : Pc) : ∃ t : Nat, p.holes = (if p.kind = 0 then 0 else 1) + t * (p.rows.map Fmt.holes).foldl max 0 ∧ (p.kind = 5 → ∃ s lo a, p = .rep s lo t a) ∧ (p.kind ≠ 5 → t = 1) := by
  cases p with
  | lit w => exact ⟨1, rfl, fun h => by simp [Pc.kind] at h, fun _ => rfl⟩
  | num lo hi => exact ⟨1, rfl, fun h => by simp [Pc.kind] at h, fun _ => rfl⟩
  | word lo hi => exact ⟨1, rfl, fun h => by simp [Pc.kind] at h, fun _ => rfl⟩
  | alt a b => exact ⟨1, by simp [Pc.holes, Pc.kind, Pc.rows]; omega, fun h => by simp [Pc.kind] at h, fun _ => rfl⟩
  | opt a => exact ⟨1, by simp [Pc.holes, Pc.kind, Pc.rows]; omega, fun h => by simp [Pc.kind] at h, fun _ => rfl⟩
  | rep s lo hi a => exact ⟨hi, by simp [Pc.holes, Pc.kind, Pc.rows]; omega, fun _ => ⟨s, lo, a, rfl⟩, fun h => (h rfl).elim⟩
theorem foldl_max_mem : ∀ (l : List Nat) (k : Nat), (l.foldl max k = k ∨ l.foldl max k ∈ l) ∧ k ≤ l.foldl max k ∧ ∀ x ∈ l, x ≤ l.foldl max k
  | [], k => ⟨.inl rfl, Nat.le_refl _, fun x h => (List.not_mem_nil h).elim⟩
  | a :: l, k => by
    obtain ⟨h1, h2, h3⟩ := foldl_max_mem l (max k a)
    rw [List.foldl_cons]
    refine ⟨?_, by omega, fun x hx => ?_⟩
    · rcases h1 with h1 | h1
      · rw [h1]
        rcases Nat.le_total k a with c | c
        · right
          rw [Nat.max_eq_right c]
          exact List.mem_cons_self
        · left
          exact Nat.max_eq_left c
      · exact .inr (List.mem_cons_of_mem _ h1)
    · rcases List.mem_cons.mp hx with rfl | hx
      · omega
      · exact h3 x hx
theorem rows_okl {p : Pc} (ok : p.okSp = true) {a : Fmt} (ha : a ∈ p.rows) : okSp a = true := by
  cases p with
  | lit w => cases ha
  | num lo hi => cases ha
  | word lo hi => cases ha
  | alt a b =>
    simp only [Pc.rows, List.mem_cons, List.not_mem_nil, or_false] at ha
    simp only [Pc.okSp, Bool.and_eq_true] at ok
    rcases ha with rfl | rfl
    · exact ok.1
    · exact ok.2
  | opt a =>
    simp only [Pc.rows, List.mem_cons, List.not_mem_nil, or_false] at ha
    subst ha
    exact ok
  | rep s lo hi a =>
    simp only [Pc.rows, List.mem_cons, List.not_mem_nil, or_false] at ha
    subst ha
    simp only [Pc.okSp, Bool.and_eq_true] at ok
    exact ok.2.2.2
theorem max_first (l : List Nat) : ∀ m : Int, m ∈ ((0 : Int) :: l.map fun n : Nat => (n : Int)) → (∀ y, y ∈ ((0 : Int) :: l.map fun n : Nat => (n : Int)) → y ≤ m) → m = ((l.foldl max 0 : Nat) : Int) := fun m h1 h2 => by
  obtain ⟨a, b, c⟩ := foldl_max_mem l 0
  have h3 : ((l.foldl max 0 : Nat) : Int) ≤ m := by
    rcases a with a | a
    · rw [a]
      exact h2 0 List.mem_cons_self
    · exact h2 _ (List.mem_cons_of_mem _ (List.mem_map.mpr ⟨_, a, rfl⟩))
  have h4 : m ≤ ((l.foldl max 0 : Nat) : Int) := by
    rcases List.mem_cons.mp h1 with rfl | h
    · omega
    · obtain ⟨x, hx, rfl⟩ := List.mem_map.mp h
      have := c x hx
      omega
  omega
theorem ok_gone {n : Nat} (T : Txt K mg) (G_gone_through : FnOk P w K mg base CX0 (n + 1) T.d_gone_through.f T.d_gone_through.fd ["row"] (spGone n)) :
    FnOk P w K mg base CX0 (n + 1 + 1) T.d_gone_through.f T.d_gone_through.fd ["row"] (spGone (n + 1)) := by
  have G_rows_in := ok_rows_in (P := P) (w := w) (base := base) T
  refine T.d_gone_through.F.ok sc_gone_through (fun vs H Q E h => ?_) (fun cdv A outer s H vs Q E hr h => ?_)
  · obtain ⟨v, f, rfl, _⟩ := h
    rfl
  obtain ⟨v, f, rfl, ⟨ps, ⟨a, rfl, ha⟩, rl⟩, hn, ok, q⟩ := h
  refine ⟨_, (pss_cons (ps_set (i := 1) sc_gone_through.nd rfl (Or.inl rfl) pe_int)
    (pss_cons (ps_for PassesOwn.never rfl (pi_tup (pv 0)) (pg_name (i := 2) sc_gone_through.nd rfl (Or.inl rfl))
    (pss_cons (ps_setLc (i := 3) (own := [("one", 5)]) rfl sc_gone_through.nd rfl rfl (sw_true rfl rfl rfl (by decide +kernel)) (pi_list (pe_call G_rows_in (hr.mono (by omega)) rfl T.d_rows_in.m T.d_rows_in.F.kp T.d_rows_in.b .nil pass0 (pa_cons (pv 2) pa_nil))) (blkOk_by (own := [("one", 5)]) (N := ["row", "found", "piece", "inner", "times", "one"]) (sc := defScope s_gone_through) (by decide +kernel)) (fun _ _ _ _ _ => (pg_name (i := 5) sc_gone_through.nd rfl (Or.inl rfl))) (fun _ _ _ _ _ => pts_nil) (fun _ _ _ _ _ => (pe_call G_gone_through (hr.mono (by omega)) rfl T.d_gone_through.m T.d_gone_through.F.kp T.d_gone_through.b .nil pass0 (pa_cons (pv 5) pa_nil))))
    (pss_cons (ps_set (i := 4) sc_gone_through.nd rfl (Or.inl rfl) (pe_ifExp (pt_cmpR op_eq (pe_ix ix_tup (pv 2) pe_int (fun _ _ => rfl)) (pe_glob (v := .int 5) rfl T.c_REPEAT.2 ⟨_, rfl⟩) (nomark _)) (pe_ix ix_tup (pv 2) pe_int (fun _ _ => rfl)) pe_int))
    (pss_one (ps_set (i := 1) sc_gone_through.nd rfl (Or.inl rfl) (pe_op op_add (pe_op op_add (pv 1) (pe_callTy call_int1 (by rfl) T.b_int (by decide +kernel) (pa_cons (pe_cmpR op_ne (pe_ix ix_tup (pv 2) pe_int (fun _ _ => rfl)) (pe_glob (v := .int 0) rfl T.c_LITERAL.2 ⟨_, rfl⟩) (nomark _)) pa_nil))) (pe_op op_mul (pv 4) (pe_callB (cr_max rfl) (by rfl) T.b_max (by decide +kernel) (pa_cons (pe_op op_cat (pe_lst (pa_cons pe_int pa_nil)) (pv 3)) pa_nil)))))))))
    (pss_one (ps_ret (pv 1))))), ?_⟩
  refine ⟨_, rfl, a, rfl, ⟨_, SqT.of ha⟩, for_tup (K := K) (a := a) (xs := ps) (fun i σ H1 => ∃ (v2 v3 v4 v5 : Option V) (r : Fmt) (d : Nat), σ = [some (.ref a), some (.int (d : Int)), v2, v3, v4, v5] ∧ Same H H1 ∧
    RowL H r (ps.drop i) ∧ d + r.holes = f.holes ∧ depth r ≤ depth f ∧ okSp r = true) ⟨none, none, none, none, f, 0, rfl, Same.refl H, rl, Nat.zero_add _, Nat.le_refl _, ok⟩ (fun i σ H1 _ h => ?_) (fun i x σ H1 hx h => ?_) (fun σ H1 h => ?_)⟩
  · obtain ⟨_, _, _, _, _, _, _, s1, _⟩ := h
    exact SqT.of (s1 a _ ha)
  · obtain ⟨v2, v3, v4, v5, r, d, rfl, s1, rl1, eq, dp, okr⟩ := h
    rw [List.drop_eq_getElem_cons (List.getElem?_eq_some_iff.mp hx).1, (List.getElem?_eq_some_iff.mp hx).2] at rl1
    rcases row_cases r with rfl | ⟨p, r', rfl⟩
    · cases rl1
    obtain ⟨x', qs, e, hpx, rl2⟩ := (rowL_cons p r' _).mp rl1
    injection e with e1 e2
    subst e1 e2
    rw [depth_cons] at dp
    rw [okSp_cons, Bool.and_eq_true] at okr
    rw [holes_cons] at eq
    have hpx1 := hpx.mono s1
    -- inner = [..]
    refine ⟨_, rfl, x, p, rfl, hpx1, fun b H2 bs s3 hb hb2 rb => ?_⟩
    obtain ⟨zs, z1, z2, z3⟩ := rb.zip
    refine ⟨b, rfl, ⟨_, SqL.of hb2⟩, lc_fnL (K := K) (a := b) (toV := (·.1)) (F := fun z : V × Fmt => V.int (z.2.holes : Int)) (ds := zs) (SqL.of (by rw [z1]; exact hb2)) ?_ (fun z hz H4 s4 Qy k4 => ?_) (fun D H4 hD s4 e4 => ?_) gN⟩
    · have l1 : zs.length = p.rows.length := by rw [← z2, List.length_map]
      rw [l1]
      cases p <;> simp [Pc.rows, sizeLine_eq]
    · have gm : z.2 ∈ p.rows := by
        rw [← z2]
        exact List.mem_map.mpr ⟨z, hz, rfl⟩
      have gd := rows_deep gm
      refine ⟨rfl, _, rfl, z.1, z.2, rfl, (z3 z hz).mono s4, by omega, rows_okl okr.1 gm, fun H5 s5 => k4 H5 s5⟩
    -- times, found
    have hl : zs.map (fun z : V × Fmt => V.int (z.2.holes : Int)) = ni (p.rows.map Fmt.holes) := by
      unfold ni
      rw [← z2, List.map_map, List.map_map]
      rfl
    rw [hl] at e4
    obtain ⟨t, th, t5, t1⟩ := rows_holes p
    have s5 := (s1.trans s3).trans s4
    obtain ⟨ax, xs, rfl, hax⟩ := (hpx.mono s5).kind
    refine ⟨_, rfl, ax, _, 0, _, rfl, rfl, SqT.of hax, at0, rfl, _, rfl, ?_⟩
    have tb : -(2 ^ 64) < (t : Int) ∧ (t : Int) < 2 ^ 64 := by
      by_cases c : p.kind = 5
      · obtain ⟨s', lo, a', rfl⟩ := t5 c
        have := okr.1
        simp only [Pc.okSp, Bool.and_eq_true, decide_eq_true_eq] at this
        omega
      · rw [t1 c]
        omega
    have fin : ∀ (k : Bool) (m : Int), k = (!decide (V.int p.kind = V.int 0)) → m = (((p.rows.map Fmt.holes).foldl max 0 : Nat) : Int) → (d : Int) + (if k then 1 else 0) + (t : Int) * m = ((d + p.holes : Nat) : Int) := fun k m hk hm => by
      rw [th, hm, hk]
      by_cases c0 : p.kind = 0
      · rw [if_pos c0, c0, decide_eq_true rfl]
        simp only [Bool.not_true, Bool.false_eq_true, if_false]
        push_cast
        omega
      · rw [if_neg c0, decide_eq_false (by intro z; injection z with z; exact c0 z)]
        simp only [Bool.not_false, if_true]
        push_cast
        omega
    by_cases c : p.kind = 5
    · refine kindT c ⟨_, rfl, ax, _, 3, .int (t : Int), rfl, rfl, SqT.of hax, ?_, ?_⟩
      · obtain ⟨s', lo, a', rfl⟩ := t5 c
        obtain ⟨y1, y2, ty, _⟩ := (hpx.mono s5)
        have := ty.at
        rw [hax] at this
        injection this with this
        injection this with this
        rw [this]
        rfl
      refine ⟨_, rfl, _, rfl, ax, _, 0, _, rfl, rfl, SqT.of hax, at0, rfl, .inr ⟨_, rfl, _, _, rfl, rfl, _, rfl, (by show 1 ≤ sizeLine; decide), fun p1 hp1 => ?_⟩⟩
      have s6 := same_new (o := .lst [.int 0]) hp1
      refine ⟨_, rfl, p1, D, _, _, rfl, rfl, upd_same, s6 D _ e4, ?_, fun p2 hp2 => ?_⟩
      · rw [ni_length, List.length_map]
        cases p <;> simp [Pc.rows, sizeLine_eq]
      have s7 := same_new (o := .lst ([.int 0] ++ ni (p.rows.map Fmt.holes))) hp2
      refine ⟨p2, 0 :: (p.rows.map Fmt.holes).map (fun n : Nat => (n : Int)), rfl, SqL.of (upd_same.trans ?_), by simp, fun m h1 h2 => ?_⟩
      · unfold ni
        simp [Function.comp_def]
      refine ⟨_, _, rfl, rfl, .inl tb, _, _, rfl, rfl, ?_⟩
      refine ⟨some (.ref ax), some (.ref D), some (.int (t : Int)), v5, r', d + p.holes, ?_, (s5.trans s6).trans s7, rl2, by omega, by omega, okr.2⟩
      rw [← fin _ m rfl (max_first _ m h1 h2)]
      rfl
    · have t1' := t1 c
      subst t1'
      refine kindF c ?_
      refine ⟨_, rfl, _, rfl, ax, _, 0, _, rfl, rfl, SqT.of hax, at0, rfl, .inr ⟨_, rfl, _, _, rfl, rfl, _, rfl, (by show 1 ≤ sizeLine; decide), fun p1 hp1 => ?_⟩⟩
      have s6 := same_new (o := .lst [.int 0]) hp1
      refine ⟨_, rfl, p1, D, _, _, rfl, rfl, upd_same, s6 D _ e4, ?_, fun p2 hp2 => ?_⟩
      · rw [ni_length, List.length_map]
        cases p <;> simp [Pc.rows, sizeLine_eq]
      have s7 := same_new (o := .lst ([.int 0] ++ ni (p.rows.map Fmt.holes))) hp2
      refine ⟨p2, 0 :: (p.rows.map Fmt.holes).map (fun n : Nat => (n : Int)), rfl, SqL.of (upd_same.trans ?_), by simp, fun m h1 h2 => ?_⟩
      · unfold ni
        simp [Function.comp_def]
      refine ⟨_, _, rfl, rfl, .inl tb, _, _, rfl, rfl, ?_⟩
      refine ⟨some (.ref ax), some (.ref D), some (.int 1), v5, r', d + p.holes, ?_, (s5.trans s6).trans s7, rl2, by omega, by omega, okr.2⟩
      rw [← fin _ m rfl (max_first _ m h1 h2)]
      rfl
  · obtain ⟨v2, v3, v4, v5, r, d, rfl, s1, rl1, eq, dp, okr⟩ := h
    rw [List.drop_length] at rl1
    rcases row_cases r with rfl | ⟨p, r', rfl⟩
    · have e : d = f.holes := by simpa [Fmt.holes] using eq
      refine ⟨_, rfl, ?_⟩
      rw [e]
      exact q H1 s1
    · obtain ⟨x', qs, e, _⟩ := (rowL_cons p r' _).mp rl1
      cases e
end
end Asc
namespace Asc
open PySem PySem.Spec PyProof.Rows L2
open VafmsBase (Fmt)
section
variable {P : Program} {w : World} {K : PySem.W.Frag} {mg : Str → Option PySem.Value} {base : Heap}

theorem gone_ok (T : Txt K mg) : ∀ n : Nat, FnOk P w K mg base CX0 (n + 1) T.d_gone_through.f T.d_gone_through.fd ["row"] (spGone n)
  | 0 => none_left fun vs H Q E h => by
    obtain ⟨v, f, _, _, h, _⟩ := h
    omega
  | n + 1 => ok_gone T (gone_ok T n)
def spBad (n : Nat) : Sp := fun vs H Q _ => ∃ (v : V) (f : Fmt), vs = [v] ∧ RowAt H f v ∧ depth f < n ∧ f.size ≤ 1000 ∧
  ∀ H1, Same H H1 → Q (.bl (bad f)) H1
theorem isRep_kind (p : Pc) : p.isRep = decide (V.int p.kind = V.int 5) := by
  cases p <;> simp [Pc.isRep, Pc.kind]
theorem sub_small {f : Fmt} {p : Pc} : p ∈ subs f → ∀ a ∈ p.rows, a.size ≤ f.size ∧ depth a ≤ depth f := by
  induction f with
  | done => intro h; cases h
  | lit w r ih =>
    intro h a ha
    rcases List.mem_cons.mp h with rfl | h
    · cases ha
    · have := ih h a ha
      simp only [Fmt.size, depth]
      omega
  | num lo hi r ih =>
    intro h a ha
    rcases List.mem_cons.mp h with rfl | h
    · cases ha
    · have := ih h a ha
      simp only [Fmt.size, depth]
      omega
  | word lo hi r ih =>
    intro h a ha
    rcases List.mem_cons.mp h with rfl | h
    · cases ha
    · have := ih h a ha
      simp only [Fmt.size, depth]
      omega
  | alt x y r ix iy ih =>
    intro h a ha
    simp only [Fmt.size, depth]
    rcases List.mem_cons.mp h with rfl | h
    · simp only [Pc.rows, List.mem_cons, List.not_mem_nil, or_false] at ha
      rcases ha with rfl | rfl <;> omega
    · rcases List.mem_append.mp h with h | h
      · have := ix h a ha
        omega
      · rcases List.mem_append.mp h with h | h
        · have := iy h a ha
          omega
        · have := ih h a ha
          omega
  | opt x r ix ih =>
    intro h a ha
    simp only [Fmt.size, depth]
    rcases List.mem_cons.mp h with rfl | h
    · simp only [Pc.rows, List.mem_cons, List.not_mem_nil, or_false] at ha
      subst ha
      omega
    · rcases List.mem_append.mp h with h | h
      · have := ix h a ha
        omega
      · have := ih h a ha
        omega
  | rep s lo hi x r ix ih =>
    intro h a ha
    simp only [Fmt.size, depth]
    rcases List.mem_cons.mp h with rfl | h
    · simp only [Pc.rows, List.mem_cons, List.not_mem_nil, or_false] at ha
      subst ha
      omega
    · rcases List.mem_append.mp h with h | h
      · have := ix h a ha
        omega
      · have := ih h a ha
        omega
theorem ok_bad {n : Nat} (T : Txt K mg) : FnOk P w K mg base CX0 (n + 1 + 1) T.d_has_repeat_in_repeat.f T.d_has_repeat_in_repeat.fd ["row"] (spBad n) := by
  have G_all_pieces := all_pieces_ok (P := P) (w := w) (base := base) T n
  refine T.d_has_repeat_in_repeat.F.ok sc_has_repeat_in_repeat (fun vs H Q E h => ?_) (fun cdv A outer s H vs Q E hr h => ?_)
  · obtain ⟨v, f, rfl, _⟩ := h
    rfl
  obtain ⟨v, f, rfl, rf, hn, hz, q⟩ := h
  refine ⟨_, (pss_cons (ps_for PassesOwn.never rfl (pi_list (pe_call G_all_pieces (hr.mono (by omega)) rfl T.d_all_pieces.m T.d_all_pieces.F.kp T.d_all_pieces.b .nil pass0 (pa_cons (pv 0) pa_nil))) (pg_name (i := 1) sc_has_repeat_in_repeat.nd rfl (Or.inl rfl))
    (pss_one (ps_if (PW.pt (pw_and (pt_cmpR op_eq (pe_ix ix_tup (pv 1) pe_int (fun _ _ => rfl)) (pe_glob (v := .int 5) rfl T.c_REPEAT.2 ⟨_, rfl⟩) (nomark _)) (pw_and1 (pt_val (pe_callB (cr_any rfl) (by rfl) T.b_any (by decide +kernel) (pa_cons (pe_lc (own := [("one", 2)]) rfl sc_has_repeat_in_repeat.nd (pi_list (pe_call G_all_pieces (hr.mono (by omega)) rfl T.d_all_pieces.m T.d_all_pieces.F.kp T.d_all_pieces.b .nil pass0 (pa_cons (pe_ix ix_tup (pv 1) pe_int (fun _ _ => rfl)) pa_nil))) (blkOk_by (own := [("one", 2)]) (N := ["row", "piece", "one"]) (sc := defScope s_has_repeat_in_repeat) (by decide +kernel)) (fun _ _ _ _ _ => (pg_name (i := 2) sc_has_repeat_in_repeat.nd rfl (Or.inl rfl))) (fun _ _ _ _ _ => pts_nil) (fun _ _ _ _ _ => (pe_cmpR op_eq (pe_ix (show IxR _ (rIxT K) from ix_tup) (pv 2) pe_int (fun _ _ => rfl)) (pe_glob (v := .int 5) rfl T.c_REPEAT.2 ⟨_, rfl⟩) (nomark _)))) pa_nil))))))
    (pss_one (ps_ret pe_bl))
    pss_nil)))
    (pss_one (ps_ret pe_bl))), ?_⟩
  refine ⟨_, rfl, v, f, rfl, rf, hn, hz, fun l H1 xs s1 hl hl1 px => ?_⟩
  have lx := px.length
  refine ⟨l, rfl, ⟨_, SqL.of hl1⟩, for_list (K := K) (a := l) (xs := xs) (fun i σ H2 => ∃ v2 v3 : Option V, σ = [some v, v2, v3] ∧ Same H1 H2 ∧ ((subs f).take i).any Pc.bad = false) ⟨none, none, rfl, Same.refl _, rfl⟩ (fun i σ H2 _ h => ?_) (fun i x σ H2 hx h => ?_) (fun σ H2 h => ?_)⟩
  · obtain ⟨_, _, _, s2, _⟩ := h
    exact SqL.of (s2 l _ hl1)
  · obtain ⟨v2, v3, rfl, s2, nb⟩ := h
    obtain ⟨p, hp, px1⟩ := px.get hx
    have px2 := px1.mono s2
    obtain ⟨a, ys, rfl, ha⟩ := px2.kind
    have pm : p ∈ subs f := List.mem_of_getElem? hp
    have next : p.bad = false → ∃ w2 w3 : Option V, [some v, some (.ref a), v3] = [some v, w2, w3] ∧ Same H1 H2 ∧ ((subs f).take (i + 1)).any Pc.bad = false := fun e => by
      refine ⟨_, _, rfl, s2, ?_⟩
      rw [List.take_add_one, hp, List.any_append, nb]
      simp [e]
    refine ⟨_, rfl, a, _, 0, _, rfl, rfl, SqT.of ha, at0, rfl, _, rfl, ?_⟩
    by_cases c : p.kind = 5
    · refine kindT c ?_
      cases p with
      | rep t lo hi g =>
        obtain ⟨y1, y2, ty, _, rg⟩ := px2
        have hb := ty.at
        have sm := sub_small pm g (by simp [Pc.rows])
        refine ⟨_, rfl, a, _, 4, _, rfl, rfl, SqT.of hb, rfl, y2, g, rfl, rg, by omega, by omega, fun b H3 cs s3 hb3 hb4 pc => ?_⟩
        obtain ⟨zs, z1, z2, z3⟩ := All2.zip pc
        refine ⟨b, rfl, ⟨_, SqL.of hb4⟩, lc_fnL (K := K) (a := b) (toV := (·.1)) (F := fun z : V × Pc => V.bl (z.2.isRep)) (ds := zs) (SqL.of (by rw [z1]; exact hb4)) ?_ (fun z hz H4 s4 Qy k4 => ?_) (fun D H4 hD s4 e4 => ?_) gN⟩
        · have l1 : zs.length = (subs g).length := by rw [← z2, List.length_map]
          rw [l1, subs_length]
          exact small_le (by omega)
        · obtain ⟨a2, ws, e2, ha2⟩ := ((z3 z hz).mono s4).kind
          refine ⟨rfl, _, rfl, a2, _, 0, _, e2, rfl, SqT.of ha2, at0, rfl, ?_⟩
          rw [← isRep_kind]
          exact k4 H4 (Same.refl _)
        refine ⟨D, zs.map (fun z => z.2.isRep), rfl, SqL.of (by rw [e4, List.map_map]; rfl), _, rfl, ?_⟩
        have e5 : (zs.map (fun z => z.2.isRep)).any id = Pc.bad (.rep t lo hi g) := by
          show _ = (subs g).any Pc.isRep
          rw [← z2, List.any_map, List.any_map]
          rfl
        rw [e5]
        refine iteB (fun e => ?_) (fun e => ?_)
        · have eb : bad f = true := List.any_eq_true.mpr ⟨_, pm, e⟩
          have := q H4 (s1.trans (s2.trans (s3.trans s4)))
          rw [eb] at this
          exact this
        · obtain ⟨w2, w3, g1, g2, g3⟩ := next e
          exact ⟨w2, w3, g1, s2.trans (s3.trans s4), g3⟩
      | lit w => exact absurd c (by simp only [Pc.kind]; decide)
      | num lo hi => exact absurd c (by simp only [Pc.kind]; decide)
      | word lo hi => exact absurd c (by simp only [Pc.kind]; decide)
      | alt f g => exact absurd c (by simp only [Pc.kind]; decide)
      | opt f => exact absurd c (by simp only [Pc.kind]; decide)
    · refine kindF c (iteF (next ?_))
      cases p with
      | rep t lo hi g => exact absurd rfl c
      | lit w => rfl
      | num lo hi => rfl
      | word lo hi => rfl
      | alt f g => rfl
      | opt f => rfl
  · obtain ⟨v2, v3, rfl, s2, nb⟩ := h
    rw [lx, List.take_length] at nb
    have := q H2 (s1.trans s2)
    unfold bad at this
    rw [nb] at this
    exact this
/-- a format told, or None -/
def FmtOr (o : Option Fmt) (v : V) (H : Hp) : Prop := match o with
  | none => v = .non
  | some f => RowAt H f v
def spFormatIn : Sp := fun vs H Q _ => ∃ (a : Addr) (ns : List Int), vs = [.ref a] ∧ H a = some (.lst (ns.map V.int)) ∧ ns.length ≤ 200 ∧
  ∀ v H1, Same H H1 → FmtOr (fmtIn ns) v H1 → Q v H1
theorem rdPs_size {rp : List Int → Option (Pc × List Int)} {m : Nat} (hl : Less rp) (hd : ∀ x p, x.length ≤ m → rp x = some p → p.1.size + p.2.length ≤ x.length) : ∀ (n : Nat) (x : List Int) (u : Fmt × List Int), x.length ≤ m → rdPs rp n x = some u → u.1.size + u.2.length ≤ x.length
  | 0, x, u, _, h => by
    have e := Option.some.inj (show some (Fmt.done, x) = some u from h)
    subst e
    simp [Fmt.size]
  | n + 1, x, u, hx, h => by
    simp only [rdPs, Option.bind_eq_some_iff, Option.map_eq_some_iff] at h
    obtain ⟨p, hp, r, hr, rfl⟩ := h
    have h1 := hl x p hp
    have h2 := hd x p hx hp
    have h3 := rdPs_size hl hd n _ r (by omega) hr
    simp only
    rw [size_cons]
    omega
theorem rd1_size : ∀ (m : Nat) (x : List Int) (p : Pc × List Int), x.length ≤ m → rd1 x = some p → p.1.size + p.2.length ≤ x.length := by
  intro m
  induction m with
  | zero =>
    intro x p h hx
    have e : x = [] := List.length_eq_zero_iff.mp (by omega)
    subst e
    cases hx
  | succ m ih =>
    intro x p h hx
    cases x with
    | nil => cases hx
    | cons k y =>
      have hy : y.length ≤ m := by simpa using h
      rw [rd1_cons] at hx
      have hrow : ∀ z u, z.length ≤ m → rdR z = some u → u.1.size + u.2.length + 1 ≤ z.length := fun z u hz hu => by
        cases z with
        | nil => cases hu
        | cons c r =>
          simp only [rdR, rdRow] at hu
          split at hu
          · have := rdPs_size rd1_less ih _ _ _ (show r.length ≤ m by simp only [List.length_cons] at hz; omega) hu
            simp only [List.length_cons]
            omega
          · cases hu
      simp only [List.length_cons]
      unfold rdKind at hx
      repeat' split at hx
      · simp only [Option.map_eq_some_iff] at hx
        obtain ⟨w, hw, rfl⟩ := hx
        have := rText_le hw
        simp only [Pc.size]
        omega
      · simp only [Option.map_eq_some_iff] at hx
        obtain ⟨w, hw, rfl⟩ := hx
        have := rSpan_le hw
        simp only [Pc.size]
        omega
      · simp only [Option.map_eq_some_iff] at hx
        obtain ⟨w, hw, rfl⟩ := hx
        have := rSpan_le hw
        simp only [Pc.size]
        omega
      · simp only [Option.map_eq_some_iff, Option.bind_eq_some_iff] at hx
        obtain ⟨a, ha, b, hb, rfl⟩ := hx
        have h0 := rdR_le ha
        have h1 := hrow _ _ hy ha
        have h2 := hrow _ _ (by omega) hb
        simp only [Pc.size]
        omega
      · simp only [Option.map_eq_some_iff] at hx
        obtain ⟨w, hw, rfl⟩ := hx
        have h1 := hrow _ _ hy hw
        simp only [Pc.size]
        omega
      · simp only [Option.map_eq_some_iff, Option.bind_eq_some_iff] at hx
        obtain ⟨s, hs, u, hu, a, ha, rfl⟩ := hx
        have h1 := rText_le hs
        have h2 := rSpan_le hu
        have h3 := hrow _ _ (show u.2.length ≤ m by omega) ha
        simp only [Pc.size]
        omega
      · cases hx
theorem rdR_size {x : List Int} {u : Fmt × List Int} (h : rdR x = some u) : u.1.size ≤ x.length := by
  cases x with
  | nil => cases h
  | cons c r =>
    simp only [rdR, rdRow] at h
    split at h
    · have := rdPs_size rd1_less (rd1_size r.length) _ _ _ (Nat.le_refl _) h
      simp only [List.length_cons]
      omega
    · cases h
theorem ok_format_in (T : Txt K mg) : FnOk P w K mg base CX0 104 T.d_format_in.f T.d_format_in.fd ["n"] spFormatIn := by
  have G_read_row := read_row_ok (P := P) (w := w) (base := base) T
  have G_all_pieces := all_pieces_ok (P := P) (w := w) (base := base) T 101
  have G_gone_through := gone_ok (P := P) (w := w) (base := base) T 101
  have G_has_repeat_in_repeat := ok_bad (P := P) (w := w) (base := base) (n := 101) T
  refine T.d_format_in.F.ok sc_format_in (fun vs H Q E h => ?_) (fun cdv A outer s H vs Q E hr h => ?_)
  · obtain ⟨a, ns, rfl, _⟩ := h
    rfl
  obtain ⟨a, ns, rfl, ha, h200, q⟩ := h
  refine ⟨_, (pss_cons (ps_set (i := 1) sc_format_in.nd rfl (Or.inl rfl) (pe_call G_read_row (hr.mono (by omega)) rfl T.d_read_row.m T.d_read_row.F.kp T.d_read_row.b .nil pass0 (pa_cons (pv 0) (pa_cons pe_int pa_nil))))
    (pss_cons (ps_if (PW.pt (pw_or (pt_cmpR op_isN (pv 1) pe_non (nomark _)) (pw_or (pt_cmpR op_ne (pe_ix ix_tup (pv 1) pe_int (fun _ _ => rfl)) (pe_callB call_len_seq (by rfl) T.b_len PySem.boot_len (pa_cons (pv 0) pa_nil)) (nomark _)) (pw_or1 (pt_cmpR op_gt (pe_callB call_len_seq (by rfl) T.b_len PySem.boot_len (pa_cons (pe_call G_all_pieces (hr.mono (by omega)) rfl T.d_all_pieces.m T.d_all_pieces.F.kp T.d_all_pieces.b .nil pass0 (pa_cons (pe_ix ix_tup (pv 1) pe_int (fun _ _ => rfl)) pa_nil)) pa_nil)) (pe_glob (v := .int 14) rfl T.c_MOST_PIECES.2 ⟨_, rfl⟩) (nomark _))))))
    (pss_one (ps_ret pe_non))
    pss_nil)
    (pss_cons (ps_if (PW.pt (pw_or (pt_cmpR op_gt (pe_call G_gone_through (hr.mono (by omega)) rfl T.d_gone_through.m T.d_gone_through.F.kp T.d_gone_through.b .nil pass0 (pa_cons (pe_ix ix_tup (pv 1) pe_int (fun _ _ => rfl)) pa_nil)) (pe_glob (v := .int 8) rfl T.c_MOST_GONE_THROUGH.2 ⟨_, rfl⟩) (nomark _)) (pw_or1 (pt_val (pe_call G_has_repeat_in_repeat (hr.mono (by omega)) rfl T.d_has_repeat_in_repeat.m T.d_has_repeat_in_repeat.F.kp T.d_has_repeat_in_repeat.b .nil pass0 (pa_cons (pe_ix ix_tup (pv 1) pe_int (fun _ _ => rfl)) pa_nil))))))
    (pss_one (ps_ret pe_non))
    pss_nil)
    (pss_one (ps_ret (pe_ix ix_tup (pv 1) pe_int (fun _ _ => rfl))))))), ?_⟩
  have len : (ns.map V.int).length = ns.length := List.length_map _
  refine ⟨_, rfl, a, ns, 0, rfl, ha, h200, Nat.zero_le _, by omega, fun v1 H1 s1 g1 => ?_⟩
  rw [List.drop_zero] at g1
  have bad0 : fmtIn ns = none → ∀ H2, Same H H2 → Q .non H2 := fun e H2 s2 => q _ _ s2 (by rw [e]; rfl)
  have good : ∀ f, fmtIn ns = some f → ∀ v H2, Same H H2 → RowAt H2 f v → Q v H2 := fun f e v H2 s2 r => q _ _ s2 (by rw [e]; exact r)
  unfold fmtIn at bad0 good
  cases e1 : rdR ns with
  | none =>
    rw [e1] at g1 bad0
    have e2 : v1 = .non := g1
    subst e2
    exact ⟨_, rfl, rfl, _, rfl, iteT (iteT (bad0 rfl H1 s1))⟩
  | some u =>
    obtain ⟨f, t⟩ := u
    rw [e1] at g1 bad0 good
    obtain ⟨x1, t1, r1⟩ := g1
    obtain ⟨b1, rfl, t1'⟩ := t1
    have dp := rdR_deep e1
    have sz := rdR_size e1
    have okf := rdR_ok e1
    have lt := rdR_le e1
    simp only at dp sz okf lt
    refine ⟨_, rfl, rfl, _, rfl, iteF ?_⟩
    have ha1 := s1 a _ ha
    refine ⟨_, rfl, b1, _, 1, _, rfl, rfl, SqT.of t1', rfl, _, rfl, a, _, rfl, .inl (SqL.of ha1), rfl, _, rfl, ?_⟩
    by_cases ct : t = []
    case neg =>
      have ne : ¬ (V.int ((ns.length - t.length : Nat) : Int) = V.int ((ns.map V.int).length : Int)) := fun z => by
        injection z with z
        rw [len] at z
        have := List.length_pos_iff.mpr ct
        omega
      refine ifT (by rw [decide_eq_false ne]; rfl) (iteT (bad0 ?_ H1 s1))
      cases t with
      | nil => exact absurd rfl ct
      | cons _ _ => rfl
    subst ct
    simp only at bad0 good
    refine ifF (by rw [decide_eq_true (by rw [len]; rfl)]; rfl) ?_
    refine ⟨_, rfl, b1, _, 0, _, rfl, rfl, SqT.of t1', rfl, x1, f, rfl, r1, by omega, by omega, fun l H2 xs s2 hl hl2 px => ?_⟩
    have lx := px.length
    rw [subs_length] at lx
    refine ⟨l, xs, rfl, .inl (SqL.of hl2), _, _, rfl, rfl, _, rfl, ?_⟩
    refine iteD (fun c1 => ?_) (fun c1 => ?_)
    · exact bad0 (if_neg (by omega)) H2 (s1.trans s2)
    have t2 := s2 b1 _ t1'
    refine ⟨_, rfl, b1, _, 0, _, rfl, rfl, SqT.of t2, rfl, x1, f, rfl, r1.mono s2, by omega, okf, fun H3 s3 => ?_⟩
    refine ⟨_, _, rfl, rfl, _, rfl, ?_⟩
    refine iteD (fun c2 => iteT (bad0 (if_neg (by omega)) H3 ((s1.trans s2).trans s3))) (fun c2 => ?_)
    have t3 := s3 b1 _ t2
    refine ⟨_, rfl, b1, _, 0, _, rfl, rfl, SqT.of t3, rfl, x1, f, rfl, (r1.mono s2).mono s3, by omega, by omega, fun H4 s4 => ?_⟩
    refine ⟨_, rfl, ?_⟩
    refine iteB (fun c3 => bad0 (if_neg (by rw [c3]; simp)) H4 (((s1.trans s2).trans s3).trans s4)) (fun c3 => ?_)
    have t4 := s4 b1 _ t3
    refine ⟨_, rfl, b1, _, 0, _, rfl, rfl, SqT.of t4, rfl, ?_⟩
    exact good f (if_pos ⟨by omega, by omega, c3⟩) _ _ (((s1.trans s2).trans s3).trans s4) (((r1.mono s2).mono s3).mono s4)
/-- a text, a value told, or None -/
def TextOr (o : Option (List Nat)) (v : V) (H : Hp) : Prop := match o with
  | none => v = .non
  | some t => TN H v t
def spTextIn : Sp := fun vs H Q _ => ∃ (a : Addr) (ns : List Int), vs = [.ref a, .int 24] ∧ H a = some (.lst (ns.map V.int)) ∧ ns.length ≤ 200 ∧
  ∀ v H1, Same H H1 → TextOr (textIn ns) v H1 → Q v H1
theorem ok_text_in (T : Txt K mg) : FnOk P w K mg base CX0 2 T.d_text_in.f T.d_text_in.fd ["n", "most"] spTextIn := by
  have G_read_text := ok_read_text (P := P) (w := w) (base := base) T
  refine T.d_text_in.F.ok sc_text_in (fun vs H Q E h => ?_) (fun cdv A outer s H vs Q E hr h => ?_)
  · obtain ⟨a, ns, rfl, _⟩ := h
    rfl
  obtain ⟨a, ns, rfl, ha, h200, q⟩ := h
  refine ⟨_, (pss_cons (ps_set (i := 2) sc_text_in.nd rfl (Or.inl rfl) (pe_call G_read_text (hr.mono (by omega)) rfl T.d_read_text.m T.d_read_text.F.kp T.d_read_text.b .nil pass0 (pa_cons (pv 0) (pa_cons pe_int (pa_cons pe_int (pa_cons (pv 1) pa_nil))))))
    (pss_one (ps_ret (pe_ifExp (PW.pt (pw_and (pt_cmpR op_notN (pv 2) pe_non (nomark _)) (pw_and1 (pt_cmpR op_eq (pe_ix ix_tup (pv 2) pe_int (fun _ _ => rfl)) (pe_callB call_len_seq (by rfl) T.b_len PySem.boot_len (pa_cons (pv 0) pa_nil)) (nomark _))))) (pe_ix ix_tup (pv 2) pe_int (fun _ _ => rfl)) pe_non)))), ?_⟩
  have len : (ns.map V.int).length = ns.length := List.length_map _
  refine ⟨_, rfl, _, rfl, a, ns, 0, 0, 24, rfl, ha, h200, Nat.zero_le _, Int.le_refl 0, fun v1 H1 s1 g1 => ?_⟩
  rw [List.drop_zero] at g1
  unfold textIn at q
  cases e1 : rText 0 24 ns with
  | none =>
    rw [e1] at g1 q
    have e2 : v1 = .non := g1
    subst e2
    exact ⟨_, rfl, rfl, _, rfl, iteF (iteF (q _ _ s1 rfl))⟩
  | some u =>
    obtain ⟨x, t⟩ := u
    rw [e1] at g1 q
    obtain ⟨x1, t1, r1⟩ := g1
    obtain ⟨b1, rfl, t1'⟩ := t1
    have lt := rText_le e1
    simp only at lt
    refine ⟨_, rfl, rfl, _, rfl, iteT ?_⟩
    have ha1 := s1 a _ ha
    refine ⟨_, rfl, b1, _, 1, _, rfl, rfl, SqT.of t1', rfl, _, rfl, a, _, rfl, .inl (SqL.of ha1), rfl, _, rfl, ?_⟩
    by_cases ct : t = []
    case neg =>
      have ne : ¬ (V.int ((ns.length - t.length : Nat) : Int) = V.int ((ns.map V.int).length : Int)) := fun z => by
        injection z with z
        rw [len] at z
        have := List.length_pos_iff.mpr ct
        omega
      refine ifF (decide_eq_false ne) (q _ _ s1 ?_)
      cases t with
      | nil => exact absurd rfl ct
      | cons _ _ => rfl
    subst ct
    refine ifT (decide_eq_true (by rw [len]; rfl)) ?_
    refine ⟨_, rfl, b1, _, 0, _, rfl, rfl, SqT.of t1', rfl, ?_⟩
    exact q _ _ s1 r1
def spValueIn : Sp := fun vs H Q _ => ∃ (a : Addr) (ns : List Int), vs = [.ref a, .int 40, .int 9999] ∧ H a = some (.lst (ns.map V.int)) ∧ ns.length ≤ 200 ∧
  ∀ v H1, Same H H1 → TextOr (valueIn ns) v H1 → Q v H1
theorem ok_value_in (T : Txt K mg) : FnOk P w K mg base CX0 1 T.d_value_in.f T.d_value_in.fd ["n", "most", "greatest"] spValueIn := by
  refine T.d_value_in.F.ok sc_value_in (fun vs H Q E h => ?_) (fun cdv A outer s H vs Q E hr h => ?_)
  · obtain ⟨a, ns, rfl, _⟩ := h
    rfl
  obtain ⟨a, ns, rfl, ha, h200, q⟩ := h
  refine ⟨_, (pss_cons (ps_if (PW.pt (pw_or (pt_cmpR (op_eqE hr.units) (pv 0) (pe_lst pa_nil) (nomark _)) (pw_or (pt_cmpR op_ne (pe_ix ix_list (pv 0) pe_int (fun _ _ => rfl)) (pe_op op_sub (pe_callB call_len_seq (by rfl) T.b_len PySem.boot_len (pa_cons (pv 0) pa_nil)) pe_int) (nomark _)) (pw_or (pt_cmpR op_gt (pe_ix ix_list (pv 0) pe_int (fun _ _ => rfl)) (pv 1) (nomark _)) (pw_or1 (pt_not (pt_val (pe_callB (cr_all rfl) (by rfl) T.b_all (by decide +kernel) (pa_cons (pe_lc (own := [("one", 3)]) rfl sc_value_in.nd (pi_list (pe_slice sl_list (pv 0) (po_some pe_int) po_none)) (blkOk_by (own := [("one", 3)]) (N := ["n", "most", "greatest", "one"]) (sc := defScope s_value_in) (by decide +kernel)) (fun _ _ _ _ _ => (pg_name (i := 3) sc_value_in.nd rfl (Or.inl rfl))) (fun _ _ _ _ _ => pts_nil) (fun _ _ _ _ _ => (pe_chain op_le op_le pe_int (pv 3) (pv 2)))) pa_nil)))))))))
    (pss_one (ps_ret pe_non))
    pss_nil)
    (pss_one (ps_ret (pe_callTy call_tuple_of (by rfl) T.b_tuple (by decide +kernel) (pa_cons (pe_slice sl_list (pv 0) (po_some pe_int) po_none) pa_nil))))), ?_⟩
  have len : (ns.map V.int).length = ns.length := List.length_map _
  refine ⟨_, rfl, (by show 0 ≤ sizeLine; decide), fun c hc => ?_⟩
  have s1 := same_new (o := .lst []) hc
  refine ⟨a, _, c, rfl, rfl, s1 a _ ha, dats_ints ns, upd_same, _, rfl, ?_⟩
  generalize upd H c (.lst []) = H1 at s1
  have ha1 := s1 a _ ha
  cases ns with
  | nil => exact iteT (q _ _ s1 rfl)
  | cons z r =>
    refine iteF ?_
    simp only [valueIn] at q
    have bad0 : ¬ (z = (r.length : Int) ∧ z ≤ 40 ∧ (r.all fun b => decide (0 ≤ b) && decide (b ≤ 9999)) = true) → ∀ H2, Same H H2 → Q .non H2 := fun e H2 s2 => q _ _ s2 (by rw [if_neg e]; rfl)
    refine ⟨_, rfl, a, _, 0, _, rfl, rfl, SqL.of ha1, at0, _, rfl, a, _, rfl, .inl (SqL.of ha1), _, _, rfl, rfl, rfl, _, rfl, ?_⟩
    have lr : (((z :: r).map V.int).length : Int) - 1 = (r.length : Int) := by
      rw [List.length_map, List.length_cons]
      omega
    by_cases c1 : z = (r.length : Int)
    case neg =>
      have ne : ¬ (V.int z = V.int ((((z :: r).map V.int).length : Int) - 1)) := fun e => by
        injection e with e
        exact c1 (e.trans lr)
      refine ifT ?_ (iteT (bad0 (fun x => c1 x.1) _ s1))
      show (!decide (V.int z = V.int ((((z :: r).map V.int).length : Int) - 1))) = true
      rw [decide_eq_false ne]
      rfl
    have yes : V.int z = V.int ((((z :: r).map V.int).length : Int) - 1) := congrArg V.int (c1.trans lr.symm)
    refine ifF ?_ ?_
    · show (!decide (V.int z = V.int ((((z :: r).map V.int).length : Int) - 1))) = false
      rw [decide_eq_true yes]
      rfl
    refine ⟨_, rfl, a, _, 0, _, rfl, rfl, SqL.of ha1, at0, _, rfl, _, _, rfl, rfl, _, rfl, ?_⟩
    refine iteD (fun c2 => iteT (bad0 (fun x => by have := x.2.1; omega) _ s1)) (fun c2 => ?_)
    -- all([..])
    refine ⟨_, rfl, _, rfl, a, _, rfl, SqL.of ha1, fun p hp => ?_⟩
    have cut : cutV ((z :: r).map V.int) (some 1) none = r.map V.int := cut_from (a := 1) rfl
    rw [cut]
    have s2 := same_new (o := .lst (r.map V.int)) hp
    refine ⟨p, rfl, ⟨_, SqL.of upd_same⟩, lc_fnL (K := K) (F := fun b => V.bl (decide (0 ≤ b) && decide (b ≤ 9999))) (SqL.of upd_same) (small_le (by simp only [List.length_cons] at h200; omega)) (fun b hb H3 s3 Qy k3 => ?_) (fun D H3 hD s3 e3 => ?_) gN⟩
    · refine ⟨rfl, _, rfl, _, _, rfl, rfl, _, rfl, ?_⟩
      refine iteD (fun c4 => ?_) (fun c4 => ?_)
      · refine ⟨_, rfl, _, _, rfl, rfl, ?_⟩
        have := k3 H3 (Same.refl _)
        rw [decide_eq_true c4, Bool.true_and] at this
        exact this
      · have := k3 H3 (Same.refl _)
        rw [decide_eq_false c4, Bool.false_and] at this
        exact this
    refine ⟨D, r.map (fun b => decide (0 ≤ b) && decide (b ≤ 9999)), rfl, SqL.of (by rw [e3, List.map_map]; rfl), _, rfl, ?_⟩
    have e5 : (r.map (fun b => decide (0 ≤ b) && decide (b ≤ 9999))).all id = r.all (fun b => decide (0 ≤ b) && decide (b ≤ 9999)) := by
      rw [List.all_map]
      rfl
    rw [e5]
    have s12 := (s1.trans s2).trans s3
    refine iteBN (fun c5 => bad0 (fun x => by rw [x.2.2] at c5; cases c5) _ s12) (fun c5 => ?_)
    have ha3 := s3 a _ (s2 a _ ha1)
    refine ⟨_, rfl, _, rfl, a, _, rfl, SqL.of ha3, fun p2 hp2 => ?_⟩
    rw [cut]
    have s4 := same_new (o := .lst (r.map V.int)) hp2
    refine ⟨p2, _, rfl, .inl ⟨SqL.of upd_same, fun t ht => ?_⟩⟩
    have s5 := same_new (o := .tup (r.map V.int)) ht
    refine q _ _ ((s12.trans s4).trans s5) ?_
    rw [if_pos ⟨c1, by omega, c5⟩]
    refine ⟨t, rfl, upd_same.trans ?_⟩
    unfold ni
    rw [List.map_map]
    refine congrArg (fun x => some (HO.tup x)) (List.map_congr_left fun b hb => ?_)
    have := List.all_eq_true.mp c5 b hb
    simp only [Bool.and_eq_true, decide_eq_true_eq] at this
    simp only [Function.comp]
    congr 1
    omega
end
end Asc
namespace Asc
open PySem PySem.Spec PyProof.Rows L2
open VafmsBase (Fmt)
section
variable {P : Program} {w : World} {K : PySem.W.Frag} {mg : Str → Option PySem.Value} {base : Heap}

/-! ### prints -/
theorem lc_fnS {x : Str} {F : Nat → V} {cs : List Nat} {g : TG} {te : TE} {vs : List Nat} {σ : L2.St} {H : Hp} {Q : Addr → Hp → Prop} (hl : x.cps.toList = cs) (hz : cs.length ≤ sizeLine)
    (step : ∀ d, d ∈ cs → ∀ H1, Same H H1 → ∀ Qy : V → Hp → Prop, (∀ H2, Same H1 H2 → Qy (F d) H2) → g (.str ⟨#[d]⟩) (wipe σ vs) H1 fun σ2 H2 => wipe σ2 vs = wipe σ vs ∧ te σ2 H2 Qy)
    (hd : ∀ D H1, H D = none → Same H H1 → H1 D = some (.lst (cs.map F)) → Q D H1)
    (hg : ∀ x σ H (A B : L2.St → Hp → Prop), (∀ σ H, A σ H → B σ H) → g x σ H A → g x σ H B) :
    ∀ D, H D = none → ∃ W : Nat → Nat → Hp → Prop, (∃ m, W 0 m (upd H D (.lst []))) ∧ ∀ i m H, W i m H →
      ((Its x).stop i H ∧ Q D H) ∨ ((Its x).go i H ∧ ∃ Nx : Hp → Prop, (∀ H', Nx H' → ∃ m', m' < m ∧ W (i + 1) m' H') ∧ ∀ y H', (Its x).yld i H y H' → g y (wipe σ vs) H' fun σ2 H2 => wipe σ2 vs = wipe σ vs ∧ tYes σ2 H2 fun b H3 =>
        if b = true then te σ2 H3 fun y H4 => ∃ acc, H4 D = some (.lst acc) ∧ acc.length < sizeLine ∧ Nx (upd H4 D (.lst (acc ++ [y]))) else Nx H3) := by
  intro D hD
  have sz : x.cps.size = cs.length := by rw [← hl]; rfl
  have get : ∀ i, x.cps[i]? = cs[i]? := fun i => by rw [← hl, Array.getElem?_toList]
  refine ⟨fun i m H2 => m = cs.length - i ∧ i ≤ cs.length ∧ Same H H2 ∧ H2 D = some (.lst ((cs.take i).map F)), ⟨cs.length, by simp, Nat.zero_le _, same_new hD, upd_same⟩, ?_⟩
  rintro i m H2 ⟨rfl, hi, s1, e1⟩
  by_cases hlt : i < cs.length
  · refine .inr ⟨show i < x.cps.size by omega, fun H3 => Same H H3 ∧ H3 D = some (.lst ((cs.take (i + 1)).map F)), fun H' p' => ⟨cs.length - (i + 1), by omega, rfl, hlt, p'⟩, fun y H' yy => ?_⟩
    obtain ⟨e, c, hc, e2⟩ := yy
    subst e e2
    rw [get] at hc
    refine hg _ _ _ _ _ ?_ (step c (List.mem_of_getElem? hc) H' s1 (fun y H4 => ∃ acc, H4 D = some (.lst acc) ∧ acc.length < sizeLine ∧ Same H (upd H4 D (.lst (acc ++ [y]))) ∧ (upd H4 D (.lst (acc ++ [y]))) D = some (.lst ((cs.take (i + 1)).map F))) fun H4 s4 => ?_)
    · exact fun σ2 H2 h => ⟨h.1, iteT (A := te σ2 H2 _) (B := Same H H2 ∧ H2 D = some (.lst ((cs.take (i + 1)).map F))) h.2⟩
    · refine ⟨_, s4 D _ e1, ?_, Same.mut (s1.trans s4) hD, ?_⟩
      · rw [List.length_map, List.length_take]
        omega
      · rw [upd_same, List.take_add_one, hc, List.map_append]
        rfl
  · have e : i = cs.length := by omega
    subst e
    rw [List.take_length] at e1
    exact .inl ⟨show x.cps.size ≤ cs.length by omega, hd D H2 hD s1 e1⟩
def spDigitsOf : Sp := fun vs H Q _ => ∃ n : Nat, vs = [.int (n : Int)] ∧ n ≤ 9999 ∧ ∀ v H1, Same H H1 → TN H1 v (VafmsBase.digitsOf n) → Q v H1
theorem digits_len {n : Nat} (h : n ≤ 9999) : (VafmsBase.digitsOf n).length ≤ 4 := by
  rw [digits_if]
  split
  · simp
  · rw [digits_if]
    split
    · simp
    · rw [digits_if]
      split
      · simp
      · rw [digits_if]
        split
        · simp
        · omega
theorem one_reads {c : Nat} (h1 : 48 ≤ c) (h2 : c ≤ 57) : PySem.intText? (⟨#[c]⟩ : Str) = some ((c - 48 : Nat) : Int) := by
  have e := PySem.intText_digits (x := (⟨#[c]⟩ : Str)) (fun d hd => by
    have : d = c := by simpa using hd
    subst this
    exact ⟨h1, h2⟩) (by simp) (by show 1 ≤ 4300; decide)
  rw [e]
  congr 2
  show 0 * 10 + (c - 48) = c - 48
  omega
theorem ok_digits_of (T : Txt K mg) : FnOk P w K mg base CX0 1 T.d_digits_of.f T.d_digits_of.fd ["number"] spDigitsOf := by
  refine T.d_digits_of.F.ok sc_digits_of (fun vs H Q E h => ?_) (fun cdv A outer s H vs Q E hr h => ?_)
  · obtain ⟨n, rfl, _⟩ := h
    rfl
  obtain ⟨n, rfl, hn, q⟩ := h
  refine ⟨_, (pss_one (ps_ret (pe_callTy call_tuple_of (by rfl) T.b_tuple (by decide +kernel) (pa_cons (pe_lc (own := [("sign", 1)]) rfl sc_digits_of.nd (pi_str (pe_callTy call_str_int (by rfl) T.b_str (by decide +kernel) (pa_cons (pv 0) pa_nil))) (blkOk_by (own := [("sign", 1)]) (N := ["number", "sign"]) (sc := defScope s_digits_of) (by decide +kernel)) (fun _ _ _ _ _ => (pg_name (i := 1) sc_digits_of.nd rfl (Or.inl rfl))) (fun _ _ _ _ _ => pts_nil) (fun _ _ _ _ _ => (pe_op op_add (pe_glob (v := .int 48) rfl T.c_NOUGHT.2 ⟨_, rfl⟩) (pe_callTy call_int_str (by rfl) T.b_int (by decide +kernel) (pa_cons (pv 1) pa_nil))))) pa_nil)))), ?_⟩
  have dl := digits_len hn
  refine ⟨_, rfl, _, rfl, ?_, _, rfl, lc_fnS (F := fun c => V.int (c : Int)) (PySem.W.KIN.signs_num n) (Nat.le_trans dl (by decide)) (fun c hc H1 s1 Qy k1 => ?_) (fun D H1 hD s1 e1 => ?_) gN⟩
  · rw [Int.natAbs_natCast]
    by_cases z : n = 0
    · subst z
      decide
    · exact Nat.lt_trans ((Nat.log2_lt (n := n) (k := 14) z).mpr (by omega)) (by decide)
  · have dg := List.all_eq_true.mp (digits_all n) c hc
    simp only [VafmsBase.isDigit, Bool.and_eq_true, decide_eq_true_eq] at dg
    refine ⟨rfl, _, rfl, _, _, rfl, one_reads dg.1 dg.2, (by show 1 ≤ 640; decide), _, _, rfl, rfl, ?_⟩
    have := k1 H1 (Same.refl _)
    show Qy (.int (48 + ((c - 48 : Nat) : Int))) H1
    rw [show (48 : Int) + ((c - 48 : Nat) : Int) = (c : Int) by omega]
    exact this
  · refine ⟨D, _, rfl, .inl ⟨SqL.of e1, fun t ht => ?_⟩⟩
    exact q _ _ (s1.trans (same_new ht)) (Tup.of upd_same)
/-- what a print hands back -/
def Prn (len : Nat) (o : Option (List Nat × List Nat)) (v : V) (H : Hp) : Prop := match o with
  | none => v = .non
  | some u => ∃ x, Tup H v [x, .int ((len - u.2.length : Nat) : Int)] ∧ TN H x u.1
def Val (xs : List Nat) : Prop := xs.length ≤ 1000 ∧ ∀ x ∈ xs, x ≤ 9999
def spPr (ok : Pc → Prop) : Sp := fun vs H Q _ => ∃ (v y : V) (p : Pc) (xs : List Nat) (k : Nat), vs = [v, y, .int (k : Int)] ∧ ok p ∧ PcAt H p v ∧ p.okSp = true ∧ p.wide ≤ 10000 ∧ TN H y xs ∧ Val xs ∧ k ≤ xs.length ∧
  ∀ r H1, Same H H1 → Prn xs.length (prP p (xs.drop k)) r H1 → Q r H1
def isNum (p : Pc) : Prop := match p with | .num _ _ => True | _ => False
def isWord (p : Pc) : Prop := match p with | .word _ _ => True | _ => False
def isRepN (n : Nat) (p : Pc) : Prop := match p with | .rep _ _ _ a => depth a < n | _ => False
theorem ok_print_number (T : Txt K mg) : FnOk P w K mg base CX0 2 T.d_print_number.f T.d_print_number.fd ["piece", "value", "at"] (spPr isNum) := by
  have G_digits_of := ok_digits_of (P := P) (w := w) (base := base) T
  refine T.d_print_number.F.ok sc_print_number (fun vs H Q E h => ?_) (fun cdv A outer s H vs Q E hr h => ?_)
  · obtain ⟨v, y, p, xs, k, rfl, _⟩ := h
    rfl
  obtain ⟨v, y, p, xs, k, rfl, hp, pt, okp, wd, ⟨b, rfl, hb⟩, val, hk, q⟩ := h
  refine ⟨_, (pss_cons (ps_asg (pv 0) (pg_tup rfl (pgs_cons (pg_name (i := 3) sc_print_number.nd rfl (Or.inl rfl)) (pgs_cons (pg_name (i := 4) sc_print_number.nd rfl (Or.inl rfl)) (pgs_cons (pg_name (i := 5) sc_print_number.nd rfl (Or.inl rfl)) pgs_nil)))))
    (pss_cons (ps_if (pt_cmpR op_ge (pv 2) (pe_callB call_len_seq (by rfl) T.b_len PySem.boot_len (pa_cons (pv 1) pa_nil)) (nomark _))
    (pss_one (ps_ret pe_non))
    pss_nil)
    (pss_cons (ps_set (i := 6) sc_print_number.nd rfl (Or.inl rfl) (pe_call G_digits_of (hr.mono (by omega)) rfl T.d_digits_of.m T.d_digits_of.F.kp T.d_digits_of.b .nil pass0 (pa_cons (pe_ix ix_tup (pv 1) (pv 2) (fun _ _ => rfl)) pa_nil)))
    (pss_cons (ps_if (pt_cmpR op_eq (pv 4) (pv 5) (nomark _))
    (pss_one (ps_set (i := 6) sc_print_number.nd rfl (Or.inl rfl) (pe_op op_cat2 (pe_op op_mul2 (pe_tup (pa_cons (pe_glob (v := .int 48) rfl T.c_NOUGHT.2 ⟨_, rfl⟩) pa_nil)) (pe_op op_sub (pv 4) (pe_callB call_len_seq (by rfl) T.b_len PySem.boot_len (pa_cons (pv 6) pa_nil)))) (pv 6))))
    pss_nil)
    (pss_one (ps_ret (pe_ifExp (pt_chain op_le op_le (pv 4) (pe_callB call_len_seq (by rfl) T.b_len PySem.boot_len (pa_cons (pv 6) pa_nil)) (pv 5)) (pe_tup (pa_cons (pv 6) (pa_cons (pe_op op_add (pv 2) pe_int) pa_nil))) pe_non))))))), ?_⟩
  cases p with
  | lit w => cases hp
  | word lo hi => cases hp
  | alt f g => cases hp
  | opt f => cases hp
  | rep t lo hi g => cases hp
  | num lo hi =>
    obtain ⟨a, rfl, ha⟩ := pt
    simp only [Pc.okSp, Bool.and_eq_true, decide_eq_true_eq] at okp
    obtain ⟨l1, l2, l3⟩ := okp
    have len : (ni xs).length = xs.length := ni_length _
    refine ⟨_, rfl, a, _, rfl, SqT.of ha, rfl, _, _, rfl, _, _, rfl, _, _, rfl, rfl, ?_⟩
    refine ⟨_, rfl, _, rfl, b, _, rfl, .inr (SqT.of hb), _, _, rfl, rfl, _, rfl, ?_⟩
    refine iteD (fun c => ?_) (fun c => ?_)
    · rw [List.drop_of_length_le (by rw [len] at c; omega)] at q
      exact q _ _ (Same.refl H) rfl
    rw [len] at c
    have hlt : k < xs.length := by omega
    have hz : xs[k]? = some xs[k] := List.getElem?_eq_getElem hlt
    have hd : xs.drop k = xs[k] :: xs.drop (k + 1) := List.drop_eq_getElem_cons hlt
    have hle : xs[k] ≤ 9999 := val.2 _ (List.getElem_mem hlt)
    generalize xs[k] = z at hz hd hle
    rw [hd] at q
    simp only [prP] at q
    have dl : (xs.drop (k + 1)).length = xs.length - (k + 1) := List.length_drop
    refine ⟨_, rfl, _, rfl, b, _, _, _, rfl, rfl, SqT.of hb, atNi rfl hz, z, rfl, hle, fun d0 H1 s1 td => ?_⟩
    have dlen := digits_len hle
    obtain ⟨d, rfl, hd1⟩ := td
    have ndl : (ni (VafmsBase.digitsOf z)).length = (VafmsBase.digitsOf z).length := ni_length _
    unfold VafmsBase.printNum at q
    simp only at q
    generalize VafmsBase.digitsOf z = ds at *
    have place : (k : Int) + 1 = ((xs.length - (xs.drop (k + 1)).length : Nat) : Int) := by rw [dl]; omega
    -- the end, for any digits at last
    refine ⟨_, rfl, _, rfl, rfl, _, rfl, ?_⟩
    by_cases c1 : lo = hi
    · subst c1
      rw [if_pos rfl] at q
      refine ifT (decide_eq_true rfl) ?_
      refine ⟨(by show 1 ≤ sizeLine; decide), fun p hp => ?_⟩
      refine ⟨_, rfl, _, rfl, d, _, rfl, .inr (SqT.of ((same_new hp) d _ hd1)), _, _, rfl, rfl, ?_⟩
      refine ⟨_, _, Tup.of upd_same, rfl, by rw [ndl]; omega, by rw [ndl]; omega, by show 1 ≤ 1000; decide, fun e H2 s2 te => ?_⟩
      have s3 := (same_new (o := .tup [V.int 48]) hp).trans s2
      refine ⟨_, rfl, _, _, te, Tup.of (s3 d _ hd1), small_le ?_, fun f H3 s4 tf => ?_⟩
      · rw [ndl, List.length_flatten, List.map_replicate, List.sum_replicate_nat]
        simp only [List.length_singleton]
        omega
      have ef : (List.replicate ((lo : Int) - ((ni ds).length : Int)).toNat [V.int 48]).flatten ++ ni ds = ni (List.replicate (lo - ds.length) 48 ++ ds) := by
        rw [ni_append, ndl]
        congr 1
        rw [show ((lo : Int) - (ds.length : Int)).toNat = lo - ds.length by omega]
        generalize lo - ds.length = m
        unfold ni
        rw [List.map_replicate]
        induction m with
        | zero => rfl
        | succ m ih => rw [List.replicate_succ, List.flatten_cons, ih]; rfl
      rw [ef] at tf
      obtain ⟨f, rfl, hf⟩ := tf
      have s5 : Same H H3 := (s1.trans s3).trans s4
      have lf : (ni (List.replicate (lo - ds.length) 48 ++ ds)).length = lo - ds.length + ds.length := by
        rw [ni_length, List.length_append, List.length_replicate]
      refine ⟨_, rfl, _, rfl, f, _, rfl, .inr (SqT.of hf), _, _, rfl, rfl, _, rfl, ?_⟩
      rw [lf]
      refine ifT (decide_eq_true (by omega)) ?_
      refine ⟨_, rfl, _, _, rfl, rfl, _, rfl, ?_⟩
      refine iteD (fun c2 => ?_) (fun c2 => ?_)
      · refine ⟨_, rfl, _, rfl, _, _, rfl, rfl, (by show 2 ≤ sizeLine; decide), fun u hu => ?_⟩
        rw [if_pos (show ds.length ≤ lo by omega)] at q
        refine q _ _ (s5.trans (same_new hu)) ⟨_, Tup.of (upd_same.trans ?_), Tup.mono (same_new hu) (Tup.of hf)⟩
        rw [← place]
      · rw [if_neg (show ¬ ds.length ≤ lo by omega)] at q
        exact q _ _ s5 rfl
    · rw [if_neg c1] at q
      refine ifF (decide_eq_false (by rintro e; injection e with e; omega)) ?_
      refine ⟨_, rfl, _, rfl, d, _, rfl, .inr (SqT.of hd1), _, _, rfl, rfl, _, rfl, ?_⟩
      rw [ndl]
      refine iteD (fun c2 => ?_) (fun c2 => ?_)
      · refine ⟨_, rfl, _, _, rfl, rfl, _, rfl, ?_⟩
        refine iteD (fun c3 => ?_) (fun c3 => ?_)
        · refine ⟨_, rfl, _, rfl, _, _, rfl, rfl, (by show 2 ≤ sizeLine; decide), fun u hu => ?_⟩
          rw [if_pos (show lo ≤ ds.length ∧ ds.length ≤ hi by omega)] at q
          refine q _ _ (s1.trans (same_new hu)) ⟨_, Tup.of (upd_same.trans ?_), Tup.mono (same_new hu) (Tup.of hd1)⟩
          rw [← place]
        · rw [if_neg (show ¬ (lo ≤ ds.length ∧ ds.length ≤ hi) by omega)] at q
          exact q _ _ s1 rfl
      · rw [if_neg (show ¬ (lo ≤ ds.length ∧ ds.length ≤ hi) by omega)] at q
        exact ⟨_, rfl, iteF (q _ _ s1 rfl)⟩
theorem ok_print_word (T : Txt K mg) : FnOk P w K mg base CX0 1 T.d_print_word.f T.d_print_word.fd ["piece", "value", "at"] (spPr isWord) := by
  refine T.d_print_word.F.ok sc_print_word (fun vs H Q E h => ?_) (fun cdv A outer s H vs Q E hr h => ?_)
  · obtain ⟨v, y, p, xs, k, rfl, _⟩ := h
    rfl
  obtain ⟨v, y, p, xs, k, rfl, hp, pt, okp, wd, ⟨b, rfl, hb⟩, val, hk, q⟩ := h
  refine ⟨_, (pss_cons (ps_asg (pv 0) (pg_tup rfl (pgs_cons (pg_name (i := 3) sc_print_word.nd rfl (Or.inl rfl)) (pgs_cons (pg_name (i := 4) sc_print_word.nd rfl (Or.inl rfl)) (pgs_cons (pg_name (i := 5) sc_print_word.nd rfl (Or.inl rfl)) pgs_nil)))))
    (pss_cons (ps_if (PW.pt (pw_or (pt_cmpR op_ge (pv 2) (pe_callB call_len_seq (by rfl) T.b_len PySem.boot_len (pa_cons (pv 1) pa_nil)) (nomark _)) (pw_or (pt_not (pt_chain op_le op_le (pv 4) (pe_ix ix_tup (pv 1) (pv 2) (fun _ _ => rfl)) (pv 5))) (pw_or1 (pt_cmpR op_gt (pe_op op_add (pe_op op_add (pv 2) pe_int) (pe_ix ix_tup (pv 1) (pv 2) (fun _ _ => rfl))) (pe_callB call_len_seq (by rfl) T.b_len PySem.boot_len (pa_cons (pv 1) pa_nil)) (nomark _))))))
    (pss_one (ps_ret pe_non))
    pss_nil)
    (pss_cons (ps_set (i := 6) sc_print_word.nd rfl (Or.inl rfl) (pe_slice sl_tup2 (pv 1) (po_some (pe_op op_add (pv 2) pe_int)) (po_some (pe_op op_add (pe_op op_add (pv 2) pe_int) (pe_ix ix_tup (pv 1) (pv 2) (fun _ _ => rfl))))))
    (pss_cons (ps_if (pt_not (pt_val (pe_callB (cr_all rfl) (by rfl) T.b_all (by decide +kernel) (pa_cons (pe_lc (own := [("letter", 7)]) rfl sc_print_word.nd (pi_tup (pv 6)) (blkOk_by (own := [("letter", 7)]) (N := ["piece", "value", "at", "kind", "least", "most", "letters", "letter"]) (sc := defScope s_print_word) (by decide +kernel)) (fun _ _ _ _ _ => (pg_name (i := 7) sc_print_word.nd rfl (Or.inl rfl))) (fun _ _ _ _ _ => pts_nil) (fun _ _ _ _ _ => (pe_cmpR op_lt (pv 7) (pe_glob (v := .int 26) rfl T.c_LETTERS.2 ⟨_, rfl⟩) (nomark _)))) pa_nil))))
    (pss_one (ps_ret pe_non))
    pss_nil)
    (pss_one (ps_ret (pe_tup (pa_cons (pe_callTy call_tuple_of (by rfl) T.b_tuple (by decide +kernel) (pa_cons (pe_lc (own := [("letter", 7)]) rfl sc_print_word.nd (pi_tup (pv 6)) (blkOk_by (own := [("letter", 7)]) (N := ["piece", "value", "at", "kind", "least", "most", "letters", "letter"]) (sc := defScope s_print_word) (by decide +kernel)) (fun _ _ _ _ _ => (pg_name (i := 7) sc_print_word.nd rfl (Or.inl rfl))) (fun _ _ _ _ _ => pts_nil) (fun _ _ _ _ _ => (pe_op op_add (pe_glob (v := .int 97) rfl T.c_SMALL_A.2 ⟨_, rfl⟩) (pv 7)))) pa_nil)) (pa_cons (pe_op op_add (pe_op op_add (pv 2) pe_int) (pe_ix ix_tup (pv 1) (pv 2) (fun _ _ => rfl))) pa_nil))))))))), ?_⟩
  cases p with
  | lit w => cases hp
  | num lo hi => cases hp
  | alt f g => cases hp
  | opt f => cases hp
  | rep t lo hi g => cases hp
  | word lo hi =>
    obtain ⟨a, rfl, ha⟩ := pt
    simp only [Pc.okSp, Bool.and_eq_true, decide_eq_true_eq] at okp
    obtain ⟨l1, l2, l3⟩ := okp
    have len : (ni xs).length = xs.length := ni_length _
    refine ⟨_, rfl, a, _, rfl, SqT.of ha, rfl, _, _, rfl, _, _, rfl, _, _, rfl, rfl, ?_⟩
    refine ⟨_, rfl, _, rfl, b, _, rfl, .inr (SqT.of hb), _, _, rfl, rfl, _, rfl, ?_⟩
    refine iteD (fun c => ?_) (fun c => ?_)
    · rw [List.drop_of_length_le (by rw [len] at c; omega)] at q
      exact iteT (q _ _ (Same.refl H) rfl)
    rw [len] at c
    have hlt : k < xs.length := by omega
    have hz : xs[k]? = some xs[k] := List.getElem?_eq_getElem hlt
    have hd : xs.drop k = xs[k] :: xs.drop (k + 1) := List.drop_eq_getElem_cons hlt
    generalize xs[k] = z at hz hd
    rw [hd] at q
    simp only [prP] at q
    have dl : (xs.drop (k + 1)).length = xs.length - (k + 1) := List.length_drop
    have fail : (z < lo ∨ hi < z ∨ (xs.drop (k + 1)).length < z) → Q .non H := fun e => q _ _ (Same.refl H) (by rw [if_pos e]; rfl)
    refine ⟨_, rfl, _, rfl, _, rfl, b, _, _, _, rfl, rfl, SqT.of hb, atNi rfl hz, _, _, rfl, rfl, _, rfl, ?_⟩
    refine iteD (fun c1 => ?_) (fun c1 => ?_)
    case refine_2 => exact ⟨_, rfl, iteT (iteT (fail (.inl (by omega))))⟩
    refine ⟨_, rfl, _, _, rfl, rfl, _, rfl, ?_⟩
    refine iteN (fun c2 => iteT (fail (.inr (.inl (by omega))))) (fun c2 => ?_)
    refine ⟨_, rfl, _, _, rfl, rfl, _, rfl, _, rfl, b, _, _, _, rfl, rfl, SqT.of hb, atNi rfl hz, _, _, rfl, rfl, _, rfl, b, _, rfl, .inr (SqT.of hb), _, _, rfl, rfl, _, rfl, ?_⟩
    rw [len]
    refine iteD (fun c3 => fail (.inr (.inr (by omega)))) (fun c3 => ?_)
    rw [if_neg (show ¬ (z < lo ∨ hi < z ∨ (xs.drop (k + 1)).length < z) by omega)] at q
    -- letters
    refine ⟨_, rfl, _, rfl, _, _, rfl, rfl, _, rfl, _, rfl, _, _, rfl, rfl, _, rfl, _, rfl, b, _, _, _, rfl, rfl, SqT.of hb, atNi rfl hz, _, _, rfl, rfl, _, rfl, _, Tup.of hb, fun d0 H1 s1 td => ?_⟩
    have cut : cutV (ni xs) (some ((k : Int) + 1)) (some ((k : Int) + 1 + (z : Int))) = ni ((xs.drop (k + 1)).take z) := by
      rw [cut_two (a := k + 1) (b := k + 1 + z) (by omega) (by omega), ni_cut, show k + 1 + z - (k + 1) = z by omega]
    rw [cut] at td
    have lls : ((xs.drop (k + 1)).take z).length = z := by rw [List.length_take]; omega
    generalize (xs.drop (k + 1)).take z = ls at *
    obtain ⟨d, rfl, hd1⟩ := td
    unfold VafmsBase.printWord at q
    refine ⟨_, rfl, d, rfl, ⟨_, SqT.of hd1⟩, lc_fnT (K := K) (F := fun x : Nat => V.bl (decide (x < 26))) (ds := ls) hd1 (small_le (by omega)) (fun x hx H3 s3 Qy k3 => ?_) (fun D H3 hD s3 e3 => ?_) gN⟩
    · refine ⟨rfl, _, rfl, _, _, rfl, rfl, ?_⟩
      have := k3 H3 (Same.refl _)
      rw [show decide (x < 26) = decide ((x : Int) < 26) by rw [Bool.eq_iff_iff]; simp only [decide_eq_true_eq]; omega] at this
      exact this
    refine ⟨D, ls.map (fun x => decide (x < 26)), rfl, SqL.of (by rw [e3, List.map_map]; rfl), _, rfl, ?_⟩
    have e5 : (ls.map (fun x => decide (x < 26))).all id = ls.all (fun x => decide (x < 26)) := by
      rw [List.all_map]
      rfl
    rw [e5]
    have s13 := s1.trans s3
    refine iteBN (fun c5 => q _ _ s13 (by rw [if_neg (by rw [c5]; decide)]; rfl)) (fun c5 => ?_)
    rw [if_pos c5] at q
    have hd3 := s3 d _ hd1
    refine ⟨_, rfl, d, rfl, ⟨_, SqT.of hd3⟩, lc_fnT (K := K) (F := fun x : Nat => V.int ((97 + x : Nat) : Int)) (ds := ls) hd3 (small_le (by omega)) (fun x hx H4 s4 Qy k4 => ?_) (fun D2 H4 hD2 s4 e4 => ?_) gN⟩
    · refine ⟨rfl, _, rfl, _, _, rfl, rfl, ?_⟩
      have := k4 H4 (Same.refl _)
      rw [show ((97 + x : Nat) : Int) = 97 + (x : Int) by omega] at this
      exact this
    refine ⟨D2, _, rfl, .inl ⟨SqL.of e4, fun t ht => ?_⟩⟩
    have s14 := s13.trans s4
    have s15 := s14.trans (same_new (o := .tup (ls.map fun x : Nat => V.int ((97 + x : Nat) : Int))) ht)
    refine ⟨_, rfl, _, _, rfl, rfl, _, rfl, _, rfl, b, _, _, _, rfl, rfl, SqT.of (s15 b _ hb), atNi rfl hz, _, _, rfl, rfl, (by show 2 ≤ sizeLine; decide), fun u hu => ?_⟩
    refine q _ _ (s15.trans (same_new hu)) ⟨_, Tup.of (upd_same.trans ?_), Tup.mono (same_new hu) (Tup.of (upd_same.trans ?_))⟩
    · have : (k : Int) + 1 + (z : Int) = ((xs.length - ((xs.drop (k + 1)).drop z).length : Nat) : Int) := by
        rw [List.length_drop, dl]
        omega
      exact congrArg (fun i => some (HO.tup [V.ref t, V.int i])) this
    · unfold ni
      rw [List.map_map]
      rfl
end
end Asc
namespace Asc
open PySem PySem.Spec PyProof.Rows L2
open VafmsBase (Fmt)
section
variable {P : Program} {w : World} {K : PySem.W.Frag} {mg : Str → Option PySem.Value} {base : Heap}

theorem rest_at {f : Fmt} {xs : List Nat} {k : Nat} {u : List Nat × List Nat} (hk : k ≤ xs.length) (h : VafmsBase.printed f (xs.drop k) = some u) : xs.length - u.2.length ≤ xs.length ∧ xs.drop (xs.length - u.2.length) = u.2 := by
  obtain ⟨w, e⟩ := printed_rest f _ _ h
  have e2 : xs = (xs.take k ++ w) ++ u.2 := by rw [List.append_assoc, ← e, List.take_append_drop]
  exact ⟨Nat.sub_le _ _, (rest_drop e2).symm⟩
theorem restP_at {p : Pc} {xs : List Nat} {k : Nat} {u : List Nat × List Nat} (hk : k ≤ xs.length) (h : prP p (xs.drop k) = some u) : xs.length - u.2.length ≤ xs.length ∧ xs.drop (xs.length - u.2.length) = u.2 := by
  obtain ⟨w, e⟩ := prP_rest p (fun a _ => printed_rest a) _ _ h
  have e2 : xs = (xs.take k ++ w) ++ u.2 := by rw [List.append_assoc, ← e, List.take_append_drop]
  exact ⟨Nat.sub_le _ _, (rest_drop e2).symm⟩
def spPrintRow (n : Nat) : Sp := fun vs H Q _ => ∃ (v y : V) (f : Fmt) (xs : List Nat) (k : Nat), vs = [v, y, .int (k : Int)] ∧ RowAt H f v ∧ depth f < n ∧ okSp f = true ∧ wide f ≤ 10000 ∧ TN H y xs ∧ Val xs ∧ k ≤ xs.length ∧
  ∀ r H1, Same H H1 → Prn xs.length (VafmsBase.printed f (xs.drop k)) r H1 → Q r H1
def spPrintChosen (n : Nat) : Sp := fun vs H Q _ => ∃ (a : Addr) (y v0 v1 : V) (f g : Fmt) (xs : List Nat) (k : Nat), vs = [.ref a, y, .int (k : Int)] ∧ H a = some (.lst [v0, v1]) ∧ (RowAt H f v0 ∧ depth f < n ∧ okSp f = true ∧ wide f ≤ 10000) ∧ (RowAt H g v1 ∧ depth g < n ∧ okSp g = true ∧ wide g ≤ 10000) ∧
  TN H y xs ∧ Val xs ∧ k ≤ xs.length ∧ ∀ r H1, Same H H1 → Prn xs.length (prP (.alt f g) (xs.drop k)) r H1 → Q r H1
theorem ok_print_chosen {n : Nat} (T : Txt K mg) (G_print_row : FnOk P w K mg base CX0 (3 * n + 1) T.d_print_row.f T.d_print_row.fd ["row", "value", "at"] (spPrintRow n)) :
    FnOk P w K mg base CX0 (3 * n + 2) T.d_print_chosen.f T.d_print_chosen.fd ["rows", "value", "at"] (spPrintChosen n) := by
  refine T.d_print_chosen.F.ok sc_print_chosen (fun vs H Q E h => ?_) (fun cdv A outer s H vs Q E hr h => ?_)
  · obtain ⟨a, y, v0, v1, f, g, xs, k, rfl, _⟩ := h
    rfl
  obtain ⟨a, y, v0, v1, f, g, xs, k, rfl, ha, hf, hg, ⟨b, rfl, hb⟩, val, hk, q⟩ := h
  refine ⟨_, (pss_cons (ps_if (PW.pt (pw_or (pt_cmpR op_ge (pv 2) (pe_callB call_len_seq (by rfl) T.b_len PySem.boot_len (pa_cons (pv 1) pa_nil)) (nomark _)) (pw_or1 (pt_cmpR op_ge (pe_ix ix_tup (pv 1) (pv 2) (fun _ _ => rfl)) (pe_callB call_len_seq (by rfl) T.b_len PySem.boot_len (pa_cons (pv 0) pa_nil)) (nomark _)))))
    (pss_one (ps_ret pe_non))
    pss_nil)
    (pss_one (ps_ret (pe_call G_print_row (hr.mono (by omega)) rfl T.d_print_row.m T.d_print_row.F.kp T.d_print_row.b .nil pass0 (pa_cons (pe_ix ix_list (pv 0) (pe_ix ix_tup (pv 1) (pv 2) (fun _ _ => rfl)) (fun _ _ => rfl)) (pa_cons (pv 1) (pa_cons (pe_op op_add (pv 2) pe_int) pa_nil))))))), ?_⟩
  have len : (ni xs).length = xs.length := ni_length _
  refine ⟨_, rfl, _, rfl, b, _, rfl, .inr (SqT.of hb), _, _, rfl, rfl, _, rfl, ?_⟩
  refine iteD (fun c => ?_) (fun c => ?_)
  · rw [List.drop_of_length_le (by rw [len] at c; omega)] at q
    exact iteT (q _ _ (Same.refl H) rfl)
  rw [len] at c
  have hlt : k < xs.length := by omega
  have hz : xs[k]? = some xs[k] := List.getElem?_eq_getElem hlt
  have hd : xs.drop k = xs[k] :: xs.drop (k + 1) := List.drop_eq_getElem_cons hlt
  generalize xs[k] = z at hz hd
  rw [hd] at q
  refine ⟨_, rfl, _, rfl, b, _, _, _, rfl, rfl, SqT.of hb, atNi rfl hz, _, rfl, a, _, rfl, .inl (SqL.of ha), _, _, rfl, rfl, _, rfl, ?_⟩
  refine iteD (fun c1 => ?_) (fun c1 => ?_)
  · have c2 : 2 ≤ z := by
      have : (2 : Int) ≤ (z : Int) := c1
      omega
    match z, c2 with
    | z + 2, _ => exact q _ _ (Same.refl H) rfl
  have c2 : z < 2 := by
    have : ¬ (2 : Int) ≤ (z : Int) := c1
    omega
  match z, c2 with
  | 0, _ =>
    refine ⟨_, rfl, _, rfl, _, rfl, b, _, _, _, rfl, rfl, SqT.of hb, atNi rfl hz, a, _, 0, v0, rfl, rfl, SqL.of ha, rfl, _, rfl, _, rfl, _, _, rfl, rfl, ?_⟩
    exact ⟨v0, .ref b, f, xs, k + 1, rfl, hf.1, hf.2.1, hf.2.2.1, hf.2.2.2, Tup.of hb, val, by omega, q⟩
  | 1, _ =>
    refine ⟨_, rfl, _, rfl, _, rfl, b, _, _, _, rfl, rfl, SqT.of hb, atNi rfl hz, a, _, 1, v1, rfl, rfl, SqL.of ha, rfl, _, rfl, _, rfl, _, _, rfl, rfl, ?_⟩
    exact ⟨v1, .ref b, g, xs, k + 1, rfl, hg.1, hg.2.1, hg.2.2.1, hg.2.2.2, Tup.of hb, val, by omega, q⟩
theorem ok_print_times {n : Nat} (T : Txt K mg) (G_print_row : FnOk P w K mg base CX0 (3 * n + 1) T.d_print_row.f T.d_print_row.fd ["row", "value", "at"] (spPrintRow n)) :
    FnOk P w K mg base CX0 (3 * n + 2) T.d_print_times.f T.d_print_times.fd ["piece", "value", "at"] (spPr (isRepN n)) := by
  refine T.d_print_times.F.ok sc_print_times (fun vs H Q E h => ?_) (fun cdv A outer s H vs Q E hr h => ?_)
  · obtain ⟨v, y, p, xs, k, rfl, _⟩ := h
    rfl
  obtain ⟨v, y, p, xs, k, rfl, hp, pt, okp, wd, ⟨b, rfl, hb⟩, val, hk, q⟩ := h
  refine ⟨_, (pss_cons (ps_asg (pv 0) (pg_tup rfl (pgs_cons (pg_name (i := 3) sc_print_times.nd rfl (Or.inl rfl)) (pgs_cons (pg_name (i := 4) sc_print_times.nd rfl (Or.inl rfl)) (pgs_cons (pg_name (i := 5) sc_print_times.nd rfl (Or.inl rfl)) (pgs_cons (pg_name (i := 6) sc_print_times.nd rfl (Or.inl rfl)) (pgs_cons (pg_name (i := 7) sc_print_times.nd rfl (Or.inl rfl)) pgs_nil)))))))
    (pss_cons (ps_if (PW.pt (pw_or (pt_cmpR op_ge (pv 2) (pe_callB call_len_seq (by rfl) T.b_len PySem.boot_len (pa_cons (pv 1) pa_nil)) (nomark _)) (pw_or1 (pt_not (pt_chain op_le op_le (pv 5) (pe_ix ix_tup (pv 1) (pv 2) (fun _ _ => rfl)) (pv 6))))))
    (pss_one (ps_ret pe_non))
    pss_nil)
    (pss_cons (ps_set (i := 8) sc_print_times.nd rfl (Or.inl rfl) (pe_tup pa_nil))
    (pss_cons (ps_set (i := 9) sc_print_times.nd rfl (Or.inl rfl) (pe_op op_add (pv 2) pe_int))
    (pss_cons (ps_for PassesOwn.never rfl (pi_range1 rfl T.b_range (pa_cons (pe_ix ix_tup (pv 1) (pv 2) (fun _ _ => rfl)) pa_nil)) (pg_name (i := 10) sc_print_times.nd rfl (Or.inl rfl))
    (pss_cons (ps_set (i := 11) sc_print_times.nd rfl (Or.inl rfl) (pe_call G_print_row (hr.mono (by omega)) rfl T.d_print_row.m T.d_print_row.F.kp T.d_print_row.b .nil pass0 (pa_cons (pv 7) (pa_cons (pv 1) (pa_cons (pv 9) pa_nil)))))
    (pss_cons (ps_if (pt_cmpR op_isN (pv 11) pe_non (nomark _))
    (pss_one (ps_ret pe_non))
    pss_nil)
    (pss_cons (ps_set (i := 8) sc_print_times.nd rfl (Or.inl rfl) (pe_op op_cat2 (pe_op op_cat2 (pv 8) (pe_op op_mul2 (pv 4) (pe_callTy call_int1 (by rfl) T.b_int (by decide +kernel) (pa_cons (pe_cmpR op_gt (pv 10) pe_int (nomark _)) pa_nil)))) (pe_ix ix_tup (pv 11) pe_int (fun _ _ => rfl))))
    (pss_one (ps_set (i := 9) sc_print_times.nd rfl (Or.inl rfl) (pe_ix ix_tup (pv 11) pe_int (fun _ _ => rfl))))))))
    (pss_one (ps_ret (pe_tup (pa_cons (pv 8) (pa_cons (pv 9) pa_nil)))))))))), ?_⟩
  cases p with
  | lit w => cases hp
  | num lo hi => cases hp
  | alt f g => cases hp
  | opt f => cases hp
  | word lo hi => cases hp
  | rep t lo hi g =>
    obtain ⟨vt, vg, ⟨a, rfl, ha⟩, ht, hg⟩ := pt
    simp only [Pc.okSp, VafmsBase.okText, Bool.and_eq_true, decide_eq_true_eq] at okp
    obtain ⟨⟨l0, l0'⟩, l2, l3, l4⟩ := okp
    have len : (ni xs).length = xs.length := ni_length _
    refine ⟨_, rfl, a, _, rfl, SqT.of ha, rfl, _, _, rfl, _, _, rfl, _, _, rfl, _, _, rfl, _, _, rfl, rfl, ?_⟩
    refine ⟨_, rfl, _, rfl, b, _, rfl, .inr (SqT.of hb), _, _, rfl, rfl, _, rfl, ?_⟩
    refine iteD (fun c => ?_) (fun c => ?_)
    · rw [List.drop_of_length_le (by rw [len] at c; omega)] at q
      exact iteT (q _ _ (Same.refl H) rfl)
    rw [len] at c
    have hlt : k < xs.length := by omega
    have hz : xs[k]? = some xs[k] := List.getElem?_eq_getElem hlt
    have hd : xs.drop k = xs[k] :: xs.drop (k + 1) := List.drop_eq_getElem_cons hlt
    generalize xs[k] = z at hz hd
    rw [hd] at q
    simp only [prP] at q
    have fail : (z < lo ∨ hi < z) → Q .non H := fun e => q _ _ (Same.refl H) (by rw [if_pos e]; rfl)
    refine ⟨_, rfl, _, rfl, _, rfl, b, _, _, _, rfl, rfl, SqT.of hb, atNi rfl hz, _, _, rfl, rfl, _, rfl, ?_⟩
    refine iteD (fun c1 => ?_) (fun c1 => ?_)
    case refine_2 => exact ⟨_, rfl, iteT (fail (.inl (by omega)))⟩
    refine ⟨_, rfl, _, _, rfl, rfl, _, rfl, ?_⟩
    refine iteN (fun c2 => fail (.inr (by omega))) (fun c2 => ?_)
    rw [if_neg (show ¬ (z < lo ∨ hi < z) by omega)] at q
    refine ⟨(by show 0 ≤ sizeLine; decide), fun pe hpe => ?_⟩
    have s0 := same_new (o := .tup []) hpe
    refine ⟨_, rfl, _, _, rfl, rfl, ?_⟩
    have zw : z * (t.length + wide g) ≤ 10000 := Nat.le_trans (Nat.mul_le_mul_right _ (by omega)) wd
    refine ⟨_, rfl, _, rfl, b, _, _, _, rfl, rfl, SqT.of (s0 b _ hb), atNi rfl hz, _, rfl, by omega, by omega, ?_⟩
    refine for_range (lo := 0) (n := ((z : Int)).toNat) (fun i σ H1 => ∃ (v10 v11 : Option V) (d : V) (tx : List Nat) (j : Nat), σ = [some (.ref a), some (.ref b), some (.int (k : Int)), some (.int 5), some vt, some (.int (lo : Int)), some (.int (hi : Int)), some vg, some d, some (.int (j : Int)), v10, v11] ∧
      Same H H1 ∧ TN H1 d tx ∧ j ≤ xs.length ∧ tx.length ≤ i * (t.length + wide g) ∧
      VafmsBase.printTimes (VafmsBase.printed g) t z true (xs.drop (k + 1)) = (VafmsBase.printTimes (VafmsBase.printed g) t (z - i) (decide (i = 0)) (xs.drop j)).map fun y => (tx ++ y.1, y.2)) ⟨none, none, _, [], k + 1, rfl, s0, Tup.of upd_same, by omega, Nat.zero_le _, ?_⟩ (fun i σ H1 hi1 h => ?_) (fun σ H1 h => ?_)
    · show _ = Option.map _ (VafmsBase.printTimes _ t z true _)
      cases VafmsBase.printTimes (VafmsBase.printed g) t z true (xs.drop (k + 1)) <;> rfl
    · obtain ⟨v10, v11, d, tx, j, rfl, s1, td, hj, lt, eq⟩ := h
      rw [Int.toNat_natCast] at hi1
      have wg : wide g ≤ 10000 := by
        have : 1 * (t.length + wide g) ≤ z * (t.length + wide g) := Nat.mul_le_mul_right _ (by omega)
        omega
      have lt2 : i * (t.length + wide g) + (t.length + wide g) ≤ z * (t.length + wide g) := by
        rw [← Nat.succ_mul]
        exact Nat.mul_le_mul_right _ hi1
      rw [show z - i = (z - (i + 1)) + 1 by omega] at eq
      simp only [VafmsBase.printTimes] at eq
      refine ⟨_, rfl, _, rfl, _, rfl, vg, .ref b, g, xs, j, rfl, hg.mono s1, hp, l4, wg, Tup.of (s1 b _ hb), val, hj, fun r H2 s2 pr => ?_⟩
      cases e : VafmsBase.printed g (xs.drop j) with
      | none =>
        rw [e] at pr eq
        have e2 : r = .non := pr
        subst e2
        refine ⟨_, rfl, rfl, _, rfl, iteT (q _ _ (s1.trans s2) ?_)⟩
        rw [eq]
        rfl
      | some u =>
        rw [e] at pr eq
        obtain ⟨x1, ⟨c, rfl, hc⟩, tx1⟩ := pr
        obtain ⟨hj2, dj2⟩ := rest_at hj e
        have ul := printed_le g _ _ e
        simp only [Option.bind_some] at eq
        refine ⟨_, rfl, rfl, _, rfl, iteF ?_⟩
        refine ⟨_, rfl, _, rfl, _, rfl, _, _, rfl, rfl, .inr ⟨_, rfl, ?_⟩⟩
        have s12 := s1.trans s2
        have sep : (List.replicate (if decide ((0 : Int) < 0 + (i : Int)) = true then (1 : Int) else 0).toNat (ni t)).flatten = ni (if decide (i = 0) = true then [] else t) := by
          by_cases z0 : i = 0
          · subst z0
            rfl
          · rw [decide_eq_true (show (0 : Int) < 0 + (i : Int) by omega), decide_eq_false z0]
            simp
        refine ⟨ni t, _, ht.mono s12, rfl, by split <;> omega, by split <;> omega, by rw [ni_length]; omega, fun m H3 s3 tm => ?_⟩
        have tm' := Tup.monoT (H1 := H3) (fun _ _ h => h) tm
        rw [sep] at tm'
        have sl : (if decide (i = 0) = true then [] else t).length ≤ t.length := by split <;> simp
        refine ⟨ni tx, _, (td.mono s2).mono s3, tm', small_le ?_, fun m2 H4 s4 tm2 => ?_⟩
        · rw [ni_length, ni_length]
          omega
        rw [← ni_append] at tm2
        refine ⟨_, rfl, c, _, 0, _, rfl, rfl, SqT.of (s4 c _ (s3 c _ hc)), at0, _, _, tm2, (tx1.mono s3).mono s4, ?_, fun m3 H5 s5 tm3 => ?_⟩
        · rw [ni_length, ni_length, List.length_append]
          refine small_le ?_
          omega
        rw [← ni_append] at tm3
        refine ⟨_, rfl, c, _, 1, _, rfl, rfl, SqT.of (s5 c _ (s4 c _ (s3 c _ hc))), rfl, ?_⟩
        have s35 := (s3.trans s4).trans s5
        refine ⟨_, _, m3, tx ++ ((if decide (i = 0) = true then [] else t) ++ u.1), _, rfl, s12.trans s35, ?_, hj2, ?_, ?_⟩
        · rw [← List.append_assoc]
          exact tm3
        · rw [List.length_append, List.length_append, Nat.succ_mul]
          omega
        · rw [eq, dj2, show decide (i + 1 = 0) = false from rfl, Option.map_map]
          refine congrArg (fun h => Option.map h _) (funext fun y => ?_)
          simp only [Function.comp, List.append_assoc]
    · obtain ⟨v10, v11, d, tx, j, rfl, s1, td, hj, lt, eq⟩ := h
      rw [Int.toNat_natCast] at eq
      rw [Nat.sub_self] at eq
      refine ⟨_, rfl, _, rfl, (by show 2 ≤ sizeLine; decide), fun u hu => ?_⟩
      refine q _ _ (s1.trans (same_new hu)) ?_
      rw [eq]
      refine ⟨d, Tup.of (upd_same.trans ?_), ?_⟩
      · have : ((j : Nat) : Int) = ((xs.length - (xs.drop j).length : Nat) : Int) := by
          rw [List.length_drop]
          omega
        exact congrArg (fun i => some (HO.tup [d, V.int i])) this
      · have := td.mono (same_new (o := .tup [d, .int (j : Int)]) hu)
        simpa using this
def spPrintPiece (n : Nat) : Sp := spPr (fun p => p.depth ≤ n)
theorem opt_alt (a : Fmt) (v : List Nat) : prP (.opt a) v = prP (.alt .done a) v := by
  match v with
  | [] => rfl
  | 0 :: u => rfl
  | 1 :: u => rfl
  | (n + 2) :: u => rfl
theorem ok_print_piece {n : Nat} (T : Txt K mg) (G_print_row : FnOk P w K mg base CX0 (3 * n + 1) T.d_print_row.f T.d_print_row.fd ["row", "value", "at"] (spPrintRow n)) :
    FnOk P w K mg base CX0 (3 * n + 3) T.d_print_piece.f T.d_print_piece.fd ["piece", "value", "at"] (spPrintPiece n) := by
  have G_print_number := ok_print_number (P := P) (w := w) (base := base) T
  have G_print_word := ok_print_word (P := P) (w := w) (base := base) T
  have G_print_chosen := ok_print_chosen T G_print_row
  have G_print_times := ok_print_times T G_print_row
  refine T.d_print_piece.F.ok sc_print_piece (fun vs H Q E h => ?_) (fun cdv A outer s H vs Q E hr h => ?_)
  · obtain ⟨v, y, p, xs, k, rfl, _⟩ := h
    rfl
  obtain ⟨v, y, p, xs, k, rfl, hp, pt, okp, wd, ⟨b, rfl, hb⟩, val, hk, q⟩ := h
  refine ⟨_, (pss_cons (ps_if (pt_cmpR op_eq (pe_ix ix_tup (pv 0) pe_int (fun _ _ => rfl)) (pe_glob (v := .int 0) rfl T.c_LITERAL.2 ⟨_, rfl⟩) (nomark _))
    (pss_one (ps_ret (pe_tup (pa_cons (pe_ix ix_tup (pv 0) pe_int (fun _ _ => rfl)) (pa_cons (pv 2) pa_nil)))))
    pss_nil)
    (pss_cons (ps_if (pt_cmpR op_eq (pe_ix ix_tup (pv 0) pe_int (fun _ _ => rfl)) (pe_glob (v := .int 1) rfl T.c_NUMBER.2 ⟨_, rfl⟩) (nomark _))
    (pss_one (ps_ret (pe_call G_print_number (hr.mono (by omega)) rfl T.d_print_number.m T.d_print_number.F.kp T.d_print_number.b .nil pass0 (pa_cons (pv 0) (pa_cons (pv 1) (pa_cons (pv 2) pa_nil))))))
    pss_nil)
    (pss_cons (ps_if (pt_cmpR op_eq (pe_ix ix_tup (pv 0) pe_int (fun _ _ => rfl)) (pe_glob (v := .int 2) rfl T.c_WORD.2 ⟨_, rfl⟩) (nomark _))
    (pss_one (ps_ret (pe_call G_print_word (hr.mono (by omega)) rfl T.d_print_word.m T.d_print_word.F.kp T.d_print_word.b .nil pass0 (pa_cons (pv 0) (pa_cons (pv 1) (pa_cons (pv 2) pa_nil))))))
    pss_nil)
    (pss_cons (ps_if (pt_cmpR op_eq (pe_ix ix_tup (pv 0) pe_int (fun _ _ => rfl)) (pe_glob (v := .int 3) rfl T.c_EITHER.2 ⟨_, rfl⟩) (nomark _))
    (pss_one (ps_ret (pe_call G_print_chosen (hr.mono (by omega)) rfl T.d_print_chosen.m T.d_print_chosen.F.kp T.d_print_chosen.b .nil pass0 (pa_cons (pe_lst (pa_cons (pe_ix ix_tup (pv 0) pe_int (fun _ _ => rfl)) (pa_cons (pe_ix ix_tup (pv 0) pe_int (fun _ _ => rfl)) pa_nil))) (pa_cons (pv 1) (pa_cons (pv 2) pa_nil))))))
    pss_nil)
    (pss_cons (ps_if (pt_cmpR op_eq (pe_ix ix_tup (pv 0) pe_int (fun _ _ => rfl)) (pe_glob (v := .int 4) rfl T.c_OPTIONAL.2 ⟨_, rfl⟩) (nomark _))
    (pss_one (ps_ret (pe_call G_print_chosen (hr.mono (by omega)) rfl T.d_print_chosen.m T.d_print_chosen.F.kp T.d_print_chosen.b .nil pass0 (pa_cons (pe_lst (pa_cons (pe_tup pa_nil) (pa_cons (pe_ix ix_tup (pv 0) pe_int (fun _ _ => rfl)) pa_nil))) (pa_cons (pv 1) (pa_cons (pv 2) pa_nil))))))
    pss_nil)
    (pss_one (ps_ret (pe_call G_print_times (hr.mono (by omega)) rfl T.d_print_times.m T.d_print_times.F.kp T.d_print_times.b .nil pass0 (pa_cons (pv 0) (pa_cons (pv 1) (pa_cons (pv 2) pa_nil))))))))))), ?_⟩
  obtain ⟨a, ys, rfl, ha⟩ := pt.kind
  refine ⟨_, rfl, a, _, 0, _, rfl, rfl, SqT.of ha, at0, rfl, _, rfl, ?_⟩
  cases p with
  | lit t =>
    obtain ⟨x, tp, tx⟩ := pt
    have ha2 := tp.at
    refine kindT rfl ?_
    refine ⟨_, rfl, a, _, 1, _, rfl, rfl, SqT.of ha2, rfl, _, rfl, (by show 2 ≤ sizeLine; decide), fun u hu => ?_⟩
    refine q _ _ (same_new hu) ⟨x, Tup.of (upd_same.trans ?_), tx.mono (same_new hu)⟩
    have : (k : Int) = ((xs.length - (xs.drop k).length : Nat) : Int) := by
      rw [List.length_drop]
      omega
    exact congrArg (fun i => some (HO.tup [x, V.int i])) this
  | num lo hi =>
    refine kindF (by simp only [Pc.kind]; decide) ?_
    refine ⟨_, rfl, a, _, 0, _, rfl, rfl, SqT.of ha, at0, rfl, _, rfl, kindT rfl ?_⟩
    exact ⟨_, rfl, _, rfl, _, rfl, .ref a, .ref b, .num lo hi, xs, k, rfl, trivial, pt, okp, wd, Tup.of hb, val, hk, q⟩
  | word lo hi =>
    refine kindF (by simp only [Pc.kind]; decide) ?_
    refine ⟨_, rfl, a, _, 0, _, rfl, rfl, SqT.of ha, at0, rfl, _, rfl, kindF (by simp only [Pc.kind]; decide) ?_⟩
    refine ⟨_, rfl, a, _, 0, _, rfl, rfl, SqT.of ha, at0, rfl, _, rfl, kindT rfl ?_⟩
    exact ⟨_, rfl, _, rfl, _, rfl, .ref a, .ref b, .word lo hi, xs, k, rfl, trivial, pt, okp, wd, Tup.of hb, val, hk, q⟩
  | alt f g =>
    obtain ⟨x, z, tp, rx, rz⟩ := pt
    have ha2 := tp.at
    simp only [Pc.okSp, Bool.and_eq_true] at okp
    simp only [Pc.wide] at wd
    simp only [Pc.depth] at hp
    refine kindF (by simp only [Pc.kind]; decide) ?_
    refine ⟨_, rfl, a, _, 0, _, rfl, rfl, SqT.of ha, at0, rfl, _, rfl, kindF (by simp only [Pc.kind]; decide) ?_⟩
    refine ⟨_, rfl, a, _, 0, _, rfl, rfl, SqT.of ha, at0, rfl, _, rfl, kindF (by simp only [Pc.kind]; decide) ?_⟩
    refine ⟨_, rfl, a, _, 0, _, rfl, rfl, SqT.of ha, at0, rfl, _, rfl, kindT rfl ?_⟩
    refine ⟨_, rfl, a, _, 1, _, rfl, rfl, SqT.of ha2, rfl, _, rfl, a, _, 2, _, rfl, rfl, SqT.of ha2, rfl, (by show 2 ≤ sizeLine; decide), fun u hu => ?_⟩
    have s1 := same_new (o := .lst [x, z]) hu
    exact ⟨_, rfl, _, rfl, u, .ref b, x, z, f, g, xs, k, rfl, upd_same, ⟨rx.mono s1, by omega, okp.1, by omega⟩, ⟨rz.mono s1, by omega, okp.2, by omega⟩, Tup.mono s1 (Tup.of hb), val, hk, fun r H1 s2 pr => q r H1 (s1.trans s2) pr⟩
  | opt f =>
    obtain ⟨x, tp, rx⟩ := pt
    have ha2 := tp.at
    simp only [Pc.okSp] at okp
    simp only [Pc.wide] at wd
    simp only [Pc.depth] at hp
    refine kindF (by simp only [Pc.kind]; decide) ?_
    refine ⟨_, rfl, a, _, 0, _, rfl, rfl, SqT.of ha, at0, rfl, _, rfl, kindF (by simp only [Pc.kind]; decide) ?_⟩
    refine ⟨_, rfl, a, _, 0, _, rfl, rfl, SqT.of ha, at0, rfl, _, rfl, kindF (by simp only [Pc.kind]; decide) ?_⟩
    refine ⟨_, rfl, a, _, 0, _, rfl, rfl, SqT.of ha, at0, rfl, _, rfl, kindF (by simp only [Pc.kind]; decide) ?_⟩
    refine ⟨_, rfl, a, _, 0, _, rfl, rfl, SqT.of ha, at0, rfl, _, rfl, kindT rfl ?_⟩
    refine ⟨(by show 0 ≤ sizeLine; decide), fun e he => ?_⟩
    have s0 := same_new (o := .tup []) he
    refine ⟨_, rfl, a, _, 1, _, rfl, rfl, SqT.of (s0 a _ ha2), rfl, (by show 2 ≤ sizeLine; decide), fun u hu => ?_⟩
    have s1 := same_new (o := .lst [V.ref e, x]) hu
    have s01 := s0.trans s1
    rw [opt_alt] at q
    exact ⟨_, rfl, _, rfl, u, .ref b, .ref e, x, .done, f, xs, k, rfl, upd_same, ⟨⟨[], Tup.mono s1 (Tup.of upd_same), rfl⟩, by simp only [depth]; omega, rfl, by simp only [wide]; omega⟩, ⟨rx.mono s01, by omega, okp, by omega⟩, Tup.mono s01 (Tup.of hb), val, hk, fun r H1 s2 pr => q r H1 (s01.trans s2) pr⟩
  | rep t lo hi g =>
    simp only [Pc.depth] at hp
    refine kindF (by simp only [Pc.kind]; decide) ?_
    refine ⟨_, rfl, a, _, 0, _, rfl, rfl, SqT.of ha, at0, rfl, _, rfl, kindF (by simp only [Pc.kind]; decide) ?_⟩
    refine ⟨_, rfl, a, _, 0, _, rfl, rfl, SqT.of ha, at0, rfl, _, rfl, kindF (by simp only [Pc.kind]; decide) ?_⟩
    refine ⟨_, rfl, a, _, 0, _, rfl, rfl, SqT.of ha, at0, rfl, _, rfl, kindF (by simp only [Pc.kind]; decide) ?_⟩
    refine ⟨_, rfl, a, _, 0, _, rfl, rfl, SqT.of ha, at0, rfl, _, rfl, kindF (by simp only [Pc.kind]; decide) ?_⟩
    exact ⟨_, rfl, _, rfl, _, rfl, .ref a, .ref b, .rep t lo hi g, xs, k, rfl, by show depth g < n; omega, pt, okp, wd, Tup.of hb, val, hk, q⟩
theorem ok_print_row {n : Nat} (T : Txt K mg) (G_print_row : FnOk P w K mg base CX0 (3 * n + 1) T.d_print_row.f T.d_print_row.fd ["row", "value", "at"] (spPrintRow n)) :
    FnOk P w K mg base CX0 (3 * (n + 1) + 1) T.d_print_row.f T.d_print_row.fd ["row", "value", "at"] (spPrintRow (n + 1)) := by
  have G_print_piece := ok_print_piece T G_print_row
  refine T.d_print_row.F.ok sc_print_row (fun vs H Q E h => ?_) (fun cdv A outer s H vs Q E hr h => ?_)
  · obtain ⟨v, y, f, xs, k, rfl, _⟩ := h
    rfl
  obtain ⟨v, y, f, xs, k, rfl, ⟨ps, ⟨a, rfl, ha⟩, rl⟩, hn, ok, wd, ⟨b, rfl, hb⟩, val, hk, q⟩ := h
  refine ⟨_, (pss_cons (ps_set (i := 3) sc_print_row.nd rfl (Or.inl rfl) (pe_tup pa_nil))
    (pss_cons (ps_for PassesOwn.never rfl (pi_tup (pv 0)) (pg_name (i := 4) sc_print_row.nd rfl (Or.inl rfl))
    (pss_cons (ps_set (i := 5) sc_print_row.nd rfl (Or.inl rfl) (pe_call G_print_piece (hr.mono (by omega)) rfl T.d_print_piece.m T.d_print_piece.F.kp T.d_print_piece.b .nil pass0 (pa_cons (pv 4) (pa_cons (pv 1) (pa_cons (pv 2) pa_nil)))))
    (pss_cons (ps_if (pt_cmpR op_isN (pv 5) pe_non (nomark _))
    (pss_one (ps_ret pe_non))
    pss_nil)
    (pss_cons (ps_set (i := 3) sc_print_row.nd rfl (Or.inl rfl) (pe_op op_cat2 (pv 3) (pe_ix ix_tup (pv 5) pe_int (fun _ _ => rfl))))
    (pss_one (ps_set (i := 2) sc_print_row.nd rfl (Or.inl rfl) (pe_ix ix_tup (pv 5) pe_int (fun _ _ => rfl))))))))
    (pss_one (ps_ret (pe_tup (pa_cons (pv 3) (pa_cons (pv 2) pa_nil))))))), ?_⟩
  refine ⟨(by show 0 ≤ sizeLine; decide), fun pe hpe => ?_⟩
  have s0 := same_new (o := .tup []) hpe
  refine ⟨_, rfl, a, rfl, ⟨_, SqT.of (s0 a _ ha)⟩, for_tup (K := K) (a := a) (xs := ps) (fun i σ H1 => ∃ (v4 v5 : Option V) (d : V) (tx : List Nat) (j : Nat) (r : Fmt), σ = [some (.ref a), some (.ref b), some (.int (j : Int)), some d, v4, v5] ∧ Same H H1 ∧
    RowL H r (ps.drop i) ∧ TN H1 d tx ∧ j ≤ xs.length ∧ tx.length + wide r ≤ wide f ∧ depth r ≤ depth f ∧ okSp r = true ∧
    VafmsBase.printed f (xs.drop k) = (VafmsBase.printed r (xs.drop j)).map fun y => (tx ++ y.1, y.2)) ⟨none, none, _, [], k, f, rfl, s0, rl, Tup.of upd_same, hk, by simp, Nat.le_refl _, ok, ?_⟩ (fun i σ H1 _ h => ?_) (fun i x σ H1 hx h => ?_) (fun σ H1 h => ?_)⟩
  · cases VafmsBase.printed f (xs.drop k) <;> rfl
  · obtain ⟨_, _, _, _, _, _, _, s1, _⟩ := h
    exact SqT.of (s1 a _ ha)
  · obtain ⟨v4, v5, d, tx, j, r, rfl, s1, rl1, td, hj, lt, dp, okr, eq⟩ := h
    rw [List.drop_eq_getElem_cons (List.getElem?_eq_some_iff.mp hx).1, (List.getElem?_eq_some_iff.mp hx).2] at rl1
    rcases row_cases r with rfl | ⟨p, r', rfl⟩
    · cases rl1
    obtain ⟨x', qs, e, hpx, rl2⟩ := (rowL_cons p r' _).mp rl1
    injection e with e1 e2
    subst e1 e2
    rw [depth_cons] at dp
    rw [okSp_cons, Bool.and_eq_true] at okr
    rw [wide_cons] at lt
    rw [printed_cons] at eq
    refine ⟨_, rfl, _, rfl, _, rfl, x, .ref b, p, xs, j, rfl, by show p.depth ≤ n; omega, hpx.mono s1, okr.1, by omega, Tup.of (s1 b _ hb), val, hj, fun u H2 s2 pr => ?_⟩
    cases e : prP p (xs.drop j) with
    | none =>
      rw [e] at pr eq
      have e2 : u = .non := pr
      subst e2
      refine ⟨_, rfl, rfl, _, rfl, iteT (q _ _ (s1.trans s2) ?_)⟩
      rw [eq]
      rfl
    | some o =>
      rw [e] at pr eq
      obtain ⟨x1, ⟨c, rfl, hc⟩, tx1⟩ := pr
      obtain ⟨hj2, dj2⟩ := restP_at hj e
      have ul := prP_le p (fun g _ => printed_le g) _ _ e
      simp only [Option.bind_some] at eq
      refine ⟨_, rfl, rfl, _, rfl, iteF ?_⟩
      refine ⟨_, rfl, _, rfl, c, _, 0, _, rfl, rfl, SqT.of hc, at0, _, _, td.mono s2, tx1, ?_, fun m3 H5 s5 tm3 => ?_⟩
      · rw [ni_length, ni_length]
        refine small_le ?_
        omega
      rw [← ni_append] at tm3
      refine ⟨_, rfl, c, _, 1, _, rfl, rfl, SqT.of (s5 c _ hc), rfl, ?_⟩
      refine ⟨_, _, m3, tx ++ o.1, _, r', rfl, (s1.trans s2).trans s5, rl2, tm3, hj2, ?_, by omega, okr.2, ?_⟩
      · rw [List.length_append]
        omega
      · rw [eq, dj2, Option.map_map]
        refine congrArg (fun h => Option.map h _) (funext fun y => ?_)
        simp only [Function.comp, List.append_assoc]
  · obtain ⟨v4, v5, d, tx, j, r, rfl, s1, rl1, td, hj, lt, dp, okr, eq⟩ := h
    rw [List.drop_length] at rl1
    rcases row_cases r with rfl | ⟨p, r', rfl⟩
    · refine ⟨_, rfl, _, rfl, (by show 2 ≤ sizeLine; decide), fun u hu => ?_⟩
      refine q _ _ (s1.trans (same_new hu)) ?_
      rw [eq]
      refine ⟨d, Tup.of (upd_same.trans ?_), ?_⟩
      · have : ((j : Nat) : Int) = ((xs.length - (xs.drop j).length : Nat) : Int) := by
          rw [List.length_drop]
          omega
        exact congrArg (fun i => some (HO.tup [d, V.int i])) this
      · have := td.mono (same_new (o := .tup [d, .int (j : Int)]) hu)
        simpa using this
    · obtain ⟨x', qs, e, _⟩ := (rowL_cons p r' _).mp rl1
      cases e
theorem print_row_ok (T : Txt K mg) : ∀ n : Nat, FnOk P w K mg base CX0 (3 * n + 1) T.d_print_row.f T.d_print_row.fd ["row", "value", "at"] (spPrintRow n)
  | 0 => none_left fun vs H Q E h => by
    obtain ⟨v, y, f, xs, k, _, _, h, _⟩ := h
    omega
  | n + 1 => ok_print_row T (print_row_ok T n)
/-- a text, or None -/
def spPrintOf : Sp := fun vs H Q _ => ∃ (v y : V) (f : Fmt) (xs : List Nat), vs = [v, y] ∧ RowAt H f v ∧ depth f < 15 ∧ okSp f = true ∧ wide f ≤ 10000 ∧ TN H y xs ∧ Val xs ∧
  ∀ r H1, Same H H1 → TextOr (VafmsBase.print f xs) r H1 → Q r H1
theorem ok_print_of (T : Txt K mg) : FnOk P w K mg base CX0 47 T.d_print_of.f T.d_print_of.fd ["row", "value"] spPrintOf := by
  have G_print_row := print_row_ok (P := P) (w := w) (base := base) T 15
  refine T.d_print_of.F.ok sc_print_of (fun vs H Q E h => ?_) (fun cdv A outer s H vs Q E hr h => ?_)
  · obtain ⟨v, y, f, xs, rfl, _⟩ := h
    rfl
  obtain ⟨v, y, f, xs, rfl, rf, hn, ok, wd, ⟨b, rfl, hb⟩, val, q⟩ := h
  refine ⟨_, (pss_cons (ps_set (i := 2) sc_print_of.nd rfl (Or.inl rfl) (pe_call G_print_row (hr.mono (by omega)) rfl T.d_print_row.m T.d_print_row.F.kp T.d_print_row.b .nil pass0 (pa_cons (pv 0) (pa_cons (pv 1) (pa_cons pe_int pa_nil)))))
    (pss_one (ps_ret (pe_ifExp (PW.pt (pw_and (pt_cmpR op_notN (pv 2) pe_non (nomark _)) (pw_and1 (pt_cmpR op_eq (pe_ix ix_tup (pv 2) pe_int (fun _ _ => rfl)) (pe_callB call_len_seq (by rfl) T.b_len PySem.boot_len (pa_cons (pv 1) pa_nil)) (nomark _))))) (pe_ix ix_tup (pv 2) pe_int (fun _ _ => rfl)) pe_non)))), ?_⟩
  have len : (ni xs).length = xs.length := ni_length _
  refine ⟨_, rfl, _, rfl, v, .ref b, f, xs, 0, rfl, rf, hn, ok, wd, Tup.of hb, val, Nat.zero_le _, fun r H1 s1 pr => ?_⟩
  rw [List.drop_zero] at pr
  unfold VafmsBase.print at q
  cases e : VafmsBase.printed f xs with
  | none =>
    rw [e] at pr q
    have e2 : r = .non := pr
    subst e2
    exact ⟨_, rfl, rfl, _, rfl, iteF (iteF (q _ _ s1 rfl))⟩
  | some u =>
    rw [e] at pr q
    obtain ⟨t, rest⟩ := u
    obtain ⟨x1, ⟨c, rfl, hc⟩, tx1⟩ := pr
    refine ⟨_, rfl, rfl, _, rfl, iteT ?_⟩
    refine ⟨_, rfl, c, _, 1, _, rfl, rfl, SqT.of hc, rfl, _, rfl, b, _, rfl, .inr (SqT.of (s1 b _ hb)), rfl, _, rfl, ?_⟩
    have lr : rest.length ≤ xs.length := by
      obtain ⟨w, e3⟩ := printed_rest f _ _ e
      simp only at e3
      rw [e3, List.length_append]
      omega
    cases rest with
    | nil =>
      refine ifT (decide_eq_true (by rw [len]; rfl)) ?_
      refine ⟨_, rfl, c, _, 0, _, rfl, rfl, SqT.of hc, at0, ?_⟩
      exact q _ _ s1 tx1
    | cons z zs =>
      refine ifF (decide_eq_false (fun e => ?_)) (q _ _ s1 rfl)
      injection e with e
      simp only [List.length_cons] at e lr
      rw [len] at e
      omega
end
end Asc
namespace Asc
open PySem PySem.Spec PyProof.Rows L2
open VafmsBase (Fmt)
section
variable {P : Program} {w : World} {K : PySem.W.Frag} {mg : Str → Option PySem.Value} {base : Heap}

/-! ### scannings -/
theorem made_rel {α β : Type} {S : Hp → V → β → Prop} {keep : α → Bool} {E : α → β} {ds : List α} {H : Hp} : ∀ {n : Nat} {ys : List V}, n ≤ ds.length →
    Made (fun i y H' => ∃ d, ds[i]? = some d ∧ match y with | none => keep d = false | some v => keep d = true ∧ S H' v (E d)) H n ys → All2 (S H) ys (((ds.take n).filter keep).map E)
  | 0, ys, _, h => by
    rw [show ys = [] from h]
    exact .nil
  | n + 1, ys, hn, h => by
    rcases h with ⟨zs, y, rfl, h1, d, e, h2, h3⟩ | ⟨h1, d, e, h2⟩
    · rw [List.take_add_one, e, List.filter_append, List.map_append]
      refine All2.append (made_rel (by omega) h1) ?_
      simp only [Option.toList, List.filter_cons, h2, if_true, List.filter_nil, List.map_cons, List.map_nil]
      exact .cons h3 .nil
    · rw [List.take_add_one, e, List.filter_append, List.map_append]
      simp only at h2
      simp only [Option.toList, List.filter_cons, h2, List.filter_nil, List.map_nil, List.append_nil, Bool.false_eq_true, if_false]
      exact made_rel (by omega) h1
/-- a comprehension over a list of things told: some are kept, each gives one thing told -/
theorem lc_relL {α β : Type} {R : Hp → V → α → Prop} (S : Hp → V → β → Prop) (keep : α → Bool) (E : α → β) {a : Addr} {xs : List V} {ds : List α} {g : TG} {tt : TT} {te : TE} {vs : List Nat} {σ : L2.St} {H : Hp} {Q : Addr → Hp → Prop}
    (hS : ∀ H H1 v e, SameT H H1 → S H v e → S H1 v e) (hl : SqL K H a xs) (hz : xs.length ≤ sizeLine) (hR : All2 (R H) xs ds)
    (step : ∀ x d, R H x d → d ∈ ds → ∀ H1, Same H H1 → ∀ Qn : Hp → Prop, ∀ Qy : V → Hp → Prop, (∀ H2, Same H1 H2 → keep d = false → Qn H2) → (∀ y H2, Same H1 H2 → keep d = true → S H2 y (E d) → Qy y H2) →
      g x (wipe σ vs) H1 fun σ2 H2 => wipe σ2 vs = wipe σ vs ∧ tt σ2 H2 fun b H3 => if b = true then te σ2 H3 Qy else Qn H3)
    (hd : ∀ D ys H1, H D = none → Same H H1 → H1 D = some (.lst ys) → All2 (S H1) ys ((ds.filter keep).map E) → Q D H1) :
    ∀ D, H D = none → ∃ W : Nat → Nat → Hp → Prop, (∃ m, W 0 m (upd H D (.lst []))) ∧ ∀ i m H, W i m H →
      ((Itl K a).stop i H ∧ Q D H) ∨ ((Itl K a).go i H ∧ ∃ Nx : Hp → Prop, (∀ H', Nx H' → ∃ m', m' < m ∧ W (i + 1) m' H') ∧ ∀ x H', (Itl K a).yld i H x H' → g x (wipe σ vs) H' fun σ2 H2 => wipe σ2 vs = wipe σ vs ∧ tt σ2 H2 fun b H3 =>
        if b = true then te σ2 H3 fun y H4 => ∃ acc, H4 D = some (.lst acc) ∧ acc.length < sizeLine ∧ Nx (upd H4 D (.lst (acc ++ [y]))) else Nx H3) := by
  refine lc_mapL (fun _ i y H' => ∃ d, ds[i]? = some d ∧ match y with | none => keep d = false | some v => keep d = true ∧ S H' v (E d)) hl hz (fun D i y H1 H2 s h => ?_) (fun D i y H1 ys e h zs => ?_) (fun D hD i x H1 acc hx s1 hacc Qn Qy qn qy => ?_) (fun D ys H1 hD s1 e md => ?_)
  · obtain ⟨d, e, h⟩ := h
    refine ⟨d, e, ?_⟩
    cases y with
    | none => exact h
    | some v => exact ⟨h.1, hS _ _ _ _ s.t h.2⟩
  · obtain ⟨d, e2, h⟩ := h
    refine ⟨d, e2, ?_⟩
    cases y with
    | none => exact h
    | some v => exact ⟨h.1, hS _ _ _ _ (sameT_lst e) h.2⟩
  · obtain ⟨d, hd, r⟩ := hR.get hx
    exact step x d r (List.mem_of_getElem? hd) H1 s1 Qn Qy (fun H2 s2 k => qn H2 s2 ⟨d, hd, k⟩) (fun y H2 s2 k sy => qy y H2 s2 ⟨d, hd, k, sy⟩)
  · have lx := hR.length
    have := made_rel (ds := ds) (by omega) md
    rw [lx, List.take_length] at this
    exact hd D ys H1 hD s1 e this
def spIsDigit : Sp := fun vs H Q _ => ∃ n : Nat, vs = [.int (n : Int)] ∧ Q (.bl (VafmsBase.isDigit n)) H
def spIsLetter : Sp := fun vs H Q _ => ∃ n : Nat, vs = [.int (n : Int)] ∧ Q (.bl (VafmsBase.isLetter n)) H
theorem ok_is_digit (T : Txt K mg) : FnOk P w K mg base CX0 1 T.d_is_digit.f T.d_is_digit.fd ["byte"] spIsDigit := by
  refine T.d_is_digit.F.ok sc_is_digit (fun vs H Q E h => ?_) (fun cdv A outer s H vs Q E hr h => ?_)
  · obtain ⟨n, rfl, _⟩ := h
    rfl
  obtain ⟨n, rfl, q⟩ := h
  refine ⟨_, (pss_one (ps_ret (pe_chain op_le op_lt (pe_glob (v := .int 48) rfl T.c_NOUGHT.2 ⟨_, rfl⟩) (pv 0) (pe_op op_add (pe_glob (v := .int 48) rfl T.c_NOUGHT.2 ⟨_, rfl⟩) (pe_glob (v := .int 10) rfl T.c_TEN.2 ⟨_, rfl⟩))))), ?_⟩
  refine ⟨_, rfl, _, _, rfl, rfl, _, rfl, ?_⟩
  unfold VafmsBase.isDigit at q
  refine iteD (fun c => ?_) (fun c => ?_)
  · refine ⟨_, _, rfl, rfl, _, _, rfl, rfl, ?_⟩
    rw [decide_eq_true (show 48 ≤ n by omega), Bool.true_and] at q
    show Q (.bl (decide ((n : Int) < 48 + 10))) H
    rw [show decide ((n : Int) < 48 + 10) = decide (n ≤ 57) by rw [Bool.eq_iff_iff]; simp only [decide_eq_true_eq]; omega]
    exact q
  · rw [decide_eq_false (show ¬ 48 ≤ n by omega), Bool.false_and] at q
    exact q
theorem ok_is_letter (T : Txt K mg) : FnOk P w K mg base CX0 1 T.d_is_letter.f T.d_is_letter.fd ["byte"] spIsLetter := by
  refine T.d_is_letter.F.ok sc_is_letter (fun vs H Q E h => ?_) (fun cdv A outer s H vs Q E hr h => ?_)
  · obtain ⟨n, rfl, _⟩ := h
    rfl
  obtain ⟨n, rfl, q⟩ := h
  refine ⟨_, (pss_one (ps_ret (pe_chain op_le op_lt (pe_glob (v := .int 97) rfl T.c_SMALL_A.2 ⟨_, rfl⟩) (pv 0) (pe_op op_add (pe_glob (v := .int 97) rfl T.c_SMALL_A.2 ⟨_, rfl⟩) (pe_glob (v := .int 26) rfl T.c_LETTERS.2 ⟨_, rfl⟩))))), ?_⟩
  refine ⟨_, rfl, _, _, rfl, rfl, _, rfl, ?_⟩
  unfold VafmsBase.isLetter at q
  refine iteD (fun c => ?_) (fun c => ?_)
  · refine ⟨_, _, rfl, rfl, _, _, rfl, rfl, ?_⟩
    rw [decide_eq_true (show 97 ≤ n by omega), Bool.true_and] at q
    show Q (.bl (decide ((n : Int) < 97 + 26))) H
    rw [show decide ((n : Int) < 97 + 26) = decide (n ≤ 122) by rw [Bool.eq_iff_iff]; simp only [decide_eq_true_eq]; omega]
    exact q
  · rw [decide_eq_false (show ¬ 97 ≤ n by omega), Bool.false_and] at q
    exact q
def spNumberOf : Sp := fun vs H Q _ => ∃ (a : Addr) (ds : List Nat), vs = [.ref a] ∧ H a = some (.tup (ni ds)) ∧ ds.all VafmsBase.isDigit = true ∧ ∀ H1, Same H H1 → Q (.int (VafmsBase.numberOf ds : Int)) H1
theorem num_step (n b : Nat) (h : 48 ≤ b) : (10 : Int) * (n : Int) + (b : Int) - 48 = ((10 * n + (b - 48) : Nat) : Int) := by omega
theorem ok_number_of (T : Txt K mg) : FnOk P w K mg base CX0 1 T.d_number_of.f T.d_number_of.fd ["digits"] spNumberOf := by
  refine T.d_number_of.F.ok sc_number_of (fun vs H Q E h => ?_) (fun cdv A outer s H vs Q E hr h => ?_)
  · obtain ⟨a, ds, rfl, _⟩ := h
    rfl
  obtain ⟨a, ds, rfl, ha, hd, q⟩ := h
  refine ⟨_, (pss_cons (ps_set (i := 1) sc_number_of.nd rfl (Or.inl rfl) pe_int)
    (pss_cons (ps_for PassesOwn.never rfl (pi_tup (pv 0)) (pg_name (i := 2) sc_number_of.nd rfl (Or.inl rfl))
    (pss_one (ps_set (i := 1) sc_number_of.nd rfl (Or.inl rfl) (pe_op op_sub (pe_op op_add (pe_op op_mul (pe_glob (v := .int 10) rfl T.c_TEN.2 ⟨_, rfl⟩) (pv 1)) (pv 2)) (pe_glob (v := .int 48) rfl T.c_NOUGHT.2 ⟨_, rfl⟩)))))
    (pss_one (ps_ret (pv 1))))), ?_⟩
  refine ⟨_, rfl, a, rfl, ⟨_, SqT.of ha⟩, for_tup (K := K) (a := a) (xs := ni ds) (fun i σ H1 => ∃ (v2 : Option V), σ = [some (.ref a), some (.int (VafmsBase.numberOf (ds.take i) : Int)), v2] ∧ Same H H1) ⟨none, rfl, Same.refl H⟩ (fun i σ H1 _ h => ?_) (fun i x σ H1 hx h => ?_) (fun σ H1 h => ?_)⟩
  · obtain ⟨_, _, s1⟩ := h
    exact SqT.of (s1 a _ ha)
  · obtain ⟨v2, rfl, s1⟩ := h
    unfold ni at hx
    rw [List.getElem?_map] at hx
    cases e : ds[i]? with
    | none => rw [e] at hx; cases hx
    | some b =>
      rw [e] at hx
      have e2 : V.int (b : Int) = x := Option.some.inj hx
      subst e2
      have hb := List.all_eq_true.mp hd b (List.mem_of_getElem? e)
      simp only [VafmsBase.isDigit, Bool.and_eq_true, decide_eq_true_eq] at hb
      refine ⟨_, rfl, _, _, rfl, rfl, .inl ⟨by decide, by decide⟩, _, rfl, _, _, rfl, rfl, _, _, rfl, rfl, ?_⟩
      refine ⟨some (.int (b : Int)), ?_, s1⟩
      have n1 : VafmsBase.numberOf (ds.take (i + 1)) = 10 * VafmsBase.numberOf (ds.take i) + (b - 48) := by
        rw [List.take_add_one, e]
        unfold VafmsBase.numberOf
        rw [List.foldl_append]
        rfl
      rw [n1, ← num_step _ b hb.1]
      rfl
  · obtain ⟨v2, rfl, s1⟩ := h
    rw [ni_length, List.take_length]
    exact ⟨_, rfl, q H1 s1⟩
def spAreRight : Sp := fun vs H Q _ => ∃ (a b : Addr) (lo hi : Nat) (ds : List Nat), vs = [.ref a, .ref b] ∧ H a = some (.tup [.int 1, .int (lo : Int), .int (hi : Int)]) ∧ H b = some (.tup (ni ds)) ∧ ds ≠ [] ∧ ds.length ≤ 10000 ∧
  ∀ H1 c, Same H H1 → (c = true ↔ ds.all VafmsBase.isDigit = true ∧ (lo = hi ∨ ds.length = 1 ∨ ds.head? ≠ some 48)) → Q (.bl c) H1
theorem ok_are_right (T : Txt K mg) : FnOk P w K mg base CX0 2 T.d_are_right.f T.d_are_right.fd ["piece", "digits"] spAreRight := by
  have G_is_digit := ok_is_digit (P := P) (w := w) (base := base) T
  refine T.d_are_right.F.ok sc_are_right (fun vs H Q E h => ?_) (fun cdv A outer s H vs Q E hr h => ?_)
  · obtain ⟨a, b, lo, hi, ds, rfl, _⟩ := h
    rfl
  obtain ⟨a, b, lo, hi, ds, rfl, ha, hb, ne, hz, q⟩ := h
  refine ⟨_, (pss_cons (ps_if (pt_not (pt_val (pe_callB (cr_all rfl) (by rfl) T.b_all (by decide +kernel) (pa_cons (pe_lc (own := [("byte", 2)]) rfl sc_are_right.nd (pi_tup (pv 1)) (blkOk_by (own := [("byte", 2)]) (N := ["piece", "digits", "byte"]) (sc := defScope s_are_right) (by decide +kernel)) (fun _ _ _ _ _ => (pg_name (i := 2) sc_are_right.nd rfl (Or.inl rfl))) (fun _ _ _ _ _ => pts_nil) (fun _ _ _ _ _ => (pe_call G_is_digit (hr.mono (by omega)) rfl T.d_is_digit.m T.d_is_digit.F.kp T.d_is_digit.b .nil pass0 (pa_cons (pv 2) pa_nil)))) pa_nil))))
    (pss_one (ps_ret pe_bl))
    pss_nil)
    (pss_one (ps_ret (pe_or (pe_cmpR op_eq (pe_ix ix_tup (pv 0) pe_int (fun _ _ => rfl)) (pe_ix ix_tup (pv 0) pe_int (fun _ _ => rfl)) (nomark _)) (pe_or (pe_cmpR op_eq (pe_callB call_len_seq (by rfl) T.b_len PySem.boot_len (pa_cons (pv 1) pa_nil)) pe_int (nomark _)) (pe_one (pe_cmpR op_ne (pe_ix ix_tup (pv 1) pe_int (fun _ _ => rfl)) (pe_glob (v := .int 48) rfl T.c_NOUGHT.2 ⟨_, rfl⟩) (nomark _)))))))), ?_⟩
  refine ⟨_, rfl, b, rfl, ⟨_, SqT.of hb⟩, lc_fnT (K := K) (F := fun x : Nat => V.bl (VafmsBase.isDigit x)) (ds := ds) hb (small_le (by omega)) (fun x hx H3 s3 Qy k3 => ?_) (fun D H3 hD s3 e3 => ?_) gN⟩
  · exact ⟨rfl, _, rfl, x, rfl, k3 H3 (Same.refl _)⟩
  refine ⟨D, ds.map VafmsBase.isDigit, rfl, SqL.of (by rw [e3, List.map_map]; rfl), _, rfl, ?_⟩
  have e5 : (ds.map VafmsBase.isDigit).all id = ds.all VafmsBase.isDigit := by
    rw [List.all_map]
    rfl
  rw [e5]
  have hb3 := s3 b _ hb
  have ha3 := s3 a _ ha
  refine iteBN (fun c5 => q _ _ s3 (by rw [c5]; simp)) (fun c5 => ?_)
  refine ⟨_, rfl, a, _, 1, _, rfl, rfl, SqT.of ha3, rfl, _, rfl, a, _, 2, _, rfl, rfl, SqT.of ha3, rfl, rfl, _, rfl, ?_⟩
  by_cases c1 : lo = hi
  · refine ifT (decide_eq_true (by rw [c1])) (q _ _ s3 ?_)
    exact ⟨fun _ => ⟨c5, .inl c1⟩, fun _ => rfl⟩
  refine ifF (decide_eq_false (by intro z; injection z with z; omega)) ?_
  have len : (ni ds).length = ds.length := ni_length _
  refine ⟨_, rfl, b, _, rfl, .inr (SqT.of hb3), rfl, _, rfl, ?_⟩
  by_cases c2 : ds.length = 1
  · refine ifT (decide_eq_true (by rw [len, c2]; rfl)) (q _ _ s3 ?_)
    exact ⟨fun _ => ⟨c5, .inr (.inl c2)⟩, fun _ => rfl⟩
  refine ifF (decide_eq_false (by intro z; injection z with z; rw [len] at z; omega)) ?_
  cases ds with
  | nil => exact absurd rfl ne
  | cons d r =>
    refine ⟨_, rfl, b, _, 0, _, rfl, rfl, SqT.of hb3, at0, rfl, q _ _ s3 ?_⟩
    constructor
    · intro h
      refine ⟨c5, .inr (.inr fun z => ?_)⟩
      have z2 : d = 48 := by simpa using z
      subst z2
      simp at h
    · rintro ⟨_, h | h | h⟩
      · exact absurd h c1
      · exact absurd h c2
      · have z2 : d ≠ 48 := by simpa using h
        have z3 : ¬ (V.int (d : Int) = V.int 48) := by intro z; injection z with z; omega
        rw [decide_eq_false z3]
        rfl
def spWP (ok : Pc → Prop) : Sp := fun vs H Q _ => ∃ (v y : V) (p : Pc) (t : List Nat) (k : Nat), vs = [v, y, .int (k : Int)] ∧ ok p ∧ PcAt H p v ∧ p.okSp = true ∧ p.holes ≤ 8 ∧ TN H y t ∧ t.length ≤ 10000 ∧ k ≤ t.length ∧
  ∀ r H1, Same H H1 → WaysAt H1 r (wP p t k) → Q r H1
def isNum8 (p : Pc) : Prop := match p with | .num _ _ => True | _ => False
def isWord8 (p : Pc) : Prop := match p with | .word _ _ => True | _ => False
def isRep8 (n : Nat) (p : Pc) : Prop := match p with | .rep _ _ _ a => depth a < n | _ => False
theorem down_rg {lo hi : Nat} (h2 : lo ≤ hi) (h3 : hi ≤ 4) : RgC (hi : Int) ((lo : Int) - 1) (-1) (hi + 1 - lo) := by
  have := RgC.neg (i := (hi : Int)) (j := (lo : Int) - 1) (by omega) (by omega) (by omega) (by omega)
  rwa [show ((hi : Int) - ((lo : Int) - 1)).toNat = hi + 1 - lo by omega] at this
theorem ways_add {H H1 : Hp} {l : Addr} {xs : List V} {ws : List (List Nat × Nat)} {e : V} {x : List Nat × Nat} (hl : H l = some (.lst xs)) (h : All2 (WayAt H) xs ws) (he : WayAt H e x) : All2 (WayAt (upd H l (.lst (xs ++ [e])))) (xs ++ [e]) (ws ++ [x]) := by
  have st := sameT_lst (zs := xs ++ [e]) hl
  exact All2.append (h.mono fun _ _ => WayAt.monoT st) (.cons (he.monoT st) .nil)
theorem down_step {β : Type} (f : Nat → Option β) (hi i : Nat) : ((List.range (i + 1)).map fun i => hi - i).filterMap f = ((List.range i).map fun i => hi - i).filterMap f ++ (f (hi - i)).toList := by
  rw [List.range_succ, List.map_append, List.filterMap_append]
  cases h : f (hi - i) <;> simp [h]
theorem ok_ways_of_number (T : Txt K mg) : FnOk P w K mg base CX0 3 T.d_ways_of_number.f T.d_ways_of_number.fd ["piece", "text", "at"] (spWP isNum8) := by
  have G_are_right := ok_are_right (P := P) (w := w) (base := base) T
  have G_number_of := ok_number_of (P := P) (w := w) (base := base) T
  refine T.d_ways_of_number.F.ok sc_ways_of_number (fun vs H Q E h => ?_) (fun cdv A outer s H vs Q E hr h => ?_)
  · obtain ⟨v, y, p, t, k, rfl, _⟩ := h
    rfl
  obtain ⟨v, y, p, t, k, rfl, hp, pt, okp, _, ⟨b, rfl, hb⟩, tl, hk, q⟩ := h
  refine ⟨_, (pss_cons (ps_set (i := 3) sc_ways_of_number.nd rfl (Or.inl rfl) (pe_lst pa_nil))
    (pss_cons (ps_for PassesOwn.never rfl (pi_range3 rfl T.b_range (pa_cons (pe_ix ix_tup (pv 0) pe_int (fun _ _ => rfl)) (pa_cons (pe_op op_sub (pe_ix ix_tup (pv 0) pe_int (fun _ _ => rfl)) pe_int) (pa_cons (pe_un un_neg pe_int) pa_nil)))) (pg_name (i := 4) sc_ways_of_number.nd rfl (Or.inl rfl))
    (pss_cons (ps_set (i := 5) sc_ways_of_number.nd rfl (Or.inl rfl) (pe_slice sl_tup2 (pv 1) (po_some (pv 2)) (po_some (pe_op op_add (pv 2) (pv 4)))))
    (pss_one (ps_if (PW.pt (pw_and (pt_cmpR op_eq (pe_callB call_len_seq (by rfl) T.b_len PySem.boot_len (pa_cons (pv 5) pa_nil)) (pv 4) (nomark _)) (pw_and1 (pt_val (pe_call G_are_right (hr.mono (by omega)) rfl T.d_are_right.m T.d_are_right.F.kp T.d_are_right.b .nil pass0 (pa_cons (pv 0) (pa_cons (pv 5) pa_nil)))))))
    (pss_one (ps_expr (pe_bm PySem.F.plainAttrs_list PySem.F.slot_list_append PySem.F.type_list_append mt_append (pv 3) (pa_cons (pe_tup (pa_cons (pe_tup (pa_cons (pe_call G_number_of (hr.mono (by omega)) rfl T.d_number_of.m T.d_number_of.F.kp T.d_number_of.b .nil pass0 (pa_cons (pv 5) pa_nil)) pa_nil)) (pa_cons (pe_op op_add (pv 2) (pv 4)) pa_nil))) pa_nil))))
    pss_nil))))
    (pss_one (ps_ret (pv 3))))), ?_⟩
  cases p with
  | lit w => cases hp
  | word lo hi => cases hp
  | alt f g => cases hp
  | opt f => cases hp
  | rep t lo hi g => cases hp
  | num lo hi =>
    obtain ⟨a, rfl, ha⟩ := pt
    simp only [Pc.okSp, Bool.and_eq_true, decide_eq_true_eq] at okp
    obtain ⟨l1, l2, l3⟩ := okp
    rw [wP_num hk, downFrom_eq l2] at q
    refine ⟨(by show 0 ≤ sizeLine; decide), fun l hl => ?_⟩
    have s0 := same_new (o := .lst []) hl
    have ha0 := s0 a _ ha
    refine ⟨_, rfl, a, _, 2, _, rfl, rfl, SqT.of ha0, rfl, _, rfl, a, _, 1, _, rfl, rfl, SqT.of ha0, rfl, _, _, rfl, rfl, _, rfl, _, _, _, _, rfl, down_rg l2 l3, ?_⟩
    refine for_rangeC (lo := (hi : Int)) (c := -1) (n := hi + 1 - lo) (fun i σ H1 => ∃ (v4 v5 : Option V) (xs : List V), σ = [some (.ref a), some (.ref b), some (.int (k : Int)), some (.ref l), v4, v5] ∧ Same H H1 ∧ H1 l = some (.lst xs) ∧
      All2 (WayAt H1) xs (((List.range i).map fun i => hi - i).filterMap (numAt lo hi t k))) ⟨none, none, [], rfl, s0, upd_same, .nil⟩ (fun i σ H1 hi1 h => ?_) (fun σ H1 h => ?_)
    · obtain ⟨v4, v5, xs, rfl, s1, hl1, al⟩ := h
      have em : (hi : Int) + (i : Nat) * (-1) = ((hi - i : Nat) : Int) := by omega
      have hm1 : 1 ≤ hi - i := by omega
      have st := down_step (numAt lo hi t k) hi i
      rw [em]
      have hlen : xs.length ≤ 4 := by
        rw [al.length]
        refine Nat.le_trans (List.length_filterMap_le _ _) ?_
        rw [List.length_map, List.length_range]
        omega
      generalize hi - i = m at em hm1 st ⊢
      refine ⟨_, rfl, _, rfl, _, rfl, _, rfl, _, rfl, _, _, rfl, rfl, _, rfl, _, Tup.of (s1 b _ hb), fun d H2 s2 td => ?_⟩
      have cut : cutV (ni t) (some (k : Int)) (some ((k : Int) + (m : Int))) = ni ((t.drop k).take m) := by
        rw [cut_two (a := k) (b := k + m) rfl (by omega), ni_cut, show k + m - k = m by omega]
      rw [cut] at td
      obtain ⟨d, rfl, hd⟩ := td
      have hl2 := s2 l _ hl1
      have al2 := al.waymono s2
      have s12 := s1.trans s2
      have nlen : (ni ((t.drop k).take m)).length = ((t.drop k).take m).length := ni_length _
      rw [show numAt lo hi t k m = if ((t.drop k).take m).length = m ∧ ((t.drop k).take m).all VafmsBase.isDigit = true ∧ (lo = hi ∨ m = 1 ∨ ((t.drop k).take m).head? ≠ some 48) then some ([VafmsBase.numberOf ((t.drop k).take m)], k + m) else none from rfl] at st
      have tlen : ((t.drop k).take m).length ≤ 10000 := by rw [List.length_take, List.length_drop]; omega
      generalize (t.drop k).take m = ds at *
      refine ⟨_, rfl, d, _, rfl, .inr (SqT.of hd), _, rfl, rfl, _, rfl, ?_⟩
      by_cases c1 : ds.length = m
      case neg =>
        refine ifF (decide_eq_false (by intro z; injection z with z; rw [nlen] at z; omega)) (iteF ?_)
        rw [if_neg (fun x => c1 x.1)] at st
        exact ⟨_, _, xs, rfl, s12, hl2, by rw [st]; simpa using al2⟩
      refine ifT (decide_eq_true (by rw [nlen, c1])) ?_
      refine ⟨_, rfl, _, rfl, a, d, lo, hi, ds, rfl, s12 a _ ha, hd, by intro z; rw [z] at c1; simp at c1; omega, tlen, fun H3 c s3 hc => ?_⟩
      have s13 := s12.trans s3
      have hl3 := s3 l _ hl2
      have al3 := al2.waymono s3
      refine ⟨_, rfl, ?_⟩
      have cond : (ds.length = m ∧ ds.all VafmsBase.isDigit = true ∧ (lo = hi ∨ m = 1 ∨ ds.head? ≠ some 48)) ↔ c = true := by
        rw [hc, c1]
        exact ⟨fun x => x.2, fun x => ⟨rfl, x⟩⟩
      refine iteB (fun e => ?_) (fun e => ?_)
      · have cd := cond.mpr e
        rw [if_pos cd] at st
        refine ⟨_, rfl, .inl ⟨rfl, _, SqL.of hl3⟩, _, rfl, d, ds, rfl, s3 d _ hd, cd.2.1, fun H4 s4 => ?_⟩
        refine ⟨(by show 1 ≤ sizeLine; decide), fun p1 hp1 => ?_⟩
        refine ⟨_, rfl, _, rfl, _, _, rfl, rfl, (by show 2 ≤ sizeLine; decide), fun p2 hp2 => ?_⟩
        have s5 := same_new (o := .tup [.int (VafmsBase.numberOf ds : Int)]) hp1
        have s6 := same_new (o := .tup [.ref p1, .int ((k : Int) + (m : Int))]) hp2
        have s46 := (s4.trans s5).trans s6
        have hl6 := s46 l _ hl3
        refine ⟨l, xs, .ref p2, rfl, rfl, hl6, small_lt (by omega), ?_⟩
        refine ⟨some (.int (m : Int)), some (.ref d), xs ++ [.ref p2], rfl, (s13.trans s46).mut hl, upd_same, ?_⟩
        rw [st]
        refine ways_add (H1 := H) hl6 (al3.waymono s46) ⟨.ref p1, ?_, ?_⟩
        · exact Tup.of upd_same
        · exact Tup.mono s6 (Tup.of upd_same)
      · rw [if_neg (fun x => by rw [cond.mp x] at e; cases e)] at st
        exact ⟨_, _, xs, rfl, s13, hl3, by rw [st]; simpa using al3⟩
    · obtain ⟨v4, v5, xs, rfl, s1, hl1, al⟩ := h
      exact ⟨_, rfl, q _ _ s1 ⟨xs, ⟨l, rfl, hl1⟩, al⟩⟩
theorem ok_ways_of_word (T : Txt K mg) : FnOk P w K mg base CX0 2 T.d_ways_of_word.f T.d_ways_of_word.fd ["piece", "text", "at"] (spWP isWord8) := by
  have G_is_letter := ok_is_letter (P := P) (w := w) (base := base) T
  refine T.d_ways_of_word.F.ok sc_ways_of_word (fun vs H Q E h => ?_) (fun cdv A outer s H vs Q E hr h => ?_)
  · obtain ⟨v, y, p, t, k, rfl, _⟩ := h
    rfl
  obtain ⟨v, y, p, t, k, rfl, hp, pt, okp, _, ⟨b, rfl, hb⟩, tl, hk, q⟩ := h
  refine ⟨_, (pss_cons (ps_set (i := 3) sc_ways_of_word.nd rfl (Or.inl rfl) (pe_lst pa_nil))
    (pss_cons (ps_for PassesOwn.never rfl (pi_range3 rfl T.b_range (pa_cons (pe_ix ix_tup (pv 0) pe_int (fun _ _ => rfl)) (pa_cons (pe_op op_sub (pe_ix ix_tup (pv 0) pe_int (fun _ _ => rfl)) pe_int) (pa_cons (pe_un un_neg pe_int) pa_nil)))) (pg_name (i := 4) sc_ways_of_word.nd rfl (Or.inl rfl))
    (pss_cons (ps_set (i := 5) sc_ways_of_word.nd rfl (Or.inl rfl) (pe_slice sl_tup2 (pv 1) (po_some (pv 2)) (po_some (pe_op op_add (pv 2) (pv 4)))))
    (pss_one (ps_if (PW.pt (pw_and (pt_cmpR op_eq (pe_callB call_len_seq (by rfl) T.b_len PySem.boot_len (pa_cons (pv 5) pa_nil)) (pv 4) (nomark _)) (pw_and1 (pt_val (pe_callB (cr_all rfl) (by rfl) T.b_all (by decide +kernel) (pa_cons (pe_lc (own := [("byte", 6)]) rfl sc_ways_of_word.nd (pi_tup (pv 5)) (blkOk_by (own := [("byte", 6)]) (N := ["piece", "text", "at", "found", "many", "letters", "byte"]) (sc := defScope s_ways_of_word) (by decide +kernel)) (fun _ _ _ _ _ => (pg_name (i := 6) sc_ways_of_word.nd rfl (Or.inl rfl))) (fun _ _ _ _ _ => pts_nil) (fun _ _ _ _ _ => (pe_call G_is_letter (hr.mono (by omega)) rfl T.d_is_letter.m T.d_is_letter.F.kp T.d_is_letter.b .nil pass0 (pa_cons (pv 6) pa_nil)))) pa_nil))))))
    (pss_one (ps_expr (pe_bm PySem.F.plainAttrs_list PySem.F.slot_list_append PySem.F.type_list_append mt_append (pv 3) (pa_cons (pe_tup (pa_cons (pe_op op_cat2 (pe_tup (pa_cons (pv 4) pa_nil)) (pe_callTy call_tuple_of (by rfl) T.b_tuple (by decide +kernel) (pa_cons (pe_lc (own := [("byte", 6)]) rfl sc_ways_of_word.nd (pi_tup (pv 5)) (blkOk_by (own := [("byte", 6)]) (N := ["piece", "text", "at", "found", "many", "letters", "byte"]) (sc := defScope s_ways_of_word) (by decide +kernel)) (fun _ _ _ _ _ => (pg_name (i := 6) sc_ways_of_word.nd rfl (Or.inl rfl))) (fun _ _ _ _ _ => pts_nil) (fun _ _ _ _ _ => (pe_op op_sub (pv 6) (pe_glob (v := .int 97) rfl T.c_SMALL_A.2 ⟨_, rfl⟩)))) pa_nil))) (pa_cons (pe_op op_add (pv 2) (pv 4)) pa_nil))) pa_nil))))
    pss_nil))))
    (pss_one (ps_ret (pv 3))))), ?_⟩
  cases p with
  | lit w => cases hp
  | num lo hi => cases hp
  | alt f g => cases hp
  | opt f => cases hp
  | rep t lo hi g => cases hp
  | word lo hi =>
    obtain ⟨a, rfl, ha⟩ := pt
    simp only [Pc.okSp, Bool.and_eq_true, decide_eq_true_eq] at okp
    obtain ⟨l1, l2, l3⟩ := okp
    rw [wP_word hk, downFrom_eq l2] at q
    refine ⟨(by show 0 ≤ sizeLine; decide), fun l hl => ?_⟩
    have s0 := same_new (o := .lst []) hl
    have ha0 := s0 a _ ha
    refine ⟨_, rfl, a, _, 2, _, rfl, rfl, SqT.of ha0, rfl, _, rfl, a, _, 1, _, rfl, rfl, SqT.of ha0, rfl, _, _, rfl, rfl, _, rfl, _, _, _, _, rfl, down_rg l2 l3, ?_⟩
    refine for_rangeC (lo := (hi : Int)) (c := -1) (n := hi + 1 - lo) (fun i σ H1 => ∃ (v4 v5 v6 : Option V) (xs : List V), σ = [some (.ref a), some (.ref b), some (.int (k : Int)), some (.ref l), v4, v5, v6] ∧ Same H H1 ∧ H1 l = some (.lst xs) ∧
      All2 (WayAt H1) xs (((List.range i).map fun i => hi - i).filterMap (wordAt t k))) ⟨none, none, none, [], rfl, s0, upd_same, .nil⟩ (fun i σ H1 hi1 h => ?_) (fun σ H1 h => ?_)
    · obtain ⟨v4, v5, v6, xs, rfl, s1, hl1, al⟩ := h
      have em : (hi : Int) + (i : Nat) * (-1) = ((hi - i : Nat) : Int) := by omega
      have hm1 : 1 ≤ hi - i := by omega
      have st := down_step (wordAt t k) hi i
      rw [em]
      have hlen : xs.length ≤ 4 := by
        rw [al.length]
        refine Nat.le_trans (List.length_filterMap_le _ _) ?_
        rw [List.length_map, List.length_range]
        omega
      have hm4 : hi - i ≤ 4 := by omega
      generalize hi - i = m at em hm1 hm4 st ⊢
      refine ⟨_, rfl, _, rfl, _, rfl, _, rfl, _, rfl, _, _, rfl, rfl, _, rfl, _, Tup.of (s1 b _ hb), fun d H2 s2 td => ?_⟩
      have cut : cutV (ni t) (some (k : Int)) (some ((k : Int) + (m : Int))) = ni ((t.drop k).take m) := by
        rw [cut_two (a := k) (b := k + m) rfl (by omega), ni_cut, show k + m - k = m by omega]
      rw [cut] at td
      obtain ⟨d, rfl, hd⟩ := td
      have hl2 := s2 l _ hl1
      have al2 := al.waymono s2
      have s12 := s1.trans s2
      have nlen : (ni ((t.drop k).take m)).length = ((t.drop k).take m).length := ni_length _
      rw [show wordAt t k m = if ((t.drop k).take m).length = m ∧ ((t.drop k).take m).all VafmsBase.isLetter = true then some (m :: ((t.drop k).take m).map (fun b => b - 97), k + m) else none from rfl] at st
      have tlen : ((t.drop k).take m).length ≤ 10000 := by rw [List.length_take, List.length_drop]; omega
      generalize (t.drop k).take m = ds at *
      refine ⟨_, rfl, d, _, rfl, .inr (SqT.of hd), _, rfl, rfl, _, rfl, ?_⟩
      by_cases c1 : ds.length = m
      case neg =>
        refine ifF (decide_eq_false (by intro z; injection z with z; rw [nlen] at z; omega)) (iteF ?_)
        rw [if_neg (fun x => c1 x.1)] at st
        exact ⟨_, _, _, xs, rfl, s12, hl2, by rw [st]; simpa using al2⟩
      refine ifT (decide_eq_true (by rw [nlen, c1])) ?_
      refine ⟨_, rfl, d, rfl, ⟨_, SqT.of hd⟩, lc_fnT (K := K) (F := fun x : Nat => V.bl (VafmsBase.isLetter x)) (ds := ds) hd (small_le (by omega)) (fun x hx H3 s3 Qy k3 => ?_) (fun D H3 hD s3 e3 => ?_) gN⟩
      · exact ⟨rfl, _, rfl, x, rfl, k3 H3 (Same.refl _)⟩
      refine ⟨D, ds.map VafmsBase.isLetter, rfl, SqL.of (by rw [e3, List.map_map]; rfl), _, rfl, ?_⟩
      have e5 : (ds.map VafmsBase.isLetter).all id = ds.all VafmsBase.isLetter := by
        rw [List.all_map]
        rfl
      rw [e5]
      have s13 := s12.trans s3
      have hl3 := s3 l _ hl2
      have al3 := al2.waymono s3
      have hd3 := s3 d _ hd
      refine iteB (fun e => ?_) (fun e => ?_)
      · rw [if_pos ⟨c1, e⟩] at st
        refine ⟨_, rfl, .inl ⟨rfl, _, SqL.of hl3⟩, _, rfl, (by show 1 ≤ sizeLine; decide), fun p0 hp0 => ?_⟩
        have s4 := same_new (o := .tup [.int (m : Int)]) hp0
        have hd4 := s4 d _ hd3
        refine ⟨_, rfl, d, rfl, ⟨_, SqT.of hd4⟩, lc_fnT (K := K) (F := fun x : Nat => V.int ((x - 97 : Nat) : Int)) (ds := ds) hd4 (small_le (by omega)) (fun x hx H5 s5 Qy k5 => ?_) (fun D2 H5 hD2 s5 e5 => ?_) gN⟩
        · have hx2 := List.all_eq_true.mp e x hx
          simp only [VafmsBase.isLetter, Bool.and_eq_true, decide_eq_true_eq] at hx2
          refine ⟨rfl, _, rfl, _, _, rfl, rfl, ?_⟩
          have := k5 H5 (Same.refl _)
          rw [show ((x - 97 : Nat) : Int) = (x : Int) - 97 by omega] at this
          exact this
        refine ⟨D2, _, rfl, .inl ⟨SqL.of e5, fun p1 hp1 => ?_⟩⟩
        have s6 := same_new (o := .tup (ds.map fun x : Nat => V.int ((x - 97 : Nat) : Int))) hp1
        have t0 : Tup (upd H5 p1 (.tup (ds.map fun x : Nat => V.int ((x - 97 : Nat) : Int)))) (.ref p0) [.int (m : Int)] := Tup.mono (s5.trans s6) (Tup.of upd_same)
        refine ⟨_, _, t0, Tup.of upd_same, small_le (by rw [List.length_map]; simp only [List.length_singleton]; omega), fun p2 H7 s7 tp2 => ?_⟩
        refine ⟨_, rfl, _, rfl, _, _, rfl, rfl, (by show 2 ≤ sizeLine; decide), fun p3 hp3 => ?_⟩
        have s8 := same_new (o := .tup [p2, .int ((k : Int) + (m : Int))]) hp3
        have s48 := (((s4.trans s5).trans s6).trans s7).trans s8
        have hl8 := s48 l _ hl3
        refine ⟨l, xs, .ref p3, rfl, rfl, hl8, small_lt (by omega), ?_⟩
        refine ⟨some (.int (m : Int)), some (.ref d), v6, xs ++ [.ref p3], rfl, (s13.trans s48).mut hl, upd_same, ?_⟩
        rw [st]
        refine ways_add (H1 := H) hl8 (al3.waymono s48) ⟨p2, ?_, ?_⟩
        · exact Tup.of upd_same
        · have : [V.int (m : Int)] ++ ds.map (fun x : Nat => V.int ((x - 97 : Nat) : Int)) = ni (m :: ds.map (fun b => b - 97)) := by
            unfold ni
            rw [List.map_cons, List.map_map]
            rfl
          rw [this] at tp2
          exact Tup.mono s8 tp2
      · rw [if_neg (fun x => by rw [x.2] at e; cases e)] at st
        exact ⟨_, _, _, xs, rfl, s13, hl3, by rw [st]; simpa using al3⟩
    · obtain ⟨v4, v5, v6, xs, rfl, s1, hl1, al⟩ := h
      exact ⟨_, rfl, q _ _ s1 ⟨xs, ⟨l, rfl, hl1⟩, al⟩⟩
def spBehindText : Sp := fun vs H Q _ => ∃ (x y z : V) (wd t : List Nat) (ws : List (List Nat × Nat)), vs = [x, y, z] ∧ TN H x wd ∧ TN H y t ∧ WaysAt H z ws ∧ ws.length ≤ 1000000 ∧
  ∀ r H1, Same H H1 → WaysAt H1 r (behW wd t ws) → Q r H1
theorem ok_behind_text (T : Txt K mg) : FnOk P w K mg base CX0 1 T.d_behind_text.f T.d_behind_text.fd ["wanted", "text", "ways"] spBehindText := by
  refine T.d_behind_text.F.ok sc_behind_text (fun vs H Q E h => ?_) (fun cdv A outer s H vs Q E hr h => ?_)
  · obtain ⟨x, y, z, wd, t, ws, rfl, _⟩ := h
    rfl
  obtain ⟨x, y, z, wd, t, ws, rfl, ⟨a, rfl, ha⟩, ⟨b, rfl, hb⟩, ⟨xs, ⟨c, rfl, hc⟩, al⟩, hz, q⟩ := h
  refine ⟨_, (pss_cons (ps_set (i := 3) sc_behind_text.nd rfl (Or.inr rfl) (pe_callB call_len_seq (by rfl) T.b_len PySem.boot_len (pa_cons (pv 0) pa_nil)))
    (pss_one (ps_ret (pe_lc (own := [("value", 4), ("at", 5)]) rfl sc_behind_text.nd (pi_list (pv 2)) (blkOk_by (own := [("value", 4), ("at", 5)]) (N := ["wanted", "text", "ways", "many", "value", "at"]) (sc := defScope s_behind_text) (by decide +kernel)) (fun _ _ _ _ _ => (show PG _ _ (gTup K 2 (gCons (gName 4) (gCons (gName 5) gNil))) from pg_tup rfl (pgs_cons (pg_name (i := 4) sc_behind_text.nd rfl (Or.inl rfl)) (pgs_cons (pg_name (i := 5) sc_behind_text.nd rfl (Or.inl rfl)) pgs_nil)))) (fun _ _ _ _ _ => (pts_one (pt_cmpR (op_eqT hr.units) (pe_slice sl_tup2 (pv 1) (po_some (pv 5)) (po_some (pe_op op_add (pv 5) (pv 3)))) (pv 0) (nomark _)))) (fun _ _ _ _ _ => (pe_tup (pa_cons (pv 4) (pa_cons (pe_op op_add (pv 5) (pv 3)) pa_nil)))))))), ?_⟩
  have nlen : (ni wd).length = wd.length := ni_length _
  refine ⟨_, rfl, a, _, rfl, .inr (SqT.of ha), ?_⟩
  refine ⟨_, rfl, c, rfl, ⟨_, SqL.of hc⟩, lc_relL (K := K) (R := WayAt) (S := WayAt) (fun x => decide ((t.drop x.2).take wd.length = wd)) (fun x => (x.1, x.2 + wd.length)) (fun _ _ _ _ s h => WayAt.monoT s h) (SqL.of hc) (small_le (by rw [al.length]; omega)) al
    (fun x d r hd H1 s1 Qn Qy qn qy => ?_) (fun D ys H1 hD s1 e1 a1 => ?_)⟩
  · obtain ⟨v, ⟨e, rfl, he⟩, tv⟩ := r
    refine ⟨e, _, rfl, SqT.of (s1 e _ he), rfl, _, _, rfl, _, _, rfl, rfl, rfl, ?_⟩
    refine ⟨_, rfl, _, rfl, _, rfl, _, rfl, _, rfl, _, _, rfl, rfl, _, rfl, _, Tup.of (s1 b _ hb), fun u H2 s2 tu => ?_⟩
    have cut : cutV (ni t) (some (d.2 : Int)) (some ((d.2 : Int) + ((ni wd).length : Int))) = ni ((t.drop d.2).take wd.length) := by
      rw [nlen, cut_two (a := d.2) (b := d.2 + wd.length) rfl (by omega), ni_cut, show d.2 + wd.length - d.2 = wd.length by omega]
    rw [cut] at tu
    have s12 := s1.trans s2
    refine ⟨_, rfl, _, wd, tu, Tup.of (s12 a _ ha), _, rfl, ?_⟩
    refine iteD (fun k => ?_) (fun k => ?_)
    · refine ⟨_, rfl, _, rfl, _, rfl, _, _, rfl, rfl, (by show 2 ≤ sizeLine; decide), fun p hp => ?_⟩
      refine qy _ _ (s2.trans (same_new hp)) (decide_eq_true k) ⟨v, Tup.of (upd_same.trans ?_), (tv.mono s12).mono (same_new hp)⟩
      have : (d.2 : Int) + ((ni wd).length : Int) = ((d.2 + wd.length : Nat) : Int) := by rw [nlen]; omega
      exact congrArg (fun i => some (HO.tup [v, V.int i])) this
    · exact qn _ s2 (decide_eq_false k)
  · exact q _ _ s1 ⟨ys, ⟨D, rfl, e1⟩, a1⟩
end
end Asc
namespace Asc
open PySem PySem.Spec PyProof.Rows L2
open VafmsBase (Fmt)
section
variable {P : Program} {w : World} {K : PySem.W.Frag} {mg : Str → Option PySem.Value} {base : Heap}

def spWaysRow (n : Nat) : Sp := fun vs H Q _ => ∃ (v y z : V) (f : Fmt) (t : List Nat) (ws : List (List Nat × Nat)) (m : Nat), vs = [v, y, z] ∧ RowAt H f v ∧ depth f < n ∧ okSp f = true ∧ f.holes ≤ 8 ∧ TN H y t ∧ t.length ≤ 10000 ∧ WaysAt H z ws ∧ Within t ws ∧ ValW m ws ∧
  m + 5 * f.holes ≤ 1000 ∧ ws.length * 5 ^ f.holes ≤ 500000 ∧ ∀ r H1, Same H H1 → WaysAt H1 r (goW f t ws) → Q r H1
/-- a numbered row -/
def NumRow (H : Hp) (v : V) (d : Nat × Fmt) : Prop := ∃ r, Tup H v [.int (d.1 : Int), r] ∧ RowAt H d.2 r
theorem NumRow.mono {H H1 : Hp} (s : Same H H1) {v : V} {d : Nat × Fmt} (h : NumRow H v d) : NumRow H1 v d := by
  obtain ⟨r, h1, h2⟩ := h
  exact ⟨r, h1.mono s, h2.mono s⟩
def spWaysRows (n : Nat) : Sp := fun vs H Q _ => ∃ (a : Addr) (y : V) (xs : List V) (ds : List (Nat × Fmt)) (t : List Nat) (k : Nat), vs = [.ref a, y, .int (k : Int)] ∧ H a = some (.lst xs) ∧ All2 (NumRow H) xs ds ∧ ds.length ≤ 2 ∧
  (∀ d ∈ ds, depth d.2 < n ∧ okSp d.2 = true ∧ d.2.holes ≤ 7) ∧ TN H y t ∧ t.length ≤ 10000 ∧ k ≤ t.length ∧ ∀ r H1, Same H H1 → WaysAt H1 r (ds.flatMap fun d => goW d.2 t [([d.1], k)]) → Q r H1
theorem within_one {t : List Nat} {k : Nat} {v : List Nat} (h : k ≤ t.length) : Within t [(v, k)] := fun x hx => by
  rw [List.mem_singleton] at hx
  subst hx
  exact h
theorem valw_one {v : List Nat} {k m : Nat} (h : v.length ≤ m) : ValW m [(v, k)] := fun x hx => by
  rw [List.mem_singleton] at hx
  subst hx
  exact h
theorem pow8 {a : Nat} (h : a ≤ 8) : 5 ^ a ≤ 390625 := Nat.le_trans (pow_le h) (by decide)
theorem pow7 {a : Nat} (h : a ≤ 7) : 5 ^ a ≤ 78125 := Nat.le_trans (pow_le h) (by decide)
theorem ways_app {H H1 : Hp} {l : Addr} {xs zs : List V} {ws us : List (List Nat × Nat)} (hl : H l = some (.lst xs)) (h : All2 (WayAt H) xs ws) (he : All2 (WayAt H) zs us) : All2 (WayAt (upd H l (.lst (xs ++ zs)))) (xs ++ zs) (ws ++ us) := by
  have st := sameT_lst (zs := xs ++ zs) hl
  exact All2.append (h.mono fun _ _ => WayAt.monoT st) (he.mono fun _ _ => WayAt.monoT st)
theorem ok_ways_of_rows {n : Nat} (T : Txt K mg) (G_ways_of_row : FnOk P w K mg base CX0 (3 * n + 2) T.d_ways_of_row.f T.d_ways_of_row.fd ["row", "text", "ways"] (spWaysRow n)) :
    FnOk P w K mg base CX0 (3 * n + 3) T.d_ways_of_rows.f T.d_ways_of_rows.fd ["rows", "text", "at"] (spWaysRows n) := by
  refine T.d_ways_of_rows.F.ok sc_ways_of_rows (fun vs H Q E h => ?_) (fun cdv A outer s H vs Q E hr h => ?_)
  · obtain ⟨a, y, xs, ds, t, k, rfl, _⟩ := h
    rfl
  obtain ⟨a, y, xs, ds, t, k, rfl, ha, al, d2, dd, ⟨b, rfl, hb⟩, tl, hk, q⟩ := h
  refine ⟨_, (pss_cons (ps_set (i := 3) sc_ways_of_rows.nd rfl (Or.inl rfl) (pe_lst pa_nil))
    (pss_cons (ps_for PassesOwn.never rfl (pi_list (pv 0)) (pg_tup rfl (pgs_cons (pg_name (i := 4) sc_ways_of_rows.nd rfl (Or.inl rfl)) (pgs_cons (pg_name (i := 5) sc_ways_of_rows.nd rfl (Or.inl rfl)) pgs_nil)))
    (pss_one (ps_expr (pe_bm PySem.F.plainAttrs_list PySem.F.slot_list_extend PySem.F.type_list_extend mt_extend (pv 3) (pa_cons (pe_call G_ways_of_row (hr.mono (by omega)) rfl T.d_ways_of_row.m T.d_ways_of_row.F.kp T.d_ways_of_row.b .nil pass0 (pa_cons (pv 5) (pa_cons (pv 1) (pa_cons (pe_lst (pa_cons (pe_tup (pa_cons (pe_tup (pa_cons (pv 4) pa_nil)) (pa_cons (pv 2) pa_nil))) pa_nil)) pa_nil)))) pa_nil)))))
    (pss_one (ps_ret (pv 3))))), ?_⟩
  refine ⟨(by show 0 ≤ sizeLine; decide), fun l hl => ?_⟩
  have s0 := same_new (o := .lst []) hl
  refine ⟨_, rfl, a, rfl, ⟨_, SqL.of (s0 a _ ha)⟩, for_list (K := K) (a := a) (xs := xs) (fun i σ H1 => ∃ (v4 v5 : Option V) (ys : List V), σ = [some (.ref a), some (.ref b), some (.int (k : Int)), some (.ref l), v4, v5] ∧ Same H H1 ∧ H1 l = some (.lst ys) ∧
      All2 (WayAt H1) ys ((ds.take i).flatMap fun d => goW d.2 t [([d.1], k)])) ⟨none, none, [], rfl, s0, upd_same, .nil⟩ (fun i σ H1 _ h => ?_) (fun i x σ H1 hx h => ?_) (fun σ H1 h => ?_)⟩
  · obtain ⟨_, _, _, _, s1, _⟩ := h
    exact SqL.of (s1 a _ ha)
  · obtain ⟨v4, v5, ys, rfl, s1, hl1, ay⟩ := h
    obtain ⟨d, hd, nr⟩ := al.get hx
    obtain ⟨r, ⟨e, rfl, he⟩, rr⟩ := nr.mono s1
    obtain ⟨d1, d3, d4⟩ := dd d (List.mem_of_getElem? hd)
    have ilt : i < ds.length := (List.getElem?_eq_some_iff.mp hd).1
    have ylen : ys.length ≤ 78125 := by
      rw [ay.length]
      refine Nat.le_trans (flat_len _ 78125 _ (fun x hx => ?_)) ?_
      · have h1 := dd x (List.mem_of_mem_take hx)
        refine Nat.le_trans (goW_len h1.2.1 t _) ?_
        rw [List.length_singleton, Nat.one_mul]
        exact pow7 h1.2.2
      · rw [List.length_take]
        omega
    have glen : (goW d.2 t [([d.1], k)]).length ≤ 78125 := by
      refine Nat.le_trans (goW_len d3 t _) ?_
      rw [List.length_singleton, Nat.one_mul]
      exact pow7 d4
    refine ⟨e, _, rfl, SqT.of he, rfl, _, _, rfl, _, _, rfl, rfl, ?_⟩
    refine ⟨_, rfl, .inl ⟨rfl, _, SqL.of hl1⟩, _, rfl, _, rfl, _, rfl, (by show 1 ≤ sizeLine; decide), fun p0 hp0 => ⟨_, rfl, (by show 2 ≤ sizeLine; decide), fun p1 hp1 => ⟨(by show 1 ≤ sizeLine; decide), fun p2 hp2 => ?_⟩⟩⟩
    have s2 := same_new (o := .tup [.int (d.1 : Int)]) hp0
    have s3 := same_new (o := .tup [.ref p0, .int (k : Int)]) hp1
    have s4 := same_new (o := .lst [.ref p1]) hp2
    have s24 := (s2.trans s3).trans s4
    refine ⟨r, .ref b, .ref p2, d.2, t, [([d.1], k)], 1, rfl, rr.mono s24, d1, d3, by omega, Tup.of (s24 b _ (s1 b _ hb)), tl, ⟨_, ⟨p2, rfl, upd_same⟩, .cons ⟨.ref p0, Tup.mono s4 (Tup.of upd_same), Tup.mono (s3.trans s4) (Tup.of upd_same)⟩ .nil⟩,
      within_one hk, valw_one (by simp), by omega, ?_, fun v H5 s5 wv => ?_⟩
    · rw [List.length_singleton, Nat.one_mul]
      exact Nat.le_trans (pow7 d4) (by decide)
    obtain ⟨zs, ⟨c, rfl, hc⟩, az⟩ := wv
    have s25 := s24.trans s5
    have hl5 := s25 l _ hl1
    refine ⟨l, c, ys, zs, rfl, rfl, hl5, hc, small_le (by rw [az.length]; omega), ?_⟩
    refine ⟨_, _, ys ++ zs, rfl, (s1.trans s25).mut hl, upd_same, ?_⟩
    rw [List.take_add_one, hd, List.flatMap_append]
    simp only [Option.toList, List.flatMap_cons, List.flatMap_nil, List.append_nil]
    exact ways_app (H1 := H) hl5 (ay.waymono s25) az
  · obtain ⟨v4, v5, ys, rfl, s1, hl1, ay⟩ := h
    rw [al.length, List.take_length] at ay
    exact ⟨_, rfl, q _ _ s1 ⟨ys, ⟨l, rfl, hl1⟩, ay⟩⟩
theorem tmW_len {a : Fmt} (ok : okSp a = true) (s t : List Nat) : ∀ (n : Nat) (b : Bool) (ws : Ways), (tmW a s t n b ws).length ≤ ws.length * 5 ^ (n * a.holes)
  | 0, b, ws => by simp [tmW]
  | n + 1, b, ws => by
    simp only [tmW]
    refine Nat.le_trans (tmW_len ok s t n false _) ?_
    rw [Nat.succ_mul, Nat.pow_add, Nat.mul_comm (5 ^ (n * a.holes)), ← Nat.mul_assoc]
    refine Nat.mul_le_mul_right _ (Nat.le_trans (goW_len ok t _) (Nat.mul_le_mul_right _ ?_))
    split
    · exact Nat.le_refl _
    · exact behW_len _ _ _
theorem downF_step {β : Type} (f : Nat → List β) (hi i : Nat) : ((List.range (i + 1)).map fun i => hi - i).flatMap f = ((List.range i).map fun i => hi - i).flatMap f ++ f (hi - i) := by
  rw [List.range_succ, List.map_append, List.flatMap_append]
  simp
theorem ok_ways_of_times {n : Nat} (T : Txt K mg) (G_ways_of_row : FnOk P w K mg base CX0 (3 * n + 2) T.d_ways_of_row.f T.d_ways_of_row.fd ["row", "text", "ways"] (spWaysRow n)) :
    FnOk P w K mg base CX0 (3 * n + 3) T.d_ways_of_times.f T.d_ways_of_times.fd ["piece", "text", "at"] (spWP (isRep8 n)) := by
  have G_behind_text := ok_behind_text (P := P) (w := w) (base := base) T
  refine T.d_ways_of_times.F.ok sc_ways_of_times (fun vs H Q E h => ?_) (fun cdv A outer s H vs Q E hr h => ?_)
  · obtain ⟨v, y, p, t, k, rfl, _⟩ := h
    rfl
  obtain ⟨v, y, p, t, k, rfl, hp, pt, okp, h8, ⟨b, rfl, hb⟩, tl, hk, q⟩ := h
  refine ⟨_, (pss_cons (ps_asg (pv 0) (pg_tup rfl (pgs_cons (pg_name (i := 3) sc_ways_of_times.nd rfl (Or.inl rfl)) (pgs_cons (pg_name (i := 4) sc_ways_of_times.nd rfl (Or.inl rfl)) (pgs_cons (pg_name (i := 5) sc_ways_of_times.nd rfl (Or.inl rfl)) (pgs_cons (pg_name (i := 6) sc_ways_of_times.nd rfl (Or.inl rfl)) (pgs_cons (pg_name (i := 7) sc_ways_of_times.nd rfl (Or.inl rfl)) pgs_nil)))))))
    (pss_cons (ps_set (i := 8) sc_ways_of_times.nd rfl (Or.inl rfl) (pe_lst pa_nil))
    (pss_cons (ps_for PassesOwn.never rfl (pi_range3 rfl T.b_range (pa_cons (pv 6) (pa_cons (pe_op op_sub (pv 5) pe_int) (pa_cons (pe_un un_neg pe_int) pa_nil)))) (pg_name (i := 9) sc_ways_of_times.nd rfl (Or.inl rfl))
    (pss_cons (ps_set (i := 10) sc_ways_of_times.nd rfl (Or.inl rfl) (pe_lst (pa_cons (pe_tup (pa_cons (pe_tup (pa_cons (pv 9) pa_nil)) (pa_cons (pv 2) pa_nil))) pa_nil)))
    (pss_cons (ps_for PassesOwn.never rfl (pi_range1 rfl T.b_range (pa_cons (pv 9) pa_nil)) (pg_name (i := 11) sc_ways_of_times.nd rfl (Or.inl rfl))
    (pss_cons (ps_if (pt_cmpR op_gt (pv 11) pe_int (nomark _))
    (pss_one (ps_set (i := 10) sc_ways_of_times.nd rfl (Or.inl rfl) (pe_call G_behind_text (hr.mono (by omega)) rfl T.d_behind_text.m T.d_behind_text.F.kp T.d_behind_text.b .nil pass0 (pa_cons (pv 4) (pa_cons (pv 1) (pa_cons (pv 10) pa_nil))))))
    pss_nil)
    (pss_one (ps_set (i := 10) sc_ways_of_times.nd rfl (Or.inl rfl) (pe_call G_ways_of_row (hr.mono (by omega)) rfl T.d_ways_of_row.m T.d_ways_of_row.F.kp T.d_ways_of_row.b .nil pass0 (pa_cons (pv 7) (pa_cons (pv 1) (pa_cons (pv 10) pa_nil))))))))
    (pss_one (ps_expr (pe_bm PySem.F.plainAttrs_list PySem.F.slot_list_extend PySem.F.type_list_extend mt_extend (pv 8) (pa_cons (pv 10) pa_nil)))))))
    (pss_one (ps_ret (pv 8)))))), ?_⟩
  cases p with
  | lit w => cases hp
  | num lo hi => cases hp
  | alt f g => cases hp
  | opt f => cases hp
  | word lo hi => cases hp
  | rep sp lo hi g =>
    obtain ⟨vt, vg, ⟨a, rfl, ha⟩, ht, hg⟩ := pt
    simp only [Pc.okSp, VafmsBase.okText, Bool.and_eq_true, decide_eq_true_eq] at okp
    obtain ⟨⟨l0, l0'⟩, l2, l3, l4⟩ := okp
    simp only [Pc.holes] at h8
    rw [wP_rep hk, downFrom_eq l2] at q
    refine ⟨_, rfl, a, _, rfl, SqT.of ha, rfl, _, _, rfl, _, _, rfl, _, _, rfl, _, _, rfl, _, _, rfl, rfl, ?_⟩
    refine ⟨(by show 0 ≤ sizeLine; decide), fun l hl => ?_⟩
    have s0 := same_new (o := .lst []) hl
    refine ⟨_, rfl, _, rfl, _, _, rfl, rfl, _, rfl, _, _, _, _, rfl, down_rg l2 l3, ?_⟩
    refine for_rangeC (lo := (hi : Int)) (c := -1) (n := hi + 1 - lo) (fun i σ H1 => ∃ (v9 v10 v11 : Option V) (xs : List V), σ = [some (.ref a), some (.ref b), some (.int (k : Int)), some (.int 5), some vt, some (.int (lo : Int)), some (.int (hi : Int)), some vg, some (.ref l), v9, v10, v11] ∧ Same H H1 ∧ H1 l = some (.lst xs) ∧
      All2 (WayAt H1) xs (((List.range i).map fun i => hi - i).flatMap fun n => tmW g sp t n true [([n], k)])) ⟨none, none, none, [], rfl, s0, upd_same, .nil⟩ (fun i σ H1 hi1 h => ?_) (fun σ H1 h => ?_)
    · obtain ⟨v9, v10, v11, xs, rfl, s1, hl1, al⟩ := h
      have em : (hi : Int) + (i : Nat) * (-1) = ((hi - i : Nat) : Int) := by omega
      have st := downF_step (fun n => tmW g sp t n true [([n], k)]) hi i
      have p7 : 5 ^ (hi * g.holes) ≤ 78125 := pow7 (by omega)
      have each : ∀ m, m ≤ hi → (tmW g sp t m true [([m], k)]).length ≤ 78125 := fun m hm => by
        refine Nat.le_trans (tmW_len l4 sp t m true _) ?_
        rw [List.length_singleton, Nat.one_mul]
        exact Nat.le_trans (pow_le (Nat.mul_le_mul_right _ hm)) p7
      have xlen : xs.length ≤ 5 * 78125 := by
        rw [al.length]
        refine Nat.le_trans (flat_len _ 78125 _ (fun x hx => ?_)) ?_
        · obtain ⟨y, hy, rfl⟩ := List.mem_map.mp hx
          exact each _ (Nat.sub_le _ _)
        · rw [List.length_map, List.length_range]
          exact Nat.mul_le_mul_right _ (by omega)
      rw [em]
      have hmh : hi - i ≤ hi := Nat.sub_le _ _
      generalize hi - i = m at em st hmh ⊢
      refine ⟨_, rfl, (by show 1 ≤ sizeLine; decide), fun p0 hp0 => ⟨_, rfl, (by show 2 ≤ sizeLine; decide), fun p1 hp1 => ⟨(by show 1 ≤ sizeLine; decide), fun p2 hp2 => ?_⟩⟩⟩
      have s2 := same_new (o := .tup [.int (m : Int)]) hp0
      have s3 := same_new (o := .tup [.ref p0, .int (k : Int)]) hp1
      have s4 := same_new (o := .lst [.ref p1]) hp2
      have s24 := (s2.trans s3).trans s4
      refine ⟨_, rfl, _, rfl, by omega, by omega, ?_⟩
      refine for_range (lo := 0) (n := ((m : Int)).toNat) (fun j σ H2 => ∃ (v11 : Option V) (z : V) (ws : Ways), σ = [some (.ref a), some (.ref b), some (.int (k : Int)), some (.int 5), some vt, some (.int (lo : Int)), some (.int (hi : Int)), some vg, some (.ref l), some (.int (m : Int)), some z, v11] ∧ Same H1 H2 ∧
        WaysAt H2 z ws ∧ tmW g sp t m true [([m], k)] = tmW g sp t (m - j) (decide (j = 0)) ws ∧ ws.length ≤ 5 ^ (j * g.holes) ∧ ValW (1 + j * (5 * g.holes)) ws ∧ Within t ws)
        ⟨_, _, [([m], k)], rfl, s24, ⟨_, ⟨p2, rfl, upd_same⟩, .cons ⟨.ref p0, Tup.mono s4 (Tup.of upd_same), Tup.mono (s3.trans s4) (Tup.of upd_same)⟩ .nil⟩, rfl, by simp, valw_one (by simp), within_one hk⟩ (fun j σ H2 hj h => ?_) (fun σ H2 h => ?_)
      · obtain ⟨v11, z, ws, rfl, s5, wz, eq, wl, vw, wt⟩ := h
        rw [Int.toNat_natCast] at hj
        rw [show m - j = (m - (j + 1)) + 1 by omega] at eq
        simp only [tmW] at eq
        have jh : (j + 1) * g.holes ≤ hi * g.holes := Nat.mul_le_mul_right _ (by omega)
        rw [Nat.succ_mul] at jh
        have j5 : j * (5 * g.holes) = 5 * (j * g.holes) := by rw [← Nat.mul_assoc, Nat.mul_comm j 5, Nat.mul_assoc]
        have wl2 : ws.length * 5 ^ g.holes ≤ 5 ^ ((j + 1) * g.holes) := by
          rw [Nat.succ_mul, Nat.pow_add]
          exact Nat.mul_le_mul_right _ wl
        have p72 : 5 ^ ((j + 1) * g.holes) ≤ 78125 := pow7 (by rw [Nat.succ_mul]; omega)
        have wl3 : ws.length ≤ 78125 := Nat.le_trans wl (pow7 (by omega))
        have ham := s1.trans s5
        -- the row, from some ways on
        have go : ∀ (z' : V) (us : Ways) (H3 : Hp), Same H1 H3 → WaysAt H3 z' us → us.length ≤ ws.length → ValW (1 + j * (5 * g.holes)) us → Within t us → tmW g sp t m true [([m], k)] = tmW g sp t (m - (j + 1)) false (goW g t us) →
            spWaysRow n [vg, .ref b, z'] H3 (fun r H4 => ∃ (v11 : Option V) (z : V) (ws : Ways), [some (.ref a), some (.ref b), some (.int (k : Int)), some (.int 5), some vt, some (.int (lo : Int)), some (.int (hi : Int)), some vg, some (.ref l), some (.int (m : Int)), some r, some (.int (0 + (j : Int)))] = [some (.ref a), some (.ref b), some (.int (k : Int)), some (.int 5), some vt, some (.int (lo : Int)), some (.int (hi : Int)), some vg, some (.ref l), some (.int (m : Int)), some z, v11] ∧ Same H1 H4 ∧
              WaysAt H4 z ws ∧ tmW g sp t m true [([m], k)] = tmW g sp t (m - (j + 1)) (decide (j + 1 = 0)) ws ∧ ws.length ≤ 5 ^ ((j + 1) * g.holes) ∧ ValW (1 + (j + 1) * (5 * g.holes)) ws ∧ Within t ws) E0 := fun z' us H3 s6 wu ul vu wtu eq2 => by
          refine ⟨vg, .ref b, z', g, t, us, 1 + j * (5 * g.holes), rfl, hg.mono (s1.trans s6), hp, l4, by omega, Tup.of ((s1.trans s6) b _ hb), tl, wu, wtu, vu, by omega, ?_, fun r H4 s7 wr => ?_⟩
          · exact Nat.le_trans (Nat.mul_le_mul_right _ ul) (Nat.le_trans wl2 (Nat.le_trans p72 (by decide)))
          · refine ⟨_, r, goW g t us, rfl, s6.trans s7, wr, eq2, ?_, ?_, goW_within wtu⟩
            · exact Nat.le_trans (goW_len l4 t us) (Nat.le_trans (Nat.mul_le_mul_right _ ul) wl2)
            · rw [Nat.succ_mul, ← Nat.add_assoc]
              exact vals_goW l4 vu
        by_cases z0 : j = 0
        · subst z0
          refine ⟨_, rfl, _, _, rfl, rfl, _, rfl, ifF (by decide) ?_⟩
          refine ⟨_, rfl, _, rfl, _, rfl, ?_⟩
          exact go z ws H2 s5 wz (Nat.le_refl _) vw wt eq
        · refine ⟨_, rfl, _, _, rfl, rfl, _, rfl, ifT (decide_eq_true (by omega)) ?_⟩
          refine ⟨_, rfl, _, rfl, _, rfl, vt, .ref b, z, sp, t, ws, rfl, ht.mono ham, Tup.of (ham b _ hb), wz, by omega, fun r H3 s6 wr => ?_⟩
          refine ⟨_, rfl, _, rfl, _, rfl, ?_⟩
          refine go r (behW sp t ws) H3 (s5.trans s6) wr (behW_len _ _ _) (vals_behW vw) (behW_within wt) ?_
          rw [eq, decide_eq_false z0]
          rfl
      · obtain ⟨v11, z, ws, rfl, s5, wz, eq, wl, vw, wt⟩ := h
        rw [Int.toNat_natCast] at eq wl
        rw [Nat.sub_self] at eq
        simp only [tmW] at eq
        obtain ⟨zs, ⟨c, rfl, hc⟩, az⟩ := wz
        have hl2 := s5 l _ hl1
        have e1 := each m hmh
        rw [eq] at e1
        refine ⟨_, rfl, .inl ⟨rfl, _, SqL.of hl2⟩, _, rfl, l, c, xs, zs, rfl, rfl, hl2, hc, small_le (by rw [az.length]; omega), ?_⟩
        refine ⟨_, _, _, xs ++ zs, rfl, (s1.trans s5).mut hl, upd_same, ?_⟩
        rw [st, eq]
        exact ways_app (H1 := H) hl2 (al.waymono s5) az
    · obtain ⟨v9, v10, v11, xs, rfl, s1, hl1, al⟩ := h
      exact ⟨_, rfl, q _ _ s1 ⟨xs, ⟨l, rfl, hl1⟩, al⟩⟩
theorem ok_ways_of {n : Nat} (T : Txt K mg) (G_ways_of_row : FnOk P w K mg base CX0 (3 * n + 2) T.d_ways_of_row.f T.d_ways_of_row.fd ["row", "text", "ways"] (spWaysRow n)) :
    FnOk P w K mg base CX0 (3 * n + 4) T.d_ways_of.f T.d_ways_of.fd ["piece", "text", "at"] (spWP fun p => p.depth ≤ n) := by
  have G_behind_text := ok_behind_text (P := P) (w := w) (base := base) T
  have G_ways_of_number := (ok_ways_of_number (P := P) (w := w) (base := base) T)
  have G_ways_of_word := ok_ways_of_word (P := P) (w := w) (base := base) T
  have G_ways_of_rows := ok_ways_of_rows T G_ways_of_row
  have G_ways_of_times := ok_ways_of_times T G_ways_of_row
  refine T.d_ways_of.F.ok sc_ways_of (fun vs H Q E h => ?_) (fun cdv A outer s H vs Q E hr h => ?_)
  · obtain ⟨v, y, p, t, k, rfl, _⟩ := h
    rfl
  obtain ⟨v, y, p, t, k, rfl, hp, pt, okp, h8, ⟨b, rfl, hb⟩, tl, hk, q⟩ := h
  refine ⟨_, (pss_cons (ps_if (pt_cmpR op_eq (pe_ix ix_tup (pv 0) pe_int (fun _ _ => rfl)) (pe_glob (v := .int 0) rfl T.c_LITERAL.2 ⟨_, rfl⟩) (nomark _))
    (pss_one (ps_ret (pe_call G_behind_text (hr.mono (by omega)) rfl T.d_behind_text.m T.d_behind_text.F.kp T.d_behind_text.b .nil pass0 (pa_cons (pe_ix ix_tup (pv 0) pe_int (fun _ _ => rfl)) (pa_cons (pv 1) (pa_cons (pe_lst (pa_cons (pe_tup (pa_cons (pe_tup pa_nil) (pa_cons (pv 2) pa_nil))) pa_nil)) pa_nil))))))
    pss_nil)
    (pss_cons (ps_if (pt_cmpR op_eq (pe_ix ix_tup (pv 0) pe_int (fun _ _ => rfl)) (pe_glob (v := .int 1) rfl T.c_NUMBER.2 ⟨_, rfl⟩) (nomark _))
    (pss_one (ps_ret (pe_call G_ways_of_number (hr.mono (by omega)) rfl T.d_ways_of_number.m T.d_ways_of_number.F.kp T.d_ways_of_number.b .nil pass0 (pa_cons (pv 0) (pa_cons (pv 1) (pa_cons (pv 2) pa_nil))))))
    pss_nil)
    (pss_cons (ps_if (pt_cmpR op_eq (pe_ix ix_tup (pv 0) pe_int (fun _ _ => rfl)) (pe_glob (v := .int 2) rfl T.c_WORD.2 ⟨_, rfl⟩) (nomark _))
    (pss_one (ps_ret (pe_call G_ways_of_word (hr.mono (by omega)) rfl T.d_ways_of_word.m T.d_ways_of_word.F.kp T.d_ways_of_word.b .nil pass0 (pa_cons (pv 0) (pa_cons (pv 1) (pa_cons (pv 2) pa_nil))))))
    pss_nil)
    (pss_cons (ps_if (pt_cmpR op_eq (pe_ix ix_tup (pv 0) pe_int (fun _ _ => rfl)) (pe_glob (v := .int 3) rfl T.c_EITHER.2 ⟨_, rfl⟩) (nomark _))
    (pss_one (ps_ret (pe_call G_ways_of_rows (hr.mono (by omega)) rfl T.d_ways_of_rows.m T.d_ways_of_rows.F.kp T.d_ways_of_rows.b .nil pass0 (pa_cons (pe_lst (pa_cons (pe_tup (pa_cons pe_int (pa_cons (pe_ix ix_tup (pv 0) pe_int (fun _ _ => rfl)) pa_nil))) (pa_cons (pe_tup (pa_cons pe_int (pa_cons (pe_ix ix_tup (pv 0) pe_int (fun _ _ => rfl)) pa_nil))) pa_nil))) (pa_cons (pv 1) (pa_cons (pv 2) pa_nil))))))
    pss_nil)
    (pss_cons (ps_if (pt_cmpR op_eq (pe_ix ix_tup (pv 0) pe_int (fun _ _ => rfl)) (pe_glob (v := .int 4) rfl T.c_OPTIONAL.2 ⟨_, rfl⟩) (nomark _))
    (pss_one (ps_ret (pe_call G_ways_of_rows (hr.mono (by omega)) rfl T.d_ways_of_rows.m T.d_ways_of_rows.F.kp T.d_ways_of_rows.b .nil pass0 (pa_cons (pe_lst (pa_cons (pe_tup (pa_cons pe_int (pa_cons (pe_ix ix_tup (pv 0) pe_int (fun _ _ => rfl)) pa_nil))) (pa_cons (pe_tup (pa_cons pe_int (pa_cons (pe_tup pa_nil) pa_nil))) pa_nil))) (pa_cons (pv 1) (pa_cons (pv 2) pa_nil))))))
    pss_nil)
    (pss_one (ps_ret (pe_call G_ways_of_times (hr.mono (by omega)) rfl T.d_ways_of_times.m T.d_ways_of_times.F.kp T.d_ways_of_times.b .nil pass0 (pa_cons (pv 0) (pa_cons (pv 1) (pa_cons (pv 2) pa_nil))))))))))), ?_⟩
  obtain ⟨a, ys, rfl, ha⟩ := pt.kind
  refine ⟨_, rfl, a, _, 0, _, rfl, rfl, SqT.of ha, at0, rfl, _, rfl, ?_⟩
  cases p with
  | lit u =>
    obtain ⟨x, tp, tx⟩ := pt
    have ha2 := tp.at
    rw [wP_lit hk] at q
    refine kindT rfl ?_
    refine ⟨_, rfl, a, _, 1, _, rfl, rfl, SqT.of ha2, rfl, _, rfl, (by show 0 ≤ sizeLine; decide), fun p0 hp0 => ⟨_, rfl, (by show 2 ≤ sizeLine; decide), fun p1 hp1 => ⟨(by show 1 ≤ sizeLine; decide), fun p2 hp2 => ?_⟩⟩⟩
    have s2 := same_new (o := .tup []) hp0
    have s3 := same_new (o := .tup [.ref p0, .int (k : Int)]) hp1
    have s4 := same_new (o := .lst [.ref p1]) hp2
    have s24 := (s2.trans s3).trans s4
    exact ⟨x, .ref b, .ref p2, u, t, [([], k)], rfl, tx.mono s24, Tup.of (s24 b _ hb), ⟨_, ⟨p2, rfl, upd_same⟩, .cons ⟨.ref p0, Tup.mono s4 (Tup.of upd_same), Tup.mono (s3.trans s4) (Tup.of upd_same)⟩ .nil⟩, by simp, fun r H1 s5 wr => q r H1 (s24.trans s5) wr⟩
  | num lo hi =>
    refine kindF (by simp only [Pc.kind]; decide) ?_
    refine ⟨_, rfl, a, _, 0, _, rfl, rfl, SqT.of ha, at0, rfl, _, rfl, kindT rfl ?_⟩
    exact ⟨_, rfl, _, rfl, _, rfl, .ref a, .ref b, .num lo hi, t, k, rfl, trivial, pt, okp, h8, Tup.of hb, tl, hk, q⟩
  | word lo hi =>
    refine kindF (by simp only [Pc.kind]; decide) ?_
    refine ⟨_, rfl, a, _, 0, _, rfl, rfl, SqT.of ha, at0, rfl, _, rfl, kindF (by simp only [Pc.kind]; decide) ?_⟩
    refine ⟨_, rfl, a, _, 0, _, rfl, rfl, SqT.of ha, at0, rfl, _, rfl, kindT rfl ?_⟩
    exact ⟨_, rfl, _, rfl, _, rfl, .ref a, .ref b, .word lo hi, t, k, rfl, trivial, pt, okp, h8, Tup.of hb, tl, hk, q⟩
  | alt f g =>
    obtain ⟨x, z, tp, rx, rz⟩ := pt
    have ha2 := tp.at
    simp only [Pc.okSp, Bool.and_eq_true] at okp
    simp only [Pc.holes] at h8
    simp only [Pc.depth] at hp
    rw [wP_alt] at q
    refine kindF (by simp only [Pc.kind]; decide) ?_
    refine ⟨_, rfl, a, _, 0, _, rfl, rfl, SqT.of ha, at0, rfl, _, rfl, kindF (by simp only [Pc.kind]; decide) ?_⟩
    refine ⟨_, rfl, a, _, 0, _, rfl, rfl, SqT.of ha, at0, rfl, _, rfl, kindF (by simp only [Pc.kind]; decide) ?_⟩
    refine ⟨_, rfl, a, _, 0, _, rfl, rfl, SqT.of ha, at0, rfl, _, rfl, kindT rfl ?_⟩
    refine ⟨_, rfl, a, _, 1, _, rfl, rfl, SqT.of ha2, rfl, (by show 2 ≤ sizeLine; decide), fun p0 hp0 => ?_⟩
    have s1 := same_new (o := .tup [.int 0, x]) hp0
    refine ⟨_, rfl, a, _, 2, _, rfl, rfl, SqT.of (s1 a _ ha2), rfl, (by show 2 ≤ sizeLine; decide), fun p1 hp1 => ⟨(by show 2 ≤ sizeLine; decide), fun u hu => ?_⟩⟩
    have s2 := same_new (o := .tup [.int 1, z]) hp1
    have s3 := same_new (o := .lst [.ref p0, .ref p1]) hu
    have s13 := (s1.trans s2).trans s3
    refine ⟨_, rfl, _, rfl, u, .ref b, _, [(0, f), (1, g)], t, k, rfl, upd_same, .cons ⟨x, Tup.mono (s2.trans s3) (Tup.of upd_same), rx.mono s13⟩ (.cons ⟨z, Tup.mono s3 (Tup.of upd_same), rz.mono s13⟩ .nil), by show 2 ≤ 2; decide, ?_, Tup.of (s13 b _ hb), tl, hk, fun r H1 s5 wr => q r H1 (s13.trans s5) ?_⟩
    · intro d hd
      simp only [List.mem_cons, List.not_mem_nil, or_false] at hd
      rcases hd with rfl | rfl
      · exact ⟨by show depth f < n; omega, okp.1, by show f.holes ≤ 7; omega⟩
      · exact ⟨by show depth g < n; omega, okp.2, by show g.holes ≤ 7; omega⟩
    · simpa using wr
  | opt f =>
    obtain ⟨x, tp, rx⟩ := pt
    have ha2 := tp.at
    simp only [Pc.okSp] at okp
    simp only [Pc.holes] at h8
    simp only [Pc.depth] at hp
    rw [wP_opt hk] at q
    refine kindF (by simp only [Pc.kind]; decide) ?_
    refine ⟨_, rfl, a, _, 0, _, rfl, rfl, SqT.of ha, at0, rfl, _, rfl, kindF (by simp only [Pc.kind]; decide) ?_⟩
    refine ⟨_, rfl, a, _, 0, _, rfl, rfl, SqT.of ha, at0, rfl, _, rfl, kindF (by simp only [Pc.kind]; decide) ?_⟩
    refine ⟨_, rfl, a, _, 0, _, rfl, rfl, SqT.of ha, at0, rfl, _, rfl, kindF (by simp only [Pc.kind]; decide) ?_⟩
    refine ⟨_, rfl, a, _, 0, _, rfl, rfl, SqT.of ha, at0, rfl, _, rfl, kindT rfl ?_⟩
    refine ⟨_, rfl, a, _, 1, _, rfl, rfl, SqT.of ha2, rfl, (by show 2 ≤ sizeLine; decide), fun p0 hp0 => ?_⟩
    have s1 := same_new (o := .tup [.int 1, x]) hp0
    refine ⟨(by show 0 ≤ sizeLine; decide), fun p1 hp1 => ⟨(by show 2 ≤ sizeLine; decide), fun p2 hp2 => ⟨(by show 2 ≤ sizeLine; decide), fun u hu => ?_⟩⟩⟩
    have s2 := same_new (o := .tup []) hp1
    have s3 := same_new (o := .tup [.int 0, .ref p1]) hp2
    have s4 := same_new (o := .lst [.ref p0, .ref p2]) hu
    have s24 := (s2.trans s3).trans s4
    have s14 := s1.trans s24
    refine ⟨_, rfl, _, rfl, u, .ref b, _, [(1, f), (0, .done)], t, k, rfl, upd_same, .cons ⟨x, Tup.mono s24 (Tup.of upd_same), rx.mono s14⟩ (.cons ⟨.ref p1, Tup.mono s4 (Tup.of upd_same), ⟨[], Tup.mono (s3.trans s4) (Tup.of upd_same), rfl⟩⟩ .nil), by show 2 ≤ 2; decide, ?_, Tup.of (s14 b _ hb), tl, hk, fun r H1 s5 wr => q r H1 (s14.trans s5) ?_⟩
    · intro d hd
      simp only [List.mem_cons, List.not_mem_nil, or_false] at hd
      rcases hd with rfl | rfl
      · exact ⟨by show depth f < n; omega, okp, by show f.holes ≤ 7; omega⟩
      · exact ⟨by show 0 < n; omega, rfl, by show 0 ≤ 7; omega⟩
    · simp only [List.flatMap_cons, List.flatMap_nil, List.append_nil] at wr
      rw [goW_done (within_one hk)] at wr
      exact wr
  | rep sp lo hi g =>
    simp only [Pc.depth] at hp
    refine kindF (by simp only [Pc.kind]; decide) ?_
    refine ⟨_, rfl, a, _, 0, _, rfl, rfl, SqT.of ha, at0, rfl, _, rfl, kindF (by simp only [Pc.kind]; decide) ?_⟩
    refine ⟨_, rfl, a, _, 0, _, rfl, rfl, SqT.of ha, at0, rfl, _, rfl, kindF (by simp only [Pc.kind]; decide) ?_⟩
    refine ⟨_, rfl, a, _, 0, _, rfl, rfl, SqT.of ha, at0, rfl, _, rfl, kindF (by simp only [Pc.kind]; decide) ?_⟩
    refine ⟨_, rfl, a, _, 0, _, rfl, rfl, SqT.of ha, at0, rfl, _, rfl, kindF (by simp only [Pc.kind]; decide) ?_⟩
    exact ⟨_, rfl, _, rfl, _, rfl, .ref a, .ref b, .rep sp lo hi g, t, k, rfl, by show depth g < n; omega, pt, okp, h8, Tup.of hb, tl, hk, q⟩
theorem ok_ways_of_row {n : Nat} (T : Txt K mg) (G_ways_of_row : FnOk P w K mg base CX0 (3 * n + 2) T.d_ways_of_row.f T.d_ways_of_row.fd ["row", "text", "ways"] (spWaysRow n)) :
    FnOk P w K mg base CX0 (3 * (n + 1) + 2) T.d_ways_of_row.f T.d_ways_of_row.fd ["row", "text", "ways"] (spWaysRow (n + 1)) := by
  have G_ways_of := ok_ways_of T G_ways_of_row
  refine T.d_ways_of_row.F.ok sc_ways_of_row (fun vs H Q E h => ?_) (fun cdv A outer s H vs Q E hr h => ?_)
  · obtain ⟨v, y, z, f, t, ws, m, rfl, _⟩ := h
    rfl
  obtain ⟨v, y, z, f, t, ws, m, rfl, ⟨ps, ⟨a, rfl, ha⟩, rl⟩, hn, ok, h8, ⟨b, rfl, hb⟩, tl, wz, wt, vw, hm, hz, q⟩ := h
  refine ⟨_, (pss_cons (ps_for PassesOwn.never rfl (pi_tup (pv 0)) (pg_name (i := 3) sc_ways_of_row.nd rfl (Or.inl rfl))
    (pss_cons (ps_set (i := 4) sc_ways_of_row.nd rfl (Or.inl rfl) (pe_lst pa_nil))
    (pss_cons (ps_for PassesOwn.never rfl (pi_list (pv 2)) (pg_tup rfl (pgs_cons (pg_name (i := 5) sc_ways_of_row.nd rfl (Or.inr rfl)) (pgs_cons (pg_name (i := 6) sc_ways_of_row.nd rfl (Or.inl rfl)) pgs_nil)))
    (pss_one (ps_expr (pe_bm PySem.F.plainAttrs_list PySem.F.slot_list_extend PySem.F.type_list_extend mt_extend (pv 4) (pa_cons (pe_lc (own := [("more", 7), ("behind", 8)]) rfl sc_ways_of_row.nd (pi_list (pe_call G_ways_of (hr.mono (by omega)) rfl T.d_ways_of.m T.d_ways_of.F.kp T.d_ways_of.b .nil pass0 (pa_cons (pv 3) (pa_cons (pv 1) (pa_cons (pv 6) pa_nil))))) (blkOk_by (own := [("more", 7), ("behind", 8)]) (N := ["row", "text", "ways", "piece", "longer", "value", "at", "more", "behind"]) (sc := defScope s_ways_of_row) (by decide +kernel)) (fun _ _ _ _ _ => (show PG _ _ (gTup K 2 (gCons (gName 7) (gCons (gName 8) gNil))) from pg_tup rfl (pgs_cons (pg_name (i := 7) sc_ways_of_row.nd rfl (Or.inl rfl)) (pgs_cons (pg_name (i := 8) sc_ways_of_row.nd rfl (Or.inl rfl)) pgs_nil)))) (fun _ _ _ _ _ => pts_nil) (fun _ _ _ _ _ => (pe_tup (pa_cons (pe_op op_cat2 (pv 5) (pv 7)) (pa_cons (pv 8) pa_nil))))) pa_nil)))))
    (pss_one (ps_set (i := 2) sc_ways_of_row.nd rfl (Or.inl rfl) (pv 4))))))
    (pss_one (ps_ret (pv 2)))), ?_⟩
  refine ⟨_, rfl, a, rfl, ⟨_, SqT.of ha⟩, for_tup (K := K) (a := a) (xs := ps) (fun i σ H1 => ∃ (v3 v4 v5 v6 v7 v8 : Option V) (z : V) (ws1 : Ways) (r : Fmt) (m1 : Nat), σ = [some (.ref a), some (.ref b), some z, v3, v4, v5, v6, v7, v8] ∧ Same H H1 ∧ RowL H r (ps.drop i) ∧ WaysAt H1 z ws1 ∧ Within t ws1 ∧ ValW m1 ws1 ∧
    m1 + 5 * r.holes ≤ 1000 ∧ ws1.length * 5 ^ r.holes ≤ 500000 ∧ depth r ≤ depth f ∧ okSp r = true ∧ r.holes ≤ 8 ∧ goW f t ws = goW r t ws1) ⟨none, none, none, none, none, none, z, ws, f, m, rfl, Same.refl H, rl, wz, wt, vw, hm, hz, Nat.le_refl _, ok, h8, rfl⟩ (fun i σ H1 _ h => ?_) (fun i x σ H1 hx h => ?_) (fun σ H1 h => ?_)⟩
  · obtain ⟨_, _, _, _, _, _, _, _, _, _, _, s1, _⟩ := h
    exact SqT.of (s1 a _ ha)
  · obtain ⟨v3, v4, v5, v6, v7, v8, z, ws1, r, m1, rfl, s1, rl1, wz1, wt1, vw1, hm1, hz1, dp, okr, h81, eq⟩ := h
    rw [List.drop_eq_getElem_cons (List.getElem?_eq_some_iff.mp hx).1, (List.getElem?_eq_some_iff.mp hx).2] at rl1
    rcases row_cases r with rfl | ⟨p, r', rfl⟩
    · cases rl1
    obtain ⟨x', qs, e, hpx, rl2⟩ := (rowL_cons p r' _).mp rl1
    injection e with e1 e2
    subst e1 e2
    rw [depth_cons] at dp
    rw [okSp_cons, Bool.and_eq_true] at okr
    rw [holes_cons] at hm1 hz1 h81
    rw [goW_cons wt1] at eq
    rw [Nat.pow_add, ← Nat.mul_assoc] at hz1
    have hz2 : ws1.length * 5 ^ p.holes ≤ 500000 := by
      have := Nat.le_mul_of_pos_right (ws1.length * 5 ^ p.holes) (Nat.lt_of_lt_of_le Nat.zero_lt_one (pow_pos5 r'.holes))
      omega
    have hz3 : ws1.length ≤ 500000 := by
      have := Nat.le_mul_of_pos_right ws1.length (Nat.lt_of_lt_of_le Nat.zero_lt_one (pow_pos5 p.holes))
      omega
    obtain ⟨zs, ⟨c, rfl, hc⟩, az⟩ := wz1
    refine ⟨(by show 0 ≤ sizeLine; decide), fun l hl => ?_⟩
    have s2 := same_new (o := .lst []) hl
    refine ⟨_, rfl, c, rfl, ⟨_, SqL.of (s2 c _ hc)⟩, for_list (K := K) (a := c) (xs := zs) (fun j σ H2 => ∃ (v5 v6 v7 v8 : Option V) (ys : List V), σ = [some (.ref a), some (.ref b), some (.ref c), some x, some (.ref l), v5, v6, v7, v8] ∧ Same H1 H2 ∧ H2 l = some (.lst ys) ∧
      All2 (WayAt H2) ys (goP p t (ws1.take j))) ⟨_, _, _, _, [], rfl, s2, upd_same, .nil⟩ (fun j σ H2 _ h => ?_) (fun j y σ H2 hy h => ?_) (fun σ H2 h => ?_)⟩
    · obtain ⟨_, _, _, _, _, _, s3, _⟩ := h
      exact SqL.of (s3 c _ hc)
    · obtain ⟨v5, v6, v7, v8, ys, rfl, s3, hl2, ay⟩ := h
      obtain ⟨d, hd, wy⟩ := az.get hy
      have dm := List.mem_of_getElem? hd
      obtain ⟨v, ⟨e, rfl, he⟩, tv⟩ := wy.mono s3
      have s13 := s1.trans s3
      refine ⟨e, _, rfl, SqT.of he, rfl, _, _, rfl, _, _, rfl, rfl, ?_⟩
      refine ⟨_, rfl, .inl ⟨rfl, _, SqL.of hl2⟩, _, rfl, _, rfl, _, rfl, x, .ref b, p, t, d.2, rfl, by omega, hpx.mono s13, okr.1, by omega, Tup.of (s13 b _ hb), tl, wt1 d dm, fun u H3 s4 wu => ?_⟩
      obtain ⟨us, ⟨g, rfl, hg⟩, au⟩ := wu
      have ul : (wP p t d.2).length ≤ 390625 := Nat.le_trans (wP_len okr.1 t d.2) (pow8 (by omega))
      have dl := vw1 d dm
      refine ⟨g, rfl, ⟨_, SqL.of hg⟩, lc_relL (K := K) (R := WayAt) (S := WayAt) (fun _ => true) (fun y => (d.1 ++ y.1, y.2)) (fun _ _ _ _ s h => WayAt.monoT s h) (SqL.of hg) (small_le (by rw [au.length]; omega)) au
        (fun x d2 r hd2 H4 s5 Qn Qy qn qy => ?_) (fun D ys2 H4 hD s5 e5 a5 => ?_)⟩
      · obtain ⟨v', ⟨e', rfl, he'⟩, tv'⟩ := r
        have d2l : d2.1.length ≤ 5 * p.holes := by
          have hd2' : d2 ∈ sI t (scP p (t.drop d.2)) := hd2
          unfold sI at hd2'
          obtain ⟨o, ho, rfl⟩ := List.mem_map.mp hd2'
          exact vals_P p okr.1 (fun a ha u => vals_len a (rows_okS okr.1 ha) u) _ o ho
        refine ⟨e', _, rfl, SqT.of (s5 e' _ he'), rfl, _, _, rfl, _, _, rfl, rfl, rfl, ?_⟩
        show if true = true then _ else Qn H4
        refine iteT ?_
        refine ⟨_, rfl, _, rfl, _, _, (tv.mono s4).mono s5, tv'.mono s5, small_le (by rw [ni_length, ni_length]; omega), fun vv H5 s6 tvv => ?_⟩
        rw [← ni_append] at tvv
        refine ⟨_, rfl, (by show 2 ≤ sizeLine; decide), fun p5 hp5 => ?_⟩
        exact qy _ _ (s6.trans (same_new hp5)) rfl ⟨vv, Tup.of upd_same, tvv.mono (same_new hp5)⟩
      · have st : goP p t (ws1.take (j + 1)) = goP p t (ws1.take j) ++ (List.filter (fun _ => true) (wP p t d.2)).map (fun y => (d.1 ++ y.1, y.2)) := by
          rw [List.take_add_one, hd, goP_append, show some d = some (d.1, d.2) from rfl]
          simp only [Option.toList]
          rw [goP_one, List.filter_eq_self.mpr (fun _ _ => rfl)]
        have len := goP_len okr.1 t (ws1.take (j + 1))
        rw [st, List.length_append] at len
        have len2 : (ws1.take (j + 1)).length * 5 ^ p.holes ≤ ws1.length * 5 ^ p.holes := Nat.mul_le_mul_right _ (by rw [List.length_take]; omega)
        have e7 : ys2.length = ((List.filter (fun _ => true) (wP p t d.2)).map (fun y => (d.1 ++ y.1, y.2))).length := a5.length
        have s45 := s4.trans s5
        have hl4 := s45 l _ hl2
        refine ⟨l, D, ys, ys2, rfl, rfl, hl4, e5, small_le (by rw [ay.length, e7]; omega), ?_⟩
        refine ⟨_, _, _, _, ys ++ ys2, rfl, (s3.trans s45).mut hl, upd_same, ?_⟩
        rw [st]
        exact ways_app (H1 := H) hl4 (ay.waymono s45) a5
    · obtain ⟨v5, v6, v7, v8, ys, rfl, s3, hl2, ay⟩ := h
      rw [az.length, List.take_length] at ay
      refine ⟨_, rfl, ?_⟩
      refine ⟨_, _, _, _, _, _, .ref l, goP p t ws1, r', m1 + 5 * p.holes, rfl, s1.trans s3, rl2, ⟨ys, ⟨l, rfl, hl2⟩, ay⟩, goP_within wt1, vals_goP okr.1 vw1, by omega, ?_, by omega, okr.2, by omega, eq⟩
      exact Nat.le_trans (Nat.mul_le_mul_right _ (goP_len okr.1 t ws1)) hz1
  · obtain ⟨v3, v4, v5, v6, v7, v8, z, ws1, r, m1, rfl, s1, rl1, wz1, wt1, vw1, hm1, hz1, dp, okr, h81, eq⟩ := h
    rw [List.drop_length] at rl1
    rcases row_cases r with rfl | ⟨p, r', rfl⟩
    · rw [goW_done wt1] at eq
      rw [eq] at q
      exact ⟨_, rfl, q _ _ s1 wz1⟩
    · obtain ⟨x', qs, e, _⟩ := (rowL_cons p r' _).mp rl1
      cases e
theorem ways_of_row_ok (T : Txt K mg) : ∀ n : Nat, FnOk P w K mg base CX0 (3 * n + 2) T.d_ways_of_row.f T.d_ways_of_row.fd ["row", "text", "ways"] (spWaysRow n)
  | 0 => none_left fun vs H Q E h => by
    obtain ⟨v, y, z, f, t, ws, m, _, _, h, _⟩ := h
    omega
  | n + 1 => ok_ways_of_row T (ways_of_row_ok T n)
def spScannings : Sp := fun vs H Q _ => ∃ (v y : V) (f : Fmt) (t : List Nat), vs = [v, y] ∧ RowAt H f v ∧ depth f < 15 ∧ okSp f = true ∧ f.holes ≤ 8 ∧ TN H y t ∧ t.length ≤ 10000 ∧
  ∀ r H1, Same H H1 → TNs H1 r (VafmsBase.scannings f t) → (VafmsBase.scannings f t).length ≤ 390625 → (∀ x ∈ VafmsBase.scannings f t, x.length ≤ 40) → Q r H1
theorem ok_scannings (T : Txt K mg) : FnOk P w K mg base CX0 48 T.d_scannings.f T.d_scannings.fd ["row", "text"] spScannings := by
  have G_ways_of_row := ways_of_row_ok (P := P) (w := w) (base := base) T 15
  refine T.d_scannings.F.ok sc_scannings (fun vs H Q E h => ?_) (fun cdv A outer s H vs Q E hr h => ?_)
  · obtain ⟨v, y, f, t, rfl, _⟩ := h
    rfl
  obtain ⟨v, y, f, t, rfl, rf, hn, ok, h8, ⟨b, rfl, hb⟩, tl, q⟩ := h
  refine ⟨_, (pss_one (ps_ret (pe_lc (own := [("value", 2), ("at", 3)]) rfl sc_scannings.nd (pi_list (pe_call G_ways_of_row (hr.mono (by omega)) rfl T.d_ways_of_row.m T.d_ways_of_row.F.kp T.d_ways_of_row.b .nil pass0 (pa_cons (pv 0) (pa_cons (pv 1) (pa_cons (pe_lst (pa_cons (pe_tup (pa_cons (pe_tup pa_nil) (pa_cons pe_int pa_nil))) pa_nil)) pa_nil))))) (blkOk_by (own := [("value", 2), ("at", 3)]) (N := ["row", "text", "value", "at"]) (sc := defScope s_scannings) (by decide +kernel)) (fun _ _ _ _ _ => (show PG _ _ (gTup K 2 (gCons (gName 2) (gCons (gName 3) gNil))) from pg_tup rfl (pgs_cons (pg_name (i := 2) sc_scannings.nd rfl (Or.inl rfl)) (pgs_cons (pg_name (i := 3) sc_scannings.nd rfl (Or.inl rfl)) pgs_nil)))) (fun _ _ _ _ _ => (pts_one (pt_cmpR op_eq (pv 3) (pe_callB (show CallR _ _ (rLenK K) from call_len_seq) (by rfl) T.b_len PySem.boot_len (pa_cons (pv 1) pa_nil)) (nomark _)))) (fun _ _ _ _ _ => (pv 2))))), ?_⟩
  refine ⟨_, rfl, _, rfl, (by show 0 ≤ sizeLine; decide), fun p0 hp0 => ⟨(by show 2 ≤ sizeLine; decide), fun p1 hp1 => ⟨(by show 1 ≤ sizeLine; decide), fun p2 hp2 => ?_⟩⟩⟩
  have s2 := same_new (o := .tup []) hp0
  have s3 := same_new (o := .tup [.ref p0, .int 0]) hp1
  have s4 := same_new (o := .lst [.ref p1]) hp2
  have s24 := (s2.trans s3).trans s4
  have gl := goW_len ok t [([], 0)]
  rw [List.length_singleton, Nat.one_mul] at gl
  have p8 := pow8 h8
  have vl : ValW (0 + 5 * f.holes) (goW f t [([], 0)]) := vals_goW ok (valw_one (Nat.le_refl _))
  refine ⟨v, .ref b, .ref p2, f, t, [([], 0)], 0, rfl, rf.mono s24, hn, ok, h8, Tup.of (s24 b _ hb), tl, ⟨_, ⟨p2, rfl, upd_same⟩, .cons ⟨.ref p0, Tup.mono s4 (Tup.of upd_same), Tup.mono (s3.trans s4) (Tup.of upd_same)⟩ .nil⟩,
    within_one (Nat.zero_le _), valw_one (Nat.le_refl _), by omega, ?_, fun r H1 s5 wr => ?_⟩
  · rw [List.length_singleton, Nat.one_mul]
    omega
  obtain ⟨us, ⟨g, rfl, hg⟩, au⟩ := wr
  have s25 := s24.trans s5
  refine ⟨g, rfl, ⟨_, SqL.of hg⟩, lc_relL (K := K) (R := WayAt) (S := TN) (fun x => decide (x.2 = t.length)) (·.1) (fun _ _ _ _ s h => Tup.monoT s h) (SqL.of hg) (small_le (by rw [au.length]; omega)) au
    (fun x d r hd H4 s6 Qn Qy qn qy => ?_) (fun D ys2 H4 hD s6 e6 a6 => ?_)⟩
  · obtain ⟨v', ⟨e', rfl, he'⟩, tv'⟩ := r
    refine ⟨e', _, rfl, SqT.of (s6 e' _ he'), rfl, _, _, rfl, _, _, rfl, rfl, rfl, ?_⟩
    refine ⟨_, rfl, _, rfl, b, _, rfl, .inr (SqT.of ((s25.trans s6) b _ hb)), rfl, _, rfl, ?_⟩
    have nl : (ni t).length = t.length := ni_length _
    refine iteD (fun c => ?_) (fun c => ?_)
    · injection c with c
      rw [nl] at c
      exact ⟨_, rfl, qy _ _ (Same.refl _) (decide_eq_true (by omega)) (tv'.mono s6)⟩
    · refine qn _ (Same.refl _) (decide_eq_false fun z => c ?_)
      rw [z, nl]
  · rw [scannings_eq] at q
    refine q _ _ (s25.trans s6) ⟨ys2, ⟨D, rfl, e6⟩, a6⟩ ?_ ?_
    · rw [List.length_map]
      exact Nat.le_trans (List.length_filter_le _ _) (by omega)
    · intro x hx
      obtain ⟨z, hz, rfl⟩ := List.mem_map.mp hx
      have := vl z (List.mem_filter.mp hz).1
      omega
end
end Asc
namespace Asc
open PySem PySem.Spec PyProof.Rows L2
open VafmsBase (Fmt)
/-! ### the walks' state -/
/-- all that H knows stands, but what stands at d -/
def SameBut (d : Addr) (H H1 : Hp) : Prop := ∀ b u, b ≠ d → H b = some u → H1 b = some u
theorem _root_.L2.Same.but {H H1 : Hp} (d : Addr) (s : Same H H1) : SameBut d H H1 := fun b u _ h => s b u h
theorem SameBut.refl (d : Addr) (H : Hp) : SameBut d H H := fun b u _ h => h
theorem SameBut.trans {d : Addr} {H H1 H2 : Hp} (s : SameBut d H H1) (t : SameBut d H1 H2) : SameBut d H H2 := fun b u n h => t b u n (s b u n h)
theorem SameBut.mut {d p : Addr} {H H1 : Hp} {o : HO} (s : SameBut d H H1) (h : H p = none) : SameBut d H (upd H1 p o) := fun b u n q => by
  rw [upd_ne (ne_of_none q h)]
  exact s b u n q
theorem SameBut.put {d : Addr} {H H1 : Hp} {o : HO} (s : SameBut d H H1) : SameBut d H (upd H1 d o) := fun b u n q => by
  rw [upd_ne n]
  exact s b u n q
/-- what the dict tells: what is wished, place by place; n: so many bytes at most -/
structure DW (H : Hp) (kvs : List (Key × V)) (S : Nat → Nat → Prop) (n : Nat) : Prop where
  val : ∀ (q : Nat) (v : V), valV kvs (.inl (q : Int)) = some v → ∃ ws, TN H v ws ∧ ws ≠ [] ∧ ws.length ≤ n ∧ ∀ c, c ∈ ws ↔ S q c
  non : ∀ q : Nat, valV kvs (.inl (q : Int)) = none → ∀ c, ¬ S q c
  key : ∀ kv ∈ kvs, ∃ q : Nat, kv.1 = .inl (q : Int)
  len : kvs.length ≤ n
theorem DW.monoT {H H1 : Hp} {kvs : List (Key × V)} {S : Nat → Nat → Prop} {n : Nat} (s : SameT H H1) (h : DW H kvs S n) : DW H1 kvs S n :=
  ⟨fun q v e => by
    obtain ⟨ws, t, r⟩ := h.val q v e
    exact ⟨ws, t.monoT s, r⟩, h.non, h.key, h.len⟩
theorem DW.imp {H : Hp} {kvs : List (Key × V)} {S S' : Nat → Nat → Prop} {n n' : Nat} (e : ∀ q c, S q c ↔ S' q c) (l : n ≤ n') (h : DW H kvs S n) : DW H kvs S' n' :=
  ⟨fun q v z => by
    obtain ⟨ws, t, r1, r2, r3⟩ := h.val q v z
    exact ⟨ws, t, r1, by omega, fun c => (r3 c).trans (e q c)⟩, fun q z c x => h.non q z c ((e q c).mpr x), h.key, by have := h.len; omega⟩
theorem put_len (kvs : List (Key × V)) (k : Key) (v : V) : (putK kvs k v).length ≤ kvs.length + 1 := by
  unfold putK
  split
  · rw [List.length_map]
    omega
  · rw [List.length_append, List.length_singleton]
    exact Nat.le_refl _
theorem put_key {kvs : List (Key × V)} {k : Key} {v : V} {kv : Key × V} (h : kv ∈ putK kvs k v) : kv.1 = k ∨ ∃ x ∈ kvs, x.1 = kv.1 := by
  unfold putK at h
  split at h
  · obtain ⟨y, hy, e⟩ := List.mem_map.mp h
    refine .inr ⟨y, hy, ?_⟩
    split at e
    · rw [← e]
    · rw [e]
  · rcases List.mem_append.mp h with h | h
    · exact .inr ⟨kv, h, rfl⟩
    · rw [List.mem_singleton] at h
      rw [h]
      exact .inl rfl
/-- so many bytes more, at a place -/
theorem DW.put {H : Hp} {kvs : List (Key × V)} {S : Nat → Nat → Prop} {n p : Nat} {v : V} {old ws : List Nat} (h : DW H kvs S n) (hv : TN H v (old ++ ws)) (ne : ws ≠ []) (ho : ∀ c, c ∈ old ↔ S p c) (hl : old.length ≤ n) :
    DW H (putK kvs (.inl (p : Int)) v) (fun q c => S q c ∨ (q = p ∧ c ∈ ws)) (n + ws.length) := by
  have wl : 1 ≤ ws.length := List.length_pos_iff.mpr ne
  refine ⟨fun q u e => ?_, fun q e c x => ?_, fun kv hk => ?_, ?_⟩
  · rw [valV_put] at e
    by_cases c1 : q = p
    · subst c1
      rw [if_pos rfl] at e
      cases e
      refine ⟨old ++ ws, hv, by simp [ne], by rw [List.length_append]; omega, fun c => ?_⟩
      rw [List.mem_append, ho]
      simp
    · rw [if_neg (by intro z; injection z with z; omega)] at e
      obtain ⟨us, t, r1, r2, r3⟩ := h.val q u e
      refine ⟨us, t, r1, by omega, fun c => ?_⟩
      rw [r3]
      simp [c1]
  · rw [valV_put] at e
    by_cases c1 : q = p
    · subst c1
      rw [if_pos rfl] at e
      cases e
    · rw [if_neg (by intro z; injection z with z; omega)] at e
      rcases x with x | x
      · exact h.non q e c x
      · exact c1 x.1
  · rcases put_key hk with e | ⟨x, hx, e⟩
    · exact ⟨p, e⟩
    · rw [← e]
      exact h.key x hx
  · have := put_len kvs (.inl (p : Int)) v
    have := h.len
    omega
/-- a Walk: its instance at x, its dict at d, its text t -/
structure Wk (C x d : Addr) (t : List Nat) (H : Hp) (S : Nat → Nat → Prop) (n : Nat) : Prop where
  ins : ∃ dx b, H x = some (.ins C dx [("text", .ref b), ("wished", .ref d)]) ∧ H b = some (.tup (ni t))
  dict : ∃ kvs, H d = some (.dK kvs) ∧ DW H kvs S n
theorem Wk.mono {C x d : Addr} {t : List Nat} {H H1 : Hp} {S : Nat → Nat → Prop} {n : Nat} (s : Same H H1) (h : Wk C x d t H S n) : Wk C x d t H1 S n := by
  obtain ⟨⟨dx, b, h1, h2⟩, kvs, h3, h4⟩ := h
  exact ⟨⟨dx, b, s x _ h1, s b _ h2⟩, kvs, s d _ h3, h4.monoT s.t⟩
theorem Wk.imp {C x d : Addr} {t : List Nat} {H : Hp} {S S' : Nat → Nat → Prop} {n n' : Nat} (e : ∀ q c, S q c ↔ S' q c) (l : n ≤ n') (h : Wk C x d t H S n) : Wk C x d t H S' n' := by
  obtain ⟨h1, kvs, h3, h4⟩ := h
  exact ⟨h1, kvs, h3, h4.imp e l⟩
/-- a list at l changes, which isn't of the Walk -/
theorem Wk.lst {C x d l : Addr} {t : List Nat} {H : Hp} {S : Nat → Nat → Prop} {n : Nat} {xs ys : List V} (h : Wk C x d t H S n) (hl : H l = some (.lst xs)) : Wk C x d t (upd H l (.lst ys)) S n := by
  obtain ⟨⟨dx, b, h1, h2⟩, kvs, h3, h4⟩ := h
  refine ⟨⟨dx, b, ?_, ?_⟩, kvs, ?_, h4.monoT (sameT_lst hl)⟩
  · rw [upd_ne (ne_of h1 hl (by intro z; cases z))]
    exact h1
  · rw [upd_ne (ne_of h2 hl (by intro z; cases z))]
    exact h2
  · rw [upd_ne (ne_of h3 hl (by intro z; cases z))]
    exact h3
theorem Wk.ne {C x d l : Addr} {t : List Nat} {H : Hp} {S : Nat → Nat → Prop} {n : Nat} {xs : List V} (h : Wk C x d t H S n) (hl : H l = some (.lst xs)) : l ≠ d := by
  obtain ⟨_, kvs, h3, _⟩ := h
  exact ne_of hl h3 (by intro z; cases z)
theorem Wk.neT {C x d l : Addr} {t : List Nat} {H : Hp} {S : Nat → Nat → Prop} {n : Nat} {xs : List V} (h : Wk C x d t H S n) (hl : H l = some (.tup xs)) : l ≠ d := by
  obtain ⟨_, kvs, h3, _⟩ := h
  exact ne_of hl h3 (by intro z; cases z)
theorem Wk.neN {C x d l : Addr} {t : List Nat} {H : Hp} {S : Nat → Nat → Prop} {n : Nat} (h : Wk C x d t H S n) (hl : H l = none) : l ≠ d := by
  obtain ⟨_, kvs, h3, _⟩ := h
  exact fun e => by
    rw [e, h3] at hl
    cases hl
theorem SameBut.t {C x d : Addr} {t : List Nat} {H H1 : Hp} {S : Nat → Nat → Prop} {n : Nat} (s : SameBut d H H1) (h : Wk C x d t H S n) : SameT H H1 := fun a xs q => s a _ (h.neT q) q
theorem flat_ni (ws : List Nat) : (ni ws).all flatV = true := by
  unfold ni
  rw [List.all_map, List.all_eq_true]
  intro x _
  rfl
theorem in_ni (b : Nat) (ws : List Nat) : inV (.int (b : Int)) (ni ws) = ws.contains b := by
  unfold inV ni
  rw [List.any_map, Bool.eq_iff_iff, List.any_eq_true, List.contains_iff_mem]
  constructor
  · rintro ⟨y, hy, e⟩
    have e2 : eqV (.int (y : Int)) (.int (b : Int)) = true := e
    simp only [eqV, decide_eq_true_eq, beq_iff_eq] at e2
    have : y = b := by omega
    rw [← this]
    exact hy
  · intro h
    refine ⟨b, h, ?_⟩
    show eqV (.int (b : Int)) (.int (b : Int)) = true
    simp [eqV]
/-- whether a way is stuck -/
def stk (t : List Nat) (p : Nat) (ws : List Nat) : Bool := match t[p]? with
  | some b => !ws.contains b
  | none => true
section
variable {P : Program} {w : World} {K : PySem.W.Frag} {mg : Str → Option PySem.Value} {base : Heap}
def spIsStuck (C : Addr) : Sp := fun vs H Q _ => ∃ (x d a : Addr) (t : List Nat) (S : Nat → Nat → Prop) (n p : Nat) (ws : List Nat), vs = [.ref x, .int (p : Int), .ref a] ∧ Wk C x d t H S n ∧ (H a = some (.lst (ni ws)) ∨ H a = some (.tup (ni ws))) ∧ ws ≠ [] ∧ n + ws.length ≤ 9000000 ∧
  ∀ H1, SameBut d H H1 → Wk C x d t H1 (fun q c => S q c ∨ (stk t p ws = true ∧ q = p ∧ c ∈ ws)) (if stk t p ws = true then n + ws.length else n) → Q (.bl (stk t p ws)) H1
theorem mid_le {n : Nat} (h : n ≤ 9000000) : n ≤ sizeLine := Nat.le_trans h (by decide)
theorem ok_is_stuck (T : Txt K mg) : FnOk P w K mg base CX0 1 T.m_is_stuck.f T.m_is_stuck.fd ["self", "at", "wanted"] (spIsStuck T.cWalk) := by
  refine T.m_is_stuck.F.ok sc_Walk_is_stuck (fun vs H Q E h => ?_) (fun cdv A outer s H vs Q E hr h => ?_)
  · obtain ⟨x, d, a, t, S, n, p, ws, rfl, _⟩ := h
    rfl
  obtain ⟨x, d, a, t, S, n, p, ws, rfl, wk, hw, wne, hn, q⟩ := h
  refine ⟨_, (pss_cons (ps_if (PW.pt (pw_and (pt_cmpR op_lt (pv 1) (pe_callB call_len_seq (by rfl) T.b_len PySem.boot_len (pa_cons (pe_fld (pv 0) rfl) pa_nil)) (nomark _)) (pw_and1 (pt_cmpR op_in_seq (pe_ix ix_tup (pe_fld (pv 0) rfl) (pv 1) (fun _ _ => rfl)) (pv 2) (by rfl)))))
    (pss_one (ps_ret pe_bl))
    pss_nil)
    (pss_cons (ps_dput (hu_of hr) (pe_fld (pv 0) rfl) (pv 1) (pe_op op_cat2 (pe_dget2 (hu_of hr) (pe_fld (pv 0) rfl) (pv 1) (pe_tup pa_nil) ⟨by rfl, by rfl, by rfl, by rfl⟩) (pe_callTy call_tuple_of (by rfl) T.b_tuple (by decide +kernel) (pa_cons (pv 2) pa_nil))) rfl)
    (pss_one (ps_ret pe_bl)))), ?_⟩
  obtain ⟨⟨dx, b, hx, hb⟩, kvs, hd, dw⟩ := id wk
  have len : (ni t).length = t.length := ni_length _
  -- the wish written down
  have wish : ∀ (H1 : Hp), Same H H1 → stk t p ws = true → ∀ (q2 : Hp → Prop), (∀ H2, Q (.bl true) H2 → q2 H2) → tOp rCat2 (tDGet2 (tFld K (tVar 0) "wished") (tVar 1) (tTup tNil)) (tCB (fun xs H Q => ∃ p ys, xs = [.ref p] ∧ ((SqL K H p ys ∧ ∀ l, H l = none → Q (.ref l) (upd H l (.tup ys))) ∨ (SqT K H p ys ∧ Q (.ref p) H))) (tCons (tVar 2) tNil)) [some (.ref x), some (.int (p : Int)), some (.ref a)] H1
      (fun v H2 => tFld K (tVar 0) "wished" [some (.ref x), some (.int (p : Int)), some (.ref a)] H2 fun x2 H3 => tVar 1 [some (.ref x), some (.int (p : Int)), some (.ref a)] H3 fun y H4 => ∃ a2 H5, x2 = .ref a2 ∧ DPut H4 a2 y v H5 ∧ q2 H5) := fun H1 s1 st q2 hq => by
    have wk1 := wk.mono s1
    have hx1 := s1 x _ hx
    have hd1 := s1 d _ hd
    have hw1 : H1 a = some (.lst (ni ws)) ∨ H1 a = some (.tup (ni ws)) := hw.imp (s1 a _) (s1 a _)
    refine ⟨_, rfl, x, _, _, _, _, rfl, hx1, T.Walk_cl, T.nW_wished, rfl, d, rfl, .inl ⟨kvs, .of hd1⟩, _, rfl, (by show 0 ≤ sizeLine; decide), fun e he => ?_⟩
    have s2 := s1.trans (same_new (o := .tup []) he)
    have hd2 : upd H1 e (.tup []) d = some (.dK kvs) := s2 d _ hd
    refine ⟨_, DGet.k (k := .inl (p : Int)) hd2, ?_⟩
    -- what was wished there before
    have old : ∃ os : List Nat, TN (upd H1 e (.tup [])) ((valV kvs (.inl (p : Int))).getD (.ref e)) os ∧ os.length ≤ n ∧ ∀ c, c ∈ os ↔ S p c := by
      cases h : valV kvs (.inl (p : Int)) with
      | none => exact ⟨[], Tup.of upd_same, Nat.zero_le _, fun c => ⟨fun z => (List.not_mem_nil z).elim, fun z => (dw.non p h c z).elim⟩⟩
      | some v =>
        obtain ⟨us, tv, _, l1, l2⟩ := dw.val p v h
        exact ⟨us, tv.mono s2, l1, l2⟩
    obtain ⟨os, to, ol, om⟩ := old
    -- the end
    have fin : ∀ (u : V) (H3 : Hp), Same (upd H1 e (.tup [])) H3 → TN H3 u ws → rCat2 ((valV kvs (.inl (p : Int))).getD (.ref e)) u H3 (fun v H2 => tFld K (tVar 0) "wished" [some (.ref x), some (.int (p : Int)), some (.ref a)] H2 fun x2 H3 => tVar 1 [some (.ref x), some (.int (p : Int)), some (.ref a)] H3 fun y H4 => ∃ a2 H5, x2 = .ref a2 ∧ DPut H4 a2 y v H5 ∧ q2 H5) := fun u H3 s3 tu => by
      refine ⟨_, _, to.mono s3, tu, mid_le (by rw [ni_length, ni_length]; omega), fun v H4 s4 tv => ?_⟩
      rw [← ni_append] at tv
      have s24 := s2.trans (s3.trans s4)
      have hd4 := s24 d _ hd
      refine ⟨_, rfl, x, _, _, _, _, rfl, s24 x _ hx, T.Walk_cl, T.nW_wished, rfl, _, rfl, d, _, rfl, DPut.k (k := .inl (p : Int)) hd4 (Nat.lt_of_le_of_lt dw.len (Nat.lt_of_le_of_lt (show n ≤ 9000000 by omega) (by decide))), hq _ ?_⟩
      rw [st] at q
      refine q _ (SameBut.put (s24.but d)) ?_
      obtain ⟨⟨dx2, b2, hx4, hb4⟩, _⟩ := wk.mono s24
      refine ⟨⟨dx2, b2, ?_, ?_⟩, _, upd_same, ?_⟩
      · rw [upd_ne (ne_of hx4 hd4 (by intro z; cases z))]
        exact hx4
      · rw [upd_ne (ne_of hb4 hd4 (by intro z; cases z))]
        exact hb4
      · have stT : SameT H4 (upd H4 d (.dK (putK kvs (.inl (p : Int)) v))) := fun z zs hz => by
          rw [upd_ne (ne_of hz hd4 (by intro z; cases z))]
          exact hz
        refine ((DW.put (dw.monoT s24.t) tv wne om ol).monoT stT).imp (fun q c => ?_) (by rw [if_pos rfl]; exact Nat.le_refl _)
        simp
    refine ⟨_, rfl, a, ni ws, rfl, ?_⟩
    rcases hw1 with h | h
    · refine .inl ⟨SqL.of ((same_new he) a _ h), fun l hl => ?_⟩
      exact fin _ _ (same_new hl) (Tup.of upd_same)
    · refine .inr ⟨SqT.of ((same_new he) a _ h), ?_⟩
      exact fin _ _ (Same.refl _) (Tup.of ((same_new he) a _ h))
  refine ⟨_, rfl, _, rfl, x, _, _, _, _, rfl, hx, T.Walk_cl, T.nW_text, rfl, b, _, rfl, .inr (SqT.of hb), _, _, rfl, rfl, _, rfl, ?_⟩
  rw [len]
  refine iteD (fun c => ?_) (fun c => ?_)
  case refine_2 =>
    have e : t[p]? = none := List.getElem?_eq_none (by omega)
    refine iteF (wish H (Same.refl H) (by unfold stk; rw [e]) _ fun H2 h => h)
  have hlt : p < t.length := by omega
  have hz : t[p]? = some t[p] := List.getElem?_eq_getElem hlt
  have st : stk t p ws = !ws.contains t[p] := by unfold stk; rw [hz]
  generalize t[p] = z at hz st
  have inq : (SqL K H a (ni ws) ∨ SqT K H a (ni ws)) := hw.imp SqL.of SqT.of
  refine ⟨_, rfl, x, _, _, _, _, rfl, hx, T.Walk_cl, T.nW_text, rfl, _, rfl, b, _, _, _, rfl, rfl, SqT.of hb, atNi rfl hz, _, rfl, a, _, rfl, inq, rfl, flat_ni ws, _, rfl, ?_⟩
  rw [in_ni]
  show if ws.contains z = true then _ else _
  refine iteB (fun c1 => ?_) (fun c1 => ?_)
  · have st2 : stk t p ws = false := by rw [st, c1]; rfl
    rw [st2] at q
    refine q _ (SameBut.refl d H) (wk.imp (fun q c => ?_) (Nat.le_refl _))
    simp
  · exact wish H (Same.refl H) (by rw [st, c1]; rfl) _ fun H2 h => h
def spDigits : Sp := fun vs H Q _ => ∃ k : Nat, vs = [.int (k : Int)] ∧ k ≤ 1 ∧ ∀ l H1, Same H H1 → H l = none → H1 l = some (.lst (ni (Vafmsb.digits.drop k))) → Q (.ref l) H1
theorem digits_ni (k : Nat) (h : k ≤ 1) : (List.range (10 - k)).map (fun j => V.int (48 + ((k : Int) + (j : Nat)))) = ni (Vafmsb.digits.drop k) := by
  have : k = 0 ∨ k = 1 := by omega
  rcases this with rfl | rfl <;> rfl
theorem lc_rng {lo : Int} {n : Nat} {g : TG} {te : TE} {vs : List Nat} {σ : L2.St} {H : Hp} {Q : Addr → Hp → Prop} (F : Nat → V) (hz : n ≤ sizeLine)
    (step : ∀ i, i < n → ∀ H1, Same H H1 → ∀ Qy : V → Hp → Prop, (∀ H2, Same H1 H2 → Qy (F i) H2) → g (.int (lo + i)) (wipe σ vs) H1 fun σ2 H2 => wipe σ2 vs = wipe σ vs ∧ te σ2 H2 Qy)
    (hd : ∀ D H1, H D = none → Same H H1 → H1 D = some (.lst ((List.range n).map F)) → Q D H1)
    (hg : ∀ x σ H (A B : L2.St → Hp → Prop), (∀ σ H, A σ H → B σ H) → g x σ H A → g x σ H B) :
    ∀ D, H D = none → ∃ W : Nat → Nat → Hp → Prop, (∃ m, W 0 m (upd H D (.lst []))) ∧ ∀ i m H, W i m H →
      ((Itr lo n).stop i H ∧ Q D H) ∨ ((Itr lo n).go i H ∧ ∃ Nx : Hp → Prop, (∀ H', Nx H' → ∃ m', m' < m ∧ W (i + 1) m' H') ∧ ∀ x H', (Itr lo n).yld i H x H' → g x (wipe σ vs) H' fun σ2 H2 => wipe σ2 vs = wipe σ vs ∧ tYes σ2 H2 fun b H3 =>
        if b = true then te σ2 H3 fun y H4 => ∃ acc, H4 D = some (.lst acc) ∧ acc.length < sizeLine ∧ Nx (upd H4 D (.lst (acc ++ [y]))) else Nx H3) := by
  intro D hD
  refine lc_range (fun i H2 => Same H H2 ∧ H2 D = some (.lst ((List.range i).map F))) ⟨same_new hD, upd_same⟩ (fun i H2 hi h => ?_) (fun H2 h => hd D H2 hD h.1 h.2)
  obtain ⟨s1, e1⟩ := h
  refine hg _ _ _ _ _ ?_ (step i hi H2 s1 (fun y H4 => ∃ acc, H4 D = some (.lst acc) ∧ acc.length < sizeLine ∧ Same H (upd H4 D (.lst (acc ++ [y]))) ∧ (upd H4 D (.lst (acc ++ [y]))) D = some (.lst ((List.range (i + 1)).map F))) fun H4 s4 => ?_)
  · exact fun σ2 H2 h => ⟨h.1, iteT (A := te σ2 H2 _) (B := Same H H2 ∧ H2 D = some (.lst ((List.range (i + 1)).map F))) h.2⟩
  · refine ⟨_, s4 D _ e1, ?_, Same.mut (s1.trans s4) hD, ?_⟩
    · rw [List.length_map, List.length_range]
      omega
    · rw [upd_same, List.range_succ, List.map_append]
      rfl
theorem ok_digits (T : Txt K mg) : FnOk P w K mg base CX0 1 T.d_digits.f T.d_digits.fd ["least"] spDigits := by
  refine T.d_digits.F.ok sc_digits (fun vs H Q E h => ?_) (fun cdv A outer s H vs Q E hr h => ?_)
  · obtain ⟨k, rfl, _⟩ := h
    rfl
  obtain ⟨k, rfl, hk, q⟩ := h
  refine ⟨_, (pss_one (ps_ret (pe_lc (own := [("k", 1)]) rfl sc_digits.nd (pi_range2 rfl T.b_range (pa_cons (pv 0) (pa_cons (pe_glob (v := .int 10) rfl T.c_DIGITS.2 ⟨_, rfl⟩) pa_nil))) (blkOk_by (own := [("k", 1)]) (N := ["least", "k"]) (sc := defScope s_digits) (by decide +kernel)) (fun _ _ _ _ _ => (pg_name (i := 1) sc_digits.nd rfl (Or.inl rfl))) (fun _ _ _ _ _ => pts_nil) (fun _ _ _ _ _ => (pe_op op_add (pe_glob (v := .int 48) rfl T.c_NOUGHT.2 ⟨_, rfl⟩) (pv 1)))))), ?_⟩
  refine ⟨_, rfl, _, _, rfl, by omega, lc_rng (lo := (k : Int)) (fun j => V.int (48 + ((k : Int) + (j : Nat)))) (small_le (by omega)) (fun i hi H1 s1 Qy k1 => ?_) (fun D H1 hD s1 e1 => ?_) gN⟩
  · exact ⟨rfl, _, rfl, _, _, rfl, rfl, k1 H1 (Same.refl _)⟩
  · rw [show ((10 : Int) - (k : Int)).toNat = 10 - k by omega, digits_ni k hk] at e1
    exact q D H1 s1 hD e1
def spLetters : Sp := fun vs H Q _ => vs = [] ∧ ∀ l H1, Same H H1 → H l = none → H1 l = some (.lst (ni Vafmsb.letters)) → Q (.ref l) H1
theorem ok_letters (T : Txt K mg) : FnOk P w K mg base CX0 1 T.d_letters.f T.d_letters.fd [] spLetters := by
  refine T.d_letters.F.ok sc_letters (fun vs H Q E h => ?_) (fun cdv A outer s H vs Q E hr h => ?_)
  · obtain ⟨rfl, _⟩ := h
    rfl
  obtain ⟨rfl, q⟩ := h
  refine ⟨_, (pss_one (ps_ret (pe_lc (own := [("k", 0)]) rfl sc_letters.nd (pi_range1 rfl T.b_range (pa_cons (pe_glob (v := .int 26) rfl T.c_LETTERS.2 ⟨_, rfl⟩) pa_nil)) (blkOk_by (own := [("k", 0)]) (N := ["k"]) (sc := defScope s_letters) (by decide +kernel)) (fun _ _ _ _ _ => (pg_name (i := 0) sc_letters.nd rfl (Or.inl rfl))) (fun _ _ _ _ _ => pts_nil) (fun _ _ _ _ _ => (pe_op op_add (pe_glob (v := .int 97) rfl T.c_SMALL_A.2 ⟨_, rfl⟩) (pv 0)))))), ?_⟩
  refine ⟨_, rfl, by decide, by decide, lc_rng (lo := 0) (n := 26) (fun j => V.int (97 + (0 + (j : Nat)))) (small_le (by omega)) (fun i hi H1 s1 Qy k1 => ?_) (fun D H1 hD s1 e1 => ?_) gN⟩
  · exact ⟨rfl, _, rfl, _, _, rfl, rfl, k1 H1 (Same.refl _)⟩
  · exact q D H1 s1 hD e1
/-- what a walker hands back: the places behind, each way's wishes written down -/
def Went (C x d : Addr) (t : List Nat) (H : Hp) (S : Nat → Nat → Prop) (n : Nat) (A : Nat → Prop) (B : Nat → Nat → Prop) (m L : Nat) (Q : VK) : Prop := ∀ l rs H1, SameBut d H H1 → H l = none → H1 l = some (.lst (ni rs)) →
  (∀ q, q ∈ rs ↔ A q) → rs.length ≤ L → Wk C x d t H1 (fun q c => S q c ∨ B q c) (n + m) → Q (.ref l) H1
def spByText (C : Addr) : Sp := fun vs H Q _ => ∃ (x d a : Addr) (t : List Nat) (S : Nat → Nat → Prop) (n p : Nat) (wd : List Nat), vs = [.ref x, .ref a, .int (p : Int)] ∧ Wk C x d t H S n ∧ H a = some (.tup (ni wd)) ∧ wd.length ≤ 1000 ∧ n + 1 ≤ 9000000 ∧
  Went C x d t H S n (LR wd t p) (LS wd t p) 1 1 Q
theorem stk_one {t : List Nat} {p b : Nat} : stk t p [b] = true ↔ t[p]? ≠ some b := by
  unfold stk
  cases h : t[p]? with
  | none => simp
  | some c => simp
theorem ok_by_text (T : Txt K mg) : FnOk P w K mg base CX0 2 T.m_by_text.f T.m_by_text.fd ["self", "wanted", "at"] (spByText T.cWalk) := by
  have G_is_stuck := ok_is_stuck (P := P) (w := w) (base := base) T
  refine T.m_by_text.F.ok sc_Walk_by_text (fun vs H Q E h => ?_) (fun cdv A outer s H vs Q E hr h => ?_)
  · obtain ⟨x, d, a, t, S, n, p, wd, rfl, _⟩ := h
    rfl
  obtain ⟨x, d, a, t, S, n, p, wd, rfl, wk, ha, wl, hn, q⟩ := h
  refine ⟨_, (pss_cons (ps_for PassesOwn.never rfl (pi_range1 rfl T.b_range (pa_cons (pe_callB call_len_seq (by rfl) T.b_len PySem.boot_len (pa_cons (pv 1) pa_nil)) pa_nil)) (pg_name (i := 3) sc_Walk_by_text.nd rfl (Or.inl rfl))
    (pss_one (ps_if (pt_val (pe_meth (pv 0) T.Walk_cl T.m_is_stuck.me G_is_stuck (hr.mono (by omega)) T.m_is_stuck.b .nil pass0 (pa_cons (pe_op op_add (pv 2) (pv 3)) (pa_cons (pe_tup (pa_cons (pe_ix ix_tup (pv 1) (pv 3) (fun _ _ => rfl)) pa_nil)) pa_nil))))
    (pss_one (ps_ret (pe_lst pa_nil)))
    pss_nil)))
    (pss_one (ps_ret (pe_lst (pa_cons (pe_op op_add (pv 2) (pe_callB call_len_seq (by rfl) T.b_len PySem.boot_len (pa_cons (pv 1) pa_nil))) pa_nil))))), ?_⟩
  have len : (ni wd).length = wd.length := ni_length _
  refine ⟨_, rfl, a, _, rfl, .inr (SqT.of ha), _, rfl, by rw [len]; omega, by rw [len]; omega, ?_⟩
  rw [len]
  refine for_range (lo := 0) (n := ((wd.length : Nat) : Int).toNat) (fun j σ H1 => ∃ v3 : Option V, σ = [some (.ref x), some (.ref a), some (.int (p : Int)), v3] ∧ SameBut d H H1 ∧ Wk T.cWalk x d t H1 S n ∧ ∀ i, i < j → t[p + i]? = wd[i]?) ⟨none, rfl, SameBut.refl d H, wk, fun i hi => by omega⟩ (fun j σ H1 hj h => ?_) (fun σ H1 h => ?_)
  · obtain ⟨v3, rfl, s1, wk1, al⟩ := h
    rw [Int.toNat_natCast] at hj
    obtain ⟨⟨dx, b, hx, hb⟩, _⟩ := id wk1
    have ha1 := s1 a _ (wk.neT ha) ha
    have hz : wd[j]? = some wd[j] := List.getElem?_eq_getElem hj
    generalize wd[j] = z at hz
    refine ⟨_, rfl, x, dx, _, rfl, hx, rfl, _, rfl, _, rfl, _, _, rfl, rfl, _, rfl, _, rfl, a, _, _, _, rfl, rfl, SqT.of ha1, atNi (by omega) hz, (by show 1 ≤ sizeLine; decide), fun c hc => ?_⟩
    have s2 := same_new (o := .tup [.int (z : Int)]) hc
    refine ⟨x, d, c, t, S, n, p + j, [z], ?_, wk1.mono s2, .inr upd_same, by simp, by simpa using hn, fun H3 s3 wk3 => ?_⟩
    · show [V.ref x, V.int ((p : Int) + (0 + (j : Int))), V.ref c] = _
      rw [show (p : Int) + (0 + (j : Int)) = ((p + j : Nat) : Int) by omega]
    have s13 := s1.trans ((s2.but d).trans s3)
    refine ⟨_, rfl, ?_⟩
    refine iteB (fun st => ?_) (fun st => ?_)
    · rw [st] at wk3
      have ne := stk_one.mp st
      refine ⟨(by show 0 ≤ sizeLine; decide), fun l hl => ?_⟩
      refine q l [] _ (s13.trans ((same_new hl).but d)) ?_ upd_same (fun q => ?_) (Nat.zero_le _) ((wk3.mono (same_new hl)).imp (fun q c => ?_) (by simp))
      · cases h : H l with
        | none => rfl
        | some u =>
          by_cases e : l = d
          · subst e
            obtain ⟨_, kvs, h3, _⟩ := wk3
            rw [hl] at h3
            cases h3
          · have := s13 l u e h
            rw [hl] at this
            cases this
      · refine ⟨fun z => (List.not_mem_nil z).elim, fun z => ?_⟩
        exact absurd ((z.1 j hj).trans hz) ne
      · simp only [true_and, List.mem_singleton]
        refine or_congr_right ⟨fun ⟨e1, e2⟩ => ⟨j, by rw [e2]; exact hz, al, by rw [hz]; exact ne, e1⟩, fun ⟨i, e1, e2, e3, e4⟩ => ?_⟩
        have ij : i = j := by
          rcases Nat.lt_trichotomy i j with h | h | h
          · exact absurd (al i h) e3
          · exact h
          · exact absurd ((e2 j h).trans hz) ne
        subst ij
        rw [hz] at e1
        exact ⟨e4, (Option.some.inj e1).symm⟩
    · rw [st] at wk3
      refine ⟨_, rfl, s13, wk3.imp (fun q c => by simp) (by simp), fun i hi => ?_⟩
      rcases Nat.lt_succ_iff_lt_or_eq.mp hi with h | h
      · exact al i h
      · subst h
        rw [hz]
        refine Classical.byContradiction fun ne => ?_
        rw [stk_one.mpr ne] at st
        cases st
  · obtain ⟨v3, rfl, s1, wk1, al⟩ := h
    rw [Int.toNat_natCast] at al
    have ha1 := s1 a _ (wk.neT ha) ha
    refine ⟨_, rfl, _, rfl, a, _, rfl, .inr (SqT.of ha1), _, _, rfl, rfl, (by show 1 ≤ sizeLine; decide), fun l hl => ?_⟩
    have e : (p : Int) + ((ni wd).length : Int) = ((p + wd.length : Nat) : Int) := by rw [len]; omega
    refine q l [p + wd.length] _ (s1.trans ((same_new hl).but d)) ?_ (upd_same.trans (congrArg (fun i => some (HO.lst [V.int i])) e)) (fun q => ?_) (Nat.le_refl _) ((wk1.mono (same_new hl)).imp (fun q c => ?_) (by omega))
    · cases h : H l with
      | none => rfl
      | some u =>
        by_cases e : l = d
        · subst e
          obtain ⟨_, kvs, h3, _⟩ := wk1
          rw [hl] at h3
          cases h3
        · have := s1 l u e h
          rw [hl] at this
          cases this
    · rw [List.mem_singleton]
      exact ⟨fun z => ⟨al, z⟩, fun z => z.2⟩
    · refine ⟨.inl, fun z => z.elim id fun ⟨i, e1, e2, e3, e4⟩ => ?_⟩
      have hi : i < wd.length := (List.getElem?_eq_some_iff.mp e1).1
      exact absurd (al i hi) e3
end
end Asc
namespace Asc
open PySem PySem.Spec PyProof.Rows L2
open VafmsBase (Fmt)
theorem fresh_back {C x d l : Addr} {t : List Nat} {H H1 : Hp} {S : Nat → Nat → Prop} {n : Nat} (s : SameBut d H H1) (wk : Wk C x d t H1 S n) (hl : H1 l = none) : H l = none := by
  cases h : H l with
  | none => rfl
  | some u =>
    by_cases e : l = d
    · subst e
      obtain ⟨_, kvs, h3, _⟩ := wk
      rw [hl] at h3
      cases h3
    · have := s l u e h
      rw [hl] at this
      cases this
theorem dig_is (b : Nat) : Vafmsb.digits.contains b = VafmsBase.isDigit b := by
  rw [Bool.eq_iff_iff, List.contains_iff_mem]
  simp [Vafmsb.digits, VafmsBase.isDigit]
  constructor
  · rintro ⟨a, h, rfl⟩
    omega
  · intro h
    exact ⟨b - 48, by omega, by omega⟩
theorem dig1_is (b : Nat) : (Vafmsb.digits.drop 1).contains b = isDigit1 b := by
  rw [Bool.eq_iff_iff, List.contains_iff_mem]
  rw [show Vafmsb.digits.drop 1 = [49, 50, 51, 52, 53, 54, 55, 56, 57] from rfl]
  simp [isDigit1]
  omega
theorem let_is (b : Nat) : Vafmsb.letters.contains b = VafmsBase.isLetter b := by
  rw [Bool.eq_iff_iff, List.contains_iff_mem]
  simp [Vafmsb.letters, VafmsBase.isLetter]
  constructor
  · rintro ⟨a, h, rfl⟩
    omega
  · intro h
    exact ⟨b - 97, by omega, by omega⟩
theorem stk_is {is : Nat → Bool} {ws : List Nat} (h : ∀ b, ws.contains b = is b) (t : List Nat) (p : Nat) : stk t p ws = !okc is t p := by
  unfold stk okc
  cases t[p]? with
  | none => rfl
  | some b => simp only [h]
theorem run_le {f o : Nat → Bool} {t : List Nat} {p k n : Nat} (h : Run f o t p n) (st : okc (if k = 0 then f else o) t (p + k) = false) : n ≤ k := by
  rcases Nat.lt_or_ge k n with c | c
  · have := h k c
    rw [st] at this
    cases this
  · exact c
theorem run_cut {f o : Nat → Bool} {t : List Nat} {p k n : Nat} (h : Run f o t p n) (c : k ≤ n) : Run f o t p k := fun j hj => h j (by omega)
section
variable {P : Program} {w : World} {K : PySem.W.Frag} {mg : Str → Option PySem.Value} {base : Heap}
def spBySigns (C : Addr) : Sp := fun vs H Q _ => ∃ (x d a b : Addr) (t : List Nat) (S : Nat → Nat → Prop) (n p lo hi m : Nat) (lf l2 : List Nat) (f o : Nat → Bool), vs = [.ref x, .ref a, .ref b, .int (lo : Int), .int (hi : Int), .int (p : Int)] ∧ Wk C x d t H S n ∧
  H a = some (.lst (ni lf)) ∧ H b = some (.lst (ni l2)) ∧ lf ≠ [] ∧ l2 ≠ [] ∧ lf.length ≤ m ∧ l2.length ≤ m ∧ (∀ b, lf.contains b = f b) ∧ (∀ b, l2.contains b = o b) ∧ 1 ≤ lo ∧ lo ≤ hi ∧ hi ≤ 4 ∧ n + m ≤ 9000000 ∧
  Went C x d t H S n (sgR f o lo hi t p) (sgS f o lf l2 hi t p) m 4 Q
theorem ok_by_signs (T : Txt K mg) : FnOk P w K mg base CX0 2 T.m_by_signs.f T.m_by_signs.fd ["self", "first", "others", "least", "most", "at"] (spBySigns T.cWalk) := by
  have G_is_stuck := ok_is_stuck (P := P) (w := w) (base := base) T
  refine T.m_by_signs.F.ok sc_Walk_by_signs (fun vs H Q E h => ?_) (fun cdv A outer s H vs Q E hr h => ?_)
  · obtain ⟨x, d, a, b, t, S, n, p, lo, hi, m, lf, l2, f, o, rfl, _⟩ := h
    rfl
  obtain ⟨x, d, a, b, t, S, n, p, lo, hi, m, lf, l2, f, o, rfl, wk, ha, hb, nf, n2, lm, l2m, hf, ho, h1, h2, h3, hn, q⟩ := h
  refine ⟨_, (pss_cons (ps_set (i := 6) sc_Walk_by_signs.nd rfl (Or.inl rfl) (pe_lst pa_nil))
    (pss_cons (ps_set (i := 7) sc_Walk_by_signs.nd rfl (Or.inl rfl) pe_int)
    (pss_cons (ps_while PassesOwn.never (PW.pt (pw_and (pt_cmpR op_lt (pv 7) (pv 4) (nomark _)) (pw_and1 (pt_not (pt_val (pe_meth (pv 0) T.Walk_cl T.m_is_stuck.me G_is_stuck (hr.mono (by omega)) T.m_is_stuck.b .nil pass0 (pa_cons (pe_op op_add (pv 5) (pv 7)) (pa_cons (pe_ifExp (pt_cmpR op_eq (pv 7) pe_int (nomark _)) (pv 1) (pv 2)) pa_nil))))))))
    (pss_cons (ps_set (i := 7) sc_Walk_by_signs.nd rfl (Or.inl rfl) (pe_op op_add (pv 7) pe_int))
    (pss_one (ps_if (pt_cmpR op_ge (pv 7) (pv 3) (nomark _))
    (pss_one (ps_expr (pe_bm PySem.F.plainAttrs_list PySem.F.slot_list_append PySem.F.type_list_append mt_append (pv 6) (pa_cons (pe_op op_add (pv 5) (pv 7)) pa_nil))))
    pss_nil))))
    (pss_one (ps_ret (pv 6)))))), ?_⟩
  refine ⟨(by show 0 ≤ sizeLine; decide), fun l hl => ?_⟩
  have s0 := same_new (o := .lst []) hl
  have ld := wk.neN hl
  refine ⟨fun mm σ H1 => ∃ (k : Nat) (rs : List Nat), σ = [some (.ref x), some (.ref a), some (.ref b), some (.int (lo : Int)), some (.int (hi : Int)), some (.int (p : Int)), some (.ref l), some (.int (k : Int))] ∧ mm = hi - k ∧ k ≤ hi ∧ SameBut d H H1 ∧ Wk T.cWalk x d t H1 S n ∧
    H1 l = some (.lst (ni rs)) ∧ (∀ q, q ∈ rs ↔ ∃ i, 1 ≤ i ∧ lo ≤ i ∧ i ≤ k ∧ q = p + i) ∧ rs.length ≤ k ∧ Run f o t p k, ⟨hi, 0, [], rfl, rfl, Nat.zero_le _, s0.but d, wk.mono s0, upd_same, fun q => ?_, Nat.zero_le _, fun j hj => by omega⟩, ?_⟩
  · refine ⟨fun z => (List.not_mem_nil z).elim, fun ⟨i, i1, _, i3, _⟩ => by omega⟩
  rintro mm σ H1 ⟨k, rs, rfl, rfl, hk, s1, wk1, hl1, hrs, rl, run⟩
  refine ⟨_, rfl, _, rfl, _, _, rfl, rfl, _, rfl, ?_⟩
  refine iteD (fun c1 => ?_) (fun c1 => ?_)
  case refine_2 =>
    -- all there
    refine iteF ⟨_, rfl, q l rs H1 s1 hl hl1 (fun q => ?_) (by omega) (wk1.imp (fun q c => ?_) (by omega))⟩
    · rw [hrs]
      exact ⟨fun ⟨i, i1, i2, i3, i4⟩ => ⟨i, i1, i2, by omega, run_cut run i3, i4⟩, fun ⟨i, i1, i2, i3, _, i4⟩ => ⟨i, i1, i2, by omega, i4⟩⟩
    · refine ⟨.inl, fun z => z.elim id fun ⟨i, i1, i2, i3, _⟩ => ?_⟩
      have := run i (by omega)
      rw [i3] at this
      cases this
  have hlt : k < hi := by omega
  obtain ⟨⟨dx, b1, hx, _⟩, _⟩ := id wk1
  have ha1 := s1 a _ (wk.ne ha) ha
  have hb1 := s1 b _ (wk.ne hb) hb
  refine ⟨_, rfl, x, dx, _, rfl, hx, rfl, _, rfl, _, rfl, _, _, rfl, rfl, _, rfl, rfl, _, rfl, ?_⟩
  -- behind it
  have next : ∀ (ws : List Nat) (is : Nat → Bool) (H2 : Hp), ws.length ≤ m → (∀ b, ws.contains b = is b) → is = (if k = 0 then f else o) → ws = (if k = 0 then lf else l2) → SameBut d H1 H2 →
      Wk T.cWalk x d t H2 (fun q c => S q c ∨ (stk t (p + k) ws = true ∧ q = p + k ∧ c ∈ ws)) (if stk t (p + k) ws = true then n + ws.length else n) →
      (stk t (p + k) ws = true → Q (.ref l) H2) ∧ (stk t (p + k) ws = false → Wk T.cWalk x d t H2 S n ∧ Run f o t p (k + 1)) := fun ws is H2 wm his e1 e2 s2 wk2 => by
    have si := stk_is his t (p + k)
    constructor
    · intro st
      rw [st] at wk2 si
      have nk : okc (if k = 0 then f else o) t (p + k) = false := by
        rw [← e1]
        simpa using si.symm
      refine q l rs H2 (s1.trans s2) hl (s2 l _ ld hl1) (fun q => ?_) (by omega) (wk2.imp (fun q c => ?_) (by rw [if_pos rfl]; omega))
      · rw [hrs]
        refine ⟨fun ⟨i, i1, i2, i3, i4⟩ => ⟨i, i1, i2, by omega, run_cut run i3, i4⟩, fun ⟨i, i1, i2, i3, ir, i4⟩ => ⟨i, i1, i2, run_le ir nk, i4⟩⟩
      · refine or_congr_right ⟨fun ⟨_, z1, z2⟩ => ⟨k, hlt, run, nk, z1, by rw [← e2]; exact z2⟩, fun ⟨i, i1, i2, i3, i4, i5⟩ => ?_⟩
        have a1 := run_le i2 nk
        have a2 := run_le run i3
        have ik : i = k := by omega
        subst ik
        exact ⟨rfl, i4, by rw [e2]; exact i5⟩
    · intro st
      rw [st] at wk2 si
      refine ⟨wk2.imp (fun q c => by simp) (by simp), fun j hj => ?_⟩
      rcases Nat.lt_succ_iff_lt_or_eq.mp hj with h | h
      · exact run j h
      · subst h
        rw [← e1]
        simpa using si.symm
  by_cases k0 : k = 0
  · refine ifT (decide_eq_true (by rw [k0]; rfl)) ?_
    refine ⟨_, rfl, x, d, a, t, S, n, p + k, lf, ?_, wk1, .inl ha1, nf, by omega, fun H2 s2 wk2 => ⟨_, rfl, ?_⟩⟩
    · show [V.ref x, V.int ((p : Int) + (k : Int)), V.ref a] = _
      rw [show (p : Int) + (k : Int) = ((p + k : Nat) : Int) by omega]
    obtain ⟨nx1, nx2⟩ := next lf f H2 lm hf (by rw [if_pos k0]) (by rw [if_pos k0]) s2 wk2
    show if (!stk t (p + k) lf) = true then _ else _
    refine iteBN (fun st => ?_) (fun st => ⟨_, rfl, nx1 st⟩)
    obtain ⟨wk3, run3⟩ := nx2 st
    have s3 := s1.trans s2
    have hl3 := s2 l _ ld hl1
    refine ⟨fun σ' H' => ∃ m', m' < hi - k ∧ ∃ (k : Nat) (rs : List Nat), σ' = [some (.ref x), some (.ref a), some (.ref b), some (.int (lo : Int)), some (.int (hi : Int)), some (.int (p : Int)), some (.ref l), some (.int (k : Int))] ∧ m' = hi - k ∧ k ≤ hi ∧ SameBut d H H' ∧ Wk T.cWalk x d t H' S n ∧
      H' l = some (.lst (ni rs)) ∧ (∀ q, q ∈ rs ↔ ∃ i, 1 ≤ i ∧ lo ≤ i ∧ i ≤ k ∧ q = p + i) ∧ rs.length ≤ k ∧ Run f o t p k, fun _ _ h => h, ?_⟩
    refine ⟨_, rfl, _, _, rfl, rfl, ?_⟩
    have ek : (k : Int) + 1 = ((k + 1 : Nat) : Int) := by omega
    refine ⟨_, rfl, _, rfl, _, _, rfl, rfl, _, rfl, ?_⟩
    refine iteD (fun c2 => ?_) (fun c2 => ?_)
    · refine ⟨_, rfl, .inl ⟨rfl, _, SqL.of hl3⟩, _, rfl, _, rfl, _, _, rfl, rfl, l, ni rs, _, rfl, rfl, hl3, small_lt (by rw [ni_length]; omega), ?_⟩
      have e : (p : Int) + ((k : Int) + 1) = ((p + (k + 1) : Nat) : Int) := by omega
      refine ⟨hi - (k + 1), by omega, k + 1, rs ++ [p + (k + 1)], by rw [← ek]; rfl, rfl, by omega, s3.mut hl, wk3.lst hl3, ?_, fun q => ?_, by rw [List.length_append, List.length_singleton]; omega, run3⟩
      · rw [upd_same, ni_append]
        exact congrArg (fun z => some (HO.lst (ni rs ++ [V.int z]))) e
      · rw [List.mem_append, hrs, List.mem_singleton]
        constructor
        · rintro (⟨i, i1, i2, i3, i4⟩ | z)
          · exact ⟨i, i1, i2, by omega, i4⟩
          · exact ⟨k + 1, by omega, by omega, Nat.le_refl _, z⟩
        · rintro ⟨i, i1, i2, i3, i4⟩
          by_cases z : i = k + 1
          · exact .inr (by rw [i4, z])
          · exact .inl ⟨i, i1, i2, by omega, i4⟩
    · refine ⟨hi - (k + 1), by omega, k + 1, rs, by rw [← ek]; rfl, rfl, by omega, s3, wk3, hl3, fun q => ?_, by omega, run3⟩
      rw [hrs]
      exact ⟨fun ⟨i, i1, i2, i3, i4⟩ => ⟨i, i1, i2, by omega, i4⟩, fun ⟨i, i1, i2, i3, i4⟩ => ⟨i, i1, i2, by omega, i4⟩⟩
  · refine ifF (decide_eq_false (by intro z; injection z with z; omega)) ?_
    refine ⟨_, rfl, x, d, b, t, S, n, p + k, l2, ?_, wk1, .inl hb1, n2, by omega, fun H2 s2 wk2 => ⟨_, rfl, ?_⟩⟩
    · show [V.ref x, V.int ((p : Int) + (k : Int)), V.ref b] = _
      rw [show (p : Int) + (k : Int) = ((p + k : Nat) : Int) by omega]
    obtain ⟨nx1, nx2⟩ := next l2 o H2 l2m ho (by rw [if_neg k0]) (by rw [if_neg k0]) s2 wk2
    show if (!stk t (p + k) l2) = true then _ else _
    refine iteBN (fun st => ?_) (fun st => ⟨_, rfl, nx1 st⟩)
    obtain ⟨wk3, run3⟩ := nx2 st
    have s3 := s1.trans s2
    have hl3 := s2 l _ ld hl1
    refine ⟨fun σ' H' => ∃ m', m' < hi - k ∧ ∃ (k : Nat) (rs : List Nat), σ' = [some (.ref x), some (.ref a), some (.ref b), some (.int (lo : Int)), some (.int (hi : Int)), some (.int (p : Int)), some (.ref l), some (.int (k : Int))] ∧ m' = hi - k ∧ k ≤ hi ∧ SameBut d H H' ∧ Wk T.cWalk x d t H' S n ∧
      H' l = some (.lst (ni rs)) ∧ (∀ q, q ∈ rs ↔ ∃ i, 1 ≤ i ∧ lo ≤ i ∧ i ≤ k ∧ q = p + i) ∧ rs.length ≤ k ∧ Run f o t p k, fun _ _ h => h, ?_⟩
    refine ⟨_, rfl, _, _, rfl, rfl, ?_⟩
    have ek : (k : Int) + 1 = ((k + 1 : Nat) : Int) := by omega
    refine ⟨_, rfl, _, rfl, _, _, rfl, rfl, _, rfl, ?_⟩
    refine iteD (fun c2 => ?_) (fun c2 => ?_)
    · refine ⟨_, rfl, .inl ⟨rfl, _, SqL.of hl3⟩, _, rfl, _, rfl, _, _, rfl, rfl, l, ni rs, _, rfl, rfl, hl3, small_lt (by rw [ni_length]; omega), ?_⟩
      have e : (p : Int) + ((k : Int) + 1) = ((p + (k + 1) : Nat) : Int) := by omega
      refine ⟨hi - (k + 1), by omega, k + 1, rs ++ [p + (k + 1)], by rw [← ek]; rfl, rfl, by omega, s3.mut hl, wk3.lst hl3, ?_, fun q => ?_, by rw [List.length_append, List.length_singleton]; omega, run3⟩
      · rw [upd_same, ni_append]
        exact congrArg (fun z => some (HO.lst (ni rs ++ [V.int z]))) e
      · rw [List.mem_append, hrs, List.mem_singleton]
        constructor
        · rintro (⟨i, i1, i2, i3, i4⟩ | z)
          · exact ⟨i, i1, i2, by omega, i4⟩
          · exact ⟨k + 1, by omega, by omega, Nat.le_refl _, z⟩
        · rintro ⟨i, i1, i2, i3, i4⟩
          by_cases z : i = k + 1
          · exact .inr (by rw [i4, z])
          · exact .inl ⟨i, i1, i2, by omega, i4⟩
    · refine ⟨hi - (k + 1), by omega, k + 1, rs, by rw [← ek]; rfl, rfl, by omega, s3, wk3, hl3, fun q => ?_, by omega, run3⟩
      rw [hrs]
      exact ⟨fun ⟨i, i1, i2, i3, i4⟩ => ⟨i, i1, i2, by omega, i4⟩, fun ⟨i, i1, i2, i3, i4⟩ => ⟨i, i1, i2, by omega, i4⟩⟩
def spByNumber (C : Addr) : Sp := fun vs H Q _ => ∃ (x d : Addr) (t : List Nat) (S : Nat → Nat → Prop) (n p lo hi : Nat), vs = [.ref x, .int (lo : Int), .int (hi : Int), .int (p : Int)] ∧ Wk C x d t H S n ∧ 1 ≤ lo ∧ lo ≤ hi ∧ hi ≤ 4 ∧ n + 10 ≤ 9000000 ∧ p ≤ t.length ∧
  Went C x d t H S n (nuR lo hi t p) (nuS lo hi t p) 10 4 Q
theorem Went.after {C x d : Addr} {t : List Nat} {H H1 : Hp} {S : Nat → Nat → Prop} {n : Nat} {A A' : Nat → Prop} {B B' : Nat → Nat → Prop} {m L : Nat} {Q : VK} (h : Went C x d t H S n A B m L Q) (s : SameBut d H H1) (hA : ∀ q, A' q ↔ A q) (hB : ∀ q c, B' q c ↔ B q c) (wk : Wk C x d t H1 S n) : Went C x d t H1 S n A' B' m L Q :=
  fun l rs H2 s2 hl hl2 e1 e2 wk2 => h l rs H2 (s.trans s2) (fresh_back s wk hl) hl2 (fun q => (e1 q).trans (hA q)) e2 (wk2.imp (fun q c => or_congr_right (hB q c)) (Nat.le_refl _))
theorem ok_by_number (T : Txt K mg) : FnOk P w K mg base CX0 3 T.m_by_number.f T.m_by_number.fd ["self", "least", "most", "at"] (spByNumber T.cWalk) := by
  have G_by_signs := ok_by_signs (P := P) (w := w) (base := base) T
  have G_digits := ok_digits (P := P) (w := w) (base := base) T
  refine T.m_by_number.F.ok sc_Walk_by_number (fun vs H Q E h => ?_) (fun cdv A outer s H vs Q E hr h => ?_)
  · obtain ⟨x, d, t, S, n, p, lo, hi, rfl, _⟩ := h
    rfl
  obtain ⟨x, d, t, S, n, p, lo, hi, rfl, wk, h1, h2, h3, hn, hp, q⟩ := h
  refine ⟨_, (pss_cons (ps_if (pt_cmpR op_eq (pv 1) (pv 2) (nomark _))
    (pss_one (ps_ret (pe_meth (pv 0) T.Walk_cl T.m_by_signs.me G_by_signs (hr.mono (by omega)) T.m_by_signs.b .nil pass0 (pa_cons (pe_call G_digits (hr.mono (by omega)) rfl T.d_digits.m T.d_digits.F.kp T.d_digits.b .nil pass0 (pa_cons pe_int pa_nil)) (pa_cons (pe_call G_digits (hr.mono (by omega)) rfl T.d_digits.m T.d_digits.F.kp T.d_digits.b .nil pass0 (pa_cons pe_int pa_nil)) (pa_cons (pv 1) (pa_cons (pv 2) (pa_cons (pv 3) pa_nil))))))))
    pss_nil)
    (pss_cons (ps_if (PW.pt (pw_and (pt_cmpR op_eq (pv 1) pe_int (nomark _)) (pw_and1 (pt_cmpR (op_eqT hr.units) (pe_slice sl_tup2 (pe_fld (pv 0) rfl) (po_some (pv 3)) (po_some (pe_op op_add (pv 3) pe_int))) (pe_tup (pa_cons (pe_glob (v := .int 48) rfl T.c_NOUGHT.2 ⟨_, rfl⟩) pa_nil)) (nomark _)))))
    (pss_one (ps_ret (pe_lst (pa_cons (pe_op op_add (pv 3) pe_int) pa_nil))))
    pss_nil)
    (pss_one (ps_ret (pe_meth (pv 0) T.Walk_cl T.m_by_signs.me G_by_signs (hr.mono (by omega)) T.m_by_signs.b .nil pass0 (pa_cons (pe_call G_digits (hr.mono (by omega)) rfl T.d_digits.m T.d_digits.F.kp T.d_digits.b .nil pass0 (pa_cons (pe_callTy call_int1 (by rfl) T.b_int (by decide +kernel) (pa_cons (pe_cmpR op_gt (pv 1) pe_int (nomark _)) pa_nil)) pa_nil)) (pa_cons (pe_call G_digits (hr.mono (by omega)) rfl T.d_digits.m T.d_digits.F.kp T.d_digits.b .nil pass0 (pa_cons pe_int pa_nil)) (pa_cons (pv 1) (pa_cons (pv 2) (pa_cons (pv 3) pa_nil)))))))))), ?_⟩
  obtain ⟨⟨dx, b, hx, hb⟩, _⟩ := id wk
  refine ⟨_, rfl, _, rfl, rfl, _, rfl, ?_⟩
  by_cases c1 : lo = hi
  · have z : zeroAt lo hi t p = false := by unfold zeroAt; rw [decide_eq_false (fun e => e c1)]; rfl
    have e1 : numF lo hi = VafmsBase.isDigit := by unfold numF; rw [if_pos c1]
    have e2 : numL lo hi = Vafmsb.digits := by unfold numL; rw [if_pos c1]
    refine ifT (decide_eq_true (by rw [c1])) ?_
    refine ⟨_, rfl, x, dx, _, rfl, hx, rfl, 0, rfl, by decide, fun la H2 s2 hla hla2 => ?_⟩
    refine ⟨0, rfl, by decide, fun lb H3 s3 hlb hlb2 => ?_⟩
    have s23 := s2.trans s3
    refine ⟨_, rfl, _, rfl, _, rfl, x, d, la, lb, t, S, n, p, lo, hi, 10, Vafmsb.digits, Vafmsb.digits, VafmsBase.isDigit, VafmsBase.isDigit, rfl, wk.mono s23, s3 la _ hla2, hlb2, by decide, by decide, by decide, by decide, dig_is, dig_is, h1, h2, h3, hn, ?_⟩
    refine Went.after q (s23.but d) (fun q => ?_) (fun q c => ?_) (wk.mono s23)
    · unfold nuR
      rw [z, e1, if_neg (by decide)]
    · unfold nuS
      rw [z, e1, e2, if_neg (by decide)]
  refine ifF (decide_eq_false (by intro z; injection z with z; omega)) ?_
  have len : (ni t).length = t.length := ni_length _
  -- the last return
  have last : zeroAt lo hi t p = false → ∀ (H1 : Hp), Same H H1 → ∀ (R : VK), (∀ v H2, Q v H2 → R v H2) →
      tMeth T.cWalk "by_signs" (spBySigns T.cWalk) [] E0 (tVar 0) (tCons (tCall spDigits [] E0 (tCons (tCB (fun xs H Q => (∃ i, xs = [.int i] ∧ Q (.int i) H) ∨ ∃ k, xs = [.bl k] ∧ Q (.int (if k = true then 1 else 0)) H) (tCons (tOp (rI0 fun i j => V.bl (decide (j < i))) (tVar 1) (tC (.int 1))) tNil)) tNil))
        (tCons (tCall spDigits [] E0 (tCons (tC (.int 0)) tNil)) (tCons (tVar 1) (tCons (tVar 2) (tCons (tVar 3) tNil))))) [some (.ref x), some (.int (lo : Int)), some (.int (hi : Int)), some (.int (p : Int))] H1 R := fun z H1 s1 R hR => by
    have dk : (if decide ((1 : Int) < (lo : Int)) = true then (1 : Int) else 0) = ((if lo > 1 then 1 else 0 : Nat) : Int) := by
      by_cases c : lo > 1
      · rw [if_pos c, if_pos (decide_eq_true (by omega))]
        rfl
      · rw [if_neg c, if_neg (by rw [decide_eq_false (show ¬ (1 : Int) < (lo : Int) by omega)]; decide)]
        rfl
    refine ⟨_, rfl, x, dx, _, rfl, s1 x _ hx, rfl, _, rfl, _, _, rfl, rfl, .inr ⟨_, rfl, (if lo > 1 then 1 else 0), congrArg (fun i => [V.int i]) dk, by split <;> omega, fun la H2 s2 hla hla2 => ?_⟩⟩
    refine ⟨0, rfl, by decide, fun lb H3 s3 hlb hlb2 => ?_⟩
    have s23 := s1.trans (s2.trans s3)
    have e1 : ∀ b, (Vafmsb.digits.drop (if lo > 1 then 1 else 0)).contains b = numF lo hi b := fun b => by
      unfold numF
      rw [if_neg c1]
      by_cases c : lo > 1
      · rw [if_pos c, if_pos c]
        exact dig1_is b
      · rw [if_neg c, if_neg c]
        exact dig_is b
    have e2 : numL lo hi = Vafmsb.digits.drop (if lo > 1 then 1 else 0) := by
      unfold numL
      rw [if_neg c1]
      split <;> rfl
    refine ⟨_, rfl, _, rfl, _, rfl, x, d, la, lb, t, S, n, p, lo, hi, 10, Vafmsb.digits.drop (if lo > 1 then 1 else 0), Vafmsb.digits, numF lo hi, VafmsBase.isDigit, rfl, wk.mono s23, s3 la _ hla2, hlb2, by split <;> decide, by decide, by split <;> decide, by decide, e1, dig_is, h1, h2, h3, hn, ?_⟩
    have q2 : Went T.cWalk x d t H S n (nuR lo hi t p) (nuS lo hi t p) 10 4 R := fun l rs H2 a1 a2 a3 a4 a5 a6 => hR _ _ (q l rs H2 a1 a2 a3 a4 a5 a6)
    refine Went.after q2 (s23.but d) (fun q => ?_) (fun q c => ?_) (wk.mono s23)
    · unfold nuR
      rw [z, if_neg (by decide)]
    · unfold nuS
      rw [if_neg (show ¬ zeroAt lo hi t p = true by rw [z]; decide), e2]
  refine ⟨_, rfl, rfl, _, rfl, ?_⟩
  by_cases c2 : lo = 1
  case neg =>
    refine ifF (decide_eq_false (by intro z; injection z with z; omega)) (iteF ?_)
    exact last (by unfold zeroAt; rw [decide_eq_false c2]; simp) H (Same.refl H) _ fun _ _ h => h
  refine ifT (decide_eq_true (by rw [c2]; rfl)) ?_
  refine ⟨_, rfl, x, _, _, _, _, rfl, hx, T.Walk_cl, T.nW_text, rfl, _, rfl, _, rfl, _, rfl, _, _, rfl, rfl, _, rfl, _, Tup.of hb, fun u H1 s1 tu => ?_⟩
  have cut : cutV (ni t) (some (p : Int)) (some ((p : Int) + 1)) = ni ((t.drop p).take 1) := by
    rw [cut_two (a := p) (b := p + 1) rfl (by omega), ni_cut, show p + 1 - p = 1 by omega]
  rw [cut] at tu
  refine ⟨(by show 1 ≤ sizeLine; decide), fun c hc => ⟨_, [48], tu.mono (same_new hc), Tup.of upd_same, _, rfl, ?_⟩⟩
  have s2 := s1.trans (same_new (o := .tup [.int 48]) hc)
  have at1 : (t.drop p).take 1 = [48] ↔ t[p]? = some 48 := by
    cases h : t.drop p with
    | nil => simp [drop_nil h]
    | cons y r =>
      rw [(drop_cons h).1]
      simp
  refine iteD (fun c3 => ?_) (fun c3 => ?_)
  · have z : zeroAt lo hi t p = true := by
      unfold zeroAt
      rw [decide_eq_true c1, decide_eq_true c2, decide_eq_true (at1.mp c3)]
      rfl
    have lt : p < t.length := (List.getElem?_eq_some_iff.mp (at1.mp c3)).1
    refine ⟨_, rfl, _, _, rfl, rfl, (by show 1 ≤ sizeLine; decide), fun l hl => ?_⟩
    refine q l [p + 1] _ ((s2.trans (same_new hl)).but d) (fresh_back (s2.but d) (wk.mono s2) hl) (upd_same.trans ?_) (fun q => ?_) (by show 1 ≤ 4; decide) ((wk.mono (s2.trans (same_new hl))).imp (fun q c => ?_) (by omega))
    · exact congrArg (fun i => some (HO.lst [V.int i])) (show (p : Int) + 1 = ((p + 1 : Nat) : Int) by omega)
    · unfold nuR
      rw [z, if_pos rfl, List.mem_singleton]
    · unfold nuS
      rw [z, if_pos rfl, or_false]
  · refine last ?_ _ s2 _ fun _ _ h => h
    unfold zeroAt
    rw [decide_eq_false (fun e => c3 (at1.mpr e))]
    simp
end
end Asc
namespace Asc
open PySem PySem.Spec PyProof.Rows L2
open VafmsBase (Fmt)
theorem nat_of : ∀ ns : List Int, (∀ k ∈ ns, 0 ≤ k) → ns.Pairwise (· < ·) → ∃ rs : List Nat, ns.map V.int = ni rs ∧ rs.Pairwise (· < ·) ∧ ∀ q : Nat, q ∈ rs ↔ (q : Int) ∈ ns
  | [], _, _ => ⟨[], rfl, .nil, fun q => by simp⟩
  | k :: ns, h, hp => by
    have hk := h k List.mem_cons_self
    obtain ⟨h1, h2⟩ := List.pairwise_cons.mp hp
    obtain ⟨rs, e, p, m⟩ := nat_of ns (fun j hj => h j (List.mem_cons_of_mem _ hj)) h2
    refine ⟨k.toNat :: rs, ?_, List.pairwise_cons.mpr ⟨fun q hq => ?_, p⟩, fun q => ?_⟩
    · rw [List.map_cons, e]
      show _ = V.int ((k.toNat : Nat) : Int) :: ni rs
      rw [Int.toNat_of_nonneg hk]
    · have := h1 _ ((m q).mp hq)
      omega
    · rw [List.mem_cons, List.mem_cons, m]
      constructor
      · rintro (z | z)
        · exact .inl (by omega)
        · exact .inr z
      · rintro (z | z)
        · exact .inl (by omega)
        · exact .inr z
theorem lt_sub : ∀ (l m : List Nat), l.Pairwise (· < ·) → (∀ x ∈ l, x ∈ m) → l.length ≤ m.length
  | [], _, _, _ => Nat.zero_le _
  | a :: l, m, hp, h => by
    obtain ⟨h1, h2⟩ := List.pairwise_cons.mp hp
    have ha := h a List.mem_cons_self
    have := lt_sub l (m.erase a) h2 (fun x hx => (List.mem_erase_of_ne (by have := h1 x hx; omega)).mpr (h x (List.mem_cons_of_mem _ hx)))
    rw [List.length_erase_of_mem ha] at this
    have := List.length_pos_of_mem ha
    simp only [List.length_cons]
    omega
theorem ni_ints (t : List Nat) : ni t = (t.map fun n : Nat => (n : Int)).map V.int := by
  unfold ni
  rw [List.map_map]
  rfl
section
variable {P : Program} {w : World} {K : PySem.W.Frag} {mg : Str → Option PySem.Value} {base : Heap}
def spAllBehind : Sp := fun vs H Q _ => ∃ (x : V) (a : Addr) (ys : List V) (rss : List (List Nat)), vs = [x, .ref a] ∧ H a = some (.lst ys) ∧ All2 (LN H) ys rss ∧ (∀ q ∈ rss.flatten, q < 4000) ∧ rss.flatten.length ≤ 1000000 ∧
  ∀ l rs H1, Same H H1 → H l = none → H1 l = some (.lst (ni rs)) → rs.Pairwise (· < ·) → (∀ q, q ∈ rs ↔ q ∈ rss.flatten) → Q (.ref l) H1
theorem ok_all_behind (T : Txt K mg) : FnOk P w K mg base CX0 1 T.m_all_behind.f T.m_all_behind.fd ["self", "rows"] spAllBehind := by
  refine T.m_all_behind.F.ok sc_Walk_all_behind (fun vs H Q E h => ?_) (fun cdv A outer s H vs Q E hr h => ?_)
  · obtain ⟨x, a, ys, rss, rfl, _⟩ := h
    rfl
  obtain ⟨x, a, ys, rss, rfl, ha, al, small, hz, q⟩ := h
  refine ⟨_, (pss_cons (ps_set (i := 2) sc_Walk_all_behind.nd rfl (Or.inl rfl) (pe_lst pa_nil))
    (pss_cons (ps_for PassesOwn.never rfl (pi_list (pv 1)) (pg_name (i := 3) sc_Walk_all_behind.nd rfl (Or.inl rfl))
    (pss_one (ps_expr (pe_bm PySem.F.plainAttrs_list PySem.F.slot_list_extend PySem.F.type_list_extend mt_extend (pv 2) (pa_cons (pv 3) pa_nil)))))
    (pss_one (ps_ret (pe_callB (cr_sortS rfl) (by rfl) T.b_sorted (by decide +kernel) (pa_cons (pe_callTy (cr_setI rfl) (by rfl) T.b_set (by decide +kernel) (pa_cons (pv 2) pa_nil)) pa_nil)))))), ?_⟩
  refine ⟨(by show 0 ≤ sizeLine; decide), fun l hl => ?_⟩
  have s0 := same_new (o := .lst []) hl
  refine ⟨_, rfl, a, rfl, ⟨_, SqL.of (s0 a _ ha)⟩, for_list (K := K) (a := a) (xs := ys) (fun i σ H1 => ∃ v3 : Option V, σ = [some x, some (.ref a), some (.ref l), v3] ∧ Same H H1 ∧ H1 l = some (.lst (ni (rss.take i).flatten))) ⟨none, rfl, s0, upd_same⟩ (fun i σ H1 _ h => ?_) (fun i y σ H1 hy h => ?_) (fun σ H1 h => ?_)⟩
  · obtain ⟨_, _, s1, _⟩ := h
    exact SqL.of (s1 a _ ha)
  · obtain ⟨v3, rfl, s1, hl1⟩ := h
    obtain ⟨rs, hrs, b, rfl, hb⟩ := al.get hy
    have e : (rss.take (i + 1)).flatten = (rss.take i).flatten ++ rs := by
      rw [List.take_add_one, hrs, List.flatten_append]
      simp
    have le : (rss.take (i + 1)).flatten.length ≤ rss.flatten.length := by
      conv => rhs; rw [← List.take_append_drop (i + 1) rss, List.flatten_append, List.length_append]
      omega
    rw [e, List.length_append] at le
    refine ⟨_, rfl, .inl ⟨rfl, _, SqL.of hl1⟩, _, rfl, l, b, _, ni rs, rfl, rfl, hl1, s1 b _ hb, small_le (by rw [ni_length, ni_length]; omega), ?_⟩
    refine ⟨_, rfl, s1.mut hl, ?_⟩
    rw [upd_same, e, ni_append]
  · obtain ⟨v3, rfl, s1, hl1⟩ := h
    rw [al.length, List.take_length, ni_ints] at hl1
    refine ⟨_, rfl, l, _, rfl, .inl (SqL.of hl1), fun k hk => ?_, fun st c hst => ⟨st, _, c, rfl, upd_same, fun ns p hp hm hpn => ?_⟩⟩
    · obtain ⟨q, hq, rfl⟩ := List.mem_map.mp hk
      have := small q hq
      omega
    · obtain ⟨rs, e, hs, mem⟩ := nat_of ns (fun k hk => by
        have := (hm k).mp hk
        simp only [decide_eq_true_eq, List.mem_map] at this
        obtain ⟨q, _, rfl⟩ := this
        omega) hp
      have s2 := (s1.trans (same_new (o := SetO w st (fun j => decide (j ∈ List.map (fun n : Nat => (n : Int)) rss.flatten)) c) hst)).trans (same_new (o := .lst (ns.map V.int)) hpn)
      refine q p rs _ s2 ?_ (upd_same.trans (by rw [e])) hs (fun q => ?_)
      · cases h : H p with
        | none => rfl
        | some u =>
          have := (s1.trans (same_new (o := SetO w st (fun j => decide (j ∈ List.map (fun n : Nat => (n : Int)) rss.flatten)) c) hst)) p u h
          have z : (none : Option HO) = some u := hpn.symm.trans this
          cases z
      · rw [mem, hm, decide_eq_true_eq, List.mem_map]
        constructor
        · rintro ⟨z, h1, h2⟩
          have : z = q := by omega
          rw [← this]
          exact h1
        · intro h
          exact ⟨q, h, rfl⟩
/-- walkers, one for each of some places -/
theorem lc_walk {C x d a : Addr} {t : List Nat} {qs : List Nat} {m L n : Nat} {S : Nat → Nat → Prop} {A : Nat → Nat → Prop} {B : Nat → Nat → Nat → Prop} {H : Hp} {g : TG} {te : TE} {vs : List Nat} {σ : L2.St} {Q : Addr → Hp → Prop}
    (wk : Wk C x d t H S n) (ha : H a = some (.lst (ni qs))) (hz : qs.length ≤ 1000000)
    (step : ∀ k, k ∈ qs → ∀ H1 S1 n1, SameBut d H H1 → Wk C x d t H1 S1 n1 → n1 + m ≤ n + qs.length * m → ∀ Qy : VK, Went C x d t H1 S1 n1 (A k) (B k) m L Qy → g (.int (k : Int)) (wipe σ vs) H1 fun σ2 H2 => wipe σ2 vs = wipe σ vs ∧ te σ2 H2 Qy)
    (hd : ∀ D H1 ys rss, H D = none → SameBut d H H1 → H1 D = some (.lst ys) → All2 (LN H1) ys rss → (∀ q, q ∈ rss.flatten ↔ ∃ k, k ∈ qs ∧ A k q) → rss.flatten.length ≤ qs.length * L → Wk C x d t H1 (fun q c => S q c ∨ ∃ k, k ∈ qs ∧ B k q c) (n + qs.length * m) → Q D H1)
    (hg : ∀ x σ H (A B : L2.St → Hp → Prop), (∀ σ H, A σ H → B σ H) → g x σ H A → g x σ H B) :
    ∀ D, H D = none → ∃ W : Nat → Nat → Hp → Prop, (∃ m, W 0 m (upd H D (.lst []))) ∧ ∀ i m H, W i m H →
      ((Itl K a).stop i H ∧ Q D H) ∨ ((Itl K a).go i H ∧ ∃ Nx : Hp → Prop, (∀ H', Nx H' → ∃ m', m' < m ∧ W (i + 1) m' H') ∧ ∀ x H', (Itl K a).yld i H x H' → g x (wipe σ vs) H' fun σ2 H2 => wipe σ2 vs = wipe σ vs ∧ tYes σ2 H2 fun b H3 =>
        if b = true then te σ2 H3 fun y H4 => ∃ acc, H4 D = some (.lst acc) ∧ acc.length < sizeLine ∧ Nx (upd H4 D (.lst (acc ++ [y]))) else Nx H3) := by
  intro D hD
  have nDd := wk.neN hD
  have nl : (ni qs).length = qs.length := ni_length _
  let Pv : Nat → Hp → Prop := fun i H2 => ∃ (ys : List V) (rss : List (List Nat)), SameBut d H H2 ∧ H2 D = some (.lst ys) ∧ All2 (fun v rs => ∃ b, v = .ref b ∧ b ≠ D ∧ H2 b = some (.lst (ni rs))) ys rss ∧ (∀ q, q ∈ rss.flatten ↔ ∃ k, k ∈ qs.take i ∧ A k q) ∧ rss.flatten.length ≤ i * L ∧ ys.length = i ∧
    Wk C x d t H2 (fun q c => S q c ∨ ∃ k, k ∈ qs.take i ∧ B k q c) (n + i * m)
  refine lc_list (K := K) (a := a) (xs := ni qs) Pv ⟨[], [], (same_new hD).but d, upd_same, .nil, fun q => by simp, by simp, rfl, (wk.mono (same_new hD)).imp (fun q c => by simp) (by omega)⟩ (fun i H2 _ h => ?_) (fun i y H2 hy h => ?_) (fun H2 h => ?_)
  · obtain ⟨_, _, s1, _⟩ := h
    exact SqL.of (s1 a _ (wk.ne ha) ha)
  · obtain ⟨ys, rss, s1, hD2, al, mem, len, yl, wk2⟩ := h
    have hi : i < qs.length := by
      have := (List.getElem?_eq_some_iff.mp hy).1
      omega
    obtain ⟨k, hk⟩ : ∃ k, qs[i]? = some k := ⟨_, List.getElem?_eq_getElem hi⟩
    have ey : y = .int (k : Int) := by
      rw [ni_get hk] at hy
      exact (Option.some.inj hy).symm
    subst ey
    have tk : qs.take (i + 1) = qs.take i ++ [k] := by rw [List.take_add_one, hk]; rfl
    refine hg _ _ _ _ _ ?_ (step k (List.mem_of_getElem? hk) H2 _ _ s1 wk2 ?_ (fun y H4 => ∃ acc, H4 D = some (.lst acc) ∧ acc.length < sizeLine ∧ Pv (i + 1) (upd H4 D (.lst (acc ++ [y])))) fun l rs H3 s3 hl hl3 hA hL wk3 => ?_)
    · exact fun σ2 H2 h => ⟨h.1, iteT (A := te σ2 H2 _) (B := Pv (i + 1) H2) h.2⟩
    · have : (i + 1) * m ≤ qs.length * m := Nat.mul_le_mul_right _ hi
      rw [Nat.succ_mul] at this
      omega
    have hD3 := s3 D _ nDd hD2
    have nlD : l ≠ D := fun e => by
      rw [e, hD2] at hl
      cases hl
    refine ⟨ys, hD3, small_lt (by omega), ys ++ [.ref l], rss ++ [rs], (s1.trans s3).mut hD, upd_same, All2.append (al.mono fun v us hv => ?_) (.cons ⟨l, rfl, nlD, by rw [upd_ne nlD]; exact hl3⟩ .nil), fun q => ?_, ?_, by rw [List.length_append, yl]; rfl, (wk3.lst hD3).imp (fun q c => ?_) (by rw [Nat.succ_mul]; omega)⟩
    · obtain ⟨b, e, ne, hb⟩ := hv
      refine ⟨b, e, ne, ?_⟩
      rw [upd_ne ne]
      exact s3 b _ (wk2.ne hb) hb
    · rw [List.flatten_append, List.mem_append, mem, tk]
      simp only [List.flatten_cons, List.flatten_nil, List.append_nil, List.mem_append, List.mem_singleton, hA]
      constructor
      · rintro (⟨j, h1, h2⟩ | h)
        · exact ⟨j, .inl h1, h2⟩
        · exact ⟨k, .inr rfl, h⟩
      · rintro ⟨j, h1 | rfl, h2⟩
        · exact .inl ⟨j, h1, h2⟩
        · exact .inr h2
    · rw [List.flatten_append, List.length_append, Nat.succ_mul]
      simp only [List.flatten_cons, List.flatten_nil, List.append_nil]
      omega
    · rw [tk]
      simp only [List.mem_append, List.mem_singleton]
      constructor
      · rintro ((h | ⟨j, h1, h2⟩) | h)
        · exact .inl h
        · exact .inr ⟨j, .inl h1, h2⟩
        · exact .inr ⟨k, .inr rfl, h⟩
      · rintro (h | ⟨j, h1 | rfl, h2⟩)
        · exact .inl (.inl h)
        · exact .inl (.inr ⟨j, h1, h2⟩)
        · exact .inr h2
  · obtain ⟨ys, rss, s1, hD2, al, mem, len, yl, wk2⟩ := h
    rw [nl] at len
    rw [nl, List.take_length] at mem wk2
    refine hd D H2 ys rss hD s1 hD2 (al.mono fun v us hv => ?_) mem len wk2
    obtain ⟨b, e, ne, hb⟩ := hv
    exact ⟨b, e, hb⟩
def spThrough (C : Addr) (n : Nat) : Sp := fun vs H Q _ => ∃ (x d a : Addr) (v : V) (t : List Nat) (S : Nat → Nat → Prop) (n0 : Nat) (f : Fmt) (qs : List Nat), vs = [.ref x, v, .ref a] ∧ Wk C x d t H S n0 ∧ RowAt H f v ∧ depth f < n ∧ okSp f = true ∧ f.holes ≤ 8 ∧ H a = some (.lst (ni qs)) ∧
  (∀ k ∈ qs, k ≤ t.length) ∧ t.length ≤ 24 ∧ n0 + qs.length * cost f ≤ 9000000 ∧ qs.length * 5 ^ f.holes ≤ 500000 ∧ ∀ l rs H1, SameBut d H H1 → H1 l = some (.lst (ni rs)) → (∀ q, q ∈ rs ↔ ∃ k, k ∈ qs ∧ fR f t k q) → rs.length ≤ qs.length * 5 ^ f.holes →
    Wk C x d t H1 (fun q c => S q c ∨ ∃ k, k ∈ qs ∧ fS f t k q c) (n0 + qs.length * cost f) → Q (.ref l) H1
def spByTimes (C : Addr) (n : Nat) : Sp := fun vs H Q _ => ∃ (x d : Addr) (v : V) (t : List Nat) (S : Nat → Nat → Prop) (n0 p lo hi : Nat) (s : List Nat) (f : Fmt), vs = [.ref x, v, .int (p : Int)] ∧ Wk C x d t H S n0 ∧ PcAt H (.rep s lo hi f) v ∧ depth f < n ∧ (Pc.rep s lo hi f).okSp = true ∧ (Pc.rep s lo hi f).holes ≤ 8 ∧
  p ≤ t.length ∧ t.length ≤ 24 ∧ n0 + (Pc.rep s lo hi f).cost ≤ 9000000 ∧ Went C x d t H S n0 (pR (.rep s lo hi f) t p) (pS (.rep s lo hi f) t p) (Pc.rep s lo hi f).cost (5 ^ (Pc.rep s lo hi f).holes) Q
theorem LR_le {s t : List Nat} {p q : Nat} (hp : p ≤ t.length) (h : LR s t p q) : q ≤ t.length := by
  obtain ⟨h1, rfl⟩ := h
  rcases Nat.eq_zero_or_pos s.length with z | z
  · omega
  · have h2 := h1 (s.length - 1) (by omega)
    have h3 : s[s.length - 1]? = some s[s.length - 1] := List.getElem?_eq_getElem (by omega)
    rw [h3] at h2
    have := (List.getElem?_eq_some_iff.mp h2).1
    omega
theorem five_ge (k : Nat) (h : k ≤ 5) : k ≤ 5 := h
theorem ok_by_times {n : Nat} (T : Txt K mg) (G_through : FnOk P w K mg base CX0 (3 * n + 2) T.m_through.f T.m_through.fd ["self", "row", "places"] (spThrough T.cWalk n)) :
    FnOk P w K mg base CX0 (3 * n + 3) T.m_by_times.f T.m_by_times.fd ["self", "piece", "at"] (spByTimes T.cWalk n) := by
  have G_by_text := ok_by_text (P := P) (w := w) (base := base) T
  have G_all_behind := ok_all_behind (P := P) (w := w) (base := base) T
  refine T.m_by_times.F.ok sc_Walk_by_times (fun vs H Q E h => ?_) (fun cdv A outer s H vs Q E hr h => ?_)
  · obtain ⟨x, d, v, t, S, n0, p, lo, hi, s, f, rfl, _⟩ := h
    rfl
  obtain ⟨x, d, v, t, S, n0, p, lo, hi, s, f, rfl, wk, pt, hn, okp, h8, hp, t24, hc, q⟩ := h
  refine ⟨_, (pss_cons (ps_asg (pv 1) (pg_tup rfl (pgs_cons (pg_name (i := 3) sc_Walk_by_times.nd rfl (Or.inl rfl)) (pgs_cons (pg_name (i := 4) sc_Walk_by_times.nd rfl (Or.inr rfl)) (pgs_cons (pg_name (i := 5) sc_Walk_by_times.nd rfl (Or.inl rfl)) (pgs_cons (pg_name (i := 6) sc_Walk_by_times.nd rfl (Or.inl rfl)) (pgs_cons (pg_name (i := 7) sc_Walk_by_times.nd rfl (Or.inl rfl)) pgs_nil)))))))
    (pss_cons (ps_set (i := 8) sc_Walk_by_times.nd rfl (Or.inl rfl) (pe_op op_rep (pe_lst (pa_cons (pv 2) pa_nil)) (pe_callTy call_int1 (by rfl) T.b_int (by decide +kernel) (pa_cons (pe_cmpR op_eq (pv 5) pe_int (nomark _)) pa_nil))))
    (pss_cons (ps_set (i := 9) sc_Walk_by_times.nd rfl (Or.inl rfl) (pe_lst (pa_cons (pv 2) pa_nil)))
    (pss_cons (ps_for PassesOwn.never rfl (pi_range2 rfl T.b_range (pa_cons pe_int (pa_cons (pe_op op_add (pv 6) pe_int) pa_nil))) (pg_name (i := 10) sc_Walk_by_times.nd rfl (Or.inl rfl))
    (pss_cons (ps_if (pt_cmpR op_gt (pv 10) pe_int (nomark _))
    (pss_one (ps_set (i := 9) sc_Walk_by_times.nd rfl (Or.inl rfl) (pe_meth (pv 0) T.Walk_cl T.m_all_behind.me G_all_behind (hr.mono (by omega)) T.m_all_behind.b .nil pass0 (pa_cons (pe_lc (own := [("place", 11)]) rfl sc_Walk_by_times.nd (pi_list (pv 9)) (blkOk_by (own := [("place", 11)]) (N := ["self", "piece", "at", "kind", "separator", "least", "most", "row", "found", "places", "k", "place"]) (sc := defScope s_Walk_by_times) (by decide +kernel)) (fun _ _ _ _ _ => (pg_name (i := 11) sc_Walk_by_times.nd rfl (Or.inl rfl))) (fun _ _ _ _ _ => pts_nil) (fun _ _ _ _ _ => (pe_meth (pv 0) T.Walk_cl T.m_by_text.me G_by_text (hr.mono (by omega)) T.m_by_text.b .nil pass0 (pa_cons (pv 4) (pa_cons (pv 11) pa_nil))))) pa_nil))))
    pss_nil)
    (pss_cons (ps_set (i := 9) sc_Walk_by_times.nd rfl (Or.inl rfl) (pe_meth (pv 0) T.Walk_cl T.m_through.me G_through (hr.mono (by omega)) T.m_through.b .nil pass0 (pa_cons (pv 7) (pa_cons (pv 9) pa_nil))))
    (pss_one (ps_if (pt_cmpR op_ge (pv 10) (pv 5) (nomark _))
    (pss_one (ps_set (i := 8) sc_Walk_by_times.nd rfl (Or.inl rfl) (pe_op op_cat (pv 8) (pv 9))))
    pss_nil)))))
    (pss_one (ps_ret (pv 8))))))), ?_⟩
  obtain ⟨vt, vg, ⟨a, rfl, ha⟩, ht, hg⟩ := pt
  simp only [Pc.okSp, VafmsBase.okText, Bool.and_eq_true, decide_eq_true_eq] at okp
  obtain ⟨⟨l0, l0'⟩, l2, l3, l4⟩ := okp
  simp only [Pc.holes] at h8
  simp only [Pc.cost] at hc
  refine ⟨_, rfl, a, _, rfl, SqT.of ha, rfl, _, _, rfl, _, _, rfl, _, _, rfl, _, _, rfl, _, _, rfl, rfl, ?_⟩
  -- found
  refine ⟨_, rfl, (by show 1 ≤ sizeLine; decide), fun p1 hp1 => ?_⟩
  have s1 := same_new (o := .lst [.int (p : Int)]) hp1
  refine ⟨_, rfl, rfl, .inr ⟨_, rfl, p1, _, _, rfl, rfl, upd_same, by split <;> omega, by split <;> omega, ?_, fun lf hlf => ?_⟩⟩
  · refine small_le ?_
    simp only [List.length_singleton]
    split <;> decide
  have e0 : (List.replicate (if decide (V.int (lo : Int) = V.int 0) = true then (1 : Int) else 0).toNat [V.int (p : Int)]).flatten = ni (if lo = 0 then [p] else []) := by
    by_cases c : lo = 0
    · rw [if_pos c, decide_eq_true (by rw [c]; rfl)]
      rfl
    · rw [if_neg c, decide_eq_false (by intro z; injection z with z; omega)]
      rfl
  have s2 := s1.trans (same_new (o := .lst (List.replicate (if decide (V.int (lo : Int) = V.int 0) = true then (1 : Int) else 0).toNat [V.int (p : Int)]).flatten) hlf)
  -- places
  refine ⟨_, rfl, (by show 1 ≤ sizeLine; decide), fun lp hlp => ?_⟩
  have s3 := s2.trans (same_new (o := .lst [.int (p : Int)]) hlp)
  refine ⟨_, rfl, _, _, rfl, rfl, 1, (hi : Int) + 1, rfl, by omega, ?_⟩
  have p7 : 5 ^ (hi * f.holes) ≤ 78125 := pow7 (by omega)
  have rcm : ∀ {i j : Nat}, i ≤ j → rc (cost f) f.holes i ≤ rc (cost f) f.holes j := fun {i j} h => by
    induction h with
    | refl => exact Nat.le_refl _
    | step _ ih => exact Nat.le_trans ih (Nat.le_add_right _ _)
  refine for_range (lo := 1) (n := ((hi : Int) + 1 - 1).toNat) (fun j σ H1 => ∃ (v10 v11 : Option V) (lf lp : Addr) (fs rs : List Nat), σ = [some (.ref x), some (.ref a), some (.int (p : Int)), some (.int 5), some vt, some (.int (lo : Int)), some (.int (hi : Int)), some vg, some (.ref lf), some (.ref lp), v10, v11] ∧
    SameBut d H H1 ∧ H lf = none ∧ H1 lf = some (.lst (ni fs)) ∧ (∀ q, q ∈ fs ↔ ∃ m, m ≤ j ∧ lo ≤ m ∧ TR f s t m true p q) ∧ fs.length ≤ (j + 1) * 5 ^ (j * f.holes) ∧
    H1 lp = some (.lst (ni rs)) ∧ (∀ q, q ∈ rs ↔ TR f s t j true p q) ∧ rs.length ≤ 5 ^ (j * f.holes) ∧ (∀ k ∈ rs, k ≤ t.length) ∧
    Wk T.cWalk x d t H1 (fun q c => S q c ∨ TS f s t j true p q c) (n0 + rc (cost f) f.holes j)) ?_ (fun j σ H1 hj h => ?_) (fun σ H1 h => ?_)
  · refine ⟨none, none, lf, lp, (if lo = 0 then [p] else []), [p], rfl, s3.but d, ?_, ?_, fun q => ?_, ?_, upd_same, fun q => ?_, by simp, fun k hk => ?_, (wk.mono s3).imp (fun q c => by simp [TS]) (Nat.le_add_right _ _)⟩
    · exact fresh_back (s1.but d) (wk.mono s1) hlf
    · have := (same_new (o := .lst [.int (p : Int)]) hlp) lf _ upd_same
      rw [← e0]
      exact this
    · by_cases c : lo = 0
      · rw [if_pos c, List.mem_singleton]
        constructor
        · intro z
          exact ⟨0, Nat.le_refl _, by omega, z⟩
        · rintro ⟨m, h1, _, h3⟩
          have : m = 0 := by omega
          subst this
          exact h3
      · rw [if_neg c]
        refine ⟨fun z => (List.not_mem_nil z).elim, fun ⟨m, h1, h2, _⟩ => by omega⟩
    · split <;> simp
    · rw [List.mem_singleton]
      rfl
    · rw [List.mem_singleton] at hk
      omega
  · obtain ⟨v10, v11, lf, lp, fs, rs, rfl, s4, hlf, hlf1, memF, lenF, hlp1, memP, lenP, leP, wk4⟩ := h
    have hj' : j < hi := by omega
    obtain ⟨⟨dx, b, hx, hb⟩, _⟩ := id wk4
    have sT := s4.t wk
    have jh : (j + 1) * f.holes ≤ hi * f.holes := Nat.mul_le_mul_right _ (by omega)
    rw [Nat.succ_mul] at jh
    have pj : 5 ^ (j * f.holes) ≤ 78125 := pow7 (by omega)
    have pj1 : 5 ^ (j * f.holes) * 5 ^ f.holes = 5 ^ ((j + 1) * f.holes) := by rw [Nat.succ_mul, Nat.pow_add]
    have pj2 : 5 ^ ((j + 1) * f.holes) ≤ 78125 := pow7 (by rw [Nat.succ_mul]; omega)
    have rc1 : rc (cost f) f.holes (j + 1) = rc (cost f) f.holes j + 5 ^ (j * f.holes) * (1 + cost f) := rfl
    have rcl := rcm (show j + 1 ≤ hi by omega)
    have jl : ni rs = ni rs := rfl
    -- through the row, and what is found
    have fin : ∀ (lp2 : Addr) (us : List Nat) (H2 : Hp) (S2 : Nat → Nat → Prop) (n2 : Nat), SameBut d H1 H2 → H2 lp2 = some (.lst (ni us)) → us.length ≤ 5 ^ (j * f.holes) → (∀ k ∈ us, k ≤ t.length) → Wk T.cWalk x d t H2 S2 n2 → n2 + 5 ^ (j * f.holes) * cost f ≤ n0 + rc (cost f) f.holes (j + 1) →
        (∀ q, (∃ k, k ∈ us ∧ fR f t k q) ↔ TR f s t (j + 1) true p q) → (∀ q c, (S2 q c ∨ ∃ k, k ∈ us ∧ fS f t k q c) ↔ S q c ∨ TS f s t (j + 1) true p q c) →
        ∀ (R : VK), (∀ lp3 us3 H3, SameBut d H2 H3 → H3 lp3 = some (.lst (ni us3)) → (∀ q, q ∈ us3 ↔ TR f s t (j + 1) true p q) → us3.length ≤ 5 ^ ((j + 1) * f.holes) → (∀ k ∈ us3, k ≤ t.length) →
          Wk T.cWalk x d t H3 (fun q c => S q c ∨ TS f s t (j + 1) true p q c) (n0 + rc (cost f) f.holes (j + 1)) → R (.ref lp3) H3) →
        spThrough T.cWalk n [.ref x, vg, .ref lp2] H2 R E0 := fun lp2 us H2 S2 n2 s5 hl5 ul uk wk5 nl e1 e2 R hR => by
      have m1 : us.length * cost f ≤ 5 ^ (j * f.holes) * cost f := Nat.mul_le_mul_right _ ul
      have m2 : us.length * 5 ^ f.holes ≤ 5 ^ ((j + 1) * f.holes) := by
        rw [← pj1]
        exact Nat.mul_le_mul_right _ ul
      refine ⟨x, d, lp2, vg, t, S2, n2, f, us, rfl, wk5, (hg.monoT sT).monoT (s5.t wk4), hn, l4, by
        have : 1 * f.holes ≤ hi * f.holes := Nat.mul_le_mul_right _ (by omega)
        omega, hl5, uk, t24, by omega, by omega, fun l rs3 H3 s6 hl6 m6 len6 wk6 => ?_⟩
      refine hR l rs3 H3 s6 hl6 (fun q => (m6 q).trans (e1 q)) (by omega) (fun k hk => ?_) (wk6.imp e2 (by omega))
      obtain ⟨k', hk', hr⟩ := (m6 k).mp hk
      exact fR_le l4 (uk k' hk') hr
    have one : (1 : Int) + (j : Nat) = ((j + 1 : Nat) : Int) := by omega
    rw [one]
    have lfS : fs.length ≤ 5 * 78125 := by
      have : (j + 1) * 5 ^ (j * f.holes) ≤ 5 * 78125 := Nat.mul_le_mul (by omega) pj
      omega
    have pjm : 5 ^ (j * f.holes) ≤ 5 ^ ((j + 1) * f.holes) := pow_le (by rw [Nat.succ_mul]; omega)
    by_cases j0 : j = 0
    · refine ⟨_, rfl, _, _, rfl, rfl, _, rfl, ifF (decide_eq_false (by omega)) ?_⟩
      refine ⟨_, rfl, x, dx, _, rfl, hx, rfl, _, rfl, _, rfl, ?_⟩
      dsimp only [tNil]
      have tr : ∀ q, (∃ k, k ∈ rs ∧ fR f t k q) ↔ TR f s t (j + 1) true p q := fun q => by
        rw [TR_back j true p q hp]
        subst j0
        constructor
        · rintro ⟨k, hk, h⟩
          exact ⟨k, leP k hk, (memP k).mp hk, h, fR_le l4 (leP k hk) h⟩
        · rintro ⟨m, h1, h2, h3, _⟩
          exact ⟨m, (memP m).mpr h2, h3⟩
      refine fin lp rs H1 _ _ (SameBut.refl d H1) hlp1 lenP leP wk4 (by rw [rc1, Nat.mul_add]; omega) tr (fun q c => ?_) _ (fun lp3 us3 H3 s6 hl6 m6 len6 le6 wk6 => ?_)
      · rw [TS_back j true p q c hp, or_assoc]
        refine or_congr_right (or_congr_right ?_)
        subst j0
        constructor
        · rintro ⟨k, hk, h⟩
          exact ⟨k, leP k hk, (memP k).mp hk, h⟩
        · rintro ⟨m, h1, h2, h3⟩
          exact ⟨m, (memP m).mpr h2, h3⟩
      -- kept, if there are enough
      have hlf3 : H3 lf = some (.lst (ni fs)) := s6 lf _ (wk4.ne hlf1) (hlf1)
      refine ⟨_, rfl, _, rfl, _, _, rfl, rfl, _, rfl, ?_⟩
      refine iteD (fun c2 => ?_) (fun c2 => ?_)
      · refine ⟨_, rfl, _, rfl, lf, lp3, _, _, rfl, rfl, hlf3, hl6, small_le (by rw [ni_length, ni_length]; omega), fun lf2 hlf2 => ?_⟩
        have s7 := same_new (o := .lst (ni fs ++ ni us3)) hlf2
        refine ⟨_, _, lf2, lp3, fs ++ us3, us3, rfl, (s4.trans s6).trans (s7.but d), fresh_back (s4.trans s6) wk6 hlf2, upd_same.trans (by rw [ni_append]), fun q => ?_, ?_, s7 lp3 _ hl6, m6, len6, le6, wk6.mono s7⟩
        · rw [List.mem_append, memF, m6]
          constructor
          · rintro (⟨m, h1, h2, h3⟩ | h)
            · exact ⟨m, by omega, h2, h3⟩
            · exact ⟨j + 1, Nat.le_refl _, by omega, h⟩
          · rintro ⟨m, h1, h2, h3⟩
            by_cases z : m = j + 1
            · subst z
              exact .inr h3
            · exact .inl ⟨m, by omega, h2, h3⟩
        · rw [List.length_append, Nat.succ_mul]
          have := Nat.mul_le_mul_left (j + 1) pjm
          omega
      · refine ⟨_, _, lf, lp3, fs, us3, rfl, s4.trans s6, hlf, hlf3, fun q => ?_, ?_, hl6, m6, len6, le6, wk6⟩
        · rw [memF]
          exact ⟨fun ⟨m, h1, h2, h3⟩ => ⟨m, by omega, h2, h3⟩, fun ⟨m, h1, h2, h3⟩ => ⟨m, by omega, h2, h3⟩⟩
        · have a1 := Nat.mul_le_mul_left (j + 1) pjm
          have a2 : (j + 1) * 5 ^ ((j + 1) * f.holes) ≤ (j + 1 + 1) * 5 ^ ((j + 1) * f.holes) := Nat.mul_le_mul_right _ (by omega)
          omega
    · refine ⟨_, rfl, _, _, rfl, rfl, _, rfl, ifT (decide_eq_true (by omega)) ?_⟩
      have ht1 := ht.monoT sT
      obtain ⟨at_, rfl, hat⟩ := ht1
      have bj : (true && j == 0) = false := by simp [j0]
      refine ⟨_, rfl, x, dx, _, rfl, hx, rfl, _, rfl, lp, rfl, ⟨_, SqL.of hlp1⟩, lc_walk (K := K) (m := 1) (L := 1) (A := fun k q => LR s t k q) (B := fun k q c => LS s t k q c) wk4 hlp1 (by omega) (fun k hk H2 S2 n2 s5 wk5 nl Qy went => ?_) (fun D H2 ys rss hD s5 hD2 al mem len wk5 => ?_) gN⟩
      · obtain ⟨⟨dx2, b2, hx2, _⟩, _⟩ := id wk5
        have m1 : rs.length * 1 ≤ 5 ^ (j * f.holes) * 1 := Nat.mul_le_mul_right _ lenP
        have m2 := Nat.mul_add (5 ^ (j * f.holes)) 1 (cost f)
        exact ⟨rfl, _, rfl, x, dx2, _, rfl, hx2, rfl, _, rfl, _, rfl, x, d, at_, t, S2, n2, k, s, rfl, wk5, s5 at_ _ (wk4.neT hat) hat, by omega, by omega, went⟩
      refine ⟨.ref x, D, ys, rss, rfl, hD2, al, fun q hq => ?_, by omega, fun l us H3 s6 hl hl3 srt mem2 => ?_⟩
      · obtain ⟨k, hk, h⟩ := (mem q).mp hq
        have := LR_le (leP k hk) h
        omega
      have wk6' := wk5.mono s6
      obtain ⟨⟨dx3, b3, hx3, _⟩, _⟩ := id wk6'
      have ul : us.length ≤ 5 ^ (j * f.holes) := by
        have := lt_sub us rss.flatten srt (fun q hq => (mem2 q).mp hq)
        omega
      have mem3 : ∀ q, q ∈ us ↔ ∃ k, k ∈ rs ∧ LR s t k q := fun q => (mem2 q).trans (mem q)
      refine ⟨_, rfl, x, dx3, _, rfl, hx3, rfl, _, rfl, _, rfl, ?_⟩
      dsimp only [tNil]
      have m1 : rs.length * 1 ≤ 5 ^ (j * f.holes) * 1 := Nat.mul_le_mul_right _ lenP
      have m2 := Nat.mul_add (5 ^ (j * f.holes)) 1 (cost f)
      have usle : ∀ k ∈ us, k ≤ t.length := fun k hk => by
        obtain ⟨k', hk', h⟩ := (mem3 k).mp hk
        exact LR_le (leP k' hk') h
      have s56 : SameBut d H1 H3 := s5.trans (s6.but d)
      have tr : ∀ q, (∃ k, k ∈ us ∧ fR f t k q) ↔ TR f s t (j + 1) true p q := fun q => by
        rw [TR_back j true p q hp, bj]
        constructor
        · rintro ⟨k, hk, h⟩
          obtain ⟨k', hk', h'⟩ := (mem3 k).mp hk
          exact ⟨k', leP k' hk', (memP k').mp hk', ⟨k, usle k hk, h', h⟩, fR_le l4 (usle k hk) h⟩
        · rintro ⟨m, h1, h2, ⟨k, k1, k2, k3⟩, _⟩
          exact ⟨k, (mem3 k).mpr ⟨m, (memP m).mpr h2, k2⟩, k3⟩
      refine fin l us H3 _ _ s56 hl3 ul usle wk6' (by omega) tr (fun q c => ?_) _ (fun lp3 us3 H4 s8 hl6 m6 len6 le6 wk6 => ?_)
      · rw [TS_back j true p q c hp, bj, or_assoc, or_assoc]
        refine or_congr_right (or_congr_right ?_)
        constructor
        · rintro (⟨k, hk, h⟩ | ⟨k, hk, h⟩)
          · exact ⟨k, leP k hk, (memP k).mp hk, .inl h⟩
          · obtain ⟨k', hk', h'⟩ := (mem3 k).mp hk
            exact ⟨k', leP k' hk', (memP k').mp hk', .inr ⟨k, usle k hk, h', h⟩⟩
        · rintro ⟨m, h1, h2, h3 | ⟨k, k1, k2, k3⟩⟩
          · exact .inl ⟨m, (memP m).mpr h2, h3⟩
          · exact .inr ⟨k, (mem3 k).mpr ⟨m, (memP m).mpr h2, k2⟩, k3⟩
      -- kept, if there are enough
      have hlf3 : H4 lf = some (.lst (ni fs)) := (s56.trans s8) lf _ (wk4.ne hlf1) (hlf1)
      refine ⟨_, rfl, _, rfl, _, _, rfl, rfl, _, rfl, ?_⟩
      refine iteD (fun c2 => ?_) (fun c2 => ?_)
      · refine ⟨_, rfl, _, rfl, lf, lp3, _, _, rfl, rfl, hlf3, hl6, small_le (by rw [ni_length, ni_length]; omega), fun lf2 hlf2 => ?_⟩
        have s7 := same_new (o := .lst (ni fs ++ ni us3)) hlf2
        refine ⟨_, _, lf2, lp3, fs ++ us3, us3, rfl, (s4.trans (s56.trans s8)).trans (s7.but d), fresh_back (s4.trans (s56.trans s8)) wk6 hlf2, upd_same.trans (by rw [ni_append]), fun q => ?_, ?_, s7 lp3 _ hl6, m6, len6, le6, wk6.mono s7⟩
        · rw [List.mem_append, memF, m6]
          constructor
          · rintro (⟨m, h1, h2, h3⟩ | h)
            · exact ⟨m, by omega, h2, h3⟩
            · exact ⟨j + 1, Nat.le_refl _, by omega, h⟩
          · rintro ⟨m, h1, h2, h3⟩
            by_cases z : m = j + 1
            · subst z
              exact .inr h3
            · exact .inl ⟨m, by omega, h2, h3⟩
        · rw [List.length_append, Nat.succ_mul]
          have := Nat.mul_le_mul_left (j + 1) pjm
          omega
      · refine ⟨_, _, lf, lp3, fs, us3, rfl, s4.trans (s56.trans s8), hlf, hlf3, fun q => ?_, ?_, hl6, m6, len6, le6, wk6⟩
        · rw [memF]
          exact ⟨fun ⟨m, h1, h2, h3⟩ => ⟨m, by omega, h2, h3⟩, fun ⟨m, h1, h2, h3⟩ => ⟨m, by omega, h2, h3⟩⟩
        · have a1 := Nat.mul_le_mul_left (j + 1) pjm
          have a2 : (j + 1) * 5 ^ ((j + 1) * f.holes) ≤ (j + 1 + 1) * 5 ^ ((j + 1) * f.holes) := Nat.mul_le_mul_right _ (by omega)
          omega
  · obtain ⟨v10, v11, lf, lp, fs, rs, rfl, s4, hlf, hlf1, memF, lenF, hlp1, memP, lenP, leP, wk4⟩ := h
    have e : ((hi : Int) + 1 - 1).toNat = hi := by omega
    rw [e] at memF lenF wk4
    refine ⟨_, rfl, q lf fs H1 s4 hlf hlf1 (fun q => ?_) ?_ wk4⟩
    · rw [memF]
      exact ⟨fun ⟨m, h1, h2, h3⟩ => ⟨m, h2, h1, h3⟩, fun ⟨m, h1, h2, h3⟩ => ⟨m, h2, h1, h3⟩⟩
    · simp only [Pc.holes, Nat.pow_succ]
      have : (hi + 1) * 5 ^ (hi * f.holes) ≤ 5 * 5 ^ (hi * f.holes) := Nat.mul_le_mul_right _ (by omega)
      omega
def spByPiece (C : Addr) (n : Nat) : Sp := fun vs H Q _ => ∃ (x d : Addr) (v : V) (t : List Nat) (S : Nat → Nat → Prop) (n0 k : Nat) (p : Pc), vs = [.ref x, v, .int (k : Int)] ∧ Wk C x d t H S n0 ∧ PcAt H p v ∧ p.depth ≤ n ∧ p.okSp = true ∧ p.holes ≤ 8 ∧
  k ≤ t.length ∧ t.length ≤ 24 ∧ n0 + p.cost ≤ 9000000 ∧ Went C x d t H S n0 (pR p t k) (pS p t k) p.cost (5 ^ p.holes) Q
theorem Went.more {C x d : Addr} {t : List Nat} {H : Hp} {S : Nat → Nat → Prop} {n : Nat} {A : Nat → Prop} {B : Nat → Nat → Prop} {m L L' : Nat} {Q : VK} (h : Went C x d t H S n A B m L Q) (l : L' ≤ L) : Went C x d t H S n A B m L' Q :=
  fun a rs H2 s2 hl hl2 e1 e2 wk2 => h a rs H2 s2 hl hl2 e1 (by omega) wk2
theorem ok_by_piece {n : Nat} (T : Txt K mg) (G_through : FnOk P w K mg base CX0 (3 * n + 2) T.m_through.f T.m_through.fd ["self", "row", "places"] (spThrough T.cWalk n)) :
    FnOk P w K mg base CX0 (3 * n + 4) T.m_by_piece.f T.m_by_piece.fd ["self", "piece", "at"] (spByPiece T.cWalk n) := by
  have G_by_text := ok_by_text (P := P) (w := w) (base := base) T
  have G_by_number := ok_by_number (P := P) (w := w) (base := base) T
  have G_by_signs := ok_by_signs (P := P) (w := w) (base := base) T
  have G_letters := ok_letters (P := P) (w := w) (base := base) T
  have G_by_times := ok_by_times T G_through
  refine T.m_by_piece.F.ok sc_Walk_by_piece (fun vs H Q E h => ?_) (fun cdv A outer s H vs Q E hr h => ?_)
  · obtain ⟨x, d, v, t, S, n0, k, p, rfl, _⟩ := h
    rfl
  obtain ⟨x, d, v, t, S, n0, k, p, rfl, wk, pt, hp, okp, h8, hk, t24, hc, q⟩ := h
  refine ⟨_, (pss_cons (ps_if (pt_cmpR op_eq (pe_ix ix_tup (pv 1) pe_int (fun _ _ => rfl)) (pe_glob (v := .int 0) rfl T.c_LITERAL.2 ⟨_, rfl⟩) (nomark _))
    (pss_one (ps_ret (pe_meth (pv 0) T.Walk_cl T.m_by_text.me G_by_text (hr.mono (by omega)) T.m_by_text.b .nil pass0 (pa_cons (pe_ix ix_tup (pv 1) pe_int (fun _ _ => rfl)) (pa_cons (pv 2) pa_nil)))))
    pss_nil)
    (pss_cons (ps_if (pt_cmpR op_eq (pe_ix ix_tup (pv 1) pe_int (fun _ _ => rfl)) (pe_glob (v := .int 1) rfl T.c_NUMBER.2 ⟨_, rfl⟩) (nomark _))
    (pss_one (ps_ret (pe_meth (pv 0) T.Walk_cl T.m_by_number.me G_by_number (hr.mono (by omega)) T.m_by_number.b .nil pass0 (pa_cons (pe_ix ix_tup (pv 1) pe_int (fun _ _ => rfl)) (pa_cons (pe_ix ix_tup (pv 1) pe_int (fun _ _ => rfl)) (pa_cons (pv 2) pa_nil))))))
    pss_nil)
    (pss_cons (ps_if (pt_cmpR op_eq (pe_ix ix_tup (pv 1) pe_int (fun _ _ => rfl)) (pe_glob (v := .int 2) rfl T.c_WORD.2 ⟨_, rfl⟩) (nomark _))
    (pss_one (ps_ret (pe_meth (pv 0) T.Walk_cl T.m_by_signs.me G_by_signs (hr.mono (by omega)) T.m_by_signs.b .nil pass0 (pa_cons (pe_call0 G_letters (hr.mono (by omega)) rfl T.d_letters.m T.d_letters.F.kp T.d_letters.b .nil pass0) (pa_cons (pe_call0 G_letters (hr.mono (by omega)) rfl T.d_letters.m T.d_letters.F.kp T.d_letters.b .nil pass0) (pa_cons (pe_ix ix_tup (pv 1) pe_int (fun _ _ => rfl)) (pa_cons (pe_ix ix_tup (pv 1) pe_int (fun _ _ => rfl)) (pa_cons (pv 2) pa_nil))))))))
    pss_nil)
    (pss_cons (ps_if (pt_cmpR op_eq (pe_ix ix_tup (pv 1) pe_int (fun _ _ => rfl)) (pe_glob (v := .int 3) rfl T.c_EITHER.2 ⟨_, rfl⟩) (nomark _))
    (pss_one (ps_ret (pe_op op_cat (pe_meth (pv 0) T.Walk_cl T.m_through.me G_through (hr.mono (by omega)) T.m_through.b .nil pass0 (pa_cons (pe_ix ix_tup (pv 1) pe_int (fun _ _ => rfl)) (pa_cons (pe_lst (pa_cons (pv 2) pa_nil)) pa_nil))) (pe_meth (pv 0) T.Walk_cl T.m_through.me G_through (hr.mono (by omega)) T.m_through.b .nil pass0 (pa_cons (pe_ix ix_tup (pv 1) pe_int (fun _ _ => rfl)) (pa_cons (pe_lst (pa_cons (pv 2) pa_nil)) pa_nil))))))
    pss_nil)
    (pss_cons (ps_if (pt_cmpR op_eq (pe_ix ix_tup (pv 1) pe_int (fun _ _ => rfl)) (pe_glob (v := .int 4) rfl T.c_OPTIONAL.2 ⟨_, rfl⟩) (nomark _))
    (pss_one (ps_ret (pe_op op_cat (pe_meth (pv 0) T.Walk_cl T.m_through.me G_through (hr.mono (by omega)) T.m_through.b .nil pass0 (pa_cons (pe_ix ix_tup (pv 1) pe_int (fun _ _ => rfl)) (pa_cons (pe_lst (pa_cons (pv 2) pa_nil)) pa_nil))) (pe_lst (pa_cons (pv 2) pa_nil)))))
    pss_nil)
    (pss_one (ps_ret (pe_meth (pv 0) T.Walk_cl T.m_by_times.me G_by_times (hr.mono (by omega)) T.m_by_times.b .nil pass0 (pa_cons (pv 1) (pa_cons (pv 2) pa_nil)))))))))), ?_⟩
  obtain ⟨⟨dx, b, hx, hb⟩, _⟩ := id wk
  obtain ⟨a, ys, rfl, ha⟩ := pt.kind
  refine ⟨_, rfl, a, _, 0, _, rfl, rfl, SqT.of ha, at0, rfl, _, rfl, ?_⟩
  cases p with
  | lit u =>
    obtain ⟨z, tp, tz⟩ := pt
    have ha2 := tp.at
    obtain ⟨c, rfl, hc2⟩ := tz
    simp only [Pc.okSp, VafmsBase.okText, Bool.and_eq_true, decide_eq_true_eq] at okp
    refine kindT rfl ?_
    exact ⟨_, rfl, x, dx, _, rfl, hx, rfl, _, rfl, a, _, 1, _, rfl, rfl, SqT.of ha2, rfl, _, rfl, x, d, c, t, S, n0, k, u, rfl, wk, hc2, by omega, hc, q⟩
  | num lo hi =>
    have ha2 := Tup.at pt
    simp only [Pc.okSp, Bool.and_eq_true, decide_eq_true_eq] at okp
    refine kindF (by simp only [Pc.kind]; decide) ?_
    refine ⟨_, rfl, a, _, 0, _, rfl, rfl, SqT.of ha, at0, rfl, _, rfl, kindT rfl ?_⟩
    exact ⟨_, rfl, x, dx, _, rfl, hx, rfl, _, rfl, a, _, 1, _, rfl, rfl, SqT.of ha2, rfl, _, rfl, a, _, 2, _, rfl, rfl, SqT.of ha2, rfl, _, rfl, x, d, t, S, n0, k, lo, hi, rfl, wk, okp.1, okp.2.1, okp.2.2, hc, hk, q.more (by show 4 ≤ 5; decide)⟩
  | word lo hi =>
    have ha2 := Tup.at pt
    simp only [Pc.okSp, Bool.and_eq_true, decide_eq_true_eq] at okp
    refine kindF (by simp only [Pc.kind]; decide) ?_
    refine ⟨_, rfl, a, _, 0, _, rfl, rfl, SqT.of ha, at0, rfl, _, rfl, kindF (by simp only [Pc.kind]; decide) ?_⟩
    refine ⟨_, rfl, a, _, 0, _, rfl, rfl, SqT.of ha, at0, rfl, _, rfl, kindT rfl ?_⟩
    refine ⟨_, rfl, x, dx, _, rfl, hx, rfl, rfl, fun la H1 s1 hla hla2 => ⟨rfl, fun lb H2 s2 hlb hlb2 => ?_⟩⟩
    have s12 := s1.trans s2
    have ha3 := s12 a _ ha2
    refine ⟨_, rfl, a, _, 1, _, rfl, rfl, SqT.of ha3, rfl, _, rfl, a, _, 2, _, rfl, rfl, SqT.of ha3, rfl, _, rfl, x, d, la, lb, t, S, n0, k, lo, hi, 26, Vafmsb.letters, Vafmsb.letters, VafmsBase.isLetter, VafmsBase.isLetter, rfl, wk.mono s12, s2 la _ hla2, hlb2, by decide, by decide, by decide, by decide, let_is, let_is, okp.1, okp.2.1, okp.2.2, hc, ?_⟩
    exact Went.after (q.more (by show 4 ≤ 5; decide)) (s12.but d) (fun _ => Iff.rfl) (fun _ _ => Iff.rfl) (wk.mono s12)
  | alt f g =>
    obtain ⟨y, z, tp, ry, rz⟩ := pt
    have ha2 := tp.at
    simp only [Pc.okSp, Bool.and_eq_true] at okp
    simp only [Pc.holes] at h8
    simp only [Pc.depth] at hp
    simp only [Pc.cost] at hc
    have hf8 : f.holes ≤ 7 := by omega
    have hg8 : g.holes ≤ 7 := by omega
    refine kindF (by simp only [Pc.kind]; decide) ?_
    refine ⟨_, rfl, a, _, 0, _, rfl, rfl, SqT.of ha, at0, rfl, _, rfl, kindF (by simp only [Pc.kind]; decide) ?_⟩
    refine ⟨_, rfl, a, _, 0, _, rfl, rfl, SqT.of ha, at0, rfl, _, rfl, kindF (by simp only [Pc.kind]; decide) ?_⟩
    refine ⟨_, rfl, a, _, 0, _, rfl, rfl, SqT.of ha, at0, rfl, _, rfl, kindT rfl ?_⟩
    refine ⟨_, rfl, x, dx, _, rfl, hx, rfl, _, rfl, a, _, 1, _, rfl, rfl, SqT.of ha2, rfl, _, rfl, (by show 1 ≤ sizeLine; decide), fun l1 hl1 => ?_⟩
    have s1 := same_new (o := .lst [.int (k : Int)]) hl1
    have pf := pow7 hf8
    have pg := pow7 hg8
    refine ⟨x, d, l1, y, t, S, n0, f, [k], rfl, wk.mono s1, ry.mono s1, by omega, okp.1, by omega, upd_same, fun j hj => by rw [List.mem_singleton] at hj; omega, t24, by rw [List.length_singleton]; omega, by rw [List.length_singleton]; omega, fun l2 rs2 H2 s2 hl2 m2 n2 wk2 => ?_⟩
    rw [List.length_singleton, Nat.one_mul] at n2 wk2
    have s12 := (s1.but d).trans s2
    have sT := s12.t wk
    obtain ⟨⟨dx2, b2, hx2, _⟩, _⟩ := id wk2
    have ha3 := sT a _ ha2
    refine ⟨_, rfl, x, dx2, _, rfl, hx2, rfl, _, rfl, a, _, 2, _, rfl, rfl, SqT.of ha3, rfl, _, rfl, (by show 1 ≤ sizeLine; decide), fun l3 hl3 => ?_⟩
    have s3 := same_new (o := .lst [.int (k : Int)]) hl3
    refine ⟨x, d, l3, z, t, _, _, g, [k], rfl, wk2.mono s3, (rz.monoT sT).mono s3, by omega, okp.2, by omega, upd_same, fun j hj => by rw [List.mem_singleton] at hj; omega, t24, by rw [List.length_singleton]; omega, by rw [List.length_singleton]; omega, fun l4 rs4 H4 s4 hl4 m4 n4 wk4 => ?_⟩
    rw [List.length_singleton, Nat.one_mul] at n4 wk4
    have s34 := (s3.but d).trans s4
    refine ⟨l2, l4, _, _, rfl, rfl, s34 l2 _ (wk2.ne hl2) hl2, hl4, small_le (by rw [ni_length, ni_length]; omega), fun l5 hl5 => ?_⟩
    have s5 := same_new (o := .lst (ni rs2 ++ ni rs4)) hl5
    have s14 := s12.trans s34
    refine q l5 (rs2 ++ rs4) _ (s14.trans (s5.but d)) (fresh_back s14 wk4 hl5) (upd_same.trans (by rw [ni_append])) (fun q => ?_) ?_ ((wk4.mono s5).imp (fun q c => ?_) (by simp only [Pc.cost]; omega))
    · rw [List.mem_append, m2, m4]
      simp only [List.mem_singleton, exists_eq_left]
      exact Iff.rfl
    · simp only [Pc.holes, Nat.pow_succ, List.length_append]
      have p1 := pow_le (Nat.le_max_left f.holes g.holes)
      have p2 := pow_le (Nat.le_max_right f.holes g.holes)
      omega
    · simp only [List.mem_singleton, exists_eq_left]
      rw [or_assoc]
      exact Iff.rfl
  | opt f =>
    obtain ⟨y, tp, ry⟩ := pt
    have ha2 := tp.at
    simp only [Pc.okSp] at okp
    simp only [Pc.holes] at h8
    simp only [Pc.depth] at hp
    simp only [Pc.cost] at hc
    have hf8 : f.holes ≤ 7 := by omega
    refine kindF (by simp only [Pc.kind]; decide) ?_
    refine ⟨_, rfl, a, _, 0, _, rfl, rfl, SqT.of ha, at0, rfl, _, rfl, kindF (by simp only [Pc.kind]; decide) ?_⟩
    refine ⟨_, rfl, a, _, 0, _, rfl, rfl, SqT.of ha, at0, rfl, _, rfl, kindF (by simp only [Pc.kind]; decide) ?_⟩
    refine ⟨_, rfl, a, _, 0, _, rfl, rfl, SqT.of ha, at0, rfl, _, rfl, kindF (by simp only [Pc.kind]; decide) ?_⟩
    refine ⟨_, rfl, a, _, 0, _, rfl, rfl, SqT.of ha, at0, rfl, _, rfl, kindT rfl ?_⟩
    refine ⟨_, rfl, x, dx, _, rfl, hx, rfl, _, rfl, a, _, 1, _, rfl, rfl, SqT.of ha2, rfl, _, rfl, (by show 1 ≤ sizeLine; decide), fun l1 hl1 => ?_⟩
    have s1 := same_new (o := .lst [.int (k : Int)]) hl1
    have pf := pow7 hf8
    refine ⟨x, d, l1, y, t, S, n0, f, [k], rfl, wk.mono s1, ry.mono s1, by omega, okp, by omega, upd_same, fun j hj => by rw [List.mem_singleton] at hj; omega, t24, by rw [List.length_singleton]; omega, by rw [List.length_singleton]; omega, fun l2 rs2 H2 s2 hl2 m2 n2 wk2 => ?_⟩
    rw [List.length_singleton, Nat.one_mul] at n2 wk2
    have s12 := (s1.but d).trans s2
    refine ⟨_, rfl, (by show 1 ≤ sizeLine; decide), fun l3 hl3 => ?_⟩
    have s3 := same_new (o := .lst [.int (k : Int)]) hl3
    refine ⟨l2, l3, _, _, rfl, rfl, s3 l2 _ hl2, upd_same, small_le (by rw [ni_length]; simp only [List.length_singleton]; omega), fun l5 hl5 => ?_⟩
    have s5 := same_new (o := .lst (ni rs2 ++ [V.int (k : Int)])) hl5
    have s13 := s12.trans (s3.but d)
    refine q l5 (rs2 ++ [k]) _ (s13.trans (s5.but d)) (fresh_back s13 (wk2.mono s3) hl5) (upd_same.trans (by rw [ni_append]; rfl)) (fun q => ?_) ?_ ((wk2.mono (s3.trans s5)).imp (fun q c => ?_) (by simp only [Pc.cost]; omega))
    · rw [List.mem_append, m2]
      simp only [List.mem_singleton, exists_eq_left]
      exact Iff.rfl
    · simp only [Pc.holes, Nat.pow_succ, List.length_append, List.length_singleton]
      have p1 := pow_pos5 f.holes
      omega
    · simp only [List.mem_singleton, exists_eq_left]
      exact Iff.rfl
  | rep sp lo hi g =>
    simp only [Pc.depth] at hp
    refine kindF (by simp only [Pc.kind]; decide) ?_
    refine ⟨_, rfl, a, _, 0, _, rfl, rfl, SqT.of ha, at0, rfl, _, rfl, kindF (by simp only [Pc.kind]; decide) ?_⟩
    refine ⟨_, rfl, a, _, 0, _, rfl, rfl, SqT.of ha, at0, rfl, _, rfl, kindF (by simp only [Pc.kind]; decide) ?_⟩
    refine ⟨_, rfl, a, _, 0, _, rfl, rfl, SqT.of ha, at0, rfl, _, rfl, kindF (by simp only [Pc.kind]; decide) ?_⟩
    refine ⟨_, rfl, a, _, 0, _, rfl, rfl, SqT.of ha, at0, rfl, _, rfl, kindF (by simp only [Pc.kind]; decide) ?_⟩
    exact ⟨_, rfl, x, dx, _, rfl, hx, rfl, _, rfl, _, rfl, x, d, .ref a, t, S, n0, k, lo, hi, sp, g, rfl, wk, pt, by omega, okp, h8, hk, t24, hc, q⟩
theorem ok_through {n : Nat} (T : Txt K mg) (G_through : FnOk P w K mg base CX0 (3 * n + 2) T.m_through.f T.m_through.fd ["self", "row", "places"] (spThrough T.cWalk n)) :
    FnOk P w K mg base CX0 (3 * (n + 1) + 2) T.m_through.f T.m_through.fd ["self", "row", "places"] (spThrough T.cWalk (n + 1)) := by
  have G_by_piece := ok_by_piece T G_through
  have G_all_behind := ok_all_behind (P := P) (w := w) (base := base) T
  refine T.m_through.F.ok sc_Walk_through (fun vs H Q E h => ?_) (fun cdv A outer s H vs Q E hr h => ?_)
  · obtain ⟨x, d, a, v, t, S, n0, f, qs, rfl, _⟩ := h
    rfl
  obtain ⟨x, d, a0, v, t, S, n0, f, qs, rfl, wk, ⟨ps, ⟨a, rfl, ha⟩, rl⟩, hn, ok, h8, hq, leq, t24, hc, hz, q⟩ := h
  refine ⟨_, (pss_cons (ps_for PassesOwn.never rfl (pi_tup (pv 1)) (pg_name (i := 3) sc_Walk_through.nd rfl (Or.inr rfl))
    (pss_one (ps_set (i := 2) sc_Walk_through.nd rfl (Or.inl rfl) (pe_meth (pv 0) T.Walk_cl T.m_all_behind.me G_all_behind (hr.mono (by omega)) T.m_all_behind.b .nil pass0 (pa_cons (pe_lc (own := [("at", 4)]) rfl sc_Walk_through.nd (pi_list (pv 2)) (blkOk_by (own := [("at", 4)]) (N := ["self", "row", "places", "piece", "at"]) (sc := defScope s_Walk_through) (by decide +kernel)) (fun _ _ _ _ _ => (pg_name (i := 4) sc_Walk_through.nd rfl (Or.inl rfl))) (fun _ _ _ _ _ => pts_nil) (fun _ _ _ _ _ => (pe_meth (pv 0) T.Walk_cl T.m_by_piece.me G_by_piece (hr.mono (by omega)) T.m_by_piece.b .nil pass0 (pa_cons (pv 3) (pa_cons (pv 4) pa_nil))))) pa_nil)))))
    (pss_one (ps_ret (pv 2)))), ?_⟩
  refine ⟨_, rfl, a, rfl, ⟨_, SqT.of ha⟩, for_tup (K := K) (a := a) (xs := ps) (fun i σ H1 => ∃ (v3 v4 : Option V) (la : Addr) (rs : List Nat) (r : Fmt) (S1 : Nat → Nat → Prop) (n1 : Nat), σ = [some (.ref x), some (.ref a), some (.ref la), v3, v4] ∧ SameBut d H H1 ∧ RowL H1 r (ps.drop i) ∧ Wk T.cWalk x d t H1 S1 n1 ∧ H1 la = some (.lst (ni rs)) ∧
    (∀ q, (∃ k, k ∈ qs ∧ fR f t k q) ↔ ∃ k, k ∈ rs ∧ fR r t k q) ∧ (∀ q c, (S q c ∨ ∃ k, k ∈ qs ∧ fS f t k q c) ↔ S1 q c ∨ ∃ k, k ∈ rs ∧ fS r t k q c) ∧ n1 + rs.length * cost r ≤ n0 + qs.length * cost f ∧ rs.length * 5 ^ r.holes ≤ qs.length * 5 ^ f.holes ∧ (∀ k ∈ rs, k ≤ t.length) ∧
    depth r ≤ depth f ∧ okSp r = true ∧ r.holes ≤ 8) ⟨none, none, a0, qs, f, S, n0, rfl, SameBut.refl d H, rl, wk, hq, fun _ => Iff.rfl, fun _ _ => Iff.rfl, Nat.le_refl _, Nat.le_refl _, leq, Nat.le_refl _, ok, h8⟩ (fun i σ H1 _ h => ?_) (fun i y σ H1 hy h => ?_) (fun σ H1 h => ?_)⟩
  · obtain ⟨_, _, _, _, _, _, _, _, s1, _⟩ := h
    exact SqT.of (s1 a _ (wk.neT ha) ha)
  · obtain ⟨v3, v4, la, rs, r, S1, n1, rfl, s1, rl1, wk1, hla, eR, eS, cn, ln, ler, dp, okr, h81⟩ := h
    rw [List.drop_eq_getElem_cons (List.getElem?_eq_some_iff.mp hy).1, (List.getElem?_eq_some_iff.mp hy).2] at rl1
    rcases row_cases r with rfl | ⟨p, r', rfl⟩
    · cases rl1
    obtain ⟨y', us, e, hpy, rl2⟩ := (rowL_cons p r' _).mp rl1
    injection e with e1 e2
    subst e1 e2
    rw [depth_cons] at dp
    rw [okSp_cons, Bool.and_eq_true] at okr
    rw [holes_cons] at h81 ln
    rw [cost_cons, Nat.mul_add, ← Nat.mul_assoc] at cn
    rw [Nat.pow_add, ← Nat.mul_assoc] at ln
    have ln2 : rs.length * 5 ^ p.holes ≤ 500000 := by
      have := Nat.le_mul_of_pos_right (rs.length * 5 ^ p.holes) (Nat.lt_of_lt_of_le Nat.zero_lt_one (pow_pos5 r'.holes))
      omega
    have ln3 : rs.length ≤ 500000 := by
      have := Nat.le_mul_of_pos_right rs.length (Nat.lt_of_lt_of_le Nat.zero_lt_one (pow_pos5 p.holes))
      omega
    obtain ⟨⟨dx, b, hx, hb⟩, _⟩ := id wk1
    refine ⟨_, rfl, x, dx, _, rfl, hx, rfl, _, rfl, la, rfl, ⟨_, SqL.of hla⟩, lc_walk (K := K) (m := p.cost) (L := 5 ^ p.holes) (A := fun k q => pR p t k q) (B := fun k q c => pS p t k q c) wk1 hla (by omega) (fun k hk H2 S2 n2 s2 wk2 nl Qy went => ?_) (fun D H2 ys rss hD s2 hD2 al mem len wk2 => ?_) gN⟩
    · obtain ⟨⟨dx2, b2, hx2, _⟩, _⟩ := id wk2
      exact ⟨rfl, _, rfl, x, dx2, _, rfl, hx2, rfl, _, rfl, _, rfl, x, d, y, t, S2, n2, k, p, rfl, wk2, hpy.monoT (s2.t wk1), by omega, okr.1, by omega, ler k hk, t24, by omega, went⟩
    have small : ∀ q ∈ rss.flatten, q ≤ t.length := fun q hq => by
      obtain ⟨k, hk, h⟩ := (mem q).mp hq
      exact pR_le okr.1 (ler k hk) h
    refine ⟨.ref x, D, ys, rss, rfl, hD2, al, fun q hq => by have := small q hq; omega, by omega, fun l us3 H3 s3 hl hl3 srt mem2 => ?_⟩
    have ul : us3.length ≤ rs.length * 5 ^ p.holes := by
      have := lt_sub us3 rss.flatten srt (fun q hq => (mem2 q).mp hq)
      omega
    have mem3 : ∀ q, q ∈ us3 ↔ ∃ k, k ∈ rs ∧ pR p t k q := fun q => (mem2 q).trans (mem q)
    have usle : ∀ k ∈ us3, k ≤ t.length := fun k hk => small k ((mem2 k).mp hk)
    have s23 : SameBut d H1 H3 := s2.trans (s3.but d)
    refine ⟨_, _, l, us3, r', _, _, rfl, s1.trans s23, rl2.monoT (s23.t wk1), wk2.mono s3, hl3, fun q => (eR q).trans ?_, fun q c => (eS q c).trans ?_, ?_, ?_, usle, by omega, okr.2, by omega⟩
    · constructor
      · rintro ⟨k, hk, h⟩
        obtain ⟨m, h1, h2, h3⟩ := (fR_cons okr.1 (ler k hk)).mp h
        exact ⟨m, (mem3 m).mpr ⟨k, hk, h2⟩, h3⟩
      · rintro ⟨m, hm, h⟩
        obtain ⟨k, hk, h2⟩ := (mem3 m).mp hm
        exact ⟨k, hk, (fR_cons okr.1 (ler k hk)).mpr ⟨m, usle m hm, h2, h⟩⟩
    · rw [or_assoc]
      refine or_congr_right ?_
      constructor
      · rintro ⟨k, hk, h⟩
        rcases (fS_cons okr.1 (ler k hk)).mp h with h | ⟨m, h1, h2, h3⟩
        · exact .inl ⟨k, hk, h⟩
        · exact .inr ⟨m, (mem3 m).mpr ⟨k, hk, h2⟩, h3⟩
      · rintro (⟨k, hk, h⟩ | ⟨m, hm, h⟩)
        · exact ⟨k, hk, (fS_cons okr.1 (ler k hk)).mpr (.inl h)⟩
        · obtain ⟨k, hk, h2⟩ := (mem3 m).mp hm
          exact ⟨k, hk, (fS_cons okr.1 (ler k hk)).mpr (.inr ⟨m, usle m hm, h2, h⟩)⟩
    · have := Nat.mul_le_mul_right (cost r') ul
      omega
    · exact Nat.le_trans (Nat.mul_le_mul_right _ ul) ln
  · obtain ⟨v3, v4, la, rs, r, S1, n1, rfl, s1, rl1, wk1, hla, eR, eS, cn, ln, ler, dp, okr, h81⟩ := h
    rw [List.drop_length] at rl1
    rcases row_cases r with rfl | ⟨p, r', rfl⟩
    · refine ⟨_, rfl, q la rs H1 s1 hla (fun q => ?_) ?_ (wk1.imp (fun q c => ?_) ?_)⟩
      · rw [eR]
        simp only [fR_done]
        exact ⟨fun h => ⟨q, h, rfl⟩, fun ⟨k, h, e⟩ => by rw [e]; exact h⟩
      · simpa [Fmt.holes] using ln
      · rw [eS]
        exact ⟨.inl, fun h => h.elim id fun ⟨k, _, z⟩ => (fS_done z).elim⟩
      · have : rs.length * cost .done = 0 := by simp [cost]
        omega
    · obtain ⟨x', us, e, _⟩ := (rowL_cons p r' _).mp rl1
      cases e
theorem through_ok (T : Txt K mg) : ∀ n : Nat, FnOk P w K mg base CX0 (3 * n + 2) T.m_through.f T.m_through.fd ["self", "row", "places"] (spThrough T.cWalk n)
  | 0 => none_left fun vs H Q E h => by
    obtain ⟨x, d, a, v, t, S, n0, f, qs, _, _, _, h, _⟩ := h
    omega
  | n + 1 => ok_through T (through_ok T n)
end
end Asc
namespace Asc
open PySem PySem.Spec PyProof.Rows L2
open VafmsBase (Fmt)
theorem fresh0 {l : Addr} {H H1 : Hp} (s : Same H H1) (hl : H1 l = none) : H l = none := by
  cases h : H l with
  | none => rfl
  | some u =>
    have := s l u h
    rw [hl] at this
    cases this
/-- a format within all limits -/
structure Fine (f : Fmt) : Prop where
  ok : okSp f = true
  holes : f.holes ≤ 8
  size : f.size ≤ 14
  nb : bad f = false
theorem Fine.deep {f : Fmt} (h : Fine f) : depth f < 15 := by
  have := depth_le_size f
  have := h.size
  omega
theorem Fine.wide {f : Fmt} (h : Fine f) : wide f ≤ 448 := by
  have := wide_le f h.ok h.nb
  have := h.size
  omega
/-- a Walk that's done -/
structure Wlk (C x : Addr) (t : List Nat) (f : Fmt) (H : Hp) : Prop where
  ins : ∃ dx b d e kvs n rs, H x = some (.ins C dx [("text", .ref b), ("wished", .ref d), ("ends", .ref e)]) ∧ H b = some (.tup (ni t)) ∧ H d = some (.dK kvs) ∧ DW H kvs (fun q c => fS f t 0 q c) n ∧ n ≤ 9000000 ∧ H e = some (.lst (ni rs)) ∧ (∀ q, q ∈ rs ↔ fR f t 0 q) ∧ rs.length ≤ 500000
theorem Wlk.mono {C x : Addr} {t : List Nat} {f : Fmt} {H H1 : Hp} (s : Same H H1) (h : Wlk C x t f H) : Wlk C x t f H1 := by
  obtain ⟨dx, b, d, e, kvs, n, rs, h1, h2, h3, h4, h5, h6, h7⟩ := h
  exact ⟨dx, b, d, e, kvs, n, rs, s x _ h1, s b _ h2, s d _ h3, h4.monoT s.t, h5, s e _ h6, h7⟩
theorem keys_of {H : Hp} {S : Nat → Nat → Prop} {n : Nat} {kvs : List (Key × V)} (h : DW H kvs S n) : ∃ ks : List Nat, kvs.map (fun kv => kV kv.1) = ni ks ∧ ks.length ≤ n ∧ ∀ q, q ∈ ks ↔ ∃ c, S q c := by
  have e : ∀ l : List (Key × V), (∀ kv ∈ l, ∃ q : Nat, kv.1 = .inl (q : Int)) → ∃ ks : List Nat, l.map (fun kv => kV kv.1) = ni ks ∧ ks.length = l.length ∧ ∀ q : Nat, q ∈ ks ↔ (.inl (q : Int) : Key) ∈ l.map (·.1) := by
    intro l
    induction l with
    | nil => exact fun _ => ⟨[], rfl, rfl, fun q => by simp⟩
    | cons kv r ih =>
      intro hk
      obtain ⟨q, hq⟩ := hk kv List.mem_cons_self
      obtain ⟨ks, e1, e2, e3⟩ := ih fun x hx => hk x (List.mem_cons_of_mem _ hx)
      refine ⟨q :: ks, ?_, by simp [e2], fun p => ?_⟩
      · rw [List.map_cons, e1, hq]
        rfl
      · rw [List.map_cons, List.mem_cons, List.mem_cons, e3, hq]
        refine or_congr_left ?_
        constructor
        · rintro rfl
          rfl
        · intro z
          injection z with z
          omega
  obtain ⟨ks, e1, e2, e3⟩ := e kvs h.key
  refine ⟨ks, e1, by have := h.len; omega, fun q => ?_⟩
  rw [e3]
  constructor
  · intro m
    cases v : valV kvs (.inl (q : Int)) with
    | none => exact absurd m (valV_not v)
    | some v' =>
      obtain ⟨ws, _, ne, _, hw⟩ := h.val q v' v
      obtain ⟨c, hc⟩ := List.exists_mem_of_ne_nil _ ne
      exact ⟨c, (hw c).mp hc⟩
  · rintro ⟨c, hc⟩
    cases v : valV kvs (.inl (q : Int)) with
    | none => exact absurd hc (h.non q v c)
    | some v' => exact valV_in v
section
variable {P : Program} {w : World} {K : PySem.W.Frag} {mg : Str → Option PySem.Value} {base : Heap}
def spWalkInit (C : Addr) : Sp := fun vs H Q _ => ∃ (x dx : Addr) (v y : V) (f : Fmt) (t : List Nat), vs = [.ref x, v, y] ∧ H x = some (.ins C dx []) ∧ RowAt H f v ∧ Fine f ∧ TN H y t ∧ t.length ≤ 24 ∧
  ∀ H1, SameBut x H H1 → Wlk C x t f H1 → Q .non H1
theorem ok_Walk_init (T : Txt K mg) : FnOk P w K mg base CX0 48 T.Walk_init.f T.Walk_init.fd ["self", "row", "text"] (spWalkInit T.cWalk) := by
  have G_through := through_ok (P := P) (w := w) (base := base) T 15
  refine T.Walk_init.F.ok sc_Walk_init (fun vs H Q E h => ?_) (fun cdv A outer s H vs Q E hr h => ?_)
  · obtain ⟨x, dx, v, y, f, t, rfl, _⟩ := h
    rfl
  obtain ⟨x, dx, v, y, f, t, rfl, hx, rf, fine, ⟨b, rfl, hb⟩, t24, q⟩ := h
  refine ⟨_, (pss_cons (ps_fld (pv 0) (pv 2) rfl)
    (pss_cons (ps_fld (pv 0) pe_dnewK rfl)
    (pss_one (ps_fld (pv 0) (pe_meth (pv 0) T.Walk_cl T.m_through.me G_through (hr.mono (by omega)) T.m_through.b .nil pass0 (pa_cons (pv 1) (pa_cons (pe_lst (pa_cons pe_int pa_nil)) pa_nil))) rfl)))), ?_⟩
  -- self.text
  refine ⟨_, rfl, _, rfl, x, _, dx, [], rfl, hx, T.Walk_cl, T.nW_text, by decide, ?_⟩
  have s1 : SameBut x H (upd H x (.ins T.cWalk dx (putF "text" (.ref b) []))) := (SameBut.refl x H).put
  have hb1 := s1 b _ (ne_of hb hx (by intro z; cases z)) hb
  have rf1 := rf.monoT (H1 := upd H x (.ins T.cWalk dx (putF "text" (.ref b) []))) fun a xs h => s1 a _ (ne_of h hx (by intro z; cases z)) h
  have hx1 : upd H x (.ins T.cWalk dx (putF "text" (.ref b) [])) x = some (.ins T.cWalk dx [("text", .ref b)]) := upd_same
  generalize upd H x (.ins T.cWalk dx (putF "text" (.ref b) [])) = H1 at *
  -- self.wished
  refine fun d hd => ?_
  have s2 := same_new (o := .dK []) hd
  have hd2 : upd H1 d (.dK []) d = some (.dK []) := upd_same
  have hx2 := s2 x _ hx1
  have hb2 := s2 b _ hb1
  have rf2 := rf1.mono s2
  have s12 : SameBut x H (upd H1 d (.dK [])) := s1.trans (s2.but x)
  have dn : H d = none ∨ d = x := by
    cases h : H d with
    | none => exact .inl rfl
    | some u =>
      by_cases e : d = x
      · exact .inr e
      · have := s1 d u e h
        rw [hd] at this
        cases this
  have dx' : d ≠ x := fun e => by
    rw [e, hx1] at hd
    cases hd
  have dn' : H d = none := dn.elim id fun e => (dx' e).elim
  generalize upd H1 d (.dK []) = H2 at *
  refine ⟨_, rfl, x, _, dx, [("text", .ref b)], rfl, hx2, T.Walk_cl, T.nW_wished, by show 1 < 1000; decide, ?_⟩
  have s3 : SameBut x H2 (upd H2 x (.ins T.cWalk dx (putF "wished" (.ref d) [("text", .ref b)]))) := (SameBut.refl x H2).put
  have hx3 : upd H2 x (.ins T.cWalk dx (putF "wished" (.ref d) [("text", .ref b)])) x = some (.ins T.cWalk dx [("text", .ref b), ("wished", .ref d)]) := upd_same
  have hb3 := s3 b _ (ne_of hb2 hx2 (by intro z; cases z)) hb2
  have hd3 := s3 d _ dx' hd2
  have rf3 := rf2.monoT (H1 := upd H2 x (.ins T.cWalk dx (putF "wished" (.ref d) [("text", .ref b)]))) fun a xs h => s3 a _ (ne_of h hx2 (by intro z; cases z)) h
  have s13 := s12.trans s3
  generalize upd H2 x (.ins T.cWalk dx (putF "wished" (.ref d) [("text", .ref b)])) = H3 at *
  have wk3 : Wk T.cWalk x d t H3 (fun _ _ => False) 0 := ⟨⟨dx, b, hx3, hb3⟩, [], hd3, ⟨fun q v e => (by rw [valV_nil] at e; cases e), fun q e c z => z, fun kv h => (List.not_mem_nil h).elim, Nat.le_refl _⟩⟩
  -- self.ends
  refine ⟨_, rfl, x, dx, _, rfl, hx3, rfl, _, rfl, (by show 1 ≤ sizeLine; decide), fun l hl => ?_⟩
  have s4 := same_new (o := .lst [.int 0]) hl
  have cs := cost_small fine.ok fine.size fine.holes
  have p8 := pow8 fine.holes
  refine ⟨x, d, l, v, t, _, 0, f, [0], rfl, wk3.mono s4, rf3.mono s4, fine.deep, fine.ok, fine.holes, upd_same, fun k hk => by rw [List.mem_singleton] at hk; omega, t24, by rw [List.length_singleton]; omega, by rw [List.length_singleton]; omega, fun e rs H5 s5 he mem len wk5 => ?_⟩
  rw [List.length_singleton, Nat.one_mul] at len wk5
  have wk5' := wk5.imp (S' := fun q c => fS f t 0 q c) (n' := 9000000) (fun q c => by simp) (by omega)
  obtain ⟨⟨dx5, b5, hx5, hb5⟩, kvs, hd5, dw⟩ := wk5'
  have s35 : SameBut d H3 H5 := (s4.but d).trans s5
  have e5 : dx5 = dx ∧ b5 = b := by
    have := s35 x _ (fun z => dx' z.symm) hx3
    rw [hx5] at this
    injection this with this
    injection this with z1 z2 z3
    injection z3 with z4 z5
    injection z4 with z6 z7
    injection z7 with z8
    exact ⟨z2, z8⟩
  obtain ⟨rfl, rfl⟩ := e5
  refine ⟨_, rfl, x, _, _, _, rfl, hx5, T.Walk_cl, T.nW_ends, by show 2 < 1000; decide, ?_⟩
  refine q _ ?_ ?_
  · refine SameBut.put (fun a u n h => ?_)
    have : a ≠ d := fun z => by
      rw [z, dn'] at h
      cases h
    exact s35 a u this (s13 a u n h)
  · have st : SameT H5 (upd H5 x (.ins T.cWalk dx5 (putF "ends" (.ref e) [("text", .ref b5), ("wished", .ref d)]))) := fun a xs h => by
      rw [upd_ne (ne_of h hx5 (by intro z; cases z))]
      exact h
    refine ⟨dx5, b5, d, e, kvs, 9000000, rs, upd_same, ?_, ?_, dw.monoT st, Nat.le_refl _, ?_, fun q => ?_, by omega⟩
    · rw [upd_ne (ne_of hb5 hx5 (by intro z; cases z))]
      exact hb5
    · rw [upd_ne (ne_of hd5 hx5 (by intro z; cases z))]
      exact hd5
    · rw [upd_ne (ne_of he hx5 (by intro z; cases z))]
      exact he
    · rw [mem]
      simp
def spFurthest (C : Addr) : Sp := fun vs H Q _ => ∃ (x : Addr) (f : Fmt) (t : List Nat), vs = [.ref x] ∧ Wlk C x t f H ∧ Fine f ∧
  ∀ (m : Nat) H1, Same H H1 → (fR f t 0 m ∨ ∃ c, fS f t 0 m c) → (∀ q, (fR f t 0 q ∨ ∃ c, fS f t 0 q c) → q ≤ m) → Q (.int (m : Int)) H1
theorem ok_furthest (T : Txt K mg) : FnOk P w K mg base CX0 1 T.m_furthest.f T.m_furthest.fd ["self"] (spFurthest T.cWalk) := by
  refine T.m_furthest.F.ok sc_Walk_furthest (fun vs H Q E h => ?_) (fun cdv A outer s H vs Q E hr h => ?_)
  · obtain ⟨x, f, t, rfl, _⟩ := h
    rfl
  obtain ⟨x, f, t, rfl, ⟨dx, b, d, e, kvs, n, rs, hx, hb, hd, dw, hn, he, mem, len⟩, fine, q⟩ := h
  refine ⟨_, (pss_one (ps_ret (pe_callB (cr_max rfl) (by rfl) T.b_max (by decide +kernel) (pa_cons (pe_op op_cat (pe_callTy (call_listD rfl) (by rfl) T.b_list (by decide +kernel) (pa_cons (pe_fld (pv 0) rfl) pa_nil)) (pe_fld (pv 0) rfl)) pa_nil)))), ?_⟩
  obtain ⟨ks, ek, kl, km⟩ := keys_of dw
  refine ⟨_, rfl, x, _, _, _, _, rfl, hx, T.Walk_cl, T.nW_wished, rfl, d, kvs, rfl, .inl hd, fun p1 hp1 => ?_⟩
  rw [ek]
  have s1 := same_new (o := .lst (ni ks)) hp1
  refine ⟨_, rfl, x, _, _, _, _, rfl, s1 x _ hx, T.Walk_cl, T.nW_ends, rfl, p1, e, _, _, rfl, rfl, upd_same, s1 e _ he, Nat.le_trans (m := 9500000) (by rw [ni_length, ni_length]; omega) (by decide), fun p2 hp2 => ?_⟩
  have s2 := same_new (o := .lst (ni ks ++ ni rs)) hp2
  rw [← ni_append] at s2 ⊢
  have all : ∀ q, q ∈ ks ++ rs ↔ fR f t 0 q ∨ ∃ c, fS f t 0 q c := fun q => by
    rw [List.mem_append, km, mem]
    exact Or.comm
  refine ⟨p2, (ks ++ rs).map fun n : Nat => (n : Int), rfl, SqL.of (upd_same.trans (by rw [← ni_ints])), ?_, fun m h1 h2 => ?_⟩
  · rw [List.length_map]
    refine List.length_pos_iff.mpr fun z => ?_
    rcases ne_all t f fine.ok 0 (Nat.zero_le _) with ⟨q, h⟩ | ⟨q, c, h⟩
    · have := (all q).mpr (.inl h)
      rw [z] at this
      cases this
    · have := (all q).mpr (.inr ⟨c, h⟩)
      rw [z] at this
      cases this
  · obtain ⟨k, hk, rfl⟩ := List.mem_map.mp h1
    refine q k _ (s1.trans s2) ((all k).mp hk) (fun q hq => ?_)
    have := h2 (q : Int) (List.mem_map.mpr ⟨q, (all q).mpr hq, rfl⟩)
    omega
def spWishedAt (C : Addr) : Sp := fun vs H Q _ => ∃ (x : Addr) (f : Fmt) (t : List Nat) (m : Nat), vs = [.ref x, .int (m : Int)] ∧ Wlk C x t f H ∧ Fine f ∧
  ∀ l ws H1, Same H H1 → H l = none → H1 l = some (.lst (ni ws)) → ws.Pairwise (· < ·) → (∀ c, c ∈ ws ↔ fS f t 0 m c) → Q (.ref l) H1
theorem ok_wished_at (T : Txt K mg) : FnOk P w K mg base CX0 1 T.m_wished_at.f T.m_wished_at.fd ["self", "place"] (spWishedAt T.cWalk) := by
  refine T.m_wished_at.F.ok sc_Walk_wished_at (fun vs H Q E h => ?_) (fun cdv A outer s H vs Q E hr h => ?_)
  · obtain ⟨x, f, t, m, rfl, _⟩ := h
    rfl
  obtain ⟨x, f, t, m, rfl, ⟨dx, b, d, e, kvs, n, rs, hx, hb, hd, dw, hn, he, mem, len⟩, fine, q⟩ := h
  refine ⟨_, (pss_one (ps_ret (pe_callB (cr_sortS rfl) (by rfl) T.b_sorted (by decide +kernel) (pa_cons (pe_callTy (cr_setI rfl) (by rfl) T.b_set (by decide +kernel) (pa_cons (pe_dget2 (hu_of hr) (pe_fld (pv 0) rfl) (pv 1) (pe_tup pa_nil) ⟨by rfl, by rfl, by rfl, by rfl⟩) pa_nil)) pa_nil)))), ?_⟩
  refine ⟨_, rfl, x, _, _, _, _, rfl, hx, T.Walk_cl, T.nW_wished, rfl, d, rfl, .inl ⟨kvs, .of hd⟩, _, rfl, (by show 0 ≤ sizeLine; decide), fun p1 hp1 => ?_⟩
  have s1 := same_new (o := .tup []) hp1
  refine ⟨_, DGet.k (k := .inl (m : Int)) (s1 d _ hd), ?_⟩
  have old : ∃ os : List Nat, TN (upd H p1 (.tup [])) ((valV kvs (.inl (m : Int))).getD (.ref p1)) os ∧ ∀ c, c ∈ os ↔ fS f t 0 m c := by
    cases h : valV kvs (.inl (m : Int)) with
    | none => exact ⟨[], Tup.of upd_same, fun c => ⟨fun z => (List.not_mem_nil z).elim, fun z => (dw.non m h c z).elim⟩⟩
    | some v =>
      obtain ⟨us, tv, _, _, l2⟩ := dw.val m v h
      exact ⟨us, tv.mono s1, l2⟩
  obtain ⟨os, ⟨p2, e2, hp2⟩, om⟩ := old
  rw [ni_ints] at hp2
  refine ⟨p2, _, by rw [e2], .inr (SqT.of hp2), fun k hk => ?_, fun st c hst => ⟨st, _, c, rfl, upd_same, fun ns p hp hm hpn => ?_⟩⟩
  · obtain ⟨q, hq, rfl⟩ := List.mem_map.mp hk
    have := wish_by t f fine.ok 0 m q (Nat.zero_le _) ((om q).mp hq)
    unfold By at this
    omega
  · obtain ⟨ws, e3, hs, mem2⟩ := nat_of ns (fun k hk => by
      have := (hm k).mp hk
      simp only [decide_eq_true_eq, List.mem_map] at this
      obtain ⟨q, _, rfl⟩ := this
      omega) hp
    have s3 := s1.trans (same_new (o := SetO w st (fun j => decide (j ∈ List.map (fun n : Nat => (n : Int)) os)) c) hst)
    refine q p ws _ (s3.trans (same_new (o := .lst (ns.map V.int)) hpn)) (fresh0 s3 hpn) (upd_same.trans (by rw [e3])) hs (fun c => ?_)
    rw [mem2, hm, decide_eq_true_eq, List.mem_map, ← om]
    constructor
    · rintro ⟨z, h1, h2⟩
      have : z = c := by omega
      rw [← this]
      exact h1
    · intro h
      exact ⟨c, h, rfl⟩
def spGoesOnBy (C : Addr) : Sp := fun vs H Q _ => ∃ (x : Addr) (f : Fmt) (t : List Nat), vs = [.ref x] ∧ Wlk C x t f H ∧ Fine f ∧ ∀ l H1, Same H H1 → H l = none → H1 l = some (.lst (ni (Vafmsb.onward f t))) → Q (.ref l) H1
theorem ok_goes_on_by (T : Txt K mg) : FnOk P w K mg base CX0 2 T.m_goes_on_by.f T.m_goes_on_by.fd ["self"] (spGoesOnBy T.cWalk) := by
  have G_furthest := ok_furthest (P := P) (w := w) (base := base) T
  have G_wished_at := ok_wished_at (P := P) (w := w) (base := base) T
  refine T.m_goes_on_by.F.ok sc_Walk_goes_on_by (fun vs H Q E h => ?_) (fun cdv A outer s H vs Q E hr h => ?_)
  · obtain ⟨x, f, t, rfl, _⟩ := h
    rfl
  obtain ⟨x, f, t, rfl, wl, fine, q⟩ := h
  refine ⟨_, (pss_one (ps_ret (pe_ifExp (pt_cmpR op_eq (pe_meth0 (pv 0) T.Walk_cl T.m_furthest.me G_furthest (hr.mono (by omega)) T.m_furthest.b .nil pass0) (pe_callB call_len_seq (by rfl) T.b_len PySem.boot_len (pa_cons (pe_fld (pv 0) rfl) pa_nil)) (nomark _)) (pe_meth (pv 0) T.Walk_cl T.m_wished_at.me G_wished_at (hr.mono (by omega)) T.m_wished_at.b .nil pass0 (pa_cons (pe_callB call_len_seq (by rfl) T.b_len PySem.boot_len (pa_cons (pe_fld (pv 0) rfl) pa_nil)) pa_nil)) (pe_lst pa_nil)))), ?_⟩
  obtain ⟨dx, b, d, e, kvs, n, rs, hx, hb, hd, dw, hn, he, mem, len⟩ := id wl.ins
  have nl : (ni t).length = t.length := ni_length _
  refine ⟨_, rfl, x, dx, _, rfl, hx, rfl, x, f, t, rfl, wl, fine, fun m H1 s1 hm hle => ?_⟩
  obtain ⟨f1, f2, f3⟩ := far_is fine.ok mem hm hle
  have hx1 := s1 x _ hx
  have hb1 := s1 b _ hb
  refine ⟨_, rfl, x, _, _, _, _, rfl, hx1, T.Walk_cl, T.nW_text, rfl, b, _, rfl, .inr (SqT.of hb1), rfl, _, rfl, ?_⟩
  rw [nl]
  have ow : Vafmsb.onward f t = if m = t.length then (Vafmsb.far f t).wished else [] := by
    unfold Vafmsb.onward
    simp only [f1]
  rw [ow] at q
  by_cases c : m = t.length
  · refine ifT (decide_eq_true (by rw [c])) ?_
    rw [if_pos c] at q
    refine ⟨_, rfl, x, dx, _, rfl, hx1, rfl, _, rfl, x, _, _, _, _, rfl, hx1, T.Walk_cl, T.nW_text, rfl, b, _, rfl, .inr (SqT.of hb1), x, f, t, t.length, by rw [nl]; rfl, wl.mono s1, fine, fun l ws H2 s2 hl hl2 hs hw => ?_⟩
    have := f3 ws hs (fun k => by rw [hw, c])
    rw [this] at q
    exact q l H2 (s1.trans s2) (fresh0 s1 hl) hl2
  · refine ifF (decide_eq_false (by intro z; injection z with z; omega)) ?_
    rw [if_neg c] at q
    refine ⟨(by show 0 ≤ sizeLine; decide), fun l hl => ?_⟩
    exact q l _ (s1.trans (same_new hl)) (fresh0 s1 hl) upd_same
end
end Asc
namespace Asc
open PySem PySem.Spec PyProof.Rows L2
open VafmsBase (Fmt)
theorem made_same {x dx : Addr} {H H3 : Hp} {o o2 : HO} (hx : H x = none) (hdx : H dx = none) (s : SameBut x (upd (upd H dx o) x o2) H3) : Same H H3 := fun b u h => by
  have n1 : b ≠ x := ne_of_none h hx
  have n2 : b ≠ dx := ne_of_none h hdx
  refine s b u n1 ?_
  rw [upd_ne n1, upd_ne n2]
  exact h
theorem made_same0 {x dx : Addr} {H : Hp} {o o2 : HO} (hx : H x = none) (hdx : H dx = none) : Same H (upd (upd H dx o) x o2) := fun b u h => by
  rw [upd_ne (ne_of_none h hx), upd_ne (ne_of_none h hdx)]
  exact h
theorem onward_len (f : Fmt) (t : List Nat) : (Vafmsb.onward f t).length ≤ 127 := by
  have : (Vafmsb.far f t).wished.length ≤ 127 := by
    show (Vafmsb.setOf _).length ≤ 127
    unfold Vafmsb.setOf
    exact Nat.le_trans (List.length_filter_le _ _) (by simp)
  unfold Vafmsb.onward
  simp only
  split
  · exact this
  · exact Nat.zero_le _
theorem all_ints (ws : List Nat) : All2 (fun v (d : Nat) => v = V.int (d : Int)) (ni ws) ws := by
  induction ws with
  | nil => exact .nil
  | cons b ws ih => exact .cons rfl ih
theorem longer_len {f : Fmt} {ts : List (List Nat)} {k : Nat} (h : ∀ t ∈ ts, t.length = k) : ∀ t ∈ Vafmsb.longer f ts, t.length = k + 1 := fun t ht => by
  unfold Vafmsb.longer at ht
  have ht := List.mem_of_mem_take ht
  obtain ⟨u, hu, ht⟩ := List.mem_flatMap.mp ht
  obtain ⟨b, _, rfl⟩ := List.mem_map.mp ht
  rw [List.length_append, h u hu]
  rfl
theorem longer_few {f : Fmt} {ts : List (List Nat)} : (Vafmsb.longer f ts).length ≤ 40 := by
  unfold Vafmsb.longer
  rw [List.length_take]
  exact Nat.min_le_left _ _
theorem kept_len (f : Fmt) : ∀ n, (∀ t ∈ Vafmsb.kept f n, t.length = n) ∧ (Vafmsb.kept f n).length ≤ 40
  | 0 => ⟨fun t ht => by
      have : t = [] := by simpa [Vafmsb.kept] using ht
      rw [this]
      rfl, by simp [Vafmsb.kept]⟩
  | n + 1 => ⟨longer_len (kept_len f n).1, longer_few⟩
section
variable {P : Program} {w : World} {K : PySem.W.Frag} {mg : Str → Option PySem.Value} {base : Heap}
def spLonger : Sp := fun vs H Q _ => ∃ (v r : V) (f : Fmt) (ts : List (List Nat)), vs = [v, r] ∧ RowAt H f v ∧ Fine f ∧ TNs H r ts ∧ ts.length ≤ 40 ∧ (∀ t ∈ ts, t.length ≤ 20) ∧ ∀ u H1, Same H H1 → TNs H1 u (Vafmsb.longer f ts) → Q u H1
theorem ok_longer_ones (T : Txt K mg) : FnOk P w K mg base CX0 60 T.d_longer_ones.f T.d_longer_ones.fd ["row", "texts"] spLonger := by
  have G_Walk_init := ok_Walk_init (P := P) (w := w) (base := base) T
  have G_goes_on_by := ok_goes_on_by (P := P) (w := w) (base := base) T
  refine T.d_longer_ones.F.ok sc_longer_ones (fun vs H Q E h => ?_) (fun cdv A outer s H vs Q E hr h => ?_)
  · obtain ⟨v, r, f, ts, rfl, _⟩ := h
    rfl
  obtain ⟨v, r, f, ts, rfl, rf, fine, ⟨xs, ⟨a, rfl, ha⟩, al⟩, h40, h20, q⟩ := h
  refine ⟨_, (pss_cons (ps_set (i := 2) sc_longer_ones.nd rfl (Or.inl rfl) (pe_lst pa_nil))
    (pss_cons (ps_for PassesOwn.never rfl (pi_list (pv 1)) (pg_name (i := 3) sc_longer_ones.nd rfl (Or.inr rfl))
    (pss_one (ps_expr (pe_bm PySem.F.plainAttrs_list PySem.F.slot_list_extend PySem.F.type_list_extend mt_extend (pv 2) (pa_cons (pe_lc (own := [("byte", 4)]) rfl sc_longer_ones.nd (pi_list (pe_meth0 (pe_make T.Walk_init.mks G_Walk_init (hr.mono (by omega)) rfl T.Walk_g T.Walk_init.b .nil pass0 (pa_cons (pv 0) (pa_cons (pv 3) pa_nil))) T.Walk_cl T.m_goes_on_by.me G_goes_on_by (hr.mono (by omega)) T.m_goes_on_by.b .nil pass0)) (blkOk_by (own := [("byte", 4)]) (N := ["row", "texts", "found", "text", "byte"]) (sc := defScope s_longer_ones) (by decide +kernel)) (fun _ _ _ _ _ => (pg_name (i := 4) sc_longer_ones.nd rfl (Or.inl rfl))) (fun _ _ _ _ _ => pts_nil) (fun _ _ _ _ _ => (pe_op op_cat2 (pv 3) (pe_tup (pa_cons (pv 4) pa_nil))))) pa_nil)))))
    (pss_one (ps_ret (pe_slice sl_list (pv 2) po_none (po_some (pe_glob (v := .int 40) rfl T.c_MOST_KEPT.2 ⟨_, rfl⟩))))))), ?_⟩
  refine ⟨(by show 0 ≤ sizeLine; decide), fun l hl => ?_⟩
  have s0 := same_new (o := .lst []) hl
  refine ⟨_, rfl, a, rfl, ⟨_, SqL.of (s0 a _ ha)⟩, for_list (K := K) (a := a) (xs := xs) (fun i σ H1 => ∃ (v3 v4 : Option V) (ys : List V), σ = [some v, some (.ref a), some (.ref l), v3, v4] ∧ Same H H1 ∧ H1 l = some (.lst ys) ∧
      All2 (TN H1) ys ((ts.take i).flatMap fun t => (Vafmsb.onward f t).map fun b => t ++ [b])) ⟨none, none, [], rfl, s0, upd_same, .nil⟩ (fun i σ H1 _ h => ?_) (fun i y σ H1 hy h => ?_) (fun σ H1 h => ?_)⟩
  · obtain ⟨_, _, _, _, s1, _⟩ := h
    exact SqL.of (s1 a _ ha)
  · obtain ⟨v3, v4, ys, rfl, s1, hl1, ay⟩ := h
    obtain ⟨t, ht, ty⟩ := al.get hy
    have tm := List.mem_of_getElem? ht
    have ylen : ys.length ≤ 40 * 127 := by
      rw [ay.length]
      refine Nat.le_trans (flat_len _ 127 _ (fun u _ => by rw [List.length_map]; exact onward_len f u)) ?_
      rw [List.length_take]
      exact Nat.mul_le_mul_right _ (by omega)
    have ol := onward_len f t
    have t20 := h20 t tm
    refine ⟨_, rfl, .inl ⟨rfl, _, SqL.of hl1⟩, _, rfl, _, rfl, fun x dx hx hdx nx => ?_⟩
    have s2 := made_same0 (o := .own x) (o2 := .ins T.cWalk dx []) hx hdx
    refine ⟨x, dx, v, y, f, t, rfl, upd_same, (rf.mono s1).mono s2, fine, (ty.mono s1).mono s2, by omega, fun H3 s3 wl => ⟨rfl, ?_⟩⟩
    have s13 := made_same hx hdx s3
    obtain ⟨dx3, b3, d3, e3, kvs, n3, rs3, hx3, _⟩ := id wl.ins
    refine ⟨x, dx3, _, rfl, hx3, rfl, x, f, t, rfl, wl, fine, fun l2 H4 s4 hl2 hl4 => ?_⟩
    have s14 := s13.trans s4
    have tn : TN H4 y t := (ty.mono s1).mono s14
    refine ⟨l2, rfl, ⟨_, SqL.of hl4⟩, lc_relL (K := K) (R := fun _ v (d : Nat) => v = V.int (d : Int)) (S := TN) (fun _ => true) (fun b => t ++ [b]) (fun _ _ _ _ s h => Tup.monoT s h) (SqL.of hl4) (small_le (by rw [ni_length]; omega)) (all_ints _)
      (fun z d hz hd H5 s5 Qn Qy qn qy => ?_) (fun D ys2 H5 hD s5 e5 a5 => ?_)⟩
    · subst hz
      refine ⟨rfl, ?_⟩
      show if true = true then _ else Qn H5
      refine iteT ?_
      refine ⟨_, rfl, _, rfl, (by show 1 ≤ sizeLine; decide), fun p hp => ?_⟩
      have s6 := same_new (o := .tup [.int (d : Int)]) hp
      refine ⟨_, _, (tn.mono s5).mono s6, Tup.of upd_same, small_le (by rw [ni_length]; simp only [List.length_singleton]; omega), fun u H6 s7 tu => ?_⟩
      refine qy u H6 (s6.trans s7) rfl ?_
      have e : ni (t ++ [d]) = ni t ++ [V.int (d : Int)] := by rw [ni_append]; rfl
      show Tup H6 u (ni (t ++ [d]))
      rw [e]
      exact tu
    · have e7 : ys2.length = ((List.filter (fun _ => true) (Vafmsb.onward f t)).map (fun b => t ++ [b])).length := a5.length
      rw [List.filter_eq_self.mpr (fun _ _ => rfl), List.length_map] at e7
      have s15 := s14.trans s5
      have hl5 := s15 l _ hl1
      refine ⟨l, D, ys, ys2, rfl, rfl, hl5, e5, small_le (by omega), ?_⟩
      have st := sameT_lst (zs := ys ++ ys2) hl5
      refine ⟨_, _, ys ++ ys2, rfl, (s1.trans s15).mut hl, upd_same, ?_⟩
      rw [List.take_add_one, ht, List.flatMap_append]
      simp only [Option.toList, List.flatMap_cons, List.flatMap_nil, List.append_nil]
      rw [List.filter_eq_self.mpr (fun _ _ => rfl)] at a5
      exact All2.append (ay.mono fun _ _ h => (h.mono s15).monoT st) (a5.mono fun _ _ h => h.monoT st)
  · obtain ⟨v3, v4, ys, rfl, s1, hl1, ay⟩ := h
    rw [al.length, List.take_length] at ay
    refine ⟨_, rfl, _, rfl, l, _, rfl, SqL.of hl1, fun p hp => ?_⟩
    have c40 := cut_to (xs := ys) (j := 40) (b := 40) rfl
    have s2 := same_new (o := .lst (cutV ys none (some 40))) hp
    refine q _ _ (s1.trans s2) ⟨ys.take 40, ⟨p, rfl, upd_same.trans (by rw [c40])⟩, ?_⟩
    exact (ay.take 40).mono fun _ _ h => h.mono s2
def spKept : Sp := fun vs H Q _ => ∃ (v : V) (f : Fmt) (n : Nat), vs = [v, .int (n : Int)] ∧ RowAt H f v ∧ Fine f ∧ n ≤ 6 ∧ ∀ u H1, Same H H1 → TNs H1 u (Vafmsb.kept f n) → Q u H1
theorem ok_kept (T : Txt K mg) : FnOk P w K mg base CX0 61 T.d_kept.f T.d_kept.fd ["row", "length"] spKept := by
  have G_longer_ones := ok_longer_ones (P := P) (w := w) (base := base) T
  refine T.d_kept.F.ok sc_kept (fun vs H Q E h => ?_) (fun cdv A outer s H vs Q E hr h => ?_)
  · obtain ⟨v, f, n, rfl, _⟩ := h
    rfl
  obtain ⟨v, f, n, rfl, rf, fine, hn, q⟩ := h
  refine ⟨_, (pss_cons (ps_set (i := 2) sc_kept.nd rfl (Or.inl rfl) (pe_lst (pa_cons (pe_tup pa_nil) pa_nil)))
    (pss_cons (ps_for PassesOwn.never rfl (pi_range1 rfl T.b_range (pa_cons (pv 1) pa_nil)) (pg_name (i := 3) sc_kept.nd rfl (Or.inl rfl))
    (pss_one (ps_set (i := 2) sc_kept.nd rfl (Or.inl rfl) (pe_call G_longer_ones (hr.mono (by omega)) rfl T.d_longer_ones.m T.d_longer_ones.F.kp T.d_longer_ones.b .nil pass0 (pa_cons (pv 0) (pa_cons (pv 2) pa_nil))))))
    (pss_one (ps_ret (pv 2))))), ?_⟩
  refine ⟨(by show 0 ≤ sizeLine; decide), fun p hp => ⟨(by show 1 ≤ sizeLine; decide), fun l hl => ?_⟩⟩
  have s1 := same_new (o := .tup []) hp
  have s2 := same_new (o := .lst [.ref p]) hl
  refine ⟨_, rfl, _, rfl, by omega, by omega, for_range (lo := 0) (n := ((n : Int)).toNat) (fun i σ H1 => ∃ (v3 : Option V) (u : V), σ = [some v, some (.int (n : Int)), some u, v3] ∧ Same H H1 ∧ TNs H1 u (Vafmsb.kept f i)) ⟨none, _, rfl, s1.trans s2, _, ⟨l, rfl, upd_same⟩, .cons (Tup.mono s2 (Tup.of upd_same)) .nil⟩ (fun i σ H1 hi h => ?_) (fun σ H1 h => ?_)⟩
  · obtain ⟨v3, u, rfl, s3, tu⟩ := h
    rw [Int.toNat_natCast] at hi
    obtain ⟨k1, k2⟩ := kept_len f i
    refine ⟨_, rfl, _, rfl, v, u, f, _, rfl, rf.mono s3, fine, tu, k2, fun t ht => by rw [k1 t ht]; omega, fun u2 H2 s4 tu2 => ?_⟩
    exact ⟨_, u2, rfl, s3.trans s4, tu2⟩
  · obtain ⟨v3, u, rfl, s3, tu⟩ := h
    rw [Int.toNat_natCast] at tu
    exact ⟨_, rfl, q u H1 s3 tu⟩
/-- whether a text has so many scannings -/
def many (f : Fmt) (m : Nat) (t : List Nat) : Bool := decide (m ≤ (VafmsBase.scannings f t).length)
def spThose : Sp := fun vs H Q _ => ∃ (v r : V) (f : Fmt) (ts : List (List Nat)) (m : Nat), vs = [v, r, .int (m : Int)] ∧ RowAt H f v ∧ Fine f ∧ TNs H r ts ∧ ts.length ≤ 40 ∧ (∀ t ∈ ts, t.length ≤ 20) ∧ ∀ u H1, Same H H1 → TNs H1 u (ts.filter (many f m)) → Q u H1
theorem ok_those_with (T : Txt K mg) : FnOk P w K mg base CX0 60 T.d_those_with.f T.d_those_with.fd ["row", "texts", "many"] spThose := by
  have G_scannings := ok_scannings (P := P) (w := w) (base := base) T
  refine T.d_those_with.F.ok sc_those_with (fun vs H Q E h => ?_) (fun cdv A outer s H vs Q E hr h => ?_)
  · obtain ⟨v, r, f, ts, m, rfl, _⟩ := h
    rfl
  obtain ⟨v, r, f, ts, m, rfl, rf, fine, ⟨xs, ⟨a, rfl, ha⟩, al⟩, h40, h20, q⟩ := h
  refine ⟨_, (pss_one (ps_ret (pe_lc (own := [("text", 3)]) rfl sc_those_with.nd (pi_list (pv 1)) (blkOk_by (own := [("text", 3)]) (N := ["row", "texts", "many", "text"]) (sc := defScope s_those_with) (by decide +kernel)) (fun _ _ _ _ _ => (pg_name (i := 3) sc_those_with.nd rfl (Or.inl rfl))) (fun _ _ _ _ _ => (pts_one (pt_cmpR op_ge (pe_callB (show CallR _ _ (rLenK K) from call_len_seq) (by rfl) T.b_len PySem.boot_len (pa_cons (pe_call G_scannings (hr.mono (by omega)) rfl T.d_scannings.m T.d_scannings.F.kp T.d_scannings.b .nil pass0 (pa_cons (pv 0) (pa_cons (pv 3) pa_nil))) pa_nil)) (pv 2) (nomark _)))) (fun _ _ _ _ _ => (pv 3))))), ?_⟩
  refine ⟨_, rfl, a, rfl, ⟨_, SqL.of ha⟩, lc_relL (K := K) (R := TN) (S := TN) (many f m) (fun t => t) (fun _ _ _ _ s h => Tup.monoT s h) (SqL.of ha) (small_le (by rw [al.length]; omega)) al
    (fun z t tz ht H5 s5 Qn Qy qn qy => ?_) (fun D ys2 H5 hD s5 e5 a5 => ?_)⟩
  · have t20 := h20 t ht
    refine ⟨rfl, _, rfl, _, rfl, v, z, f, t, rfl, rf.mono s5, fine.deep, fine.ok, fine.holes, tz.mono s5, by omega, fun u H6 s6 tu l1 l2 => ?_⟩
    obtain ⟨us, ⟨c, rfl, hc⟩, au⟩ := tu
    refine ⟨c, us, rfl, .inl (SqL.of hc), _, rfl, _, _, rfl, rfl, _, rfl, ?_⟩
    rw [au.length]
    refine iteD (fun k => ?_) (fun k => ?_)
    · exact ⟨_, rfl, qy z H6 s6 (decide_eq_true (by omega)) ((tz.mono s5).mono s6)⟩
    · exact qn H6 s6 (decide_eq_false (by omega))
  · rw [List.map_id'] at a5
    exact q _ _ s5 ⟨ys2, ⟨D, rfl, e5⟩, a5⟩
def spFirst : Sp := fun vs H Q _ => ∃ (v : V) (f : Fmt) (m : Nat), vs = [v, .int (m : Int)] ∧ RowAt H f v ∧ Fine f ∧ ∀ u H1, Same H H1 → TextOr (Vafmsb.firstText f (many f m) 6 [[]]) u H1 → Q u H1
theorem find_filter {α : Type} (p : α → Bool) : ∀ l : List α, l.find? p = (l.filter p).head?
  | [] => rfl
  | a :: l => by
    by_cases h : p a = true
    · rw [List.find?_cons_of_pos h, List.filter_cons_of_pos h]
      rfl
    · rw [List.find?_cons_of_neg h, List.filter_cons_of_neg h]
      exact find_filter p l
theorem ok_first_with (T : Txt K mg) : FnOk P w K mg base CX0 61 T.d_first_with.f T.d_first_with.fd ["row", "many"] spFirst := by
  have G_longer_ones := ok_longer_ones (P := P) (w := w) (base := base) T
  have G_those_with := ok_those_with (P := P) (w := w) (base := base) T
  refine T.d_first_with.F.ok sc_first_with (fun vs H Q E h => ?_) (fun cdv A outer s H vs Q E hr h => ?_)
  · obtain ⟨v, f, m, rfl, _⟩ := h
    rfl
  obtain ⟨v, f, m, rfl, rf, fine, q⟩ := h
  refine ⟨_, (pss_cons (ps_set (i := 2) sc_first_with.nd rfl (Or.inl rfl) (pe_lst (pa_cons (pe_tup pa_nil) pa_nil)))
    (pss_cons (ps_for PassesOwn.never rfl (pi_range1 rfl T.b_range (pa_cons (pe_op op_add (pe_glob (v := .int 5) rfl T.c_LONGEST.2 ⟨_, rfl⟩) pe_int) pa_nil)) (pg_name (i := 3) sc_first_with.nd rfl (Or.inl rfl))
    (pss_cons (ps_set (i := 4) sc_first_with.nd rfl (Or.inl rfl) (pe_call G_those_with (hr.mono (by omega)) rfl T.d_those_with.m T.d_those_with.F.kp T.d_those_with.b .nil pass0 (pa_cons (pv 0) (pa_cons (pv 2) (pa_cons (pv 1) pa_nil)))))
    (pss_cons (ps_if (pt_cmpR (op_neE hr.units) (pv 4) (pe_lst pa_nil) (nomark _))
    (pss_one (ps_ret (pe_ix ix_list (pv 4) pe_int (fun _ _ => rfl))))
    pss_nil)
    (pss_one (ps_set (i := 2) sc_first_with.nd rfl (Or.inl rfl) (pe_call G_longer_ones (hr.mono (by omega)) rfl T.d_longer_ones.m T.d_longer_ones.F.kp T.d_longer_ones.b .nil pass0 (pa_cons (pv 0) (pa_cons (pv 2) pa_nil))))))))
    (pss_one (ps_ret pe_non)))), ?_⟩
  generalize hF : Vafmsb.firstText f (many f m) 6 [[]] = F at q
  refine ⟨(by show 0 ≤ sizeLine; decide), fun p hp => ⟨(by show 1 ≤ sizeLine; decide), fun l hl => ?_⟩⟩
  have s1 := same_new (o := .tup []) hp
  have s2 := same_new (o := .lst [.ref p]) hl
  refine ⟨_, _, rfl, rfl, _, rfl, by decide, by decide, for_range (lo := 0) (n := 6) (fun i σ H1 => ∃ (v3 v4 : Option V) (u : V) (ts : List (List Nat)), σ = [some v, some (.int (m : Int)), some u, v3, v4] ∧ Same H H1 ∧ TNs H1 u ts ∧ ts.length ≤ 40 ∧ (∀ t ∈ ts, t.length = i) ∧
    F = Vafmsb.firstText f (many f m) (6 - i) ts) ⟨none, none, _, [[]], rfl, s1.trans s2, ⟨_, ⟨l, rfl, upd_same⟩, .cons (Tup.mono s2 (Tup.of upd_same)) .nil⟩, by decide, fun t ht => by rw [List.mem_singleton] at ht; rw [ht]; rfl, hF.symm⟩ (fun i σ H1 hi h => ?_) (fun σ H1 h => ?_)⟩
  · obtain ⟨v3, v4, u, ts, rfl, s3, tu, h40, hlen, eq⟩ := h
    rw [show 6 - i = (6 - (i + 1)) + 1 by omega] at eq
    simp only [Vafmsb.firstText] at eq
    refine ⟨_, rfl, _, rfl, _, rfl, v, u, f, ts, m, rfl, rf.mono s3, fine, tu, h40, fun t ht => by rw [hlen t ht]; omega, fun u2 H2 s4 tu2 => ?_⟩
    have s34 := s3.trans s4
    rw [find_filter] at eq
    obtain ⟨zs, ⟨c, rfl, hc⟩, az⟩ := tu2
    refine ⟨_, rfl, (by show 0 ≤ sizeLine; decide), fun e he => ?_⟩
    have s5 := same_new (o := .lst []) he
    obtain ⟨dt, _⟩ := dats_tups (K := K) (az.tnmono s5)
    refine ⟨c, zs, e, rfl, rfl, s5 c _ hc, ⟨dt⟩, upd_same, _, rfl, ?_⟩
    have s35 := s34.trans s5
    cases hf : ts.filter (many f m) with
    | nil =>
      rw [hf] at az eq
      cases az
      refine iteF ?_
      refine ⟨_, rfl, _, rfl, v, u, f, ts, rfl, rf.mono s35, fine, (tu.mono s4).mono s5, h40, fun t ht => by rw [hlen t ht]; omega, fun u3 H3 s6 tu3 => ?_⟩
      exact ⟨_, _, u3, _, rfl, s35.trans s6, tu3, longer_few, longer_len hlen, eq⟩
    | cons t r =>
      rw [hf] at az eq
      cases az with
      | cons tz rz =>
        refine iteT ?_
        refine ⟨_, rfl, c, _, 0, _, rfl, rfl, SqL.of (s5 c _ hc), at0, ?_⟩
        refine q _ _ s35 ?_
        rw [eq]
        exact tz.mono s5
  · obtain ⟨v3, v4, u, ts, rfl, s3, tu, h40, hlen, eq⟩ := h
    refine q _ _ s3 ?_
    rw [eq]
    rfl
end
end Asc
namespace Asc
open PySem PySem.Spec PyProof.Rows L2
open VafmsBase (Fmt)
/-- a list of whole numbers -/
def LI (H : Hp) (v : V) (ns : List Int) : Prop := ∃ a, v = .ref a ∧ H a = some (.lst (ns.map V.int))
theorem LI.mono {H H1 : Hp} {v : V} {ns : List Int} (s : Same H H1) (h : LI H v ns) : LI H1 v ns := by
  obtain ⟨a, e, h⟩ := h
  exact ⟨a, e, s a _ h⟩
/-- a new list of whole numbers -/
def Fr (H H1 : Hp) (v : V) (ns : List Int) : Prop := ∃ a, v = .ref a ∧ H a = none ∧ H1 a = some (.lst (ns.map V.int))
theorem Fr.back {H H1 H2 : Hp} {v : V} {ns : List Int} (s : Same H H1) (h : Fr H1 H2 v ns) : Fr H H2 v ns := by
  obtain ⟨a, e, n, h⟩ := h
  exact ⟨a, e, fresh0 s n, h⟩
theorem listed_map (t : List Nat) : (Vafmsb.listed t).map V.int = V.int ((ni t).length : Int) :: ni t := by
  unfold Vafmsb.listed Vafmsb.int ni
  rw [List.map_cons, List.map_map, List.length_map]
  rfl
section
variable {P : Program} {w : World} {K : PySem.W.Frag} {mg : Str → Option PySem.Value} {base : Heap}
def spCounted : Sp := fun vs H Q _ => ∃ (a : Addr) (t : List Nat), vs = [.ref a] ∧ (H a = some (.lst (ni t)) ∨ H a = some (.tup (ni t))) ∧ t.length ≤ 100000 ∧ ∀ u H1, Same H H1 → Fr H H1 u (Vafmsb.listed t) → Q u H1
theorem ok_counted (T : Txt K mg) : FnOk P w K mg base CX0 1 T.d_counted.f T.d_counted.fd ["some"] spCounted := by
  refine T.d_counted.F.ok sc_counted (fun vs H Q E h => ?_) (fun cdv A outer s H vs Q E hr h => ?_)
  · obtain ⟨a, t, rfl, _⟩ := h
    rfl
  obtain ⟨a, t, rfl, ha, hl, q⟩ := h
  refine ⟨_, (pss_one (ps_ret (pe_op op_cat (pe_lst (pa_cons (pe_callB call_len_seq (by rfl) T.b_len PySem.boot_len (pa_cons (pv 0) pa_nil)) pa_nil)) (pe_callTy call_list_of (by rfl) T.b_list (by decide +kernel) (pa_cons (pv 0) pa_nil))))), ?_⟩
  have sq : SqL K H a (ni t) ∨ SqT K H a (ni t) := ha.imp SqL.of SqT.of
  refine ⟨_, rfl, a, _, rfl, sq, (by show 1 ≤ sizeLine; decide), fun p1 hp1 => ?_⟩
  have s1 := same_new (o := .lst [.int ((ni t).length : Int)]) hp1
  have sq1 : SqL K (upd H p1 (.lst [.int ((ni t).length : Int)])) a (ni t) ∨ SqT K (upd H p1 (.lst [.int ((ni t).length : Int)])) a (ni t) := (ha.imp (s1 a _) (s1 a _)).imp SqL.of SqT.of
  refine ⟨_, rfl, a, _, rfl, sq1, fun p2 hp2 => ?_⟩
  have s2 := same_new (o := .lst (ni t)) hp2
  refine ⟨p1, p2, _, _, rfl, rfl, s2 p1 _ upd_same, upd_same, small_le (by rw [ni_length]; simp only [List.length_singleton]; omega), fun p3 hp3 => ?_⟩
  refine q _ _ ((s1.trans s2).trans (same_new hp3)) ⟨p3, rfl, fresh0 ((s1.trans s2)) hp3, upd_same.trans ?_⟩
  rw [listed_map]
  rfl
def spScanned : Sp := fun vs H Q _ => ∃ (r : V) (ts : List (List Nat)), vs = [r] ∧ TNs H r ts ∧ (∀ t ∈ ts, t.length ≤ 1000) ∧ ∀ u H1, Same H H1 → Fr H H1 u (Vafmsb.orNone ts.head?) → Q u H1
theorem ok_scanned (T : Txt K mg) : FnOk P w K mg base CX0 2 T.d_scanned.f T.d_scanned.fd ["some"] spScanned := by
  have G_counted := ok_counted (P := P) (w := w) (base := base) T
  refine T.d_scanned.F.ok sc_scanned (fun vs H Q E h => ?_) (fun cdv A outer s H vs Q E hr h => ?_)
  · obtain ⟨r, ts, rfl, _⟩ := h
    rfl
  obtain ⟨r, ts, rfl, ⟨xs, ⟨a, rfl, ha⟩, al⟩, hl, q⟩ := h
  refine ⟨_, (pss_one (ps_ret (pe_ifExp (pt_cmpR (op_eqE hr.units) (pv 0) (pe_lst pa_nil) (nomark _)) (pe_lst (pa_cons pe_int pa_nil)) (pe_op op_cat (pe_lst (pa_cons pe_int pa_nil)) (pe_call G_counted (hr.mono (by omega)) rfl T.d_counted.m T.d_counted.F.kp T.d_counted.b .nil pass0 (pa_cons (pe_ix ix_list (pv 0) pe_int (fun _ _ => rfl)) pa_nil)))))), ?_⟩
  refine ⟨_, rfl, (by show 0 ≤ sizeLine; decide), fun e he => ?_⟩
  have s1 := same_new (o := .lst []) he
  obtain ⟨dt, _⟩ := dats_tups (K := K) (al.tnmono s1)
  refine ⟨a, xs, e, rfl, rfl, s1 a _ ha, ⟨dt⟩, upd_same, _, rfl, ?_⟩
  have al1 := al.tnmono s1
  have ha1 := s1 a _ ha
  generalize upd H e (.lst []) = H1 at *
  cases al1 with
  | nil =>
    refine iteT ⟨(by show 1 ≤ sizeLine; decide), fun p hp => ?_⟩
    exact q _ _ (s1.trans (same_new hp)) ⟨p, rfl, fresh0 (s1) hp, upd_same⟩
  | @cons v t vs ts tv _ =>
    refine iteF ⟨(by show 1 ≤ sizeLine; decide), fun p hp => ?_⟩
    have s2 := same_new (o := .lst [.int 1]) hp
    obtain ⟨b, rfl, hb⟩ := tv.mono s2
    refine ⟨_, rfl, a, _, 0, _, rfl, rfl, SqL.of (s2 a _ ha1), at0, b, t, rfl, .inr hb, by have := hl t List.mem_cons_self; omega, fun u H3 s3 lu => ?_⟩
    obtain ⟨c, rfl, _, hc⟩ := lu
    have tl := hl t List.mem_cons_self
    have hlen : ((Vafmsb.listed t).map V.int).length ≤ 1001 := by
      rw [listed_map, List.length_cons, ni_length]
      omega
    refine ⟨p, c, _, _, rfl, rfl, s3 p _ upd_same, hc, small_le (by simp only [List.length_singleton]; omega), fun p4 hp4 => ?_⟩
    exact q _ _ (((s1.trans s2).trans s3).trans (same_new hp4)) ⟨p4, rfl, fresh0 (((s1.trans s2).trans s3)) hp4, upd_same⟩
/-- the scanning with a number -/
def kthTold (ts : List (List Nat)) (k : Int) : List Int := match (if 0 ≤ k then ts[k.toNat]? else none) with
  | none => [-2]
  | some v => Vafmsb.listed v
def spKth : Sp := fun vs H Q _ => ∃ (r : V) (ts : List (List Nat)) (k : Int), vs = [r, .int k] ∧ TNs H r ts ∧ (∀ t ∈ ts, t.length ≤ 1000) ∧ ∀ u H1, Same H H1 → Fr H H1 u (kthTold ts k) → Q u H1
theorem ok_kth (T : Txt K mg) : FnOk P w K mg base CX0 2 T.d_kth.f T.d_kth.fd ["some", "number"] spKth := by
  have G_counted := ok_counted (P := P) (w := w) (base := base) T
  refine T.d_kth.F.ok sc_kth (fun vs H Q E h => ?_) (fun cdv A outer s H vs Q E hr h => ?_)
  · obtain ⟨r, ts, k, rfl, _⟩ := h
    rfl
  obtain ⟨r, ts, k, rfl, ⟨xs, ⟨a, rfl, ha⟩, al⟩, hl, q⟩ := h
  refine ⟨_, (pss_one (ps_ret (pe_ifExp (pt_chain op_le op_lt pe_int (pv 1) (pe_callB call_len_seq (by rfl) T.b_len PySem.boot_len (pa_cons (pv 0) pa_nil))) (pe_call G_counted (hr.mono (by omega)) rfl T.d_counted.m T.d_counted.F.kp T.d_counted.b .nil pass0 (pa_cons (pe_ix ix_list (pv 0) (pv 1) (fun _ _ => rfl)) pa_nil)) (pe_lst (pa_cons (pe_glob (v := .int (-2)) rfl T.c_NO_SUCH_SCANNING.2 ⟨_, rfl⟩) pa_nil))))), ?_⟩
  have bad : (if 0 ≤ k then ts[k.toNat]? else none) = none → ∀ p, H p = none → Q (.ref p) (upd H p (.lst [.int (-2)])) := fun e p hp => q _ _ (same_new hp) ⟨p, rfl, hp, by unfold kthTold; rw [e]; exact upd_same⟩
  refine ⟨_, rfl, _, _, rfl, rfl, _, rfl, ?_⟩
  refine iteD (fun c1 => ?_) (fun c1 => ?_)
  case refine_2 => exact ⟨_, rfl, iteF ⟨(by show 1 ≤ sizeLine; decide), bad (if_neg (by omega))⟩⟩
  refine ⟨_, rfl, a, _, rfl, .inl (SqL.of ha), _, _, rfl, rfl, _, rfl, ?_⟩
  refine iteD (fun c2 => ?_) (fun c2 => ?_)
  case refine_2 => exact ⟨(by show 1 ≤ sizeLine; decide), bad (by rw [if_pos c1]; exact List.getElem?_eq_none (by rw [al.length] at c2; omega))⟩
  have hlt : k.toNat < ts.length := by rw [al.length] at c2; omega
  have ht : ts[k.toNat]? = some ts[k.toNat] := List.getElem?_eq_getElem hlt
  have tm := List.getElem_mem hlt
  generalize ts[k.toNat] = t at ht tm
  obtain ⟨v, hv, b, rfl, hb⟩ := al.get2 ht
  refine ⟨_, rfl, _, rfl, a, xs, k, _, rfl, rfl, SqL.of ha, at_of (by omega) hv, b, t, rfl, .inr hb, by have := hl t tm; omega, fun u H3 s3 lu => ?_⟩
  refine q _ _ s3 ?_
  unfold kthTold
  rw [if_pos c1, ht]
  exact lu
/-- how far, as told -/
def farTold (f : Fmt) (t : List Nat) : List Int := let x := Vafmsb.far f t
  Vafmsb.int x.place :: Vafmsb.bool x.ends :: Vafmsb.listed x.wished
def spFar : Sp := fun vs H Q _ => ∃ (v y : V) (f : Fmt) (t : List Nat), vs = [v, y] ∧ RowAt H f v ∧ Fine f ∧ TN H y t ∧ t.length ≤ 24 ∧ ∀ u H1, Same H H1 → Fr H H1 u (farTold f t) → Q u H1
theorem ok_far (T : Txt K mg) : FnOk P w K mg base CX0 60 T.d_far.f T.d_far.fd ["row", "text"] spFar := by
  have G_Walk_init := ok_Walk_init (P := P) (w := w) (base := base) T
  have G_furthest := ok_furthest (P := P) (w := w) (base := base) T
  have G_wished_at := ok_wished_at (P := P) (w := w) (base := base) T
  have G_counted := ok_counted (P := P) (w := w) (base := base) T
  refine T.d_far.F.ok sc_far (fun vs H Q E h => ?_) (fun cdv A outer s H vs Q E hr h => ?_)
  · obtain ⟨v, y, f, t, rfl, _⟩ := h
    rfl
  obtain ⟨v, y, f, t, rfl, rf, fine, ty, t24, q⟩ := h
  refine ⟨_, (pss_cons (ps_set (i := 2) sc_far.nd rfl (Or.inl rfl) (pe_make T.Walk_init.mks G_Walk_init (hr.mono (by omega)) rfl T.Walk_g T.Walk_init.b .nil pass0 (pa_cons (pv 0) (pa_cons (pv 1) pa_nil))))
    (pss_cons (ps_set (i := 3) sc_far.nd rfl (Or.inl rfl) (pe_meth0 (pv 2) T.Walk_cl T.m_furthest.me G_furthest (hr.mono (by omega)) T.m_furthest.b .nil pass0))
    (pss_one (ps_ret (pe_op op_cat (pe_lst (pa_cons (pv 3) (pa_cons (pe_callTy call_int1 (by rfl) T.b_int (by decide +kernel) (pa_cons (pe_cmpR op_in_seq (pv 3) (pe_fld (pv 2) rfl) (by rfl)) pa_nil)) pa_nil))) (pe_call G_counted (hr.mono (by omega)) rfl T.d_counted.m T.d_counted.F.kp T.d_counted.b .nil pass0 (pa_cons (pe_meth (pv 2) T.Walk_cl T.m_wished_at.me G_wished_at (hr.mono (by omega)) T.m_wished_at.b .nil pass0 (pa_cons (pv 3) pa_nil)) pa_nil))))))), ?_⟩
  refine ⟨_, rfl, _, rfl, fun x dx hx hdx nx => ?_⟩
  have s2 := made_same0 (o := .own x) (o2 := .ins T.cWalk dx []) hx hdx
  refine ⟨x, dx, v, y, f, t, rfl, upd_same, rf.mono s2, fine, ty.mono s2, t24, fun H3 s3 wl => ⟨rfl, ?_⟩⟩
  have s13 := made_same hx hdx s3
  obtain ⟨dx3, b3, d3, e3, kvs, n3, rs3, hx3, hb3, hd3, dw3, hn3, he3, mem3, len3⟩ := id wl.ins
  refine ⟨_, rfl, x, dx3, _, rfl, hx3, rfl, x, f, t, rfl, wl, fine, fun m H4 s4 hm hle => ?_⟩
  obtain ⟨f1, f2, f3⟩ := far_is fine.ok mem3 hm hle
  have hx4 := s4 x _ hx3
  have he4 := s4 e3 _ he3
  refine ⟨_, rfl, _, rfl, _, rfl, x, _, _, _, _, rfl, hx4, T.Walk_cl, T.nW_ends, rfl, e3, _, rfl, .inl (SqL.of he4), rfl, flat_ni _, .inr ⟨_, rfl, ?_⟩⟩
  rw [in_ni]
  refine ⟨(by show 2 ≤ sizeLine; decide), fun p1 hp1 => ?_⟩
  have s5 := same_new (o := .lst [.int (m : Int), .int (if rs3.contains m = true then 1 else 0)]) hp1
  refine ⟨_, rfl, x, dx3, _, rfl, s5 x _ hx4, rfl, _, rfl, x, f, t, m, rfl, (wl.mono s4).mono s5, fine, fun l ws H5 s6 hl hl2 hs hw => ?_⟩
  have f3' := f3 ws hs hw
  have wl2 : ws.length ≤ 127 := by
    rw [← f3']
    show (Vafmsb.setOf _).length ≤ 127
    unfold Vafmsb.setOf
    exact Nat.le_trans (List.length_filter_le _ _) (by simp)
  refine ⟨l, ws, rfl, .inl hl2, by omega, fun u H6 s7 lu => ?_⟩
  obtain ⟨c, rfl, _, hc⟩ := lu
  have hlen : ((Vafmsb.listed ws).map V.int).length ≤ 128 := by
    rw [listed_map, List.length_cons, ni_length]
    omega
  have s57 := s6.trans s7
  refine ⟨p1, c, _, _, rfl, rfl, s57 p1 _ upd_same, hc, small_le (by simp only [List.length_cons, List.length_nil]; omega), fun p8 hp8 => ?_⟩
  refine q _ _ ((s13.trans s4).trans ((s5.trans s57).trans (same_new hp8))) ⟨p8, rfl, fresh0 ((s13.trans s4).trans (s5.trans s57)) hp8, upd_same.trans ?_⟩
  unfold farTold
  simp only
  rw [f1, f2, f3']
  have : (if rs3.contains m = true then (1 : Int) else 0) = Vafmsb.bool (decide (m ∈ rs3)) := by
    unfold Vafmsb.bool
    by_cases h : m ∈ rs3
    · rw [if_pos (List.contains_iff_mem.mpr h), if_pos (decide_eq_true h)]
    · rw [if_neg (fun z => h (List.contains_iff_mem.mp z)), if_neg (by simpa using h)]
  exact congrArg (fun z => some (HO.lst ([V.int (m : Int), V.int z] ++ (Vafmsb.listed ws).map V.int))) this
def spAgain : Sp := fun vs H Q _ => ∃ (v y : V) (f : Fmt) (xs : List Nat), vs = [v, y] ∧ RowAt H f v ∧ Fine f ∧ TN H y xs ∧ Val xs ∧ ∀ u H1, Same H H1 → Fr H H1 u (Vafmsb.againTold f xs) → Q u H1
theorem find_first : ∀ (l : List (List Nat)) (x : List Nat), x ∈ l → ∃ j, l.findIdx? (fun y => y == x) = some j ∧ l[j]? = some x ∧ (∀ m, m < j → l[m]? ≠ some x)
  | [], x, h => (List.not_mem_nil h).elim
  | a :: l, x, h => by
    by_cases e : a = x
    · subst e
      exact ⟨0, by simp [List.findIdx?_cons], rfl, fun m hm => by omega⟩
    · obtain ⟨j, h1, h2, h3⟩ := find_first l x (by
        rcases List.mem_cons.mp h with z | z
        · exact absurd z.symm e
        · exact z)
      refine ⟨j + 1, ?_, h2, fun m hm => ?_⟩
      · rw [List.findIdx?_cons, h1]
        simp [e]
      · cases m with
        | zero =>
          intro z
          exact e (Option.some.inj z)
        | succ m => exact h3 m (by omega)
theorem ok_again (T : Txt K mg) : FnOk P w K mg base CX0 60 T.d_again.f T.d_again.fd ["row", "value"] spAgain := by
  have G_print_of := ok_print_of (P := P) (w := w) (base := base) T
  have G_scannings := ok_scannings (P := P) (w := w) (base := base) T
  refine T.d_again.F.ok sc_again (fun vs H Q E h => ?_) (fun cdv A outer s H vs Q E hr h => ?_)
  · obtain ⟨v, y, f, xs, rfl, _⟩ := h
    rfl
  obtain ⟨v, y, f, xs, rfl, rf, fine, ty, val, q⟩ := h
  refine ⟨_, (pss_cons (ps_set (i := 2) sc_again.nd rfl (Or.inl rfl) (pe_call G_print_of (hr.mono (by omega)) rfl T.d_print_of.m T.d_print_of.F.kp T.d_print_of.b .nil pass0 (pa_cons (pv 0) (pa_cons (pv 1) pa_nil))))
    (pss_cons (ps_if (pt_cmpR op_isN (pv 2) pe_non (nomark _))
    (pss_one (ps_ret (pe_lst (pa_cons pe_int pa_nil))))
    pss_nil)
    (pss_cons (ps_set (i := 3) sc_again.nd rfl (Or.inl rfl) (pe_call G_scannings (hr.mono (by omega)) rfl T.d_scannings.m T.d_scannings.F.kp T.d_scannings.b .nil pass0 (pa_cons (pv 0) (pa_cons (pv 2) pa_nil))))
    (pss_cons (ps_set (i := 4) sc_again.nd rfl (Or.inl rfl) (pe_bm PySem.F.plainAttrs_list PySem.F.slot_list_index PySem.F.type_list_index (mt_indexT (by have h := hr.un; change (A.deeper _).units + 65 < cLine; omega)) (pv 3) (pa_cons (pv 1) pa_nil)))
    (pss_one (ps_ret (pe_lst (pa_cons pe_int (pa_cons (pe_callB call_len_seq (by rfl) T.b_len PySem.boot_len (pa_cons (pv 3) pa_nil)) (pa_cons (pe_callTy call_int1 (by rfl) T.b_int (by decide +kernel) (pa_cons (pe_cmpR op_eq (pv 4) pe_int (nomark _)) pa_nil)) (pa_cons (pv 4) pa_nil))))))))))), ?_⟩
  have wd := fine.wide
  refine ⟨_, rfl, _, rfl, v, y, f, xs, rfl, rf, fine.deep, fine.ok, by omega, ty, val, fun u H1 s1 tu => ?_⟩
  unfold Vafmsb.againTold at q
  cases e : VafmsBase.print f xs with
  | none =>
    rw [e] at tu q
    have e2 : u = .non := tu
    subst e2
    refine ⟨_, rfl, rfl, _, rfl, iteT ⟨(by show 1 ≤ sizeLine; decide), fun p hp => ?_⟩⟩
    exact q _ _ (s1.trans (same_new hp)) ⟨p, rfl, fresh0 (s1) hp, upd_same⟩
  | some t =>
    rw [e] at tu q
    have tu : TN H1 u t := tu
    obtain ⟨b, rfl, hb⟩ := tu
    refine ⟨_, rfl, rfl, _, rfl, iteF ?_⟩
    have tl : t.length ≤ 10000 := by
      have e' := e
      unfold VafmsBase.print at e'
      split at e'
      · rename_i t' e3
        have e4 := Option.some.inj e'
        subst e4
        have := printed_le f _ _ e3
        simp only at this
        omega
      · cases e'
    refine ⟨_, rfl, _, rfl, v, .ref b, f, t, rfl, rf.mono s1, fine.deep, fine.ok, fine.holes, Tup.of hb, tl, fun r H2 s2 tr l1 l2 => ?_⟩
    have s12 := s1.trans s2
    have ty2 := ty.mono s12
    obtain ⟨j, j1, j2, j3⟩ := find_first _ _ (print_again e)
    obtain ⟨zs, ⟨c, rfl, hc⟩, az⟩ := id tr
    refine ⟨_, rfl, .inl ⟨rfl, _, SqL.of hc⟩, _, rfl, _, xs, y, j, tr, rfl, ty2, j2, j3, ?_⟩
    refine ⟨_, rfl, c, zs, rfl, .inl (SqL.of hc), _, rfl, rfl, .inr ⟨_, rfl, _, rfl, (by show 4 ≤ sizeLine; decide), fun p hp => ?_⟩⟩
    refine q _ _ (s12.trans (same_new hp)) ⟨p, rfl, fresh0 (s12) hp, upd_same.trans ?_⟩
    simp only [j1]
    rw [az.length]
    have : (if decide (V.int (j : Int) = V.int 0) = true then (1 : Int) else 0) = Vafmsb.bool ((VafmsBase.scannings f t).head? == some xs) := by
      unfold Vafmsb.bool
      cases j with
      | zero =>
        rw [if_pos (show decide (V.int ((0 : Nat) : Int) = V.int 0) = true from decide_eq_true rfl), if_pos]
        rw [List.head?_eq_getElem?, j2]
        simp
      | succ j =>
        rw [if_neg (by rw [decide_eq_false (by intro z; injection z with z; omega)]; decide), if_neg]
        intro z
        refine j3 0 (by omega) ?_
        rw [← List.head?_eq_getElem?]
        simpa using z
    rw [this]
    rfl
def textTold (f : Fmt) (c k : Int) (ns : List Int) : List Int := match textIn ns with
  | none => [-1]
  | some t => if c = 5 then farTold f t else if c = 2 then Vafmsb.orNone (VafmsBase.scannings f t).head? else if c = 3 then [Vafmsb.int (VafmsBase.scannings f t).length] else kthTold (VafmsBase.scannings f t) k
def spOfText : Sp := fun vs H Q _ => ∃ (v : V) (a : Addr) (f : Fmt) (c k : Int) (ns : List Int), vs = [v, .int c, .int k, .ref a] ∧ RowAt H f v ∧ Fine f ∧ H a = some (.lst (ns.map V.int)) ∧ ns.length ≤ 200 ∧ ∀ u H1, Same H H1 → Fr H H1 u (textTold f c k ns) → Q u H1
theorem textIn_len {ns : List Int} {t : List Nat} (h : textIn ns = some t) : t.length ≤ 24 := by
  unfold textIn at h
  split at h
  · rename_i u e
    have e2 := Option.some.inj h
    subst e2
    cases ns with
    | nil => cases e
    | cons z r =>
      simp only [rText] at e
      split at e
      · rename_i c
        have e3 := Option.some.inj e
        injection e3 with e4 e5
        rw [← e4, List.length_map, List.length_take]
        omega
      · cases e
  · cases h
theorem ok_of_text (T : Txt K mg) : FnOk P w K mg base CX0 61 T.d_of_text.f T.d_of_text.fd ["row", "call", "number", "n"] spOfText := by
  have G_text_in := ok_text_in (P := P) (w := w) (base := base) T
  have G_far := ok_far (P := P) (w := w) (base := base) T
  have G_scannings := ok_scannings (P := P) (w := w) (base := base) T
  have G_scanned := ok_scanned (P := P) (w := w) (base := base) T
  have G_kth := ok_kth (P := P) (w := w) (base := base) T
  refine T.d_of_text.F.ok sc_of_text (fun vs H Q E h => ?_) (fun cdv A outer s H vs Q E hr h => ?_)
  · obtain ⟨v, a, f, c, k, ns, rfl, _⟩ := h
    rfl
  obtain ⟨v, a, f, c, k, ns, rfl, rf, fine, ha, h200, q⟩ := h
  refine ⟨_, (pss_cons (ps_set (i := 4) sc_of_text.nd rfl (Or.inl rfl) (pe_call G_text_in (hr.mono (by omega)) rfl T.d_text_in.m T.d_text_in.F.kp T.d_text_in.b .nil pass0 (pa_cons (pv 3) (pa_cons (pe_glob (v := .int 24) rfl T.c_MOST_BYTES.2 ⟨_, rfl⟩) pa_nil))))
    (pss_cons (ps_if (pt_cmpR op_isN (pv 4) pe_non (nomark _))
    (pss_one (ps_ret (pe_lst (pa_cons (pe_glob (v := .int (-1)) rfl T.c_NOT_WHOLE.2 ⟨_, rfl⟩) pa_nil))))
    pss_nil)
    (pss_cons (ps_if (pt_cmpR op_eq (pv 1) pe_int (nomark _))
    (pss_one (ps_ret (pe_call G_far (hr.mono (by omega)) rfl T.d_far.m T.d_far.F.kp T.d_far.b .nil pass0 (pa_cons (pv 0) (pa_cons (pv 4) pa_nil)))))
    pss_nil)
    (pss_cons (ps_set (i := 5) sc_of_text.nd rfl (Or.inl rfl) (pe_call G_scannings (hr.mono (by omega)) rfl T.d_scannings.m T.d_scannings.F.kp T.d_scannings.b .nil pass0 (pa_cons (pv 0) (pa_cons (pv 4) pa_nil))))
    (pss_cons (ps_if (pt_cmpR op_eq (pv 1) pe_int (nomark _))
    (pss_one (ps_ret (pe_call G_scanned (hr.mono (by omega)) rfl T.d_scanned.m T.d_scanned.F.kp T.d_scanned.b .nil pass0 (pa_cons (pv 5) pa_nil))))
    pss_nil)
    (pss_one (ps_ret (pe_ifExp (pt_cmpR op_eq (pv 1) pe_int (nomark _)) (pe_lst (pa_cons (pe_callB call_len_seq (by rfl) T.b_len PySem.boot_len (pa_cons (pv 5) pa_nil)) pa_nil)) (pe_call G_kth (hr.mono (by omega)) rfl T.d_kth.m T.d_kth.F.kp T.d_kth.b .nil pass0 (pa_cons (pv 5) (pa_cons (pv 2) pa_nil))))))))))), ?_⟩
  refine ⟨_, rfl, a, ns, rfl, ha, h200, fun u H1 s1 tu => ?_⟩
  unfold textTold at q
  cases e : textIn ns with
  | none =>
    rw [e] at tu q
    have e2 : u = .non := tu
    subst e2
    refine ⟨_, rfl, rfl, _, rfl, iteT ⟨(by show 1 ≤ sizeLine; decide), fun p hp => ?_⟩⟩
    exact q _ _ (s1.trans (same_new hp)) ⟨p, rfl, fresh0 (s1) hp, upd_same⟩
  | some t =>
    have t24 := textIn_len e
    rw [e] at tu q
    have tu : TN H1 u t := tu
    obtain ⟨b, rfl, hb⟩ := tu
    simp only at q
    refine ⟨_, rfl, rfl, _, rfl, iteF ?_⟩
    refine ⟨_, rfl, rfl, _, rfl, ?_⟩
    by_cases c5 : c = 5
    · rw [if_pos c5] at q
      refine ifT (decide_eq_true (by rw [c5])) ?_
      exact ⟨_, rfl, _, rfl, v, .ref b, f, t, rfl, rf.mono s1, fine, Tup.of hb, t24, fun u2 H2 s2 lu => q u2 H2 (s1.trans s2) (lu.back s1)⟩
    rw [if_neg c5] at q
    refine ifF (decide_eq_false (by intro z; injection z with z; exact c5 z)) ?_
    refine ⟨_, rfl, _, rfl, v, .ref b, f, t, rfl, rf.mono s1, fine.deep, fine.ok, fine.holes, Tup.of hb, by omega, fun r H2 s2 tr l1 l2 => ?_⟩
    have s12 := s1.trans s2
    have l3 : ∀ x ∈ VafmsBase.scannings f t, x.length ≤ 1000 := fun x hx => by have := l2 x hx; omega
    refine ⟨_, rfl, rfl, _, rfl, ?_⟩
    by_cases c2 : c = 2
    · rw [if_pos c2] at q
      refine ifT (decide_eq_true (by rw [c2])) ?_
      exact ⟨_, rfl, r, _, rfl, tr, l3, fun u2 H3 s3 lu => q u2 H3 (s12.trans s3) (lu.back s12)⟩
    rw [if_neg c2] at q
    refine ifF (decide_eq_false (by intro z; injection z with z; exact c2 z)) ?_
    refine ⟨_, rfl, rfl, _, rfl, ?_⟩
    by_cases c3 : c = 3
    · rw [if_pos c3] at q
      refine ifT (decide_eq_true (by rw [c3])) ?_
      obtain ⟨zs, ⟨d, rfl, hd⟩, az⟩ := tr
      refine ⟨_, rfl, d, zs, rfl, .inl (SqL.of hd), (by show 1 ≤ sizeLine; decide), fun p hp => ?_⟩
      refine q _ _ (s12.trans (same_new hp)) ⟨p, rfl, fresh0 (s12) hp, upd_same.trans ?_⟩
      rw [az.length]
      rfl
    rw [if_neg c3] at q
    refine ifF (decide_eq_false (by intro z; injection z with z; exact c3 z)) ?_
    exact ⟨_, rfl, _, rfl, r, _, k, rfl, tr, l3, fun u2 H3 s3 lu => q u2 H3 (s12.trans s3) (lu.back s12)⟩
def valTold (f : Fmt) (c : Int) (ns : List Int) : List Int := match valueIn ns with
  | none => [-1]
  | some x => if c = 6 then Vafmsb.againTold f x else Vafmsb.orNone (VafmsBase.print f x)
def spOfValue : Sp := fun vs H Q _ => ∃ (v : V) (a : Addr) (f : Fmt) (c : Int) (ns : List Int), vs = [v, .int c, .ref a] ∧ RowAt H f v ∧ Fine f ∧ H a = some (.lst (ns.map V.int)) ∧ ns.length ≤ 200 ∧ ∀ u H1, Same H H1 → Fr H H1 u (valTold f c ns) → Q u H1
theorem valueIn_val {ns : List Int} {x : List Nat} (h : valueIn ns = some x) : Val x := by
  cases ns with
  | nil => cases h
  | cons z r =>
    simp only [valueIn] at h
    split at h
    · rename_i c
      have e := Option.some.inj h
      subst e
      refine ⟨by rw [List.length_map]; omega, fun y hy => ?_⟩
      obtain ⟨b, hb, rfl⟩ := List.mem_map.mp hy
      have := List.all_eq_true.mp c.2.2 b hb
      simp only [Bool.and_eq_true, decide_eq_true_eq] at this
      omega
    · cases h
theorem print_len {f : Fmt} (fine : Fine f) {x t : List Nat} (h : VafmsBase.print f x = some t) : t.length ≤ 448 := by
  have wd := fine.wide
  unfold VafmsBase.print at h
  split at h
  · rename_i t' e3
    have e4 := Option.some.inj h
    subst e4
    have := printed_le f _ _ e3
    simp only at this
    omega
  · cases h
theorem ok_of_value (T : Txt K mg) : FnOk P w K mg base CX0 61 T.d_of_value.f T.d_of_value.fd ["row", "call", "n"] spOfValue := by
  have G_value_in := ok_value_in (P := P) (w := w) (base := base) T
  have G_again := ok_again (P := P) (w := w) (base := base) T
  have G_print_of := ok_print_of (P := P) (w := w) (base := base) T
  have G_counted := ok_counted (P := P) (w := w) (base := base) T
  refine T.d_of_value.F.ok sc_of_value (fun vs H Q E h => ?_) (fun cdv A outer s H vs Q E hr h => ?_)
  · obtain ⟨v, a, f, c, ns, rfl, _⟩ := h
    rfl
  obtain ⟨v, a, f, c, ns, rfl, rf, fine, ha, h200, q⟩ := h
  refine ⟨_, (pss_cons (ps_set (i := 3) sc_of_value.nd rfl (Or.inl rfl) (pe_call G_value_in (hr.mono (by omega)) rfl T.d_value_in.m T.d_value_in.F.kp T.d_value_in.b .nil pass0 (pa_cons (pv 2) (pa_cons (pe_glob (v := .int 40) rfl T.c_MOST_NUMBERS.2 ⟨_, rfl⟩) (pa_cons (pe_glob (v := .int 9999) rfl T.c_GREATEST.2 ⟨_, rfl⟩) pa_nil)))))
    (pss_cons (ps_if (pt_cmpR op_isN (pv 3) pe_non (nomark _))
    (pss_one (ps_ret (pe_lst (pa_cons (pe_glob (v := .int (-1)) rfl T.c_NOT_WHOLE.2 ⟨_, rfl⟩) pa_nil))))
    pss_nil)
    (pss_cons (ps_if (pt_cmpR op_eq (pv 1) pe_int (nomark _))
    (pss_one (ps_ret (pe_call G_again (hr.mono (by omega)) rfl T.d_again.m T.d_again.F.kp T.d_again.b .nil pass0 (pa_cons (pv 0) (pa_cons (pv 3) pa_nil)))))
    pss_nil)
    (pss_cons (ps_set (i := 4) sc_of_value.nd rfl (Or.inl rfl) (pe_call G_print_of (hr.mono (by omega)) rfl T.d_print_of.m T.d_print_of.F.kp T.d_print_of.b .nil pass0 (pa_cons (pv 0) (pa_cons (pv 3) pa_nil))))
    (pss_one (ps_ret (pe_ifExp (pt_cmpR op_isN (pv 4) pe_non (nomark _)) (pe_lst (pa_cons pe_int pa_nil)) (pe_op op_cat (pe_lst (pa_cons pe_int pa_nil)) (pe_call G_counted (hr.mono (by omega)) rfl T.d_counted.m T.d_counted.F.kp T.d_counted.b .nil pass0 (pa_cons (pv 4) pa_nil)))))))))), ?_⟩
  have wd := fine.wide
  refine ⟨_, rfl, a, ns, rfl, ha, h200, fun u H1 s1 tu => ?_⟩
  unfold valTold at q
  cases e : valueIn ns with
  | none =>
    rw [e] at tu q
    have e2 : u = .non := tu
    subst e2
    refine ⟨_, rfl, rfl, _, rfl, iteT ⟨(by show 1 ≤ sizeLine; decide), fun p hp => ?_⟩⟩
    exact q _ _ (s1.trans (same_new hp)) ⟨p, rfl, fresh0 (s1) hp, upd_same⟩
  | some x =>
    have val := valueIn_val e
    rw [e] at tu q
    have tu : TN H1 u x := tu
    obtain ⟨b, rfl, hb⟩ := tu
    simp only at q
    refine ⟨_, rfl, rfl, _, rfl, iteF ?_⟩
    refine ⟨_, rfl, rfl, _, rfl, ?_⟩
    by_cases c6 : c = 6
    · rw [if_pos c6] at q
      refine ifT (decide_eq_true (by rw [c6])) ?_
      exact ⟨_, rfl, _, rfl, v, .ref b, f, x, rfl, rf.mono s1, fine, Tup.of hb, val, fun u2 H2 s2 lu => q u2 H2 (s1.trans s2) (lu.back s1)⟩
    rw [if_neg c6] at q
    refine ifF (decide_eq_false (by intro z; injection z with z; exact c6 z)) ?_
    refine ⟨_, rfl, _, rfl, v, .ref b, f, x, rfl, rf.mono s1, fine.deep, fine.ok, by omega, Tup.of hb, val, fun u2 H2 s2 tu2 => ?_⟩
    have s12 := s1.trans s2
    cases e3 : VafmsBase.print f x with
    | none =>
      rw [e3] at tu2 q
      have e2 : u2 = .non := tu2
      subst e2
      refine ⟨_, rfl, rfl, _, rfl, iteT ⟨(by show 1 ≤ sizeLine; decide), fun p hp => ?_⟩⟩
      exact q _ _ (s12.trans (same_new hp)) ⟨p, rfl, fresh0 (s12) hp, upd_same⟩
    | some t =>
      have tl := print_len fine e3
      rw [e3] at tu2 q
      have tu2 : TN H2 u2 t := tu2
      obtain ⟨d, rfl, hd⟩ := tu2
      refine ⟨_, rfl, rfl, _, rfl, iteF ⟨(by show 1 ≤ sizeLine; decide), fun p hp => ?_⟩⟩
      have s3 := same_new (o := .lst [.int 1]) hp
      refine ⟨_, rfl, d, t, rfl, .inr (s3 d _ hd), by omega, fun u4 H4 s4 lu => ?_⟩
      obtain ⟨g, rfl, _, hg⟩ := lu
      have hlen : ((Vafmsb.listed t).map V.int).length ≤ 449 := by
        rw [listed_map, List.length_cons, ni_length]
        omega
      refine ⟨p, g, _, _, rfl, rfl, s4 p _ upd_same, hg, small_le (by simp only [List.length_singleton]; omega), fun p5 hp5 => ?_⟩
      exact q _ _ (s12.trans ((s3.trans s4).trans (same_new hp5))) ⟨p5, rfl, fresh0 (s12.trans (s3.trans s4)) hp5, upd_same⟩
theorem first_len {f : Fmt} {p : List Nat → Bool} : ∀ (n k : Nat) (ts : List (List Nat)), (∀ t ∈ ts, t.length = k) → ∀ t, Vafmsb.firstText f p n ts = some t → t.length < k + n
  | 0, k, ts, h, t, e => by cases e
  | n + 1, k, ts, h, t, e => by
    simp only [Vafmsb.firstText] at e
    split at e
    · rename_i t' e2
      have e3 := Option.some.inj e
      subst e3
      have := h _ (List.mem_of_find?_eq_some e2)
      omega
    · have := first_len n (k + 1) _ (longer_len h) t e
      omega
def spFirstTold : Sp := fun vs H Q _ => ∃ (v : V) (f : Fmt) (m : Nat), vs = [v, .int (m : Int)] ∧ RowAt H f v ∧ Fine f ∧ ∀ u H1, Same H H1 → Fr H H1 u (Vafmsb.orNone (Vafmsb.firstText f (many f m) 6 [[]])) → Q u H1
theorem ok_first_told (T : Txt K mg) : FnOk P w K mg base CX0 62 T.d_first_told.f T.d_first_told.fd ["row", "many"] spFirstTold := by
  have G_first_with := ok_first_with (P := P) (w := w) (base := base) T
  have G_counted := ok_counted (P := P) (w := w) (base := base) T
  refine T.d_first_told.F.ok sc_first_told (fun vs H Q E h => ?_) (fun cdv A outer s H vs Q E hr h => ?_)
  · obtain ⟨v, f, m, rfl, _⟩ := h
    rfl
  obtain ⟨v, f, m, rfl, rf, fine, q⟩ := h
  refine ⟨_, (pss_cons (ps_set (i := 2) sc_first_told.nd rfl (Or.inl rfl) (pe_call G_first_with (hr.mono (by omega)) rfl T.d_first_with.m T.d_first_with.F.kp T.d_first_with.b .nil pass0 (pa_cons (pv 0) (pa_cons (pv 1) pa_nil))))
    (pss_one (ps_ret (pe_ifExp (pt_cmpR op_isN (pv 2) pe_non (nomark _)) (pe_lst (pa_cons pe_int pa_nil)) (pe_op op_cat (pe_lst (pa_cons pe_int pa_nil)) (pe_call G_counted (hr.mono (by omega)) rfl T.d_counted.m T.d_counted.F.kp T.d_counted.b .nil pass0 (pa_cons (pv 2) pa_nil))))))), ?_⟩
  refine ⟨_, rfl, _, rfl, v, f, m, rfl, rf, fine, fun u2 H2 s12 tu2 => ?_⟩
  have fl := fun t => first_len (f := f) (p := many f m) 6 0 [[]] (fun t ht => by rw [List.mem_singleton] at ht; rw [ht]; rfl) t
  generalize Vafmsb.firstText f (many f m) 6 [[]] = F at *
  cases F with
  | none =>
    have e2 : u2 = .non := tu2
    subst e2
    refine ⟨_, rfl, rfl, _, rfl, iteT ⟨(by show 1 ≤ sizeLine; decide), fun p hp => ?_⟩⟩
    exact q _ _ (s12.trans (same_new hp)) ⟨p, rfl, fresh0 (s12) hp, upd_same⟩
  | some t =>
    have tl := fl t rfl
    have tu2 : TN H2 u2 t := tu2
    obtain ⟨d, rfl, hd⟩ := tu2
    refine ⟨_, rfl, rfl, _, rfl, iteF ⟨(by show 1 ≤ sizeLine; decide), fun p hp => ?_⟩⟩
    have s3 := same_new (o := .lst [.int 1]) hp
    refine ⟨_, rfl, d, t, rfl, .inr (s3 d _ hd), by omega, fun u4 H4 s4 lu => ?_⟩
    obtain ⟨g, rfl, _, hg⟩ := lu
    have hlen : ((Vafmsb.listed t).map V.int).length ≤ 449 := by
      rw [listed_map, List.length_cons, ni_length]
      omega
    refine ⟨p, g, _, _, rfl, rfl, s4 p _ upd_same, hg, small_le (by simp only [List.length_singleton]; omega), fun p5 hp5 => ?_⟩
    exact q _ _ (s12.trans ((s3.trans s4).trans (same_new hp5))) ⟨p5, rfl, fresh0 (s12.trans (s3.trans s4)) hp5, upd_same⟩
def textsTold (f : Fmt) (n : Int) : List Int := if n < 0 ∨ 6 < n then [-3] else [Vafmsb.int (Vafmsb.kept f n.toNat).length, Vafmsb.int ((Vafmsb.kept f n.toNat).filter (many f 1)).length, Vafmsb.int ((Vafmsb.kept f n.toNat).filter (many f 2)).length]
def spTexts : Sp := fun vs H Q _ => ∃ (v : V) (f : Fmt) (n : Int), vs = [v, .int n] ∧ RowAt H f v ∧ Fine f ∧ ∀ u H1, Same H H1 → Fr H H1 u (textsTold f n) → Q u H1
theorem ok_texts (T : Txt K mg) : FnOk P w K mg base CX0 62 T.d_texts.f T.d_texts.fd ["row", "length"] spTexts := by
  have G_kept := ok_kept (P := P) (w := w) (base := base) T
  have G_those_with := ok_those_with (P := P) (w := w) (base := base) T
  refine T.d_texts.F.ok sc_texts (fun vs H Q E h => ?_) (fun cdv A outer s H vs Q E hr h => ?_)
  · obtain ⟨v, f, n, rfl, _⟩ := h
    rfl
  obtain ⟨v, f, n, rfl, rf, fine, q⟩ := h
  refine ⟨_, (pss_cons (ps_if (pt_not (pt_chain op_le op_le pe_int (pv 1) (pe_glob (v := .int 6) rfl T.c_LONGEST_ASKED.2 ⟨_, rfl⟩)))
    (pss_one (ps_ret (pe_lst (pa_cons (pe_glob (v := .int (-3)) rfl T.c_NO_SUCH_LENGTH.2 ⟨_, rfl⟩) pa_nil))))
    pss_nil)
    (pss_cons (ps_set (i := 2) sc_texts.nd rfl (Or.inl rfl) (pe_call G_kept (hr.mono (by omega)) rfl T.d_kept.m T.d_kept.F.kp T.d_kept.b .nil pass0 (pa_cons (pv 0) (pa_cons (pv 1) pa_nil))))
    (pss_one (ps_ret (pe_lst (pa_cons (pe_callB call_len_seq (by rfl) T.b_len PySem.boot_len (pa_cons (pv 2) pa_nil)) (pa_cons (pe_callB call_len_seq (by rfl) T.b_len PySem.boot_len (pa_cons (pe_call G_those_with (hr.mono (by omega)) rfl T.d_those_with.m T.d_those_with.F.kp T.d_those_with.b .nil pass0 (pa_cons (pv 0) (pa_cons (pv 2) (pa_cons pe_int pa_nil)))) pa_nil)) (pa_cons (pe_callB call_len_seq (by rfl) T.b_len PySem.boot_len (pa_cons (pe_call G_those_with (hr.mono (by omega)) rfl T.d_those_with.m T.d_those_with.F.kp T.d_those_with.b .nil pass0 (pa_cons (pv 0) (pa_cons (pv 2) (pa_cons pe_int pa_nil)))) pa_nil)) pa_nil)))))))), ?_⟩
  have bad : (n < 0 ∨ 6 < n) → ∀ p, H p = none → Q (.ref p) (upd H p (.lst [.int (-3)])) := fun e p hp => q _ _ (same_new hp) ⟨p, rfl, hp, by unfold textsTold; rw [if_pos e]; exact upd_same⟩
  refine ⟨_, rfl, _, _, rfl, rfl, _, rfl, ?_⟩
  refine iteD (fun c1 => ?_) (fun c1 => ?_)
  case refine_2 => exact ⟨_, rfl, iteT ⟨(by show 1 ≤ sizeLine; decide), bad (.inl (by omega))⟩⟩
  refine ⟨_, _, rfl, rfl, _, rfl, ?_⟩
  refine iteN (fun c2 => ⟨(by show 1 ≤ sizeLine; decide), bad (.inr (by omega))⟩) (fun c2 => ?_)
  unfold textsTold at q
  rw [if_neg (by omega)] at q
  obtain ⟨k1, k2⟩ := kept_len f n.toNat
  have k20 : ∀ t ∈ Vafmsb.kept f n.toNat, t.length ≤ 20 := fun t ht => by rw [k1 t ht]; omega
  have en : n = ((n.toNat : Nat) : Int) := by omega
  refine ⟨_, rfl, _, rfl, v, f, n.toNat, congrArg (fun z => [v, V.int z]) en, rf, fine, by omega, fun u H1 s1 tu => ?_⟩
  obtain ⟨zs, ⟨a, rfl, ha⟩, az⟩ := id tu
  refine ⟨_, rfl, a, zs, rfl, .inl (SqL.of ha), _, rfl, _, rfl, v, .ref a, f, _, 1, rfl, rf.mono s1, fine, tu, k2, k20, fun u2 H2 s2 tu2 => ?_⟩
  obtain ⟨zs2, ⟨a2, rfl, ha2⟩, az2⟩ := id tu2
  refine ⟨a2, zs2, rfl, .inl (SqL.of ha2), _, rfl, _, rfl, v, .ref a, f, _, 2, rfl, (rf.mono s1).mono s2, fine, tu.mono s2, k2, k20, fun u3 H3 s3 tu3 => ?_⟩
  obtain ⟨zs3, ⟨a3, rfl, ha3⟩, az3⟩ := id tu3
  refine ⟨a3, zs3, rfl, .inl (SqL.of ha3), (by show 3 ≤ sizeLine; decide), fun p hp => ?_⟩
  refine q _ _ (((s1.trans s2).trans s3).trans (same_new hp)) ⟨p, rfl, fresh0 (((s1.trans s2).trans s3)) hp, upd_same.trans ?_⟩
  rw [az.length, az2.length, az3.length]
  rfl
end
end Asc
namespace Asc
open PySem PySem.Spec PyProof.Rows L2
open VafmsBase (Fmt)
section
variable {P : Program} {w : World} {K : PySem.W.Frag} {mg : Str → Option PySem.Value} {base : Heap}
theorem fine_done : Fine .done := ⟨rfl, by decide, by decide, rfl⟩
def spDeskInit (C : Addr) : Sp := fun vs H Q _ => ∃ (x dx : Addr), vs = [.ref x] ∧ H x = some (.ins C dx []) ∧ ∀ H1 v, SameBut x H H1 → H1 x = some (.ins C dx [("row", v)]) → RowAt H1 .done v → Q .non H1
theorem ok_Desk_init (T : Txt K mg) : FnOk P w K mg base CX0 1 T.Desk_init.f T.Desk_init.fd ["self"] (spDeskInit T.cDesk) := by
  refine T.Desk_init.F.ok sc_Desk_init (fun vs H Q E h => ?_) (fun cdv A outer s H vs Q E hr h => ?_)
  · obtain ⟨x, dx, rfl, _⟩ := h
    rfl
  obtain ⟨x, dx, rfl, hx, q⟩ := h
  refine ⟨_, (pss_one (ps_fld (pv 0) (pe_tup pa_nil) rfl)), ?_⟩
  refine ⟨(by show 0 ≤ sizeLine; decide), fun p hp => ?_⟩
  have s1 := same_new (o := .tup []) hp
  have px : p ≠ x := fun e => by
    rw [e, hx] at hp
    cases hp
  refine ⟨_, rfl, x, _, dx, [], rfl, s1 x _ hx, T.Desk_cl, T.nD_row, by decide, ?_⟩
  refine q _ (.ref p) ((s1.but x).trans (SameBut.refl x _).put) upd_same ⟨[], Tup.of ?_, rfl⟩
  rw [upd_ne px, upd_same]
def fmtTold (f : Fmt) (ns : List Int) : Fmt × List Int := match fmtIn ns with
  | none => (f, [-1])
  | some g => (g, [Vafmsb.int g.size, Vafmsb.int g.holes])
/-- what the desk hands back: its row told anew -/
def Told (C x dx : Addr) (H : Hp) (o : Fmt × List Int) (Q : VK) : Prop := ∀ u H1 v1, SameBut x H H1 → H1 x = some (.ins C dx [("row", v1)]) → RowAt H1 o.1 v1 → Fine o.1 → Fr H H1 u o.2 → Q u H1
def spSetFormat (C : Addr) : Sp := fun vs H Q _ => ∃ (x dx a : Addr) (v : V) (f : Fmt) (ns : List Int), vs = [.ref x, .ref a] ∧ H x = some (.ins C dx [("row", v)]) ∧ RowAt H f v ∧ Fine f ∧ H a = some (.lst (ns.map V.int)) ∧ ns.length ≤ 200 ∧ Told C x dx H (fmtTold f ns) Q
theorem ok_set_format (T : Txt K mg) : FnOk P w K mg base CX0 105 T.m_set_format.f T.m_set_format.fd ["self", "n"] (spSetFormat T.cDesk) := by
  have G_format_in := ok_format_in (P := P) (w := w) (base := base) T
  have G_all_pieces := all_pieces_ok (P := P) (w := w) (base := base) T 15
  have G_gone_through := gone_ok (P := P) (w := w) (base := base) T 15
  refine T.m_set_format.F.ok sc_Desk_set_format (fun vs H Q E h => ?_) (fun cdv A outer s H vs Q E hr h => ?_)
  · obtain ⟨x, dx, a, v, f, ns, rfl, _⟩ := h
    rfl
  obtain ⟨x, dx, a, v, f, ns, rfl, hx, rf, fine, ha, h200, q⟩ := h
  refine ⟨_, (pss_cons (ps_set (i := 2) sc_Desk_set_format.nd rfl (Or.inl rfl) (pe_call G_format_in (hr.mono (by omega)) rfl T.d_format_in.m T.d_format_in.F.kp T.d_format_in.b .nil pass0 (pa_cons (pv 1) pa_nil)))
    (pss_cons (ps_if (pt_cmpR op_isN (pv 2) pe_non (nomark _))
    (pss_one (ps_ret (pe_lst (pa_cons (pe_glob (v := .int (-1)) rfl T.c_NOT_WHOLE.2 ⟨_, rfl⟩) pa_nil))))
    pss_nil)
    (pss_cons (ps_fld (pv 0) (pv 2) rfl)
    (pss_one (ps_ret (pe_lst (pa_cons (pe_callB call_len_seq (by rfl) T.b_len PySem.boot_len (pa_cons (pe_call G_all_pieces (hr.mono (by omega)) rfl T.d_all_pieces.m T.d_all_pieces.F.kp T.d_all_pieces.b .nil pass0 (pa_cons (pv 2) pa_nil)) pa_nil)) (pa_cons (pe_call G_gone_through (hr.mono (by omega)) rfl T.d_gone_through.m T.d_gone_through.F.kp T.d_gone_through.b .nil pass0 (pa_cons (pv 2) pa_nil)) pa_nil)))))))), ?_⟩
  refine ⟨_, rfl, a, ns, rfl, ha, h200, fun u H1 s1 fu => ?_⟩
  unfold fmtTold at q
  have hx1 := s1 x _ hx
  cases e : fmtIn ns with
  | none =>
    rw [e] at fu q
    have e2 : u = .non := fu
    subst e2
    refine ⟨_, rfl, rfl, _, rfl, iteT ⟨(by show 1 ≤ sizeLine; decide), fun p hp => ?_⟩⟩
    have s2 := same_new (o := .lst [.int (-1)]) hp
    exact q _ _ v ((s1.trans s2).but x) (s2 x _ hx1) ((rf.mono s1).mono s2) fine ⟨p, rfl, fresh0 s1 hp, upd_same⟩
  | some g =>
    obtain ⟨o1, o2, o3, o4⟩ := fmtIn_ok e
    have fg : Fine g := ⟨o1, o3, o2, o4⟩
    rw [e] at fu q
    have fu : RowAt H1 g u := fu
    have nu : u ≠ .non := by
      obtain ⟨xs, ⟨b, rfl, _⟩, _⟩ := fu
      intro z
      cases z
    refine ⟨_, rfl, rfl, _, rfl, ifF (decide_eq_false nu) ?_⟩
    refine ⟨_, rfl, _, rfl, x, _, dx, [("row", v)], rfl, hx1, T.Desk_cl, T.nD_row, by show 1 < 1000; decide, ?_⟩
    have s2 : SameBut x H1 (upd H1 x (.ins T.cDesk dx (putF "row" u [("row", v)]))) := (SameBut.refl x H1).put
    have hx2 : upd H1 x (.ins T.cDesk dx (putF "row" u [("row", v)])) x = some (.ins T.cDesk dx [("row", u)]) := upd_same
    have fu2 := fu.monoT (H1 := upd H1 x (.ins T.cDesk dx (putF "row" u [("row", v)]))) fun a xs h => s2 a _ (ne_of h hx1 (by intro z; cases z)) h
    have s12 := (s1.but x).trans s2
    generalize upd H1 x (.ins T.cDesk dx (putF "row" u [("row", v)])) = H2 at *
    have gs := fg.size
    refine ⟨_, rfl, u, g, rfl, fu2, fg.deep, by omega, fun l H3 xs s3 hl hl3 px => ?_⟩
    refine ⟨l, xs, rfl, .inl (SqL.of hl3), _, rfl, u, g, rfl, fu2.mono s3, fg.deep, fg.ok, fun H4 s4 => ?_⟩
    refine ⟨(by show 2 ≤ sizeLine; decide), fun p hp => ?_⟩
    have s5 := same_new (o := .lst [.int (xs.length : Int), .int (g.holes : Int)]) hp
    have s35 := (s3.trans s4).trans s5
    have hpH : H p = none := by
      cases h : H p with
      | none => rfl
      | some o =>
        have px : p ≠ x := fun z => by
          rw [z, (s3.trans s4) x _ hx2] at hp
          cases hp
        have := (s12.trans ((s3.trans s4).but x)) p o px h
        rw [hp] at this
        cases this
    refine q _ _ u (s12.trans (s35.but x)) (s35 x _ hx2) (fu2.mono s35) fg ⟨p, rfl, hpH, upd_same.trans ?_⟩
    rw [px.length, subs_length]
    rfl
theorem beq_d (a p : Int) : (a == p) = decide (p = a) := by
  rw [Bool.eq_iff_iff, beq_iff_eq, decide_eq_true_eq]
  exact eq_comm
theorem in_two (p a b : Int) : inV (.int p) [.int a, .int b] = (decide (p = a) || decide (p = b)) := by
  show ((a == p) || ((b == p) || false)) = _
  rw [beq_d, beq_d, Bool.or_false]
theorem in_three (p a b c : Int) : inV (.int p) [.int a, .int b, .int c] = (decide (p = a) || (decide (p = b) || decide (p = c))) := by
  show ((a == p) || ((b == p) || ((c == p) || false))) = _
  rw [beq_d, beq_d, beq_d, Bool.or_false]
/-- a call's step, as told -/
theorem many_text (f : Fmt) : Vafmsb.isText f = many f 1 := funext fun t => by
  unfold Vafmsb.isText many
  cases VafmsBase.scannings f t <;> simp
theorem many_amb (f : Fmt) : Vafmsb.isAmbiguous f = many f 2 := rfl
theorem step_format (f : Fmt) (ns : List Int) : Vafmsb.step ⟨f⟩ (.format ns) = (⟨(fmtTold f ns).1⟩, (fmtTold f ns).2) := by
  simp only [Vafmsb.step, fmt_is, fmtTold]
  cases fmtIn ns <;> rfl
theorem step_value (f : Fmt) (c : Int) (h : c = 1 ∨ c = 6) (k : Int) (ns : List Int) : Vafmsb.step ⟨f⟩ (callC c k ns) = (⟨f⟩, valTold f c ns) := by
  rcases h with rfl | rfl
  · show Vafmsb.step ⟨f⟩ (.print ns) = _
    simp only [Vafmsb.step, value_is, valTold]
    cases valueIn ns <;> rfl
  · show Vafmsb.step ⟨f⟩ (.again ns) = _
    simp only [Vafmsb.step, value_is, valTold]
    cases valueIn ns <;> rfl
theorem step_text (f : Fmt) (c : Int) (h : c = 2 ∨ c = 3 ∨ c = 4 ∨ c = 5) (k : Int) (ns : List Int) : Vafmsb.step ⟨f⟩ (callC c k ns) = (⟨f⟩, textTold f c k ns) := by
  rcases h with rfl | rfl | rfl | rfl
  · show Vafmsb.step ⟨f⟩ (.scan ns) = _
    simp only [Vafmsb.step, Vafmsb.onText, text_is, textTold]
    cases textIn ns <;> rfl
  · show Vafmsb.step ⟨f⟩ (.count ns) = _
    simp only [Vafmsb.step, Vafmsb.onText, text_is, textTold]
    cases textIn ns <;> rfl
  · show Vafmsb.step ⟨f⟩ (.kth ns k) = _
    simp only [Vafmsb.step, Vafmsb.onText, text_is, textTold]
    cases textIn ns with
    | none => rfl
    | some t =>
      simp only
      rw [if_neg (show ¬ (4 : Int) = 5 by decide), if_neg (show ¬ (4 : Int) = 2 by decide), if_neg (show ¬ (4 : Int) = 3 by decide)]
      unfold kthTold
      rfl
  · show Vafmsb.step ⟨f⟩ (.far ns) = _
    simp only [Vafmsb.step, Vafmsb.onText, text_is, textTold]
    cases textIn ns <;> rfl
theorem step_least (f : Fmt) (k : Int) (ns : List Int) : Vafmsb.step ⟨f⟩ (callC 7 k ns) = (⟨f⟩, Vafmsb.orNone (Vafmsb.firstText f (many f 1) 6 [[]])) := by
  show (_, Vafmsb.orNone (Vafmsb.firstText f (Vafmsb.isText f) 6 [[]])) = _
  rw [many_text]
theorem step_amb (f : Fmt) (k : Int) (ns : List Int) : Vafmsb.step ⟨f⟩ (callC 8 k ns) = (⟨f⟩, Vafmsb.orNone (Vafmsb.firstText f (many f 2) 6 [[]])) := rfl
theorem step_texts (f : Fmt) (k : Int) (ns : List Int) : Vafmsb.step ⟨f⟩ (callC 9 k ns) = (⟨f⟩, textsTold f k) := by
  show Vafmsb.step ⟨f⟩ (.texts k) = _
  simp only [Vafmsb.step, textsTold, many_text, many_amb]
  show (if k < 0 ∨ (6 : Int) < k then _ else _) = _
  split <;> rfl
def spAnswer (C : Addr) : Sp := fun vs H Q _ => ∃ (x dx a : Addr) (v : V) (f : Fmt) (c k : Int) (ns : List Int), vs = [.ref x, .int c, .int k, .ref a] ∧ H x = some (.ins C dx [("row", v)]) ∧ RowAt H f v ∧ Fine f ∧ H a = some (.lst (ns.map V.int)) ∧ ns.length ≤ 200 ∧ 0 ≤ c ∧ c ≤ 9 ∧
  Told C x dx H ((Vafmsb.step ⟨f⟩ (callC c k ns)).1.format, (Vafmsb.step ⟨f⟩ (callC c k ns)).2) Q
theorem ok_answer (T : Txt K mg) : FnOk P w K mg base CX0 106 T.m_answer.f T.m_answer.fd ["self", "call", "number", "n"] (spAnswer T.cDesk) := by
  have G_set_format := ok_set_format (P := P) (w := w) (base := base) T
  have G_of_value := ok_of_value (P := P) (w := w) (base := base) T
  have G_first_told := ok_first_told (P := P) (w := w) (base := base) T
  have G_texts := ok_texts (P := P) (w := w) (base := base) T
  have G_of_text := ok_of_text (P := P) (w := w) (base := base) T
  refine T.m_answer.F.ok sc_Desk_answer (fun vs H Q E h => ?_) (fun cdv A outer s H vs Q E hr h => ?_)
  · obtain ⟨x, dx, a, v, f, c, k, ns, rfl, _⟩ := h
    rfl
  obtain ⟨x, dx, a, v, f, c, k, ns, rfl, hx, rf, fine, ha, h200, c0, c9, q⟩ := h
  refine ⟨_, (pss_cons (ps_if (pt_cmpR op_eq (pv 1) (pe_glob (v := .int 0) rfl T.c_FORMAT.2 ⟨_, rfl⟩) (nomark _))
    (pss_one (ps_ret (pe_meth (pv 0) T.Desk_cl T.m_set_format.me G_set_format (hr.mono (by omega)) T.m_set_format.b .nil pass0 (pa_cons (pv 3) pa_nil))))
    pss_nil)
    (pss_cons (ps_if (pt_cmpR op_in_seq (pv 1) (pe_tup (pa_cons pe_int (pa_cons pe_int pa_nil))) (by rfl))
    (pss_one (ps_ret (pe_call G_of_value (hr.mono (by omega)) rfl T.d_of_value.m T.d_of_value.F.kp T.d_of_value.b .nil pass0 (pa_cons (pe_fld (pv 0) rfl) (pa_cons (pv 1) (pa_cons (pv 3) pa_nil))))))
    pss_nil)
    (pss_cons (ps_if (pt_cmpR op_eq (pv 1) (pe_glob (v := .int 7) rfl T.c_LEAST.2 ⟨_, rfl⟩) (nomark _))
    (pss_one (ps_ret (pe_call G_first_told (hr.mono (by omega)) rfl T.d_first_told.m T.d_first_told.F.kp T.d_first_told.b .nil pass0 (pa_cons (pe_fld (pv 0) rfl) (pa_cons pe_int pa_nil)))))
    pss_nil)
    (pss_cons (ps_if (pt_cmpR op_eq (pv 1) (pe_glob (v := .int 8) rfl T.c_AMBIGUOUS.2 ⟨_, rfl⟩) (nomark _))
    (pss_one (ps_ret (pe_call G_first_told (hr.mono (by omega)) rfl T.d_first_told.m T.d_first_told.F.kp T.d_first_told.b .nil pass0 (pa_cons (pe_fld (pv 0) rfl) (pa_cons pe_int pa_nil)))))
    pss_nil)
    (pss_cons (ps_if (pt_cmpR op_eq (pv 1) (pe_glob (v := .int 9) rfl T.c_TEXTS.2 ⟨_, rfl⟩) (nomark _))
    (pss_one (ps_ret (pe_call G_texts (hr.mono (by omega)) rfl T.d_texts.m T.d_texts.F.kp T.d_texts.b .nil pass0 (pa_cons (pe_fld (pv 0) rfl) (pa_cons (pv 2) pa_nil)))))
    pss_nil)
    (pss_one (ps_ret (pe_call G_of_text (hr.mono (by omega)) rfl T.d_of_text.m T.d_of_text.F.kp T.d_of_text.b .nil pass0 (pa_cons (pe_fld (pv 0) rfl) (pa_cons (pv 1) (pa_cons (pv 2) (pa_cons (pv 3) pa_nil)))))))))))), ?_⟩
  have neq : ∀ {i j : Int}, i ≠ j → decide (V.int i = V.int j) = false := fun h => decide_eq_false (by intro z; injection z with z; exact h z)
  have yeq : ∀ {i j : Int}, i = j → decide (V.int i = V.int j) = true := fun h => decide_eq_true (by rw [h])
  -- a call that leaves the row
  have keep : ∀ out, Vafmsb.step ⟨f⟩ (callC c k ns) = (⟨f⟩, out) → ∀ u H1, Same H H1 → Fr H H1 u out → Q u H1 := fun out e u H1 s1 lu => by
    rw [e] at q
    exact q u H1 v (s1.but x) (s1 x _ hx) (rf.mono s1) fine lu
  refine ⟨_, rfl, rfl, _, rfl, ?_⟩
  by_cases e0 : c = 0
  · refine ifT (yeq e0) ?_
    subst e0
    refine ⟨_, rfl, x, dx, _, rfl, hx, rfl, _, rfl, x, dx, a, v, f, ns, rfl, hx, rf, fine, ha, h200, ?_⟩
    have e : Vafmsb.step ⟨f⟩ (callC 0 k ns) = (⟨(fmtTold f ns).1⟩, (fmtTold f ns).2) := step_format f ns
    rw [e] at q
    exact q
  refine ifF (neq e0) ?_
  refine ⟨_, rfl, (by show 2 ≤ sizeLine; decide), fun p hp => ?_⟩
  have s1 := same_new (o := .tup [.int 1, .int 6]) hp
  refine ⟨p, _, rfl, .inr (SqT.of upd_same), rfl, rfl, _, rfl, ?_⟩
  rw [in_two]
  by_cases e1 : c = 1 ∨ c = 6
  · refine ifT (by rcases e1 with z | z <;> subst z <;> rfl) ?_
    refine ⟨_, rfl, x, _, _, _, _, rfl, s1 x _ hx, T.Desk_cl, T.nD_row, rfl, _, rfl, _, rfl, v, a, f, c, ns, rfl, rf.mono s1, fine, s1 a _ ha, h200, fun u H1 s2 lu => ?_⟩
    exact keep _ (step_value f c e1 k ns) u H1 (s1.trans s2) (lu.back s1)
  refine ifF (by
    rw [decide_eq_false (show ¬ c = 1 from fun z => e1 (.inl z)), decide_eq_false (show ¬ c = 6 from fun z => e1 (.inr z))]
    rfl) ?_
  refine ⟨_, rfl, rfl, _, rfl, ?_⟩
  by_cases e7 : c = 7
  · refine ifT (yeq e7) ?_
    refine ⟨_, rfl, x, _, _, _, _, rfl, s1 x _ hx, T.Desk_cl, T.nD_row, rfl, v, f, 1, rfl, rf.mono s1, fine, fun u H1 s2 lu => ?_⟩
    exact keep _ (by rw [e7]; exact step_least f k ns) u H1 (s1.trans s2) (lu.back s1)
  refine ifF (neq e7) ?_
  refine ⟨_, rfl, rfl, _, rfl, ?_⟩
  by_cases e8 : c = 8
  · refine ifT (yeq e8) ?_
    refine ⟨_, rfl, x, _, _, _, _, rfl, s1 x _ hx, T.Desk_cl, T.nD_row, rfl, v, f, 2, rfl, rf.mono s1, fine, fun u H1 s2 lu => ?_⟩
    exact keep _ (by rw [e8]; exact step_amb f k ns) u H1 (s1.trans s2) (lu.back s1)
  refine ifF (neq e8) ?_
  refine ⟨_, rfl, rfl, _, rfl, ?_⟩
  by_cases e9 : c = 9
  · refine ifT (yeq e9) ?_
    refine ⟨_, rfl, x, _, _, _, _, rfl, s1 x _ hx, T.Desk_cl, T.nD_row, rfl, _, rfl, v, f, k, rfl, rf.mono s1, fine, fun u H1 s2 lu => ?_⟩
    exact keep _ (by rw [e9]; exact step_texts f k ns) u H1 (s1.trans s2) (lu.back s1)
  refine ifF (neq e9) ?_
  have e2 : c = 2 ∨ c = 3 ∨ c = 4 ∨ c = 5 := by omega
  refine ⟨_, rfl, x, _, _, _, _, rfl, s1 x _ hx, T.Desk_cl, T.nD_row, rfl, _, rfl, _, rfl, _, rfl, v, a, f, c, k, ns, rfl, rf.mono s1, fine, s1 a _ ha, h200, fun u H1 s2 lu => ?_⟩
  exact keep _ (step_text f c e2 k ns) u H1 (s1.trans s2) (lu.back s1)
def spAnswers (K : PySem.W.Frag) : Sp := fun vs H Q _ => ∃ (a : Addr) (ns : List Int), vs = [.ref a] ∧ SqL K H a (ns.map V.int) ∧ ns.length ≤ 8200 ∧ PyVafmsb.answers_asked ns = true ∧ ∀ H' p, H' p = some (.lst ((PyVafmsb.answers ns).map V.int)) → Q (.ref p) H'
theorem ok_answers (T : Txt K mg) : FnOk P w K mg base CX0 107 T.d_answers.f T.d_answers.fd ["calls"] (spAnswers K) := by
  have G_Desk_init := ok_Desk_init (P := P) (w := w) (base := base) T
  have G_answer := ok_answer (P := P) (w := w) (base := base) T
  refine T.d_answers.F.ok sc_answers (fun vs H Q E h => ?_) (fun cdv A outer s H vs Q E hr h => ?_)
  · obtain ⟨a, ns, rfl, _⟩ := h
    rfl
  obtain ⟨a, ns, rfl, ha, h8200, asked, q⟩ := h
  refine ⟨_, (pss_cons (ps_set (i := 1) sc_answers.nd rfl (Or.inl rfl) (pe_make0 T.Desk_init.mks G_Desk_init (hr.mono (by omega)) rfl T.Desk_g T.Desk_init.b .nil pass0))
    (pss_cons (ps_set (i := 2) sc_answers.nd rfl (Or.inl rfl) (pe_lst pa_nil))
    (pss_cons (ps_set (i := 3) sc_answers.nd rfl (Or.inl rfl) pe_int)
    (pss_cons (ps_while PassesOwn.never (pt_cmpR op_lt (pv 3) (pe_callB call_len_seq (by rfl) T.b_len PySem.boot_len (pa_cons (pv 0) pa_nil)) (nomark _))
    (pss_cons (ps_set (i := 4) sc_answers.nd rfl (Or.inl rfl) (pe_ix ix_list (pv 0) (pv 3) (fun _ _ => rfl)))
    (pss_cons (ps_set (i := 3) sc_answers.nd rfl (Or.inl rfl) (pe_op op_add (pv 3) pe_int))
    (pss_cons (ps_set (i := 5) sc_answers.nd rfl (Or.inl rfl) pe_int)
    (pss_cons (ps_if (pt_cmpR op_in_seq (pv 4) (pe_tup (pa_cons (pe_glob (v := .int 4) rfl T.c_KTH.2 ⟨_, rfl⟩) (pa_cons (pe_glob (v := .int 9) rfl T.c_TEXTS.2 ⟨_, rfl⟩) pa_nil))) (by rfl))
    (pss_cons (ps_set (i := 5) sc_answers.nd rfl (Or.inl rfl) (pe_ix ix_list (pv 0) (pv 3) (fun _ _ => rfl)))
    (pss_one (ps_set (i := 3) sc_answers.nd rfl (Or.inl rfl) (pe_op op_add (pv 3) pe_int))))
    pss_nil)
    (pss_cons (ps_set (i := 6) sc_answers.nd rfl (Or.inl rfl) (pe_lst pa_nil))
    (pss_cons (ps_if (pt_cmpR op_notIn_seq (pv 4) (pe_tup (pa_cons (pe_glob (v := .int 7) rfl T.c_LEAST.2 ⟨_, rfl⟩) (pa_cons (pe_glob (v := .int 8) rfl T.c_AMBIGUOUS.2 ⟨_, rfl⟩) (pa_cons (pe_glob (v := .int 9) rfl T.c_TEXTS.2 ⟨_, rfl⟩) pa_nil)))) (by rfl))
    (pss_cons (ps_set (i := 6) sc_answers.nd rfl (Or.inl rfl) (pe_slice sl_list (pv 0) (po_some (pe_op op_add (pv 3) pe_int)) (po_some (pe_op op_add (pe_op op_add (pv 3) pe_int) (pe_ix ix_list (pv 0) (pv 3) (fun _ _ => rfl))))))
    (pss_one (ps_set (i := 3) sc_answers.nd rfl (Or.inl rfl) (pe_op op_add (pe_op op_add (pv 3) pe_int) (pe_ix ix_list (pv 0) (pv 3) (fun _ _ => rfl))))))
    pss_nil)
    (pss_cons (ps_set (i := 7) sc_answers.nd rfl (Or.inl rfl) (pe_meth (pv 1) T.Desk_cl T.m_answer.me G_answer (hr.mono (by omega)) T.m_answer.b .nil pass0 (pa_cons (pv 4) (pa_cons (pv 5) (pa_cons (pv 6) pa_nil)))))
    (pss_cons (ps_expr (pe_bm PySem.F.plainAttrs_list PySem.F.slot_list_append PySem.F.type_list_append mt_append (pv 2) (pa_cons (pe_callB call_len_seq (by rfl) T.b_len PySem.boot_len (pa_cons (pv 7) pa_nil)) pa_nil)))
    (pss_one (ps_expr (pe_bm PySem.F.plainAttrs_list PySem.F.slot_list_extend PySem.F.type_list_extend mt_extend (pv 2) (pa_cons (pv 7) pa_nil)))))))))))))
    (pss_one (ps_ret (pv 2))))))), ?_⟩
  have len : (ns.map V.int).length = ns.length := List.length_map _
  -- what is asked
  obtain ⟨raw, eraw, inb, short, eans⟩ : ∃ raw, PyFlat.calls PyVafmsb.shape ns.length ns = some raw ∧ PyInside.calls PyVafmsb.bound raw = true ∧ (PyVafmsb.answers ns).length ≤ 10000000 ∧
      PyVafmsb.answers ns = PyFlat.told (PyFlat.played VafmsbNeutral.step VafmsbNeutral.start (raw.map PyVafmsb.whole)) := by
    unfold PyVafmsb.answers_asked at asked
    cases e : PyFlat.calls PyVafmsb.shape ns.length ns with
    | none => rw [e] at asked; cases asked
    | some raw =>
      rw [e] at asked
      simp only [Bool.and_eq_true] at asked
      refine ⟨raw, rfl, asked.1.1.2, ?_, ?_⟩
      · have := asked.2
        unfold PyFlat.short at this
        simpa using this
      · unfold PyVafmsb.answers PyVafmsb.calls
        rw [e]
  generalize PyVafmsb.answers ns = total at *
  -- the desk
  refine fun x dx hx hdx nx => ?_
  refine ⟨x, dx, rfl, upd_same, fun H1 v0 s1 hx1 rv0 => ⟨rfl, ?_⟩⟩
  have s1' := made_same hx hdx s1
  refine ⟨(by show 0 ≤ sizeLine; decide), fun l hl => ?_⟩
  have s2 := s1'.trans (same_new (o := .lst []) hl)
  have nxl : x ≠ l := fun e => by
    rw [e, hl] at hx1
    cases hx1
  have hlH : H l = none := fresh0 s1' hl
  refine ⟨fun m σ H2 => ∃ (j fl : Nat) (f : Fmt) (v : V) (cs : List (List (List Int))) (outs : List Int) (v4 v5 v6 v7 : Option V), σ = [some (.ref a), some (.ref x), some (.ref l), some (.int (j : Int)), v4, v5, v6, v7] ∧ m = ns.length - j ∧ j ≤ ns.length ∧ Same H H2 ∧
    H2 x = some (.ins T.cDesk dx [("row", v)]) ∧ RowAt H2 f v ∧ Fine f ∧ H2 l = some (.lst (outs.map V.int)) ∧ PyFlat.calls PyVafmsb.shape fl (ns.drop j) = some cs ∧ PyInside.calls PyVafmsb.bound cs = true ∧
    total = outs ++ PyFlat.told (PyFlat.played VafmsbNeutral.step ⟨f⟩ (cs.map PyVafmsb.whole)), ⟨ns.length, 0, ns.length, .done, v0, raw, [], none, none, none, none, rfl, rfl, Nat.zero_le _, s2, ?_, rv0.mono (same_new hl), fine_done, upd_same, eraw, inb, eans⟩, ?_⟩
  · rw [upd_ne nxl]
    exact hx1
  rintro m σ H2 ⟨j, fl, f, v, cs, outs, v4, v5, v6, v7, rfl, rfl, hj, s3, hx2, rv, fine, hl2, ecs, inb2, etot⟩
  have hl2' := hl2
  have ha2 := s3.seq ha
  refine ⟨_, rfl, _, rfl, a, _, rfl, .inl ha2, _, _, rfl, rfl, _, rfl, ?_⟩
  rw [len]
  refine iteD (fun c1 => ?_) (fun c1 => ?_)
  case refine_2 =>
    -- the end
    rw [List.drop_of_length_le (by omega)] at ecs
    have ecs0 : cs = [] := by
      cases fl <;> exact (Option.some.inj ecs).symm
    subst ecs0
    refine ⟨_, rfl, q H2 l ?_⟩
    rw [etot]
    simp only [List.map_nil, PyFlat.played, PyFlat.told, List.flatMap_nil, List.append_nil]
    exact hl2
  -- one call
  have hlt : j < ns.length := by omega
  have hz : ns[j]? = some ns[j] := List.getElem?_eq_getElem hlt
  have hd : ns.drop j = ns[j] :: ns.drop (j + 1) := List.drop_eq_getElem_cons hlt
  generalize ns[j] = p at hz hd
  rw [hd] at ecs
  cases fl with
  | zero => cases ecs
  | succ fl =>
    simp only [PyFlat.calls] at ecs
    cases ec : PyFlat.call PyVafmsb.shape (p :: ns.drop (j + 1)) with
    | none => rw [ec] at ecs; cases ecs
    | some ct =>
      obtain ⟨c, t⟩ := ct
      rw [ec] at ecs
      simp only at ecs
      cases ecs2 : PyFlat.calls PyVafmsb.shape fl t with
      | none => rw [ecs2] at ecs; cases ecs
      | some cs2 =>
        rw [ecs2] at ecs
        have ecs3 := Option.some.inj ecs
        subst ecs3
        have sp := call_spelled ec
        obtain ⟨k, row, est, shp⟩ := step_call ⟨f⟩ sp
        rw [List.map_cons] at etot
        simp only [PyFlat.played, PyFlat.told, List.flatMap_cons] at etot
        rw [est] at etot
        have inb3 : PyInside.call PyVafmsb.bound c = true ∧ PyInside.calls PyVafmsb.bound cs2 = true := by
          unfold PyInside.calls at inb2
          rw [List.all_cons, Bool.and_eq_true] at inb2
          exact inb2
        -- a place from the rest
        have at_t : ∀ i, i ≤ ns.length → ∀ u : List Int, ns.drop i = u ++ t → i + u.length ≤ ns.length ∧ ns.drop (i + u.length) = t := fun i hi u e => by
          have h1 := congrArg List.length e
          rw [List.length_drop, List.length_append] at h1
          refine ⟨by omega, ?_⟩
          rw [← List.drop_drop, e, List.drop_left]
        refine ⟨fun σ' H' => ∃ m', m' < ns.length - j ∧ ∃ (j fl : Nat) (f : Fmt) (v : V) (cs : List (List (List Int))) (outs : List Int) (v4 v5 v6 v7 : Option V), σ' = [some (.ref a), some (.ref x), some (.ref l), some (.int (j : Int)), v4, v5, v6, v7] ∧ m' = ns.length - j ∧ j ≤ ns.length ∧ Same H H' ∧
          H' x = some (.ins T.cDesk dx [("row", v)]) ∧ RowAt H' f v ∧ Fine f ∧ H' l = some (.lst (outs.map V.int)) ∧ PyFlat.calls PyVafmsb.shape fl (ns.drop j) = some cs ∧ PyInside.calls PyVafmsb.bound cs = true ∧
          total = outs ++ PyFlat.told (PyFlat.played VafmsbNeutral.step ⟨f⟩ (cs.map PyVafmsb.whole)), fun _ _ h => h, ?_⟩
        refine ⟨_, rfl, _, rfl, a, _, _, _, rfl, rfl, ha2, atZ rfl hz, ?_⟩
        refine ⟨_, rfl, _, _, rfl, rfl, ?_⟩
        refine ⟨_, rfl, (by show 2 ≤ sizeLine; decide), fun p1 hp1 => ?_⟩
        have s4 := s3.trans (same_new (o := .tup [.int 4, .int 9]) hp1)
        have x4 := (same_new (o := .tup [.int 4, .int 9]) hp1) x _ hx2
        have l4 := (same_new (o := .tup [.int 4, .int 9]) hp1) l _ hl2
        have r4 := rv.mono (same_new (o := .tup [.int 4, .int 9]) hp1)
        refine ⟨p1, _, rfl, .inr (SqT.of upd_same), rfl, rfl, _, rfl, ?_⟩
        generalize upd H2 p1 (.tup [.int 4, .int 9]) = H4 at *
        have ha4 := s4.seq ha
        rw [in_two]
        -- what is behind a call
        have next : ∀ (j2 : Nat) (H6 : Hp) (v' : V) (r' : Addr), j < j2 → j2 ≤ ns.length → ns.drop j2 = t → Same H H6 → H6 l = some (.lst (outs.map V.int)) → H6 x = some (.ins T.cDesk dx [("row", v')]) → RowAt H6 (Vafmsb.step ⟨f⟩ (callC p k row)).1.format v' → Fine (Vafmsb.step ⟨f⟩ (callC p k row)).1.format →
            H6 r' = some (.lst ((Vafmsb.step ⟨f⟩ (callC p k row)).2.map V.int)) → (((Vafmsb.step ⟨f⟩ (callC p k row)).2.length : Int) = (((Vafmsb.step ⟨f⟩ (callC p k row)).2.map V.int).length : Int)) ∧ outs.length + 1 + (Vafmsb.step ⟨f⟩ (callC p k row)).2.length ≤ 10000000 ∧
            ∀ H7, H7 = upd (upd H6 l (.lst (outs.map V.int ++ [.int (((Vafmsb.step ⟨f⟩ (callC p k row)).2.map V.int).length : Int)]))) l (.lst ((outs.map V.int ++ [.int (((Vafmsb.step ⟨f⟩ (callC p k row)).2.map V.int).length : Int)]) ++ (Vafmsb.step ⟨f⟩ (callC p k row)).2.map V.int)) →
            ∀ (w4 w5 w6 w7 : Option V), ∃ m', m' < ns.length - j ∧ ∃ (j fl : Nat) (f : Fmt) (v : V) (cs : List (List (List Int))) (outs : List Int) (v4 v5 v6 v7 : Option V), [some (.ref a), some (.ref x), some (.ref l), some (.int (j2 : Int)), w4, w5, w6, w7] = [some (.ref a), some (.ref x), some (.ref l), some (.int (j : Int)), v4, v5, v6, v7] ∧ m' = ns.length - j ∧ j ≤ ns.length ∧ Same H H7 ∧
              H7 x = some (.ins T.cDesk dx [("row", v)]) ∧ RowAt H7 f v ∧ Fine f ∧ H7 l = some (.lst (outs.map V.int)) ∧ PyFlat.calls PyVafmsb.shape fl (ns.drop j) = some cs ∧ PyInside.calls PyVafmsb.bound cs = true ∧
              total = outs ++ PyFlat.told (PyFlat.played VafmsbNeutral.step ⟨f⟩ (cs.map PyVafmsb.whole)) := fun j2 H6 v' r' hj2 hj3 ht s6 hl6 hx6 rv6 fine6 hr6 => by
          have tl : outs.length + 1 + (Vafmsb.step ⟨f⟩ (callC p k row)).2.length ≤ 10000000 := by
            have := congrArg List.length etot
            simp only [List.length_append, List.length_cons] at this
            omega
          refine ⟨by rw [List.length_map], tl, fun H7 e7 w4 w5 w6 w7 => ?_⟩
          subst e7
          have st : SameT H6 (upd (upd H6 l (.lst (outs.map V.int ++ [.int (((Vafmsb.step ⟨f⟩ (callC p k row)).2.map V.int).length : Int)]))) l (.lst ((outs.map V.int ++ [.int (((Vafmsb.step ⟨f⟩ (callC p k row)).2.map V.int).length : Int)]) ++ (Vafmsb.step ⟨f⟩ (callC p k row)).2.map V.int))) := fun a xs h => by
            have n := ne_of h hl6 (by intro z; cases z)
            rw [upd_ne n, upd_ne n]
            exact h
          refine ⟨ns.length - j2, by omega, j2, fl, _, v', cs2, outs ++ ((((Vafmsb.step ⟨f⟩ (callC p k row)).2.map V.int).length : Int) :: (Vafmsb.step ⟨f⟩ (callC p k row)).2), w4, w5, w6, w7, rfl, rfl, hj3, (s6.mut hlH).mut hlH, ?_, rv6.monoT st, fine6, upd_same.trans ?_, by rw [ht]; exact ecs2, inb3.2, ?_⟩
          · rw [upd_ne nxl, upd_ne nxl]
            exact hx6
          · rw [List.map_append, List.map_cons, List.append_assoc]
            rfl
          · rw [etot, List.length_map, List.append_assoc]
            rfl
        rcases shp with ⟨hp, hk0, er, ec2⟩ | ⟨hp, er, ec2⟩ | ⟨hp, hk0, hrow0, er, ec2⟩ | ⟨hp, hrow0, er, ec2⟩
        · -- a row
          have hrow : ns[(j + 1)]? = some (row.length : Int) := by
            have := congrArg (fun l => l[0]?) er
            simpa [List.getElem?_drop] using this
          have rest : ns.drop ((j + 1) + 1) = row ++ t := by
            rw [← List.drop_drop, er]
            rfl
          have b200 : row.length ≤ 200 := bound_row hp (by have := inb3.1; rw [ec2] at this; exact this)
          subst hk0
          refine ifF (by
            rw [decide_eq_false (show ¬ p = 4 by omega), decide_eq_false (show ¬ p = 9 by omega)]
            rfl) ?_
          refine ⟨(by show 0 ≤ sizeLine; decide), fun b0 hb0 => ?_⟩
          refine ⟨_, rfl, (by show 3 ≤ sizeLine; decide), fun p2 hp2 => ?_⟩
          have t1 := same_new (o := .lst []) hb0
          have t2 := same_new (o := .tup [.int 7, .int 8, .int 9]) hp2
          have hb6 : upd (upd H4 b0 (.lst [])) p2 (.tup [.int 7, .int 8, .int 9]) b0 = some (.lst []) := t2 b0 _ upd_same
          have s6 := s4.trans (t1.trans t2)
          have x6 := (t1.trans t2) x _ x4
          have l6 := (t1.trans t2) l _ l4
          have r6 := r4.mono (t1.trans t2)
          refine ⟨p2, _, rfl, .inr (SqT.of upd_same), rfl, rfl, _, rfl, ?_⟩
          generalize upd (upd H4 b0 (.lst [])) p2 (.tup [.int 7, .int 8, .int 9]) = H5 at *
          have ha6 := s6.seq ha
          rw [in_three]
          show if (!(decide (p = 7) || (decide (p = 8) || decide (p = 9)))) = true then _ else _
          refine ifT (by
            rw [decide_eq_false (show ¬ p = 7 by omega), decide_eq_false (show ¬ p = 8 by omega), decide_eq_false (show ¬ p = 9 by omega)]
            rfl) ?_
          have lens : (j + 1) + 1 + row.length ≤ ns.length ∧ ns.drop ((j + 1) + 1 + row.length) = t := at_t ((j + 1) + 1) (by
            have := (List.getElem?_eq_some_iff.mp hrow).1
            omega) row rest
          have cut : cutV (ns.map V.int) (some (((j : Int) + 1) + 1)) (some (((j : Int) + 1) + 1 + (row.length : Int))) = row.map V.int := by
            rw [cut_two (a := (j + 1) + 1) (b := (j + 1) + 1 + row.length) (by omega) (by omega), show (j + 1) + 1 + row.length - ((j + 1) + 1) = row.length by omega, ← List.map_drop, rest, ← List.map_take, List.take_left]
          have pos : ((j : Int) + 1) = (((j + 1) : Nat) : Int) := by omega
          refine ⟨_, rfl, _, rfl, _, _, rfl, rfl, _, rfl, _, rfl, _, _, rfl, rfl, _, rfl, _, rfl, a, _, _, _, rfl, rfl, ha6, atZ pos hrow, _, _, rfl, rfl, _, rfl, a, _, rfl, ha6, fun b hb => ?_⟩
          have sb := same_new (o := .lst (cutV (ns.map V.int) (some (((j : Int) + 1) + 1)) (some (((j : Int) + 1) + 1 + (row.length : Int))))) hb
          refine ⟨_, rfl, _, _, rfl, rfl, _, rfl, _, rfl, a, _, _, _, rfl, rfl, sb.seq ha6, atZ pos hrow, _, _, rfl, rfl, ?_⟩
          have x5' : upd H5 b (.lst (cutV (ns.map V.int) (some (((j : Int) + 1) + 1)) (some (((j : Int) + 1) + 1 + (row.length : Int))))) x = some (.ins T.cDesk dx [("row", v)]) := sb x _ x6
          have l5' : upd H5 b (.lst (cutV (ns.map V.int) (some (((j : Int) + 1) + 1)) (some (((j : Int) + 1) + 1 + (row.length : Int))))) l = some (.lst (outs.map V.int)) := sb l _ l6
          have s5' : Same H (upd H5 b (.lst (cutV (ns.map V.int) (some (((j : Int) + 1) + 1)) (some (((j : Int) + 1) + 1 + (row.length : Int)))))) := s6.trans sb
          refine ⟨_, rfl, x, dx, _, rfl, x5', rfl, _, rfl, _, rfl, _, rfl, x, dx, b, v, f, p, 0, row, rfl, x5', r6.mono sb, fine, upd_same.trans (by rw [cut]), b200, by omega, by omega, fun u H6 v' s6 hx6 rv6 fine6 lu => ?_⟩
          obtain ⟨r', rfl, nr', hr6⟩ := lu
          have nl : r' ≠ l := fun e => by
            rw [e, l5'] at nr'
            cases nr'
          have s56 : Same H H6 := fun b u h => s6 b u (ne_of_none h hx) (s5' b u h)
          have hl6 := s6 l _ (fun z => nxl z.symm) l5'
          obtain ⟨el, tl, fin⟩ := next ((j + 1) + 1 + row.length) H6 v' r' (by omega) (by omega) lens.2 s56 hl6 hx6 rv6 fine6 hr6
          have ej : ((j : Int) + 1) + 1 + (row.length : Int) = ((((j + 1) + 1 + row.length) : Nat) : Int) := by omega
          refine ⟨_, rfl, .inl ⟨rfl, _, SqL.of hl6⟩, _, rfl, r', _, rfl, .inl (SqL.of hr6), l, _, _, rfl, rfl, hl6, ?_, ?_⟩
          · rw [List.length_map]
            exact Nat.lt_of_le_of_lt (show outs.length ≤ 10000000 by omega) (by decide)
          refine ⟨_, rfl, .inl ⟨rfl, _, SqL.of upd_same⟩, _, rfl, l, r', _, _, rfl, rfl, upd_same, by rw [upd_ne nl]; exact hr6, ?_, ?_⟩
          · rw [List.length_append, List.length_map, List.length_map, List.length_singleton]
            exact Nat.le_trans tl (by decide)
          have done := fin _ rfl (some (.int p)) (some (.int 0)) (some (.ref b)) (some (.ref r'))
          rw [← ej] at done
          exact done
        · -- a number and a row
          have g1 : ns.drop (j + 2) = (row.length : Int) :: (row ++ t) := by
            rw [show j + 2 = (j + 1) + 1 by omega, ← List.drop_drop, er]
            rfl
          have hk1 : ns[j + 1]? = some k := by
            have := congrArg (fun l => l[0]?) er
            simpa [List.getElem?_drop] using this
          have hrow : ns[(j + 2)]? = some (row.length : Int) := by
            have := congrArg (fun l => l[0]?) g1
            simpa [List.getElem?_drop] using this
          have rest : ns.drop ((j + 2) + 1) = row ++ t := by
            rw [← List.drop_drop, g1]
            rfl
          have b200 : row.length ≤ 200 := bound_kth (k := k) (by have := inb3.1; rw [ec2, hp] at this; exact this)
          refine ifT (by subst hp; rfl) ?_
          refine ⟨_, rfl, _, rfl, a, _, _, _, rfl, rfl, ha4, atZ (show (j : Int) + 1 = ((j + 1 : Nat) : Int) by omega) hk1, ?_⟩
          refine ⟨_, rfl, _, _, rfl, rfl, ?_⟩
          refine ⟨(by show 0 ≤ sizeLine; decide), fun b0 hb0 => ?_⟩
          refine ⟨_, rfl, (by show 3 ≤ sizeLine; decide), fun p2 hp2 => ?_⟩
          have t1 := same_new (o := .lst []) hb0
          have t2 := same_new (o := .tup [.int 7, .int 8, .int 9]) hp2
          have hb6 : upd (upd H4 b0 (.lst [])) p2 (.tup [.int 7, .int 8, .int 9]) b0 = some (.lst []) := t2 b0 _ upd_same
          have s6 := s4.trans (t1.trans t2)
          have x6 := (t1.trans t2) x _ x4
          have l6 := (t1.trans t2) l _ l4
          have r6 := r4.mono (t1.trans t2)
          refine ⟨p2, _, rfl, .inr (SqT.of upd_same), rfl, rfl, _, rfl, ?_⟩
          generalize upd (upd H4 b0 (.lst [])) p2 (.tup [.int 7, .int 8, .int 9]) = H5 at *
          have ha6 := s6.seq ha
          rw [in_three]
          show if (!(decide (p = 7) || (decide (p = 8) || decide (p = 9)))) = true then _ else _
          refine ifT (by
            rw [decide_eq_false (show ¬ p = 7 by omega), decide_eq_false (show ¬ p = 8 by omega), decide_eq_false (show ¬ p = 9 by omega)]
            rfl) ?_
          have lens : (j + 2) + 1 + row.length ≤ ns.length ∧ ns.drop ((j + 2) + 1 + row.length) = t := at_t ((j + 2) + 1) (by
            have := (List.getElem?_eq_some_iff.mp hrow).1
            omega) row rest
          have cut : cutV (ns.map V.int) (some (((j : Int) + 1 + 1) + 1)) (some (((j : Int) + 1 + 1) + 1 + (row.length : Int))) = row.map V.int := by
            rw [cut_two (a := (j + 2) + 1) (b := (j + 2) + 1 + row.length) (by omega) (by omega), show (j + 2) + 1 + row.length - ((j + 2) + 1) = row.length by omega, ← List.map_drop, rest, ← List.map_take, List.take_left]
          have pos : ((j : Int) + 1 + 1) = (((j + 2) : Nat) : Int) := by omega
          refine ⟨_, rfl, _, rfl, _, _, rfl, rfl, _, rfl, _, rfl, _, _, rfl, rfl, _, rfl, _, rfl, a, _, _, _, rfl, rfl, ha6, atZ pos hrow, _, _, rfl, rfl, _, rfl, a, _, rfl, ha6, fun b hb => ?_⟩
          have sb := same_new (o := .lst (cutV (ns.map V.int) (some (((j : Int) + 1 + 1) + 1)) (some (((j : Int) + 1 + 1) + 1 + (row.length : Int))))) hb
          refine ⟨_, rfl, _, _, rfl, rfl, _, rfl, _, rfl, a, _, _, _, rfl, rfl, sb.seq ha6, atZ pos hrow, _, _, rfl, rfl, ?_⟩
          have x5' : upd H5 b (.lst (cutV (ns.map V.int) (some (((j : Int) + 1 + 1) + 1)) (some (((j : Int) + 1 + 1) + 1 + (row.length : Int))))) x = some (.ins T.cDesk dx [("row", v)]) := sb x _ x6
          have l5' : upd H5 b (.lst (cutV (ns.map V.int) (some (((j : Int) + 1 + 1) + 1)) (some (((j : Int) + 1 + 1) + 1 + (row.length : Int))))) l = some (.lst (outs.map V.int)) := sb l _ l6
          have s5' : Same H (upd H5 b (.lst (cutV (ns.map V.int) (some (((j : Int) + 1 + 1) + 1)) (some (((j : Int) + 1 + 1) + 1 + (row.length : Int)))))) := s6.trans sb
          refine ⟨_, rfl, x, dx, _, rfl, x5', rfl, _, rfl, _, rfl, _, rfl, x, dx, b, v, f, p, k, row, rfl, x5', r6.mono sb, fine, upd_same.trans (by rw [cut]), b200, by omega, by omega, fun u H6 v' s6 hx6 rv6 fine6 lu => ?_⟩
          obtain ⟨r', rfl, nr', hr6⟩ := lu
          have nl : r' ≠ l := fun e => by
            rw [e, l5'] at nr'
            cases nr'
          have s56 : Same H H6 := fun b u h => s6 b u (ne_of_none h hx) (s5' b u h)
          have hl6 := s6 l _ (fun z => nxl z.symm) l5'
          obtain ⟨el, tl, fin⟩ := next ((j + 2) + 1 + row.length) H6 v' r' (by omega) (by omega) lens.2 s56 hl6 hx6 rv6 fine6 hr6
          have ej : ((j : Int) + 1 + 1) + 1 + (row.length : Int) = ((((j + 2) + 1 + row.length) : Nat) : Int) := by omega
          refine ⟨_, rfl, .inl ⟨rfl, _, SqL.of hl6⟩, _, rfl, r', _, rfl, .inl (SqL.of hr6), l, _, _, rfl, rfl, hl6, ?_, ?_⟩
          · rw [List.length_map]
            exact Nat.lt_of_le_of_lt (show outs.length ≤ 10000000 by omega) (by decide)
          refine ⟨_, rfl, .inl ⟨rfl, _, SqL.of upd_same⟩, _, rfl, l, r', _, _, rfl, rfl, upd_same, by rw [upd_ne nl]; exact hr6, ?_, ?_⟩
          · rw [List.length_append, List.length_map, List.length_map, List.length_singleton]
            exact Nat.le_trans tl (by decide)
          have done := fin _ rfl (some (.int p)) (some (.int k)) (some (.ref b)) (some (.ref r'))
          rw [← ej] at done
          exact done
        · -- no more
          subst hk0
          subst hrow0
          refine ifF (by
            rw [decide_eq_false (show ¬ p = 4 by omega), decide_eq_false (show ¬ p = 9 by omega)]
            rfl) ?_
          refine ⟨(by show 0 ≤ sizeLine; decide), fun b0 hb0 => ?_⟩
          refine ⟨_, rfl, (by show 3 ≤ sizeLine; decide), fun p2 hp2 => ?_⟩
          have t1 := same_new (o := .lst []) hb0
          have t2 := same_new (o := .tup [.int 7, .int 8, .int 9]) hp2
          have hb6 : upd (upd H4 b0 (.lst [])) p2 (.tup [.int 7, .int 8, .int 9]) b0 = some (.lst []) := t2 b0 _ upd_same
          have s6 := s4.trans (t1.trans t2)
          have x6 := (t1.trans t2) x _ x4
          have l6 := (t1.trans t2) l _ l4
          have r6 := r4.mono (t1.trans t2)
          refine ⟨p2, _, rfl, .inr (SqT.of upd_same), rfl, rfl, _, rfl, ?_⟩
          generalize upd (upd H4 b0 (.lst [])) p2 (.tup [.int 7, .int 8, .int 9]) = H5 at *
          have ha6 := s6.seq ha
          rw [in_three]
          show if (!(decide (p = 7) || (decide (p = 8) || decide (p = 9)))) = true then _ else _
          refine ifF (by rcases hp with rfl | rfl <;> rfl) ?_
          have x5' : H5 x = some (.ins T.cDesk dx [("row", v)]) := x6
          have l5' : H5 l = some (.lst (outs.map V.int)) := l6
          have s5' : Same H (H5) := s6
          refine ⟨_, rfl, x, dx, _, rfl, x5', rfl, _, rfl, _, rfl, _, rfl, x, dx, b0, v, f, p, 0, [], rfl, x5', r6, fine, hb6, by show 0 ≤ 200; decide, by omega, by omega, fun u H6 v' s6 hx6 rv6 fine6 lu => ?_⟩
          obtain ⟨r', rfl, nr', hr6⟩ := lu
          have nl : r' ≠ l := fun e => by
            rw [e, l5'] at nr'
            cases nr'
          have s56 : Same H H6 := fun b u h => s6 b u (ne_of_none h hx) (s5' b u h)
          have hl6 := s6 l _ (fun z => nxl z.symm) l5'
          obtain ⟨el, tl, fin⟩ := next (j + 1) H6 v' r' (by omega) (by omega) er s56 hl6 hx6 rv6 fine6 hr6
          have ej : (j : Int) + 1 = (((j + 1) : Nat) : Int) := by omega
          refine ⟨_, rfl, .inl ⟨rfl, _, SqL.of hl6⟩, _, rfl, r', _, rfl, .inl (SqL.of hr6), l, _, _, rfl, rfl, hl6, ?_, ?_⟩
          · rw [List.length_map]
            exact Nat.lt_of_le_of_lt (show outs.length ≤ 10000000 by omega) (by decide)
          refine ⟨_, rfl, .inl ⟨rfl, _, SqL.of upd_same⟩, _, rfl, l, r', _, _, rfl, rfl, upd_same, by rw [upd_ne nl]; exact hr6, ?_, ?_⟩
          · rw [List.length_append, List.length_map, List.length_map, List.length_singleton]
            exact Nat.le_trans tl (by decide)
          have done := fin _ rfl (some (.int p)) (some (.int 0)) (some (.ref b0)) (some (.ref r'))
          rw [← ej] at done
          exact done
        · -- a number
          subst hrow0
          have hk1 : ns[j + 1]? = some k := by
            have := congrArg (fun l => l[0]?) er
            simpa [List.getElem?_drop] using this
          have lt2 := (List.getElem?_eq_some_iff.mp hk1).1
          have dr : ns.drop (j + 2) = t := by
            rw [show j + 2 = (j + 1) + 1 by omega, ← List.drop_drop, er]
            rfl
          refine ifT (by subst hp; rfl) ?_
          refine ⟨_, rfl, _, rfl, a, _, _, _, rfl, rfl, ha4, atZ (show (j : Int) + 1 = ((j + 1 : Nat) : Int) by omega) hk1, ?_⟩
          refine ⟨_, rfl, _, _, rfl, rfl, ?_⟩
          refine ⟨(by show 0 ≤ sizeLine; decide), fun b0 hb0 => ?_⟩
          refine ⟨_, rfl, (by show 3 ≤ sizeLine; decide), fun p2 hp2 => ?_⟩
          have t1 := same_new (o := .lst []) hb0
          have t2 := same_new (o := .tup [.int 7, .int 8, .int 9]) hp2
          have hb6 : upd (upd H4 b0 (.lst [])) p2 (.tup [.int 7, .int 8, .int 9]) b0 = some (.lst []) := t2 b0 _ upd_same
          have s6 := s4.trans (t1.trans t2)
          have x6 := (t1.trans t2) x _ x4
          have l6 := (t1.trans t2) l _ l4
          have r6 := r4.mono (t1.trans t2)
          refine ⟨p2, _, rfl, .inr (SqT.of upd_same), rfl, rfl, _, rfl, ?_⟩
          generalize upd (upd H4 b0 (.lst [])) p2 (.tup [.int 7, .int 8, .int 9]) = H5 at *
          have ha6 := s6.seq ha
          rw [in_three]
          show if (!(decide (p = 7) || (decide (p = 8) || decide (p = 9)))) = true then _ else _
          refine ifF (by subst hp; rfl) ?_
          have x5' : H5 x = some (.ins T.cDesk dx [("row", v)]) := x6
          have l5' : H5 l = some (.lst (outs.map V.int)) := l6
          have s5' : Same H (H5) := s6
          refine ⟨_, rfl, x, dx, _, rfl, x5', rfl, _, rfl, _, rfl, _, rfl, x, dx, b0, v, f, p, k, [], rfl, x5', r6, fine, hb6, by show 0 ≤ 200; decide, by omega, by omega, fun u H6 v' s6 hx6 rv6 fine6 lu => ?_⟩
          obtain ⟨r', rfl, nr', hr6⟩ := lu
          have nl : r' ≠ l := fun e => by
            rw [e, l5'] at nr'
            cases nr'
          have s56 : Same H H6 := fun b u h => s6 b u (ne_of_none h hx) (s5' b u h)
          have hl6 := s6 l _ (fun z => nxl z.symm) l5'
          obtain ⟨el, tl, fin⟩ := next (j + 2) H6 v' r' (by omega) (by omega) dr s56 hl6 hx6 rv6 fine6 hr6
          have ej : (j : Int) + 1 + 1 = (((j + 2) : Nat) : Int) := by omega
          refine ⟨_, rfl, .inl ⟨rfl, _, SqL.of hl6⟩, _, rfl, r', _, rfl, .inl (SqL.of hr6), l, _, _, rfl, rfl, hl6, ?_, ?_⟩
          · rw [List.length_map]
            exact Nat.lt_of_le_of_lt (show outs.length ≤ 10000000 by omega) (by decide)
          refine ⟨_, rfl, .inl ⟨rfl, _, SqL.of upd_same⟩, _, rfl, l, r', _, _, rfl, rfl, upd_same, by rw [upd_ne nl]; exact hr6, ?_, ?_⟩
          · rw [List.length_append, List.length_map, List.length_map, List.length_singleton]
            exact Nat.le_trans tl (by decide)
          have done := fin _ rfl (some (.int p)) (some (.int k)) (some (.ref b0)) (some (.ref r'))
          rw [← ej] at done
          exact done
end
end Asc
namespace Asc
open PySem PySem.Spec PyProof.Rows L2
/-! What the top has written, def by def. -/
section
variable {K : PySem.W.Frag} {h : Heap} {mg : Str → Option PySem.Value} {f C : Addr} {oc kV dc pm cd ct : PySem.Value} {od an : Option Addr} {sl : Array (Option PySem.Value)}
def mk_read_text (X : K.In h) (G : h.Ns mainGlobals mg) (a : PySem.W.nsIn K mainGlobals "read_text" = some (some (.ref f))) (l : K.lookup f = some ⟨oc, od, .func (PySem.W.fnOf "read_text" "read_text" (defArgs s_read_text) (defBody s_read_text) (defScope s_read_text) .none kV dc pm an cd ct), sl⟩) (c : PySem.W.codeIn K cd "read_text" = true) (k : PySem.W.keepIn K (.ref f) = true) : Df K mg "read_text" s_read_text ["n", "at", "least", "most"] := ⟨f, _, (fun_mk (st := s_read_text) l c k), (fun_mk (st := s_read_text) l c k).binds (ps := ["n", "at", "least", "most"]) fun _ _ _ _ _ _ us hl => match us, hl with | [_, _, _, _], _ => rfl, PySem.W.mg_of X G a⟩
def mk_read_span (X : K.In h) (G : h.Ns mainGlobals mg) (a : PySem.W.nsIn K mainGlobals "read_span" = some (some (.ref f))) (l : K.lookup f = some ⟨oc, od, .func (PySem.W.fnOf "read_span" "read_span" (defArgs s_read_span) (defBody s_read_span) (defScope s_read_span) .none kV dc pm an cd ct), sl⟩) (c : PySem.W.codeIn K cd "read_span" = true) (k : PySem.W.keepIn K (.ref f) = true) : Df K mg "read_span" s_read_span ["n", "at", "least", "most"] := ⟨f, _, (fun_mk (st := s_read_span) l c k), (fun_mk (st := s_read_span) l c k).binds (ps := ["n", "at", "least", "most"]) fun _ _ _ _ _ _ us hl => match us, hl with | [_, _, _, _], _ => rfl, PySem.W.mg_of X G a⟩
def mk_read_row (X : K.In h) (G : h.Ns mainGlobals mg) (a : PySem.W.nsIn K mainGlobals "read_row" = some (some (.ref f))) (l : K.lookup f = some ⟨oc, od, .func (PySem.W.fnOf "read_row" "read_row" (defArgs s_read_row) (defBody s_read_row) (defScope s_read_row) .none kV dc pm an cd ct), sl⟩) (c : PySem.W.codeIn K cd "read_row" = true) (k : PySem.W.keepIn K (.ref f) = true) : Df K mg "read_row" s_read_row ["n", "at"] := ⟨f, _, (fun_mk (st := s_read_row) l c k), (fun_mk (st := s_read_row) l c k).binds (ps := ["n", "at"]) fun _ _ _ _ _ _ us hl => match us, hl with | [_, _], _ => rfl, PySem.W.mg_of X G a⟩
def mk_read_either (X : K.In h) (G : h.Ns mainGlobals mg) (a : PySem.W.nsIn K mainGlobals "read_either" = some (some (.ref f))) (l : K.lookup f = some ⟨oc, od, .func (PySem.W.fnOf "read_either" "read_either" (defArgs s_read_either) (defBody s_read_either) (defScope s_read_either) .none kV dc pm an cd ct), sl⟩) (c : PySem.W.codeIn K cd "read_either" = true) (k : PySem.W.keepIn K (.ref f) = true) : Df K mg "read_either" s_read_either ["n", "at"] := ⟨f, _, (fun_mk (st := s_read_either) l c k), (fun_mk (st := s_read_either) l c k).binds (ps := ["n", "at"]) fun _ _ _ _ _ _ us hl => match us, hl with | [_, _], _ => rfl, PySem.W.mg_of X G a⟩
def mk_read_repeat (X : K.In h) (G : h.Ns mainGlobals mg) (a : PySem.W.nsIn K mainGlobals "read_repeat" = some (some (.ref f))) (l : K.lookup f = some ⟨oc, od, .func (PySem.W.fnOf "read_repeat" "read_repeat" (defArgs s_read_repeat) (defBody s_read_repeat) (defScope s_read_repeat) .none kV dc pm an cd ct), sl⟩) (c : PySem.W.codeIn K cd "read_repeat" = true) (k : PySem.W.keepIn K (.ref f) = true) : Df K mg "read_repeat" s_read_repeat ["n", "at"] := ⟨f, _, (fun_mk (st := s_read_repeat) l c k), (fun_mk (st := s_read_repeat) l c k).binds (ps := ["n", "at"]) fun _ _ _ _ _ _ us hl => match us, hl with | [_, _], _ => rfl, PySem.W.mg_of X G a⟩
def mk_read_piece (X : K.In h) (G : h.Ns mainGlobals mg) (a : PySem.W.nsIn K mainGlobals "read_piece" = some (some (.ref f))) (l : K.lookup f = some ⟨oc, od, .func (PySem.W.fnOf "read_piece" "read_piece" (defArgs s_read_piece) (defBody s_read_piece) (defScope s_read_piece) .none kV dc pm an cd ct), sl⟩) (c : PySem.W.codeIn K cd "read_piece" = true) (k : PySem.W.keepIn K (.ref f) = true) : Df K mg "read_piece" s_read_piece ["n", "at"] := ⟨f, _, (fun_mk (st := s_read_piece) l c k), (fun_mk (st := s_read_piece) l c k).binds (ps := ["n", "at"]) fun _ _ _ _ _ _ us hl => match us, hl with | [_, _], _ => rfl, PySem.W.mg_of X G a⟩
def mk_rows_in (X : K.In h) (G : h.Ns mainGlobals mg) (a : PySem.W.nsIn K mainGlobals "rows_in" = some (some (.ref f))) (l : K.lookup f = some ⟨oc, od, .func (PySem.W.fnOf "rows_in" "rows_in" (defArgs s_rows_in) (defBody s_rows_in) (defScope s_rows_in) .none kV dc pm an cd ct), sl⟩) (c : PySem.W.codeIn K cd "rows_in" = true) (k : PySem.W.keepIn K (.ref f) = true) : Df K mg "rows_in" s_rows_in ["piece"] := ⟨f, _, (fun_mk (st := s_rows_in) l c k), (fun_mk (st := s_rows_in) l c k).binds (ps := ["piece"]) fun _ _ _ _ _ _ us hl => match us, hl with | [_], _ => rfl, PySem.W.mg_of X G a⟩
def mk_all_pieces (X : K.In h) (G : h.Ns mainGlobals mg) (a : PySem.W.nsIn K mainGlobals "all_pieces" = some (some (.ref f))) (l : K.lookup f = some ⟨oc, od, .func (PySem.W.fnOf "all_pieces" "all_pieces" (defArgs s_all_pieces) (defBody s_all_pieces) (defScope s_all_pieces) .none kV dc pm an cd ct), sl⟩) (c : PySem.W.codeIn K cd "all_pieces" = true) (k : PySem.W.keepIn K (.ref f) = true) : Df K mg "all_pieces" s_all_pieces ["row"] := ⟨f, _, (fun_mk (st := s_all_pieces) l c k), (fun_mk (st := s_all_pieces) l c k).binds (ps := ["row"]) fun _ _ _ _ _ _ us hl => match us, hl with | [_], _ => rfl, PySem.W.mg_of X G a⟩
def mk_gone_through (X : K.In h) (G : h.Ns mainGlobals mg) (a : PySem.W.nsIn K mainGlobals "gone_through" = some (some (.ref f))) (l : K.lookup f = some ⟨oc, od, .func (PySem.W.fnOf "gone_through" "gone_through" (defArgs s_gone_through) (defBody s_gone_through) (defScope s_gone_through) .none kV dc pm an cd ct), sl⟩) (c : PySem.W.codeIn K cd "gone_through" = true) (k : PySem.W.keepIn K (.ref f) = true) : Df K mg "gone_through" s_gone_through ["row"] := ⟨f, _, (fun_mk (st := s_gone_through) l c k), (fun_mk (st := s_gone_through) l c k).binds (ps := ["row"]) fun _ _ _ _ _ _ us hl => match us, hl with | [_], _ => rfl, PySem.W.mg_of X G a⟩
def mk_has_repeat_in_repeat (X : K.In h) (G : h.Ns mainGlobals mg) (a : PySem.W.nsIn K mainGlobals "has_repeat_in_repeat" = some (some (.ref f))) (l : K.lookup f = some ⟨oc, od, .func (PySem.W.fnOf "has_repeat_in_repeat" "has_repeat_in_repeat" (defArgs s_has_repeat_in_repeat) (defBody s_has_repeat_in_repeat) (defScope s_has_repeat_in_repeat) .none kV dc pm an cd ct), sl⟩) (c : PySem.W.codeIn K cd "has_repeat_in_repeat" = true) (k : PySem.W.keepIn K (.ref f) = true) : Df K mg "has_repeat_in_repeat" s_has_repeat_in_repeat ["row"] := ⟨f, _, (fun_mk (st := s_has_repeat_in_repeat) l c k), (fun_mk (st := s_has_repeat_in_repeat) l c k).binds (ps := ["row"]) fun _ _ _ _ _ _ us hl => match us, hl with | [_], _ => rfl, PySem.W.mg_of X G a⟩
def mk_format_in (X : K.In h) (G : h.Ns mainGlobals mg) (a : PySem.W.nsIn K mainGlobals "format_in" = some (some (.ref f))) (l : K.lookup f = some ⟨oc, od, .func (PySem.W.fnOf "format_in" "format_in" (defArgs s_format_in) (defBody s_format_in) (defScope s_format_in) .none kV dc pm an cd ct), sl⟩) (c : PySem.W.codeIn K cd "format_in" = true) (k : PySem.W.keepIn K (.ref f) = true) : Df K mg "format_in" s_format_in ["n"] := ⟨f, _, (fun_mk (st := s_format_in) l c k), (fun_mk (st := s_format_in) l c k).binds (ps := ["n"]) fun _ _ _ _ _ _ us hl => match us, hl with | [_], _ => rfl, PySem.W.mg_of X G a⟩
def mk_text_in (X : K.In h) (G : h.Ns mainGlobals mg) (a : PySem.W.nsIn K mainGlobals "text_in" = some (some (.ref f))) (l : K.lookup f = some ⟨oc, od, .func (PySem.W.fnOf "text_in" "text_in" (defArgs s_text_in) (defBody s_text_in) (defScope s_text_in) .none kV dc pm an cd ct), sl⟩) (c : PySem.W.codeIn K cd "text_in" = true) (k : PySem.W.keepIn K (.ref f) = true) : Df K mg "text_in" s_text_in ["n", "most"] := ⟨f, _, (fun_mk (st := s_text_in) l c k), (fun_mk (st := s_text_in) l c k).binds (ps := ["n", "most"]) fun _ _ _ _ _ _ us hl => match us, hl with | [_, _], _ => rfl, PySem.W.mg_of X G a⟩
def mk_value_in (X : K.In h) (G : h.Ns mainGlobals mg) (a : PySem.W.nsIn K mainGlobals "value_in" = some (some (.ref f))) (l : K.lookup f = some ⟨oc, od, .func (PySem.W.fnOf "value_in" "value_in" (defArgs s_value_in) (defBody s_value_in) (defScope s_value_in) .none kV dc pm an cd ct), sl⟩) (c : PySem.W.codeIn K cd "value_in" = true) (k : PySem.W.keepIn K (.ref f) = true) : Df K mg "value_in" s_value_in ["n", "most", "greatest"] := ⟨f, _, (fun_mk (st := s_value_in) l c k), (fun_mk (st := s_value_in) l c k).binds (ps := ["n", "most", "greatest"]) fun _ _ _ _ _ _ us hl => match us, hl with | [_, _, _], _ => rfl, PySem.W.mg_of X G a⟩
def mk_digits_of (X : K.In h) (G : h.Ns mainGlobals mg) (a : PySem.W.nsIn K mainGlobals "digits_of" = some (some (.ref f))) (l : K.lookup f = some ⟨oc, od, .func (PySem.W.fnOf "digits_of" "digits_of" (defArgs s_digits_of) (defBody s_digits_of) (defScope s_digits_of) .none kV dc pm an cd ct), sl⟩) (c : PySem.W.codeIn K cd "digits_of" = true) (k : PySem.W.keepIn K (.ref f) = true) : Df K mg "digits_of" s_digits_of ["number"] := ⟨f, _, (fun_mk (st := s_digits_of) l c k), (fun_mk (st := s_digits_of) l c k).binds (ps := ["number"]) fun _ _ _ _ _ _ us hl => match us, hl with | [_], _ => rfl, PySem.W.mg_of X G a⟩
def mk_print_number (X : K.In h) (G : h.Ns mainGlobals mg) (a : PySem.W.nsIn K mainGlobals "print_number" = some (some (.ref f))) (l : K.lookup f = some ⟨oc, od, .func (PySem.W.fnOf "print_number" "print_number" (defArgs s_print_number) (defBody s_print_number) (defScope s_print_number) .none kV dc pm an cd ct), sl⟩) (c : PySem.W.codeIn K cd "print_number" = true) (k : PySem.W.keepIn K (.ref f) = true) : Df K mg "print_number" s_print_number ["piece", "value", "at"] := ⟨f, _, (fun_mk (st := s_print_number) l c k), (fun_mk (st := s_print_number) l c k).binds (ps := ["piece", "value", "at"]) fun _ _ _ _ _ _ us hl => match us, hl with | [_, _, _], _ => rfl, PySem.W.mg_of X G a⟩
def mk_print_word (X : K.In h) (G : h.Ns mainGlobals mg) (a : PySem.W.nsIn K mainGlobals "print_word" = some (some (.ref f))) (l : K.lookup f = some ⟨oc, od, .func (PySem.W.fnOf "print_word" "print_word" (defArgs s_print_word) (defBody s_print_word) (defScope s_print_word) .none kV dc pm an cd ct), sl⟩) (c : PySem.W.codeIn K cd "print_word" = true) (k : PySem.W.keepIn K (.ref f) = true) : Df K mg "print_word" s_print_word ["piece", "value", "at"] := ⟨f, _, (fun_mk (st := s_print_word) l c k), (fun_mk (st := s_print_word) l c k).binds (ps := ["piece", "value", "at"]) fun _ _ _ _ _ _ us hl => match us, hl with | [_, _, _], _ => rfl, PySem.W.mg_of X G a⟩
def mk_print_times (X : K.In h) (G : h.Ns mainGlobals mg) (a : PySem.W.nsIn K mainGlobals "print_times" = some (some (.ref f))) (l : K.lookup f = some ⟨oc, od, .func (PySem.W.fnOf "print_times" "print_times" (defArgs s_print_times) (defBody s_print_times) (defScope s_print_times) .none kV dc pm an cd ct), sl⟩) (c : PySem.W.codeIn K cd "print_times" = true) (k : PySem.W.keepIn K (.ref f) = true) : Df K mg "print_times" s_print_times ["piece", "value", "at"] := ⟨f, _, (fun_mk (st := s_print_times) l c k), (fun_mk (st := s_print_times) l c k).binds (ps := ["piece", "value", "at"]) fun _ _ _ _ _ _ us hl => match us, hl with | [_, _, _], _ => rfl, PySem.W.mg_of X G a⟩
def mk_print_chosen (X : K.In h) (G : h.Ns mainGlobals mg) (a : PySem.W.nsIn K mainGlobals "print_chosen" = some (some (.ref f))) (l : K.lookup f = some ⟨oc, od, .func (PySem.W.fnOf "print_chosen" "print_chosen" (defArgs s_print_chosen) (defBody s_print_chosen) (defScope s_print_chosen) .none kV dc pm an cd ct), sl⟩) (c : PySem.W.codeIn K cd "print_chosen" = true) (k : PySem.W.keepIn K (.ref f) = true) : Df K mg "print_chosen" s_print_chosen ["rows", "value", "at"] := ⟨f, _, (fun_mk (st := s_print_chosen) l c k), (fun_mk (st := s_print_chosen) l c k).binds (ps := ["rows", "value", "at"]) fun _ _ _ _ _ _ us hl => match us, hl with | [_, _, _], _ => rfl, PySem.W.mg_of X G a⟩
def mk_print_piece (X : K.In h) (G : h.Ns mainGlobals mg) (a : PySem.W.nsIn K mainGlobals "print_piece" = some (some (.ref f))) (l : K.lookup f = some ⟨oc, od, .func (PySem.W.fnOf "print_piece" "print_piece" (defArgs s_print_piece) (defBody s_print_piece) (defScope s_print_piece) .none kV dc pm an cd ct), sl⟩) (c : PySem.W.codeIn K cd "print_piece" = true) (k : PySem.W.keepIn K (.ref f) = true) : Df K mg "print_piece" s_print_piece ["piece", "value", "at"] := ⟨f, _, (fun_mk (st := s_print_piece) l c k), (fun_mk (st := s_print_piece) l c k).binds (ps := ["piece", "value", "at"]) fun _ _ _ _ _ _ us hl => match us, hl with | [_, _, _], _ => rfl, PySem.W.mg_of X G a⟩
def mk_print_row (X : K.In h) (G : h.Ns mainGlobals mg) (a : PySem.W.nsIn K mainGlobals "print_row" = some (some (.ref f))) (l : K.lookup f = some ⟨oc, od, .func (PySem.W.fnOf "print_row" "print_row" (defArgs s_print_row) (defBody s_print_row) (defScope s_print_row) .none kV dc pm an cd ct), sl⟩) (c : PySem.W.codeIn K cd "print_row" = true) (k : PySem.W.keepIn K (.ref f) = true) : Df K mg "print_row" s_print_row ["row", "value", "at"] := ⟨f, _, (fun_mk (st := s_print_row) l c k), (fun_mk (st := s_print_row) l c k).binds (ps := ["row", "value", "at"]) fun _ _ _ _ _ _ us hl => match us, hl with | [_, _, _], _ => rfl, PySem.W.mg_of X G a⟩
def mk_print_of (X : K.In h) (G : h.Ns mainGlobals mg) (a : PySem.W.nsIn K mainGlobals "print_of" = some (some (.ref f))) (l : K.lookup f = some ⟨oc, od, .func (PySem.W.fnOf "print_of" "print_of" (defArgs s_print_of) (defBody s_print_of) (defScope s_print_of) .none kV dc pm an cd ct), sl⟩) (c : PySem.W.codeIn K cd "print_of" = true) (k : PySem.W.keepIn K (.ref f) = true) : Df K mg "print_of" s_print_of ["row", "value"] := ⟨f, _, (fun_mk (st := s_print_of) l c k), (fun_mk (st := s_print_of) l c k).binds (ps := ["row", "value"]) fun _ _ _ _ _ _ us hl => match us, hl with | [_, _], _ => rfl, PySem.W.mg_of X G a⟩
def mk_is_digit (X : K.In h) (G : h.Ns mainGlobals mg) (a : PySem.W.nsIn K mainGlobals "is_digit" = some (some (.ref f))) (l : K.lookup f = some ⟨oc, od, .func (PySem.W.fnOf "is_digit" "is_digit" (defArgs s_is_digit) (defBody s_is_digit) (defScope s_is_digit) .none kV dc pm an cd ct), sl⟩) (c : PySem.W.codeIn K cd "is_digit" = true) (k : PySem.W.keepIn K (.ref f) = true) : Df K mg "is_digit" s_is_digit ["byte"] := ⟨f, _, (fun_mk (st := s_is_digit) l c k), (fun_mk (st := s_is_digit) l c k).binds (ps := ["byte"]) fun _ _ _ _ _ _ us hl => match us, hl with | [_], _ => rfl, PySem.W.mg_of X G a⟩
def mk_is_letter (X : K.In h) (G : h.Ns mainGlobals mg) (a : PySem.W.nsIn K mainGlobals "is_letter" = some (some (.ref f))) (l : K.lookup f = some ⟨oc, od, .func (PySem.W.fnOf "is_letter" "is_letter" (defArgs s_is_letter) (defBody s_is_letter) (defScope s_is_letter) .none kV dc pm an cd ct), sl⟩) (c : PySem.W.codeIn K cd "is_letter" = true) (k : PySem.W.keepIn K (.ref f) = true) : Df K mg "is_letter" s_is_letter ["byte"] := ⟨f, _, (fun_mk (st := s_is_letter) l c k), (fun_mk (st := s_is_letter) l c k).binds (ps := ["byte"]) fun _ _ _ _ _ _ us hl => match us, hl with | [_], _ => rfl, PySem.W.mg_of X G a⟩
def mk_number_of (X : K.In h) (G : h.Ns mainGlobals mg) (a : PySem.W.nsIn K mainGlobals "number_of" = some (some (.ref f))) (l : K.lookup f = some ⟨oc, od, .func (PySem.W.fnOf "number_of" "number_of" (defArgs s_number_of) (defBody s_number_of) (defScope s_number_of) .none kV dc pm an cd ct), sl⟩) (c : PySem.W.codeIn K cd "number_of" = true) (k : PySem.W.keepIn K (.ref f) = true) : Df K mg "number_of" s_number_of ["digits"] := ⟨f, _, (fun_mk (st := s_number_of) l c k), (fun_mk (st := s_number_of) l c k).binds (ps := ["digits"]) fun _ _ _ _ _ _ us hl => match us, hl with | [_], _ => rfl, PySem.W.mg_of X G a⟩
def mk_are_right (X : K.In h) (G : h.Ns mainGlobals mg) (a : PySem.W.nsIn K mainGlobals "are_right" = some (some (.ref f))) (l : K.lookup f = some ⟨oc, od, .func (PySem.W.fnOf "are_right" "are_right" (defArgs s_are_right) (defBody s_are_right) (defScope s_are_right) .none kV dc pm an cd ct), sl⟩) (c : PySem.W.codeIn K cd "are_right" = true) (k : PySem.W.keepIn K (.ref f) = true) : Df K mg "are_right" s_are_right ["piece", "digits"] := ⟨f, _, (fun_mk (st := s_are_right) l c k), (fun_mk (st := s_are_right) l c k).binds (ps := ["piece", "digits"]) fun _ _ _ _ _ _ us hl => match us, hl with | [_, _], _ => rfl, PySem.W.mg_of X G a⟩
def mk_ways_of_number (X : K.In h) (G : h.Ns mainGlobals mg) (a : PySem.W.nsIn K mainGlobals "ways_of_number" = some (some (.ref f))) (l : K.lookup f = some ⟨oc, od, .func (PySem.W.fnOf "ways_of_number" "ways_of_number" (defArgs s_ways_of_number) (defBody s_ways_of_number) (defScope s_ways_of_number) .none kV dc pm an cd ct), sl⟩) (c : PySem.W.codeIn K cd "ways_of_number" = true) (k : PySem.W.keepIn K (.ref f) = true) : Df K mg "ways_of_number" s_ways_of_number ["piece", "text", "at"] := ⟨f, _, (fun_mk (st := s_ways_of_number) l c k), (fun_mk (st := s_ways_of_number) l c k).binds (ps := ["piece", "text", "at"]) fun _ _ _ _ _ _ us hl => match us, hl with | [_, _, _], _ => rfl, PySem.W.mg_of X G a⟩
def mk_ways_of_word (X : K.In h) (G : h.Ns mainGlobals mg) (a : PySem.W.nsIn K mainGlobals "ways_of_word" = some (some (.ref f))) (l : K.lookup f = some ⟨oc, od, .func (PySem.W.fnOf "ways_of_word" "ways_of_word" (defArgs s_ways_of_word) (defBody s_ways_of_word) (defScope s_ways_of_word) .none kV dc pm an cd ct), sl⟩) (c : PySem.W.codeIn K cd "ways_of_word" = true) (k : PySem.W.keepIn K (.ref f) = true) : Df K mg "ways_of_word" s_ways_of_word ["piece", "text", "at"] := ⟨f, _, (fun_mk (st := s_ways_of_word) l c k), (fun_mk (st := s_ways_of_word) l c k).binds (ps := ["piece", "text", "at"]) fun _ _ _ _ _ _ us hl => match us, hl with | [_, _, _], _ => rfl, PySem.W.mg_of X G a⟩
def mk_ways_of_rows (X : K.In h) (G : h.Ns mainGlobals mg) (a : PySem.W.nsIn K mainGlobals "ways_of_rows" = some (some (.ref f))) (l : K.lookup f = some ⟨oc, od, .func (PySem.W.fnOf "ways_of_rows" "ways_of_rows" (defArgs s_ways_of_rows) (defBody s_ways_of_rows) (defScope s_ways_of_rows) .none kV dc pm an cd ct), sl⟩) (c : PySem.W.codeIn K cd "ways_of_rows" = true) (k : PySem.W.keepIn K (.ref f) = true) : Df K mg "ways_of_rows" s_ways_of_rows ["rows", "text", "at"] := ⟨f, _, (fun_mk (st := s_ways_of_rows) l c k), (fun_mk (st := s_ways_of_rows) l c k).binds (ps := ["rows", "text", "at"]) fun _ _ _ _ _ _ us hl => match us, hl with | [_, _, _], _ => rfl, PySem.W.mg_of X G a⟩
def mk_behind_text (X : K.In h) (G : h.Ns mainGlobals mg) (a : PySem.W.nsIn K mainGlobals "behind_text" = some (some (.ref f))) (l : K.lookup f = some ⟨oc, od, .func (PySem.W.fnOf "behind_text" "behind_text" (defArgs s_behind_text) (defBody s_behind_text) (defScope s_behind_text) .none kV dc pm an cd ct), sl⟩) (c : PySem.W.codeIn K cd "behind_text" = true) (k : PySem.W.keepIn K (.ref f) = true) : Df K mg "behind_text" s_behind_text ["wanted", "text", "ways"] := ⟨f, _, (fun_mk (st := s_behind_text) l c k), (fun_mk (st := s_behind_text) l c k).binds (ps := ["wanted", "text", "ways"]) fun _ _ _ _ _ _ us hl => match us, hl with | [_, _, _], _ => rfl, PySem.W.mg_of X G a⟩
def mk_ways_of_times (X : K.In h) (G : h.Ns mainGlobals mg) (a : PySem.W.nsIn K mainGlobals "ways_of_times" = some (some (.ref f))) (l : K.lookup f = some ⟨oc, od, .func (PySem.W.fnOf "ways_of_times" "ways_of_times" (defArgs s_ways_of_times) (defBody s_ways_of_times) (defScope s_ways_of_times) .none kV dc pm an cd ct), sl⟩) (c : PySem.W.codeIn K cd "ways_of_times" = true) (k : PySem.W.keepIn K (.ref f) = true) : Df K mg "ways_of_times" s_ways_of_times ["piece", "text", "at"] := ⟨f, _, (fun_mk (st := s_ways_of_times) l c k), (fun_mk (st := s_ways_of_times) l c k).binds (ps := ["piece", "text", "at"]) fun _ _ _ _ _ _ us hl => match us, hl with | [_, _, _], _ => rfl, PySem.W.mg_of X G a⟩
def mk_ways_of (X : K.In h) (G : h.Ns mainGlobals mg) (a : PySem.W.nsIn K mainGlobals "ways_of" = some (some (.ref f))) (l : K.lookup f = some ⟨oc, od, .func (PySem.W.fnOf "ways_of" "ways_of" (defArgs s_ways_of) (defBody s_ways_of) (defScope s_ways_of) .none kV dc pm an cd ct), sl⟩) (c : PySem.W.codeIn K cd "ways_of" = true) (k : PySem.W.keepIn K (.ref f) = true) : Df K mg "ways_of" s_ways_of ["piece", "text", "at"] := ⟨f, _, (fun_mk (st := s_ways_of) l c k), (fun_mk (st := s_ways_of) l c k).binds (ps := ["piece", "text", "at"]) fun _ _ _ _ _ _ us hl => match us, hl with | [_, _, _], _ => rfl, PySem.W.mg_of X G a⟩
def mk_ways_of_row (X : K.In h) (G : h.Ns mainGlobals mg) (a : PySem.W.nsIn K mainGlobals "ways_of_row" = some (some (.ref f))) (l : K.lookup f = some ⟨oc, od, .func (PySem.W.fnOf "ways_of_row" "ways_of_row" (defArgs s_ways_of_row) (defBody s_ways_of_row) (defScope s_ways_of_row) .none kV dc pm an cd ct), sl⟩) (c : PySem.W.codeIn K cd "ways_of_row" = true) (k : PySem.W.keepIn K (.ref f) = true) : Df K mg "ways_of_row" s_ways_of_row ["row", "text", "ways"] := ⟨f, _, (fun_mk (st := s_ways_of_row) l c k), (fun_mk (st := s_ways_of_row) l c k).binds (ps := ["row", "text", "ways"]) fun _ _ _ _ _ _ us hl => match us, hl with | [_, _, _], _ => rfl, PySem.W.mg_of X G a⟩
def mk_scannings (X : K.In h) (G : h.Ns mainGlobals mg) (a : PySem.W.nsIn K mainGlobals "scannings" = some (some (.ref f))) (l : K.lookup f = some ⟨oc, od, .func (PySem.W.fnOf "scannings" "scannings" (defArgs s_scannings) (defBody s_scannings) (defScope s_scannings) .none kV dc pm an cd ct), sl⟩) (c : PySem.W.codeIn K cd "scannings" = true) (k : PySem.W.keepIn K (.ref f) = true) : Df K mg "scannings" s_scannings ["row", "text"] := ⟨f, _, (fun_mk (st := s_scannings) l c k), (fun_mk (st := s_scannings) l c k).binds (ps := ["row", "text"]) fun _ _ _ _ _ _ us hl => match us, hl with | [_, _], _ => rfl, PySem.W.mg_of X G a⟩
def mk_digits (X : K.In h) (G : h.Ns mainGlobals mg) (a : PySem.W.nsIn K mainGlobals "digits" = some (some (.ref f))) (l : K.lookup f = some ⟨oc, od, .func (PySem.W.fnOf "digits" "digits" (defArgs s_digits) (defBody s_digits) (defScope s_digits) .none kV dc pm an cd ct), sl⟩) (c : PySem.W.codeIn K cd "digits" = true) (k : PySem.W.keepIn K (.ref f) = true) : Df K mg "digits" s_digits ["least"] := ⟨f, _, (fun_mk (st := s_digits) l c k), (fun_mk (st := s_digits) l c k).binds (ps := ["least"]) fun _ _ _ _ _ _ us hl => match us, hl with | [_], _ => rfl, PySem.W.mg_of X G a⟩
def mk_letters (X : K.In h) (G : h.Ns mainGlobals mg) (a : PySem.W.nsIn K mainGlobals "letters" = some (some (.ref f))) (l : K.lookup f = some ⟨oc, od, .func (PySem.W.fnOf "letters" "letters" (defArgs s_letters) (defBody s_letters) (defScope s_letters) .none kV dc pm an cd ct), sl⟩) (c : PySem.W.codeIn K cd "letters" = true) (k : PySem.W.keepIn K (.ref f) = true) : Df K mg "letters" s_letters [] := ⟨f, _, (fun_mk (st := s_letters) l c k), (fun_mk (st := s_letters) l c k).binds (ps := []) fun _ _ _ _ _ _ us hl => match us, hl with | [], _ => rfl, PySem.W.mg_of X G a⟩
def mk_Walk_init (a : PySem.W.findIn K (.ref C) "__init__" = some (some (.ref f))) (i : PySem.W.isFn K (.ref f) = true) (l : K.lookup f = some ⟨oc, od, .func (PySem.W.fnOf "__init__" "Walk.__init__" (defArgs s_Walk_init) (defBody s_Walk_init) (defScope s_Walk_init) .none kV dc pm an cd ct), sl⟩) (c : PySem.W.codeIn K cd "Walk.__init__" = true) (k : PySem.W.keepIn K (.ref f) = true) (mk : PySem.W.makesIn K C = true) (kc : PySem.W.keepIn K (.ref C) = true) : Di K C "Walk.__init__" s_Walk_init ["self", "row", "text"] := ⟨f, _, (fun_mk (st := s_Walk_init) l c k), (fun_mk (st := s_Walk_init) l c k).binds (ps := ["self", "row", "text"]) fun _ _ _ _ _ _ us hl => match us, hl with | [_, _, _], _ => rfl, ⟨mk, a, i, kc⟩⟩
def mk_Walk_is_stuck (a : PySem.W.findIn K (.ref C) "is_stuck" = some (some (.ref f))) (i : PySem.W.isFn K (.ref f) = true) (l : K.lookup f = some ⟨oc, od, .func (PySem.W.fnOf "is_stuck" "Walk.is_stuck" (defArgs s_Walk_is_stuck) (defBody s_Walk_is_stuck) (defScope s_Walk_is_stuck) .none kV dc pm an cd ct), sl⟩) (c : PySem.W.codeIn K cd "Walk.is_stuck" = true) (k : PySem.W.keepIn K (.ref f) = true) : Dm K C "is_stuck" "Walk.is_stuck" s_Walk_is_stuck ["self", "at", "wanted"] := ⟨f, _, (fun_mk (st := s_Walk_is_stuck) l c k), (fun_mk (st := s_Walk_is_stuck) l c k).binds (ps := ["self", "at", "wanted"]) fun _ _ _ _ _ _ us hl => match us, hl with | [_, _, _], _ => rfl, ⟨a, i, k⟩⟩
def mk_Walk_by_text (a : PySem.W.findIn K (.ref C) "by_text" = some (some (.ref f))) (i : PySem.W.isFn K (.ref f) = true) (l : K.lookup f = some ⟨oc, od, .func (PySem.W.fnOf "by_text" "Walk.by_text" (defArgs s_Walk_by_text) (defBody s_Walk_by_text) (defScope s_Walk_by_text) .none kV dc pm an cd ct), sl⟩) (c : PySem.W.codeIn K cd "Walk.by_text" = true) (k : PySem.W.keepIn K (.ref f) = true) : Dm K C "by_text" "Walk.by_text" s_Walk_by_text ["self", "wanted", "at"] := ⟨f, _, (fun_mk (st := s_Walk_by_text) l c k), (fun_mk (st := s_Walk_by_text) l c k).binds (ps := ["self", "wanted", "at"]) fun _ _ _ _ _ _ us hl => match us, hl with | [_, _, _], _ => rfl, ⟨a, i, k⟩⟩
def mk_Walk_by_signs (a : PySem.W.findIn K (.ref C) "by_signs" = some (some (.ref f))) (i : PySem.W.isFn K (.ref f) = true) (l : K.lookup f = some ⟨oc, od, .func (PySem.W.fnOf "by_signs" "Walk.by_signs" (defArgs s_Walk_by_signs) (defBody s_Walk_by_signs) (defScope s_Walk_by_signs) .none kV dc pm an cd ct), sl⟩) (c : PySem.W.codeIn K cd "Walk.by_signs" = true) (k : PySem.W.keepIn K (.ref f) = true) : Dm K C "by_signs" "Walk.by_signs" s_Walk_by_signs ["self", "first", "others", "least", "most", "at"] := ⟨f, _, (fun_mk (st := s_Walk_by_signs) l c k), (fun_mk (st := s_Walk_by_signs) l c k).binds (ps := ["self", "first", "others", "least", "most", "at"]) fun _ _ _ _ _ _ us hl => match us, hl with | [_, _, _, _, _, _], _ => rfl, ⟨a, i, k⟩⟩
def mk_Walk_by_number (a : PySem.W.findIn K (.ref C) "by_number" = some (some (.ref f))) (i : PySem.W.isFn K (.ref f) = true) (l : K.lookup f = some ⟨oc, od, .func (PySem.W.fnOf "by_number" "Walk.by_number" (defArgs s_Walk_by_number) (defBody s_Walk_by_number) (defScope s_Walk_by_number) .none kV dc pm an cd ct), sl⟩) (c : PySem.W.codeIn K cd "Walk.by_number" = true) (k : PySem.W.keepIn K (.ref f) = true) : Dm K C "by_number" "Walk.by_number" s_Walk_by_number ["self", "least", "most", "at"] := ⟨f, _, (fun_mk (st := s_Walk_by_number) l c k), (fun_mk (st := s_Walk_by_number) l c k).binds (ps := ["self", "least", "most", "at"]) fun _ _ _ _ _ _ us hl => match us, hl with | [_, _, _, _], _ => rfl, ⟨a, i, k⟩⟩
def mk_Walk_by_times (a : PySem.W.findIn K (.ref C) "by_times" = some (some (.ref f))) (i : PySem.W.isFn K (.ref f) = true) (l : K.lookup f = some ⟨oc, od, .func (PySem.W.fnOf "by_times" "Walk.by_times" (defArgs s_Walk_by_times) (defBody s_Walk_by_times) (defScope s_Walk_by_times) .none kV dc pm an cd ct), sl⟩) (c : PySem.W.codeIn K cd "Walk.by_times" = true) (k : PySem.W.keepIn K (.ref f) = true) : Dm K C "by_times" "Walk.by_times" s_Walk_by_times ["self", "piece", "at"] := ⟨f, _, (fun_mk (st := s_Walk_by_times) l c k), (fun_mk (st := s_Walk_by_times) l c k).binds (ps := ["self", "piece", "at"]) fun _ _ _ _ _ _ us hl => match us, hl with | [_, _, _], _ => rfl, ⟨a, i, k⟩⟩
def mk_Walk_by_piece (a : PySem.W.findIn K (.ref C) "by_piece" = some (some (.ref f))) (i : PySem.W.isFn K (.ref f) = true) (l : K.lookup f = some ⟨oc, od, .func (PySem.W.fnOf "by_piece" "Walk.by_piece" (defArgs s_Walk_by_piece) (defBody s_Walk_by_piece) (defScope s_Walk_by_piece) .none kV dc pm an cd ct), sl⟩) (c : PySem.W.codeIn K cd "Walk.by_piece" = true) (k : PySem.W.keepIn K (.ref f) = true) : Dm K C "by_piece" "Walk.by_piece" s_Walk_by_piece ["self", "piece", "at"] := ⟨f, _, (fun_mk (st := s_Walk_by_piece) l c k), (fun_mk (st := s_Walk_by_piece) l c k).binds (ps := ["self", "piece", "at"]) fun _ _ _ _ _ _ us hl => match us, hl with | [_, _, _], _ => rfl, ⟨a, i, k⟩⟩
def mk_Walk_all_behind (a : PySem.W.findIn K (.ref C) "all_behind" = some (some (.ref f))) (i : PySem.W.isFn K (.ref f) = true) (l : K.lookup f = some ⟨oc, od, .func (PySem.W.fnOf "all_behind" "Walk.all_behind" (defArgs s_Walk_all_behind) (defBody s_Walk_all_behind) (defScope s_Walk_all_behind) .none kV dc pm an cd ct), sl⟩) (c : PySem.W.codeIn K cd "Walk.all_behind" = true) (k : PySem.W.keepIn K (.ref f) = true) : Dm K C "all_behind" "Walk.all_behind" s_Walk_all_behind ["self", "rows"] := ⟨f, _, (fun_mk (st := s_Walk_all_behind) l c k), (fun_mk (st := s_Walk_all_behind) l c k).binds (ps := ["self", "rows"]) fun _ _ _ _ _ _ us hl => match us, hl with | [_, _], _ => rfl, ⟨a, i, k⟩⟩
def mk_Walk_through (a : PySem.W.findIn K (.ref C) "through" = some (some (.ref f))) (i : PySem.W.isFn K (.ref f) = true) (l : K.lookup f = some ⟨oc, od, .func (PySem.W.fnOf "through" "Walk.through" (defArgs s_Walk_through) (defBody s_Walk_through) (defScope s_Walk_through) .none kV dc pm an cd ct), sl⟩) (c : PySem.W.codeIn K cd "Walk.through" = true) (k : PySem.W.keepIn K (.ref f) = true) : Dm K C "through" "Walk.through" s_Walk_through ["self", "row", "places"] := ⟨f, _, (fun_mk (st := s_Walk_through) l c k), (fun_mk (st := s_Walk_through) l c k).binds (ps := ["self", "row", "places"]) fun _ _ _ _ _ _ us hl => match us, hl with | [_, _, _], _ => rfl, ⟨a, i, k⟩⟩
def mk_Walk_furthest (a : PySem.W.findIn K (.ref C) "furthest" = some (some (.ref f))) (i : PySem.W.isFn K (.ref f) = true) (l : K.lookup f = some ⟨oc, od, .func (PySem.W.fnOf "furthest" "Walk.furthest" (defArgs s_Walk_furthest) (defBody s_Walk_furthest) (defScope s_Walk_furthest) .none kV dc pm an cd ct), sl⟩) (c : PySem.W.codeIn K cd "Walk.furthest" = true) (k : PySem.W.keepIn K (.ref f) = true) : Dm K C "furthest" "Walk.furthest" s_Walk_furthest ["self"] := ⟨f, _, (fun_mk (st := s_Walk_furthest) l c k), (fun_mk (st := s_Walk_furthest) l c k).binds (ps := ["self"]) fun _ _ _ _ _ _ us hl => match us, hl with | [_], _ => rfl, ⟨a, i, k⟩⟩
def mk_Walk_wished_at (a : PySem.W.findIn K (.ref C) "wished_at" = some (some (.ref f))) (i : PySem.W.isFn K (.ref f) = true) (l : K.lookup f = some ⟨oc, od, .func (PySem.W.fnOf "wished_at" "Walk.wished_at" (defArgs s_Walk_wished_at) (defBody s_Walk_wished_at) (defScope s_Walk_wished_at) .none kV dc pm an cd ct), sl⟩) (c : PySem.W.codeIn K cd "Walk.wished_at" = true) (k : PySem.W.keepIn K (.ref f) = true) : Dm K C "wished_at" "Walk.wished_at" s_Walk_wished_at ["self", "place"] := ⟨f, _, (fun_mk (st := s_Walk_wished_at) l c k), (fun_mk (st := s_Walk_wished_at) l c k).binds (ps := ["self", "place"]) fun _ _ _ _ _ _ us hl => match us, hl with | [_, _], _ => rfl, ⟨a, i, k⟩⟩
def mk_Walk_goes_on_by (a : PySem.W.findIn K (.ref C) "goes_on_by" = some (some (.ref f))) (i : PySem.W.isFn K (.ref f) = true) (l : K.lookup f = some ⟨oc, od, .func (PySem.W.fnOf "goes_on_by" "Walk.goes_on_by" (defArgs s_Walk_goes_on_by) (defBody s_Walk_goes_on_by) (defScope s_Walk_goes_on_by) .none kV dc pm an cd ct), sl⟩) (c : PySem.W.codeIn K cd "Walk.goes_on_by" = true) (k : PySem.W.keepIn K (.ref f) = true) : Dm K C "goes_on_by" "Walk.goes_on_by" s_Walk_goes_on_by ["self"] := ⟨f, _, (fun_mk (st := s_Walk_goes_on_by) l c k), (fun_mk (st := s_Walk_goes_on_by) l c k).binds (ps := ["self"]) fun _ _ _ _ _ _ us hl => match us, hl with | [_], _ => rfl, ⟨a, i, k⟩⟩
def mk_longer_ones (X : K.In h) (G : h.Ns mainGlobals mg) (a : PySem.W.nsIn K mainGlobals "longer_ones" = some (some (.ref f))) (l : K.lookup f = some ⟨oc, od, .func (PySem.W.fnOf "longer_ones" "longer_ones" (defArgs s_longer_ones) (defBody s_longer_ones) (defScope s_longer_ones) .none kV dc pm an cd ct), sl⟩) (c : PySem.W.codeIn K cd "longer_ones" = true) (k : PySem.W.keepIn K (.ref f) = true) : Df K mg "longer_ones" s_longer_ones ["row", "texts"] := ⟨f, _, (fun_mk (st := s_longer_ones) l c k), (fun_mk (st := s_longer_ones) l c k).binds (ps := ["row", "texts"]) fun _ _ _ _ _ _ us hl => match us, hl with | [_, _], _ => rfl, PySem.W.mg_of X G a⟩
def mk_kept (X : K.In h) (G : h.Ns mainGlobals mg) (a : PySem.W.nsIn K mainGlobals "kept" = some (some (.ref f))) (l : K.lookup f = some ⟨oc, od, .func (PySem.W.fnOf "kept" "kept" (defArgs s_kept) (defBody s_kept) (defScope s_kept) .none kV dc pm an cd ct), sl⟩) (c : PySem.W.codeIn K cd "kept" = true) (k : PySem.W.keepIn K (.ref f) = true) : Df K mg "kept" s_kept ["row", "length"] := ⟨f, _, (fun_mk (st := s_kept) l c k), (fun_mk (st := s_kept) l c k).binds (ps := ["row", "length"]) fun _ _ _ _ _ _ us hl => match us, hl with | [_, _], _ => rfl, PySem.W.mg_of X G a⟩
def mk_those_with (X : K.In h) (G : h.Ns mainGlobals mg) (a : PySem.W.nsIn K mainGlobals "those_with" = some (some (.ref f))) (l : K.lookup f = some ⟨oc, od, .func (PySem.W.fnOf "those_with" "those_with" (defArgs s_those_with) (defBody s_those_with) (defScope s_those_with) .none kV dc pm an cd ct), sl⟩) (c : PySem.W.codeIn K cd "those_with" = true) (k : PySem.W.keepIn K (.ref f) = true) : Df K mg "those_with" s_those_with ["row", "texts", "many"] := ⟨f, _, (fun_mk (st := s_those_with) l c k), (fun_mk (st := s_those_with) l c k).binds (ps := ["row", "texts", "many"]) fun _ _ _ _ _ _ us hl => match us, hl with | [_, _, _], _ => rfl, PySem.W.mg_of X G a⟩
def mk_first_with (X : K.In h) (G : h.Ns mainGlobals mg) (a : PySem.W.nsIn K mainGlobals "first_with" = some (some (.ref f))) (l : K.lookup f = some ⟨oc, od, .func (PySem.W.fnOf "first_with" "first_with" (defArgs s_first_with) (defBody s_first_with) (defScope s_first_with) .none kV dc pm an cd ct), sl⟩) (c : PySem.W.codeIn K cd "first_with" = true) (k : PySem.W.keepIn K (.ref f) = true) : Df K mg "first_with" s_first_with ["row", "many"] := ⟨f, _, (fun_mk (st := s_first_with) l c k), (fun_mk (st := s_first_with) l c k).binds (ps := ["row", "many"]) fun _ _ _ _ _ _ us hl => match us, hl with | [_, _], _ => rfl, PySem.W.mg_of X G a⟩
def mk_counted (X : K.In h) (G : h.Ns mainGlobals mg) (a : PySem.W.nsIn K mainGlobals "counted" = some (some (.ref f))) (l : K.lookup f = some ⟨oc, od, .func (PySem.W.fnOf "counted" "counted" (defArgs s_counted) (defBody s_counted) (defScope s_counted) .none kV dc pm an cd ct), sl⟩) (c : PySem.W.codeIn K cd "counted" = true) (k : PySem.W.keepIn K (.ref f) = true) : Df K mg "counted" s_counted ["some"] := ⟨f, _, (fun_mk (st := s_counted) l c k), (fun_mk (st := s_counted) l c k).binds (ps := ["some"]) fun _ _ _ _ _ _ us hl => match us, hl with | [_], _ => rfl, PySem.W.mg_of X G a⟩
def mk_scanned (X : K.In h) (G : h.Ns mainGlobals mg) (a : PySem.W.nsIn K mainGlobals "scanned" = some (some (.ref f))) (l : K.lookup f = some ⟨oc, od, .func (PySem.W.fnOf "scanned" "scanned" (defArgs s_scanned) (defBody s_scanned) (defScope s_scanned) .none kV dc pm an cd ct), sl⟩) (c : PySem.W.codeIn K cd "scanned" = true) (k : PySem.W.keepIn K (.ref f) = true) : Df K mg "scanned" s_scanned ["some"] := ⟨f, _, (fun_mk (st := s_scanned) l c k), (fun_mk (st := s_scanned) l c k).binds (ps := ["some"]) fun _ _ _ _ _ _ us hl => match us, hl with | [_], _ => rfl, PySem.W.mg_of X G a⟩
def mk_kth (X : K.In h) (G : h.Ns mainGlobals mg) (a : PySem.W.nsIn K mainGlobals "kth" = some (some (.ref f))) (l : K.lookup f = some ⟨oc, od, .func (PySem.W.fnOf "kth" "kth" (defArgs s_kth) (defBody s_kth) (defScope s_kth) .none kV dc pm an cd ct), sl⟩) (c : PySem.W.codeIn K cd "kth" = true) (k : PySem.W.keepIn K (.ref f) = true) : Df K mg "kth" s_kth ["some", "number"] := ⟨f, _, (fun_mk (st := s_kth) l c k), (fun_mk (st := s_kth) l c k).binds (ps := ["some", "number"]) fun _ _ _ _ _ _ us hl => match us, hl with | [_, _], _ => rfl, PySem.W.mg_of X G a⟩
def mk_far (X : K.In h) (G : h.Ns mainGlobals mg) (a : PySem.W.nsIn K mainGlobals "far" = some (some (.ref f))) (l : K.lookup f = some ⟨oc, od, .func (PySem.W.fnOf "far" "far" (defArgs s_far) (defBody s_far) (defScope s_far) .none kV dc pm an cd ct), sl⟩) (c : PySem.W.codeIn K cd "far" = true) (k : PySem.W.keepIn K (.ref f) = true) : Df K mg "far" s_far ["row", "text"] := ⟨f, _, (fun_mk (st := s_far) l c k), (fun_mk (st := s_far) l c k).binds (ps := ["row", "text"]) fun _ _ _ _ _ _ us hl => match us, hl with | [_, _], _ => rfl, PySem.W.mg_of X G a⟩
def mk_again (X : K.In h) (G : h.Ns mainGlobals mg) (a : PySem.W.nsIn K mainGlobals "again" = some (some (.ref f))) (l : K.lookup f = some ⟨oc, od, .func (PySem.W.fnOf "again" "again" (defArgs s_again) (defBody s_again) (defScope s_again) .none kV dc pm an cd ct), sl⟩) (c : PySem.W.codeIn K cd "again" = true) (k : PySem.W.keepIn K (.ref f) = true) : Df K mg "again" s_again ["row", "value"] := ⟨f, _, (fun_mk (st := s_again) l c k), (fun_mk (st := s_again) l c k).binds (ps := ["row", "value"]) fun _ _ _ _ _ _ us hl => match us, hl with | [_, _], _ => rfl, PySem.W.mg_of X G a⟩
def mk_of_text (X : K.In h) (G : h.Ns mainGlobals mg) (a : PySem.W.nsIn K mainGlobals "of_text" = some (some (.ref f))) (l : K.lookup f = some ⟨oc, od, .func (PySem.W.fnOf "of_text" "of_text" (defArgs s_of_text) (defBody s_of_text) (defScope s_of_text) .none kV dc pm an cd ct), sl⟩) (c : PySem.W.codeIn K cd "of_text" = true) (k : PySem.W.keepIn K (.ref f) = true) : Df K mg "of_text" s_of_text ["row", "call", "number", "n"] := ⟨f, _, (fun_mk (st := s_of_text) l c k), (fun_mk (st := s_of_text) l c k).binds (ps := ["row", "call", "number", "n"]) fun _ _ _ _ _ _ us hl => match us, hl with | [_, _, _, _], _ => rfl, PySem.W.mg_of X G a⟩
def mk_of_value (X : K.In h) (G : h.Ns mainGlobals mg) (a : PySem.W.nsIn K mainGlobals "of_value" = some (some (.ref f))) (l : K.lookup f = some ⟨oc, od, .func (PySem.W.fnOf "of_value" "of_value" (defArgs s_of_value) (defBody s_of_value) (defScope s_of_value) .none kV dc pm an cd ct), sl⟩) (c : PySem.W.codeIn K cd "of_value" = true) (k : PySem.W.keepIn K (.ref f) = true) : Df K mg "of_value" s_of_value ["row", "call", "n"] := ⟨f, _, (fun_mk (st := s_of_value) l c k), (fun_mk (st := s_of_value) l c k).binds (ps := ["row", "call", "n"]) fun _ _ _ _ _ _ us hl => match us, hl with | [_, _, _], _ => rfl, PySem.W.mg_of X G a⟩
def mk_first_told (X : K.In h) (G : h.Ns mainGlobals mg) (a : PySem.W.nsIn K mainGlobals "first_told" = some (some (.ref f))) (l : K.lookup f = some ⟨oc, od, .func (PySem.W.fnOf "first_told" "first_told" (defArgs s_first_told) (defBody s_first_told) (defScope s_first_told) .none kV dc pm an cd ct), sl⟩) (c : PySem.W.codeIn K cd "first_told" = true) (k : PySem.W.keepIn K (.ref f) = true) : Df K mg "first_told" s_first_told ["row", "many"] := ⟨f, _, (fun_mk (st := s_first_told) l c k), (fun_mk (st := s_first_told) l c k).binds (ps := ["row", "many"]) fun _ _ _ _ _ _ us hl => match us, hl with | [_, _], _ => rfl, PySem.W.mg_of X G a⟩
def mk_texts (X : K.In h) (G : h.Ns mainGlobals mg) (a : PySem.W.nsIn K mainGlobals "texts" = some (some (.ref f))) (l : K.lookup f = some ⟨oc, od, .func (PySem.W.fnOf "texts" "texts" (defArgs s_texts) (defBody s_texts) (defScope s_texts) .none kV dc pm an cd ct), sl⟩) (c : PySem.W.codeIn K cd "texts" = true) (k : PySem.W.keepIn K (.ref f) = true) : Df K mg "texts" s_texts ["row", "length"] := ⟨f, _, (fun_mk (st := s_texts) l c k), (fun_mk (st := s_texts) l c k).binds (ps := ["row", "length"]) fun _ _ _ _ _ _ us hl => match us, hl with | [_, _], _ => rfl, PySem.W.mg_of X G a⟩
def mk_Desk_init (a : PySem.W.findIn K (.ref C) "__init__" = some (some (.ref f))) (i : PySem.W.isFn K (.ref f) = true) (l : K.lookup f = some ⟨oc, od, .func (PySem.W.fnOf "__init__" "Desk.__init__" (defArgs s_Desk_init) (defBody s_Desk_init) (defScope s_Desk_init) .none kV dc pm an cd ct), sl⟩) (c : PySem.W.codeIn K cd "Desk.__init__" = true) (k : PySem.W.keepIn K (.ref f) = true) (mk : PySem.W.makesIn K C = true) (kc : PySem.W.keepIn K (.ref C) = true) : Di K C "Desk.__init__" s_Desk_init ["self"] := ⟨f, _, (fun_mk (st := s_Desk_init) l c k), (fun_mk (st := s_Desk_init) l c k).binds (ps := ["self"]) fun _ _ _ _ _ _ us hl => match us, hl with | [_], _ => rfl, ⟨mk, a, i, kc⟩⟩
def mk_Desk_set_format (a : PySem.W.findIn K (.ref C) "set_format" = some (some (.ref f))) (i : PySem.W.isFn K (.ref f) = true) (l : K.lookup f = some ⟨oc, od, .func (PySem.W.fnOf "set_format" "Desk.set_format" (defArgs s_Desk_set_format) (defBody s_Desk_set_format) (defScope s_Desk_set_format) .none kV dc pm an cd ct), sl⟩) (c : PySem.W.codeIn K cd "Desk.set_format" = true) (k : PySem.W.keepIn K (.ref f) = true) : Dm K C "set_format" "Desk.set_format" s_Desk_set_format ["self", "n"] := ⟨f, _, (fun_mk (st := s_Desk_set_format) l c k), (fun_mk (st := s_Desk_set_format) l c k).binds (ps := ["self", "n"]) fun _ _ _ _ _ _ us hl => match us, hl with | [_, _], _ => rfl, ⟨a, i, k⟩⟩
def mk_Desk_answer (a : PySem.W.findIn K (.ref C) "answer" = some (some (.ref f))) (i : PySem.W.isFn K (.ref f) = true) (l : K.lookup f = some ⟨oc, od, .func (PySem.W.fnOf "answer" "Desk.answer" (defArgs s_Desk_answer) (defBody s_Desk_answer) (defScope s_Desk_answer) .none kV dc pm an cd ct), sl⟩) (c : PySem.W.codeIn K cd "Desk.answer" = true) (k : PySem.W.keepIn K (.ref f) = true) : Dm K C "answer" "Desk.answer" s_Desk_answer ["self", "call", "number", "n"] := ⟨f, _, (fun_mk (st := s_Desk_answer) l c k), (fun_mk (st := s_Desk_answer) l c k).binds (ps := ["self", "call", "number", "n"]) fun _ _ _ _ _ _ us hl => match us, hl with | [_, _, _, _], _ => rfl, ⟨a, i, k⟩⟩
def mk_answers (X : K.In h) (G : h.Ns mainGlobals mg) (a : PySem.W.nsIn K mainGlobals "answers" = some (some (.ref f))) (l : K.lookup f = some ⟨oc, od, .func (PySem.W.fnOf "answers" "answers" (defArgs s_answers) (defBody s_answers) (defScope s_answers) .none kV dc pm an cd ct), sl⟩) (c : PySem.W.codeIn K cd "answers" = true) (k : PySem.W.keepIn K (.ref f) = true) : Df K mg "answers" s_answers ["calls"] := ⟨f, _, (fun_mk (st := s_answers) l c k), (fun_mk (st := s_answers) l c k).binds (ps := ["calls"]) fun _ _ _ _ _ _ us hl => match us, hl with | [_], _ => rfl, PySem.W.mg_of X G a⟩
theorem mk_no {x : Str} (a : PySem.W.findIn K (.ref C) x = some none) : NoAttr K C x := a
def mk_c {v : Int} {t : Tok} {x : Str} (X : K.In h) (G : h.Ns mainGlobals mg) (a : PySem.W.nsIn K mainGlobals x = some (some (.int v t))) : { t : Tok // mg x = some (.int v t) } := ⟨t, PySem.W.mg_of X G a⟩
theorem fin {P : Program} {w : World} {fa : Addr} (T : Txt K mg) (hfa : mg "answers" = some (.ref fa)) (hb : ∀ (s : Shared) (us : List PySem.Value), us.length = (["calls"] : List Str).length → BindsTo s T.d_answers.fd ⟨us, []⟩ ((["calls"] : List Str).zip us)) :
    ∃ fd : FuncData, (∀ (s : Shared) (us : List PySem.Value), us.length = (["calls"] : List Str).length → BindsTo s fd ⟨us, []⟩ ((["calls"] : List Str).zip us)) ∧ ∀ base : Heap, K.In base → base.Ns mainGlobals mg → FnOk P w K mg base CX0 107 fa fd ["calls"] (spAnswers K) := by
  have e := hfa.symm.trans T.d_answers.m
  injection e with e
  injection e with e
  subst e
  exact ⟨T.d_answers.fd, hb, fun base _ _ => ok_answers T⟩
end
end Asc
open PySem PySem.W PyProof.Rows
set_option maxRecDepth 100000 in
set_option maxHeartbeats 40000000 in
theorem PySem.Challenge.cw_allscannings_s01_answers_holds : PySem.Challenge.rw_allscannings_s01_answers.Holds := by
  w_on; k_headS; (case hw => exact ⟨[.list [.int 7]], by decide +kernel, by decide +kernel⟩)
  k_fillS
  refine L2.walk_specK (r := PySem.Challenge.rw_allscannings_s01_answers) (k := 107) (CX := L2.CX0) (ps := ["calls"]) (sp := Asc.spAnswers) (by decide +kernel) rfl rfl ⟨rfl, by decide, by decide⟩ (fun w h Y => PySem.W.kIn_of Y) ?F ?S (fun _ _ _ _ z => z)
  case F =>
    intro w mg fa h Y KX G hmg
    refine' Asc.fin (T := {
      d_read_text := Asc.mk_read_text KX G ?a_read_text ?l_read_text ?c_read_text ?k_read_text,
      d_read_span := Asc.mk_read_span KX G ?a_read_span ?l_read_span ?c_read_span ?k_read_span,
      d_read_row := Asc.mk_read_row KX G ?a_read_row ?l_read_row ?c_read_row ?k_read_row,
      d_read_either := Asc.mk_read_either KX G ?a_read_either ?l_read_either ?c_read_either ?k_read_either,
      d_read_repeat := Asc.mk_read_repeat KX G ?a_read_repeat ?l_read_repeat ?c_read_repeat ?k_read_repeat,
      d_read_piece := Asc.mk_read_piece KX G ?a_read_piece ?l_read_piece ?c_read_piece ?k_read_piece,
      d_rows_in := Asc.mk_rows_in KX G ?a_rows_in ?l_rows_in ?c_rows_in ?k_rows_in,
      d_all_pieces := Asc.mk_all_pieces KX G ?a_all_pieces ?l_all_pieces ?c_all_pieces ?k_all_pieces,
      d_gone_through := Asc.mk_gone_through KX G ?a_gone_through ?l_gone_through ?c_gone_through ?k_gone_through,
      d_has_repeat_in_repeat := Asc.mk_has_repeat_in_repeat KX G ?a_has_repeat_in_repeat ?l_has_repeat_in_repeat ?c_has_repeat_in_repeat ?k_has_repeat_in_repeat,
      d_format_in := Asc.mk_format_in KX G ?a_format_in ?l_format_in ?c_format_in ?k_format_in,
      d_text_in := Asc.mk_text_in KX G ?a_text_in ?l_text_in ?c_text_in ?k_text_in,
      d_value_in := Asc.mk_value_in KX G ?a_value_in ?l_value_in ?c_value_in ?k_value_in,
      d_digits_of := Asc.mk_digits_of KX G ?a_digits_of ?l_digits_of ?c_digits_of ?k_digits_of,
      d_print_number := Asc.mk_print_number KX G ?a_print_number ?l_print_number ?c_print_number ?k_print_number,
      d_print_word := Asc.mk_print_word KX G ?a_print_word ?l_print_word ?c_print_word ?k_print_word,
      d_print_times := Asc.mk_print_times KX G ?a_print_times ?l_print_times ?c_print_times ?k_print_times,
      d_print_chosen := Asc.mk_print_chosen KX G ?a_print_chosen ?l_print_chosen ?c_print_chosen ?k_print_chosen,
      d_print_piece := Asc.mk_print_piece KX G ?a_print_piece ?l_print_piece ?c_print_piece ?k_print_piece,
      d_print_row := Asc.mk_print_row KX G ?a_print_row ?l_print_row ?c_print_row ?k_print_row,
      d_print_of := Asc.mk_print_of KX G ?a_print_of ?l_print_of ?c_print_of ?k_print_of,
      d_is_digit := Asc.mk_is_digit KX G ?a_is_digit ?l_is_digit ?c_is_digit ?k_is_digit,
      d_is_letter := Asc.mk_is_letter KX G ?a_is_letter ?l_is_letter ?c_is_letter ?k_is_letter,
      d_number_of := Asc.mk_number_of KX G ?a_number_of ?l_number_of ?c_number_of ?k_number_of,
      d_are_right := Asc.mk_are_right KX G ?a_are_right ?l_are_right ?c_are_right ?k_are_right,
      d_ways_of_number := Asc.mk_ways_of_number KX G ?a_ways_of_number ?l_ways_of_number ?c_ways_of_number ?k_ways_of_number,
      d_ways_of_word := Asc.mk_ways_of_word KX G ?a_ways_of_word ?l_ways_of_word ?c_ways_of_word ?k_ways_of_word,
      d_ways_of_rows := Asc.mk_ways_of_rows KX G ?a_ways_of_rows ?l_ways_of_rows ?c_ways_of_rows ?k_ways_of_rows,
      d_behind_text := Asc.mk_behind_text KX G ?a_behind_text ?l_behind_text ?c_behind_text ?k_behind_text,
      d_ways_of_times := Asc.mk_ways_of_times KX G ?a_ways_of_times ?l_ways_of_times ?c_ways_of_times ?k_ways_of_times,
      d_ways_of := Asc.mk_ways_of KX G ?a_ways_of ?l_ways_of ?c_ways_of ?k_ways_of,
      d_ways_of_row := Asc.mk_ways_of_row KX G ?a_ways_of_row ?l_ways_of_row ?c_ways_of_row ?k_ways_of_row,
      d_scannings := Asc.mk_scannings KX G ?a_scannings ?l_scannings ?c_scannings ?k_scannings,
      d_digits := Asc.mk_digits KX G ?a_digits ?l_digits ?c_digits ?k_digits,
      d_letters := Asc.mk_letters KX G ?a_letters ?l_letters ?c_letters ?k_letters,
      d_longer_ones := Asc.mk_longer_ones KX G ?a_longer_ones ?l_longer_ones ?c_longer_ones ?k_longer_ones,
      d_kept := Asc.mk_kept KX G ?a_kept ?l_kept ?c_kept ?k_kept,
      d_those_with := Asc.mk_those_with KX G ?a_those_with ?l_those_with ?c_those_with ?k_those_with,
      d_first_with := Asc.mk_first_with KX G ?a_first_with ?l_first_with ?c_first_with ?k_first_with,
      d_counted := Asc.mk_counted KX G ?a_counted ?l_counted ?c_counted ?k_counted,
      d_scanned := Asc.mk_scanned KX G ?a_scanned ?l_scanned ?c_scanned ?k_scanned,
      d_kth := Asc.mk_kth KX G ?a_kth ?l_kth ?c_kth ?k_kth,
      d_far := Asc.mk_far KX G ?a_far ?l_far ?c_far ?k_far,
      d_again := Asc.mk_again KX G ?a_again ?l_again ?c_again ?k_again,
      d_of_text := Asc.mk_of_text KX G ?a_of_text ?l_of_text ?c_of_text ?k_of_text,
      d_of_value := Asc.mk_of_value KX G ?a_of_value ?l_of_value ?c_of_value ?k_of_value,
      d_first_told := Asc.mk_first_told KX G ?a_first_told ?l_first_told ?c_first_told ?k_first_told,
      d_texts := Asc.mk_texts KX G ?a_texts ?l_texts ?c_texts ?k_texts,
      d_answers := Asc.mk_answers KX G ?a_answers ?l_answers ?c_answers ?k_answers,
      cWalk := _,
      Walk_g := PySem.W.mg_of KX G ?AWalk,
      Walk_cl := ⟨?pgWalk, ?hdWalk, ?poWalk, ?saWalk⟩,
      Walk_init := Asc.mk_Walk_init ?a_Walk_init ?i_Walk_init ?l_Walk_init ?c_Walk_init ?k_Walk_init ?mkWalk ?kcWalk,
      m_is_stuck := Asc.mk_Walk_is_stuck ?a_Walk_is_stuck ?i_Walk_is_stuck ?l_Walk_is_stuck ?c_Walk_is_stuck ?k_Walk_is_stuck,
      m_by_text := Asc.mk_Walk_by_text ?a_Walk_by_text ?i_Walk_by_text ?l_Walk_by_text ?c_Walk_by_text ?k_Walk_by_text,
      m_by_signs := Asc.mk_Walk_by_signs ?a_Walk_by_signs ?i_Walk_by_signs ?l_Walk_by_signs ?c_Walk_by_signs ?k_Walk_by_signs,
      m_by_number := Asc.mk_Walk_by_number ?a_Walk_by_number ?i_Walk_by_number ?l_Walk_by_number ?c_Walk_by_number ?k_Walk_by_number,
      m_by_times := Asc.mk_Walk_by_times ?a_Walk_by_times ?i_Walk_by_times ?l_Walk_by_times ?c_Walk_by_times ?k_Walk_by_times,
      m_by_piece := Asc.mk_Walk_by_piece ?a_Walk_by_piece ?i_Walk_by_piece ?l_Walk_by_piece ?c_Walk_by_piece ?k_Walk_by_piece,
      m_all_behind := Asc.mk_Walk_all_behind ?a_Walk_all_behind ?i_Walk_all_behind ?l_Walk_all_behind ?c_Walk_all_behind ?k_Walk_all_behind,
      m_through := Asc.mk_Walk_through ?a_Walk_through ?i_Walk_through ?l_Walk_through ?c_Walk_through ?k_Walk_through,
      m_furthest := Asc.mk_Walk_furthest ?a_Walk_furthest ?i_Walk_furthest ?l_Walk_furthest ?c_Walk_furthest ?k_Walk_furthest,
      m_wished_at := Asc.mk_Walk_wished_at ?a_Walk_wished_at ?i_Walk_wished_at ?l_Walk_wished_at ?c_Walk_wished_at ?k_Walk_wished_at,
      m_goes_on_by := Asc.mk_Walk_goes_on_by ?a_Walk_goes_on_by ?i_Walk_goes_on_by ?l_Walk_goes_on_by ?c_Walk_goes_on_by ?k_Walk_goes_on_by,
      cDesk := _,
      Desk_g := PySem.W.mg_of KX G ?ADesk,
      Desk_cl := ⟨?pgDesk, ?hdDesk, ?poDesk, ?saDesk⟩,
      Desk_init := Asc.mk_Desk_init ?a_Desk_init ?i_Desk_init ?l_Desk_init ?c_Desk_init ?k_Desk_init ?mkDesk ?kcDesk,
      m_set_format := Asc.mk_Desk_set_format ?a_Desk_set_format ?i_Desk_set_format ?l_Desk_set_format ?c_Desk_set_format ?k_Desk_set_format,
      m_answer := Asc.mk_Desk_answer ?a_Desk_answer ?i_Desk_answer ?l_Desk_answer ?c_Desk_answer ?k_Desk_answer,
      nW_text := Asc.mk_no ?nWtext,
      nW_wished := Asc.mk_no ?nWwished,
      nW_ends := Asc.mk_no ?nWends,
      nD_row := Asc.mk_no ?nDrow,
      c_LITERAL := Asc.mk_c KX G ?g_LITERAL,
      c_NUMBER := Asc.mk_c KX G ?g_NUMBER,
      c_WORD := Asc.mk_c KX G ?g_WORD,
      c_EITHER := Asc.mk_c KX G ?g_EITHER,
      c_OPTIONAL := Asc.mk_c KX G ?g_OPTIONAL,
      c_REPEAT := Asc.mk_c KX G ?g_REPEAT,
      c_LEAST_BYTE := Asc.mk_c KX G ?g_LEAST_BYTE,
      c_GREATEST_BYTE := Asc.mk_c KX G ?g_GREATEST_BYTE,
      c_MOST_LITERAL := Asc.mk_c KX G ?g_MOST_LITERAL,
      c_MOST_LONG := Asc.mk_c KX G ?g_MOST_LONG,
      c_MOST_TIMES := Asc.mk_c KX G ?g_MOST_TIMES,
      c_MOST_PIECES := Asc.mk_c KX G ?g_MOST_PIECES,
      c_MOST_GONE_THROUGH := Asc.mk_c KX G ?g_MOST_GONE_THROUGH,
      c_NOUGHT := Asc.mk_c KX G ?g_NOUGHT,
      c_SMALL_A := Asc.mk_c KX G ?g_SMALL_A,
      c_LETTERS := Asc.mk_c KX G ?g_LETTERS,
      c_TEN := Asc.mk_c KX G ?g_TEN,
      c_DIGITS := Asc.mk_c KX G ?g_DIGITS,
      c_MOST_KEPT := Asc.mk_c KX G ?g_MOST_KEPT,
      c_LONGEST := Asc.mk_c KX G ?g_LONGEST,
      c_FORMAT := Asc.mk_c KX G ?g_FORMAT,
      c_KTH := Asc.mk_c KX G ?g_KTH,
      c_LEAST := Asc.mk_c KX G ?g_LEAST,
      c_AMBIGUOUS := Asc.mk_c KX G ?g_AMBIGUOUS,
      c_TEXTS := Asc.mk_c KX G ?g_TEXTS,
      c_NOT_WHOLE := Asc.mk_c KX G ?g_NOT_WHOLE,
      c_NO_SUCH_SCANNING := Asc.mk_c KX G ?g_NO_SUCH_SCANNING,
      c_NO_SUCH_LENGTH := Asc.mk_c KX G ?g_NO_SUCH_LENGTH,
      c_MOST_BYTES := Asc.mk_c KX G ?g_MOST_BYTES,
      c_MOST_NUMBERS := Asc.mk_c KX G ?g_MOST_NUMBERS,
      c_GREATEST := Asc.mk_c KX G ?g_GREATEST,
      c_LONGEST_ASKED := Asc.mk_c KX G ?g_LONGEST_ASKED,
      b_len := PySem.W.mg_none_of KX G ?z_len,
      b_all := PySem.W.mg_none_of KX G ?z_all,
      b_any := PySem.W.mg_none_of KX G ?z_any,
      b_max := PySem.W.mg_none_of KX G ?z_max,
      b_sorted := PySem.W.mg_none_of KX G ?z_sorted,
      b_set := PySem.W.mg_none_of KX G ?z_set,
      b_tuple := PySem.W.mg_none_of KX G ?z_tuple,
      b_list := PySem.W.mg_none_of KX G ?z_list,
      b_int := PySem.W.mg_none_of KX G ?z_int,
      b_str := PySem.W.mg_none_of KX G ?z_str,
      b_range := PySem.W.mg_none_of KX G ?z_range }) hmg ?hb
    (case a_read_text => k_is); (case l_read_text => k_is); (case c_read_text => k_is); (case k_read_text => k_is); (case a_read_span => k_is)
    (case l_read_span => k_is); (case c_read_span => k_is); (case k_read_span => k_is); (case a_read_row => k_is); (case l_read_row => k_is)
    (case c_read_row => k_is); (case k_read_row => k_is); (case a_read_either => k_is); (case l_read_either => k_is); (case c_read_either => k_is)
    (case k_read_either => k_is); (case a_read_repeat => k_is); (case l_read_repeat => k_is); (case c_read_repeat => k_is); (case k_read_repeat => k_is)
    (case a_read_piece => k_is); (case l_read_piece => k_is); (case c_read_piece => k_is); (case k_read_piece => k_is); (case a_rows_in => k_is)
    (case l_rows_in => k_is); (case c_rows_in => k_is); (case k_rows_in => k_is); (case a_all_pieces => k_is); (case l_all_pieces => k_is)
    (case c_all_pieces => k_is); (case k_all_pieces => k_is); (case a_gone_through => k_is); (case l_gone_through => k_is); (case c_gone_through => k_is)
    (case k_gone_through => k_is); (case a_has_repeat_in_repeat => k_is); (case l_has_repeat_in_repeat => k_is); (case c_has_repeat_in_repeat => k_is); (case k_has_repeat_in_repeat => k_is)
    (case a_format_in => k_is); (case l_format_in => k_is); (case c_format_in => k_is); (case k_format_in => k_is); (case a_text_in => k_is)
    (case l_text_in => k_is); (case c_text_in => k_is); (case k_text_in => k_is); (case a_value_in => k_is); (case l_value_in => k_is)
    (case c_value_in => k_is); (case k_value_in => k_is); (case a_digits_of => k_is); (case l_digits_of => k_is); (case c_digits_of => k_is)
    (case k_digits_of => k_is); (case a_print_number => k_is); (case l_print_number => k_is); (case c_print_number => k_is); (case k_print_number => k_is)
    (case a_print_word => k_is); (case l_print_word => k_is); (case c_print_word => k_is); (case k_print_word => k_is); (case a_print_times => k_is)
    (case l_print_times => k_is); (case c_print_times => k_is); (case k_print_times => k_is); (case a_print_chosen => k_is); (case l_print_chosen => k_is)
    (case c_print_chosen => k_is); (case k_print_chosen => k_is); (case a_print_piece => k_is); (case l_print_piece => k_is); (case c_print_piece => k_is)
    (case k_print_piece => k_is); (case a_print_row => k_is); (case l_print_row => k_is); (case c_print_row => k_is); (case k_print_row => k_is)
    (case a_print_of => k_is); (case l_print_of => k_is); (case c_print_of => k_is); (case k_print_of => k_is); (case a_is_digit => k_is)
    (case l_is_digit => k_is); (case c_is_digit => k_is); (case k_is_digit => k_is); (case a_is_letter => k_is); (case l_is_letter => k_is)
    (case c_is_letter => k_is); (case k_is_letter => k_is); (case a_number_of => k_is); (case l_number_of => k_is); (case c_number_of => k_is)
    (case k_number_of => k_is); (case a_are_right => k_is); (case l_are_right => k_is); (case c_are_right => k_is); (case k_are_right => k_is)
    (case a_ways_of_number => k_is); (case l_ways_of_number => k_is); (case c_ways_of_number => k_is); (case k_ways_of_number => k_is); (case a_ways_of_word => k_is)
    (case l_ways_of_word => k_is); (case c_ways_of_word => k_is); (case k_ways_of_word => k_is); (case a_ways_of_rows => k_is); (case l_ways_of_rows => k_is)
    (case c_ways_of_rows => k_is); (case k_ways_of_rows => k_is); (case a_behind_text => k_is); (case l_behind_text => k_is); (case c_behind_text => k_is)
    (case k_behind_text => k_is); (case a_ways_of_times => k_is); (case l_ways_of_times => k_is); (case c_ways_of_times => k_is); (case k_ways_of_times => k_is)
    (case a_ways_of => k_is); (case l_ways_of => k_is); (case c_ways_of => k_is); (case k_ways_of => k_is); (case a_ways_of_row => k_is)
    (case l_ways_of_row => k_is); (case c_ways_of_row => k_is); (case k_ways_of_row => k_is); (case a_scannings => k_is); (case l_scannings => k_is)
    (case c_scannings => k_is); (case k_scannings => k_is); (case a_digits => k_is); (case l_digits => k_is); (case c_digits => k_is)
    (case k_digits => k_is); (case a_letters => k_is); (case l_letters => k_is); (case c_letters => k_is); (case k_letters => k_is)
    (case a_longer_ones => k_is); (case l_longer_ones => k_is); (case c_longer_ones => k_is); (case k_longer_ones => k_is); (case a_kept => k_is)
    (case l_kept => k_is); (case c_kept => k_is); (case k_kept => k_is); (case a_those_with => k_is); (case l_those_with => k_is)
    (case c_those_with => k_is); (case k_those_with => k_is); (case a_first_with => k_is); (case l_first_with => k_is); (case c_first_with => k_is)
    (case k_first_with => k_is); (case a_counted => k_is); (case l_counted => k_is); (case c_counted => k_is); (case k_counted => k_is)
    (case a_scanned => k_is); (case l_scanned => k_is); (case c_scanned => k_is); (case k_scanned => k_is); (case a_kth => k_is)
    (case l_kth => k_is); (case c_kth => k_is); (case k_kth => k_is); (case a_far => k_is); (case l_far => k_is)
    (case c_far => k_is); (case k_far => k_is); (case a_again => k_is); (case l_again => k_is); (case c_again => k_is)
    (case k_again => k_is); (case a_of_text => k_is); (case l_of_text => k_is); (case c_of_text => k_is); (case k_of_text => k_is)
    (case a_of_value => k_is); (case l_of_value => k_is); (case c_of_value => k_is); (case k_of_value => k_is); (case a_first_told => k_is)
    (case l_first_told => k_is); (case c_first_told => k_is); (case k_first_told => k_is); (case a_texts => k_is); (case l_texts => k_is)
    (case c_texts => k_is); (case k_texts => k_is); (case a_answers => k_is); (case l_answers => k_is); (case c_answers => k_is)
    (case k_answers => k_is); (case AWalk => k_is); (case pgWalk => k_is); (case hdWalk => k_is); (case poWalk => k_is)
    (case saWalk => k_is); (case a_Walk_init => k_is); (case i_Walk_init => k_is); (case l_Walk_init => k_is); (case c_Walk_init => k_is)
    (case k_Walk_init => k_is); (case mkWalk => k_is); (case kcWalk => k_is); (case a_Walk_is_stuck => k_is); (case i_Walk_is_stuck => k_is)
    (case l_Walk_is_stuck => k_is); (case c_Walk_is_stuck => k_is); (case k_Walk_is_stuck => k_is); (case a_Walk_by_text => k_is); (case i_Walk_by_text => k_is)
    (case l_Walk_by_text => k_is); (case c_Walk_by_text => k_is); (case k_Walk_by_text => k_is); (case a_Walk_by_signs => k_is); (case i_Walk_by_signs => k_is)
    (case l_Walk_by_signs => k_is); (case c_Walk_by_signs => k_is); (case k_Walk_by_signs => k_is); (case a_Walk_by_number => k_is); (case i_Walk_by_number => k_is)
    (case l_Walk_by_number => k_is); (case c_Walk_by_number => k_is); (case k_Walk_by_number => k_is); (case a_Walk_by_times => k_is); (case i_Walk_by_times => k_is)
    (case l_Walk_by_times => k_is); (case c_Walk_by_times => k_is); (case k_Walk_by_times => k_is); (case a_Walk_by_piece => k_is); (case i_Walk_by_piece => k_is)
    (case l_Walk_by_piece => k_is); (case c_Walk_by_piece => k_is); (case k_Walk_by_piece => k_is); (case a_Walk_all_behind => k_is); (case i_Walk_all_behind => k_is)
    (case l_Walk_all_behind => k_is); (case c_Walk_all_behind => k_is); (case k_Walk_all_behind => k_is); (case a_Walk_through => k_is); (case i_Walk_through => k_is)
    (case l_Walk_through => k_is); (case c_Walk_through => k_is); (case k_Walk_through => k_is); (case a_Walk_furthest => k_is); (case i_Walk_furthest => k_is)
    (case l_Walk_furthest => k_is); (case c_Walk_furthest => k_is); (case k_Walk_furthest => k_is); (case a_Walk_wished_at => k_is); (case i_Walk_wished_at => k_is)
    (case l_Walk_wished_at => k_is); (case c_Walk_wished_at => k_is); (case k_Walk_wished_at => k_is); (case a_Walk_goes_on_by => k_is); (case i_Walk_goes_on_by => k_is)
    (case l_Walk_goes_on_by => k_is); (case c_Walk_goes_on_by => k_is); (case k_Walk_goes_on_by => k_is); (case ADesk => k_is); (case pgDesk => k_is)
    (case hdDesk => k_is); (case poDesk => k_is); (case saDesk => k_is); (case a_Desk_init => k_is); (case i_Desk_init => k_is)
    (case l_Desk_init => k_is); (case c_Desk_init => k_is); (case k_Desk_init => k_is); (case mkDesk => k_is); (case kcDesk => k_is)
    (case a_Desk_set_format => k_is); (case i_Desk_set_format => k_is); (case l_Desk_set_format => k_is); (case c_Desk_set_format => k_is); (case k_Desk_set_format => k_is)
    (case a_Desk_answer => k_is); (case i_Desk_answer => k_is); (case l_Desk_answer => k_is); (case c_Desk_answer => k_is); (case k_Desk_answer => k_is)
    (case nWtext => k_is); (case nWwished => k_is); (case nWends => k_is); (case nDrow => k_is); (case g_LITERAL => k_is)
    (case g_NUMBER => k_is); (case g_WORD => k_is); (case g_EITHER => k_is); (case g_OPTIONAL => k_is); (case g_REPEAT => k_is)
    (case g_LEAST_BYTE => k_is); (case g_GREATEST_BYTE => k_is); (case g_MOST_LITERAL => k_is); (case g_MOST_LONG => k_is); (case g_MOST_TIMES => k_is)
    (case g_MOST_PIECES => k_is); (case g_MOST_GONE_THROUGH => k_is); (case g_NOUGHT => k_is); (case g_SMALL_A => k_is); (case g_LETTERS => k_is)
    (case g_TEN => k_is); (case g_DIGITS => k_is); (case g_MOST_KEPT => k_is); (case g_LONGEST => k_is); (case g_FORMAT => k_is)
    (case g_KTH => k_is); (case g_LEAST => k_is); (case g_AMBIGUOUS => k_is); (case g_TEXTS => k_is); (case g_NOT_WHOLE => k_is)
    (case g_NO_SUCH_SCANNING => k_is); (case g_NO_SUCH_LENGTH => k_is); (case g_MOST_BYTES => k_is); (case g_MOST_NUMBERS => k_is); (case g_GREATEST => k_is)
    (case g_LONGEST_ASKED => k_is); (case z_len => k_is); (case z_all => k_is); (case z_any => k_is); (case z_max => k_is)
    (case z_sorted => k_is); (case z_set => k_is); (case z_tuple => k_is); (case z_list => k_is); (case z_int => k_is)
    (case z_str => k_is); (case z_range => k_is)
    case hb => exact fun s us hu => match us, hu with | [_], _ => .of_eq rfl
  case S =>
    intro K H xs a hO hwi hask hx
    cases hx with
    | cons h1 h2 =>
      cases h2
      cases h1 with
      | lst hs ha =>
        have e := L2.ints_dw a.1 _ ha
        subst e
        have q : ((Codec.inLen 0 8200 a.1 && a.1.all (Codec.inInt (Int.negSucc 999999999999999999) (Int.ofNat 1000000000000000000))) && true) = true := hwi
        rw [Bool.and_eq_true, Bool.and_eq_true] at q
        exact ⟨_, a.1, rfl, hs, (Codec.inNat_iff.mp q.1.1).2, hask, fun H' p hp => .lst (L2.SqL.of hp) (L2.dw_ints _)⟩
#print axioms PySem.Challenge.cw_allscannings_s01_answers_holds
