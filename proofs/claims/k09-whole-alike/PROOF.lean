import PyProof.Rows.All
import Wide.All
import OpenK.AllK
import Wide.FinOn
import HandS.ForMost
import HandS.TupSets
import HandS.Zip
import HandS.TupAny
import HandS.Star
import KE.SortData
import KE.DataMinMax
import KE.GoesEnum
import PySem.Challenge.RW_finecloud_k09_whole_alike
import HandS.Codes
/-! KM1 -/
set_option Elab.async false
/-! Plain mathematics of turned, shifted and settled rows of points (no program in sight). -/
namespace K9
abbrev Pt := List Int
abbrev Row := List Pt
abbrev Tn := Pt × Pt

def addP (p s : Pt) : Pt := List.zipWith (fun a b => a + b) p s
def negP (s : Pt) : Pt := s.map fun x => -x
def turned (p : Pt) (t : Tn) : Pt := List.zipWith (fun a s => s * p.getD a.toNat 0) t.1 t.2
def leP (p q : Pt) : Bool := decide (p ≤ q)
def sortP (P : Row) : Row := P.mergeSort leP
def minI : List Int → Int
  | [] => 0
  | n :: ns => ns.foldl min n
def dimR (P : Row) : Nat := (P.headD []).length
def corner (P : Row) : Pt := (List.range (dimR P)).map fun i => minI (P.map fun p => p.getD i 0)
def shiftOf (P : Row) : Pt := negP (corner P)
def settledR (P : Row) : Row := sortP (P.map fun p => addP p (shiftOf P))
def rowsStep (m : Nat) (found : Row) : Row := found.flatMap fun row => ((List.range m).filter fun n : Nat => !row.contains (n : Int)).map fun n : Nat => row ++ [(n : Int)]
def rowsN (m : Nat) : Nat → Row
  | 0 => [[]]
  | i + 1 => rowsStep m (rowsN m i)
def signsStep (found : Row) : Row := found.flatMap fun row => [row ++ [-1], row ++ [1]]
def signsN : Nat → Row
  | 0 => [[]]
  | i + 1 => signsStep (signsN i)
def invs : Pt → Nat
  | [] => 0
  | a :: r => (r.filter fun b => decide (b < a)).length + invs r
def oddN (axes signs : Pt) : Nat := (signs.filter fun s => decide (s < 0)).length + invs axes
def isProper (axes signs : Pt) : Bool := decide (((oddN axes signs : Nat) : Int) % 2 = 0)
def turnsRow (axes : Pt) (m : Nat) (mir : Bool) : List Tn := ((signsN m).filter fun s => mir || isProper axes s).map fun s => (axes, s)
def turnsOf (m : Nat) (mir : Bool) : List Tn := (rowsN m m).flatMap fun axes => turnsRow axes m mir
def turnRow (P : Row) (t : Tn) : Row := P.map fun p => turned p t
def shiftRow (P : Row) (s : Pt) : Row := P.map fun p => addP p s
def formsR (P : Row) (mir : Bool) : List Row := (turnsOf (dimR P) mir).map fun t => settledR (turnRow P t)
def minR : List Row → Row
  | [] => []
  | r :: rs => rs.foldl (fun a y => if decide (y < a) then y else a) r
def formR (P : Row) (mir : Bool) : Row := if P = [] then [] else minR (formsR P mir)
def alikeR (A B : Row) (mir : Bool) : Bool := decide (A.length = B.length) && decide (formR A mir = formR B mir)
def shiftTo (A B : Row) : Pt := List.zipWith (fun a b => b - a) (A.headD []) (B.headD [])
def movesTo (S O : Row) (t : Tn) : Bool := decide (sortP (shiftRow (sortP (turnRow S t)) (shiftTo (sortP (turnRow S t)) (sortP O))) = sortP O)
def isMoved (S O : Row) (mir : Bool) : Bool := if S = [] ∨ O = [] then decide (S = O) else (turnsOf (dimR S) mir).any (movesTo S O)

/-! ### order -/
theorem leP_total (p q : Pt) : leP p q = true ∨ leP q p = true := by
  unfold leP
  simp only [decide_eq_true_eq]
  exact List.le_total p q
theorem leP_trans (p q r : Pt) (h : leP p q = true) (g : leP q r = true) : leP p r = true := by
  unfold leP at *
  simp only [decide_eq_true_eq] at *
  exact List.le_trans h g
theorem leP_anti (p q : Pt) (h : leP p q = true) (g : leP q p = true) : p = q := by
  unfold leP at *
  simp only [decide_eq_true_eq] at *
  exact List.le_antisymm h g
theorem sortP_perm (P : Row) : (sortP P).Perm P := List.mergeSort_perm P leP
theorem sortP_sorted (P : Row) : (sortP P).Pairwise (fun p q => leP p q = true) :=
  List.pairwise_mergeSort leP_trans (fun a b => by
    have := leP_total a b
    rw [Bool.or_eq_true]
    exact this) P
theorem sorted_uniq {P Q : Row} (h : P.Perm Q) (hP : P.Pairwise (fun p q => leP p q = true)) (hQ : Q.Pairwise (fun p q => leP p q = true)) : P = Q :=
  List.Perm.eq_of_pairwise (fun a b _ _ h1 h2 => leP_anti a b h1 h2) hP hQ h
theorem sortP_congr {P Q : Row} (h : P.Perm Q) : sortP P = sortP Q :=
  sorted_uniq ((sortP_perm P).trans (h.trans (sortP_perm Q).symm)) (sortP_sorted P) (sortP_sorted Q)
theorem sortP_of {P Q : Row} (h : P.Perm Q) (hP : P.Pairwise (fun p q => leP p q = true)) : P = sortP Q :=
  sorted_uniq (h.trans (sortP_perm Q).symm) hP (sortP_sorted Q)
theorem sortP_length (P : Row) : (sortP P).length = P.length := (sortP_perm P).length_eq
theorem sortP_mem {P : Row} {p : Pt} : p ∈ sortP P ↔ p ∈ P := (sortP_perm P).mem_iff
theorem sortP_nil {P : Row} (h : sortP P = []) : P = [] := by
  have := sortP_length P
  rw [h] at this
  exact List.eq_nil_of_length_eq_zero this.symm

/-! ### least of a list -/
theorem foldl_min_le : ∀ (ns : List Int) (n : Int), ns.foldl min n ≤ n ∧ ∀ x ∈ ns, ns.foldl min n ≤ x
  | [], n => ⟨Int.le_refl n, fun _ h => by cases h⟩
  | k :: r, n => by
    obtain ⟨h1, h2⟩ := foldl_min_le r (min n k)
    rw [List.foldl_cons]
    refine ⟨by omega, fun x hx => ?_⟩
    rcases List.mem_cons.mp hx with rfl | hx
    · omega
    · exact h2 x hx
theorem foldl_min_mem : ∀ (ns : List Int) (n : Int), ns.foldl min n = n ∨ ns.foldl min n ∈ ns
  | [], n => .inl rfl
  | k :: r, n => by
    rw [List.foldl_cons]
    rcases foldl_min_mem r (min n k) with h | h
    · by_cases hk : n ≤ k
      · exact .inl (by rw [h]; omega)
      · refine .inr (List.mem_cons.mpr (.inl ?_))
        rw [h]; omega
    · exact .inr (List.mem_cons_of_mem _ h)
theorem minI_le {l : List Int} {x : Int} (h : x ∈ l) : minI l ≤ x := by
  cases l with
  | nil => cases h
  | cons n ns =>
    rcases List.mem_cons.mp h with rfl | h
    · exact (foldl_min_le ns _).1
    · exact (foldl_min_le ns n).2 x h
theorem minI_mem {l : List Int} (h : l ≠ []) : minI l ∈ l := by
  cases l with
  | nil => exact absurd rfl h
  | cons n ns =>
    rcases foldl_min_mem ns n with e | e
    · show ns.foldl min n ∈ n :: ns
      rw [e]; exact List.mem_cons_self
    · exact List.mem_cons_of_mem _ e
theorem minI_uniq {l : List Int} {m : Int} (h : m ∈ l) (hl : ∀ x ∈ l, m ≤ x) : minI l = m := by
  have h1 := minI_le h
  have h2 := hl _ (minI_mem (l := l) (fun e => by rw [e] at h; cases h))
  omega
theorem minI_perm {l k : List Int} (h : l.Perm k) : minI l = minI k := by
  cases hl : k with
  | nil => rw [hl] at h; rw [h.eq_nil]
  | cons n ns =>
    rw [← hl]
    have hk : k ≠ [] := by rw [hl]; exact List.cons_ne_nil _ _
    exact minI_uniq (h.mem_iff.mpr (minI_mem hk)) fun x hx => minI_le (h.mem_iff.mp hx)
theorem minI_add {l : List Int} (h : l ≠ []) (c : Int) : minI (l.map fun x => x + c) = minI l + c := by
  refine minI_uniq (List.mem_map.mpr ⟨_, minI_mem h, rfl⟩) fun x hx => ?_
  obtain ⟨y, hy, rfl⟩ := List.mem_map.mp hx
  have := minI_le hy
  omega

/-! ### points -/
theorem ext_getD {p q : Pt} (hl : p.length = q.length) (h : ∀ i, i < p.length → p.getD i 0 = q.getD i 0) : p = q := by
  refine List.ext_getElem hl fun i h1 h2 => ?_
  have := h i h1
  rw [List.getD_eq_getElem?_getD, List.getD_eq_getElem?_getD, List.getElem?_eq_getElem h1, List.getElem?_eq_getElem h2] at this
  simpa using this
theorem addP_length {p s : Pt} {d : Nat} (hp : p.length = d) (hs : s.length = d) : (addP p s).length = d := by
  unfold addP
  rw [List.length_zipWith]
  omega
theorem addP_getD {p s : Pt} (hl : p.length = s.length) (i : Nat) : (addP p s).getD i 0 = p.getD i 0 + s.getD i 0 := by
  unfold addP
  simp only [List.getD_eq_getElem?_getD, List.getElem?_zipWith]
  by_cases h : i < p.length
  · have h2 : i < s.length := by omega
    rw [List.getElem?_eq_getElem h, List.getElem?_eq_getElem h2]
    rfl
  · rw [List.getElem?_eq_none (by omega), List.getElem?_eq_none (l := s) (by omega)]
    rfl
theorem negP_length (s : Pt) : (negP s).length = s.length := by unfold negP; rw [List.length_map]
theorem negP_getD (s : Pt) (i : Nat) : (negP s).getD i 0 = -s.getD i 0 := by
  unfold negP
  simp only [List.getD_eq_getElem?_getD, List.getElem?_map]
  cases s[i]? <;> rfl
theorem addP_assoc {p s u : Pt} {d : Nat} (hp : p.length = d) (hs : s.length = d) (hu : u.length = d) : addP (addP p s) u = addP p (addP s u) := by
  have h1 := addP_length hp hs
  have h2 := addP_length hs hu
  refine ext_getD ?_ fun i _ => ?_
  · rw [addP_length h1 hu, addP_length hp h2]
  · rw [addP_getD (by omega), addP_getD (by omega), addP_getD (by omega), addP_getD (by omega)]
    omega
theorem addP_neg {p s : Pt} {d : Nat} (hp : p.length = d) (hs : s.length = d) : addP (addP p s) (negP s) = p := by
  have h1 := addP_length hp hs
  have h2 := negP_length s
  refine ext_getD ?_ fun i _ => ?_
  · rw [addP_length h1 (by omega)]; omega
  · rw [addP_getD (by omega), addP_getD (by omega), negP_getD]
    omega
theorem addP_neg' {p s : Pt} {d : Nat} (hp : p.length = d) (hs : s.length = d) : addP (addP p (negP s)) s = p := by
  have h2 := negP_length s
  have h1 := addP_length (d := d) hp (by rw [h2]; exact hs)
  refine ext_getD ?_ fun i _ => ?_
  · rw [addP_length h1 (by omega)]; omega
  · rw [addP_getD (by omega), addP_getD (by omega), negP_getD]
    omega

/-! the order of points is kept by a shift -/
theorem addP_cons (a b : Int) (p s : Pt) : addP (a :: p) (b :: s) = (a + b) :: addP p s := rfl
theorem lt_shift : ∀ {p q s : Pt}, p.length = s.length → q.length = s.length → (p < q ↔ addP p s < addP q s)
  | [], [], [], _, _ => Iff.rfl
  | a :: p, b :: q, c :: s, hp, hq => by
    have ih := lt_shift (p := p) (q := q) (s := s) (by simpa using hp) (by simpa using hq)
    rw [addP_cons, addP_cons, List.cons_lt_cons_iff, List.cons_lt_cons_iff, ← ih]
    constructor
    · rintro (h | ⟨h, g⟩)
      · exact .inl (by omega)
      · exact .inr ⟨by omega, g⟩
    · rintro (h | ⟨h, g⟩)
      · exact .inl (by omega)
      · exact .inr ⟨by omega, g⟩
  | [], [], _ :: _, hp, _ => by simp at hp
  | [], _ :: _, [], _, hq => by simp at hq
  | [], _ :: _, _ :: _, hp, _ => by simp at hp
  | _ :: _, [], [], hp, _ => by simp at hp
  | _ :: _, [], _ :: _, _, hq => by simp at hq
  | _ :: _, _ :: _, [], hp, _ => by simp at hp
theorem leP_shift {p q s : Pt} {d : Nat} (hp : p.length = d) (hq : q.length = d) (hs : s.length = d) (h : leP p q = true) : leP (addP p s) (addP q s) = true := by
  unfold leP at *
  simp only [decide_eq_true_eq] at *
  rw [← List.not_lt] at h ⊢
  rw [← lt_shift (by omega) (by omega)]
  exact h

/-! ### rows of points of d places -/
def Dim (d : Nat) (P : Row) : Prop := ∀ p ∈ P, p.length = d
theorem Dim.perm {d : Nat} {P Q : Row} (h : Dim d P) (e : P.Perm Q) : Dim d Q := fun p hp => h p (e.mem_iff.mpr hp)
theorem Dim.sort {d : Nat} {P : Row} (h : Dim d P) : Dim d (sortP P) := fun p hp => h p (sortP_mem.mp hp)
theorem Dim.shift {d : Nat} {P : Row} (h : Dim d P) {s : Pt} (hs : s.length = d) : Dim d (shiftRow P s) := fun p hp => by
  obtain ⟨q, hq, rfl⟩ := List.mem_map.mp hp
  exact addP_length (h q hq) hs
theorem Dim.dimR {d : Nat} {P : Row} (h : Dim d P) (ne : P ≠ []) : dimR P = d := by
  cases P with
  | nil => exact absurd rfl ne
  | cons p r => exact h p List.mem_cons_self
theorem Dim.head {d : Nat} {P : Row} (h : Dim d P) (ne : P ≠ []) : (P.headD []).length = d := h.dimR ne
theorem shiftRow_ne {P : Row} (h : P ≠ []) (s : Pt) : shiftRow P s ≠ [] := by
  unfold shiftRow
  intro e
  exact h (List.map_eq_nil_iff.mp e)
theorem turnRow_ne {P : Row} (h : P ≠ []) (t : Tn) : turnRow P t ≠ [] := by
  unfold turnRow
  intro e
  exact h (List.map_eq_nil_iff.mp e)
theorem sortP_ne {P : Row} (h : P ≠ []) : sortP P ≠ [] := fun e => h (sortP_nil e)
theorem shift_shift {d : Nat} {P : Row} (h : Dim d P) {s u : Pt} (hs : s.length = d) (hu : u.length = d) : shiftRow (shiftRow P s) u = shiftRow P (addP s u) := by
  unfold shiftRow
  rw [List.map_map]
  exact List.map_congr_left fun p hp => addP_assoc (h p hp) hs hu
theorem shift_back {d : Nat} {P : Row} (h : Dim d P) {s : Pt} (hs : s.length = d) : shiftRow (shiftRow P s) (negP s) = P := by
  unfold shiftRow
  rw [List.map_map]
  conv => rhs; rw [← List.map_id P]
  exact List.map_congr_left fun p hp => addP_neg (h p hp) hs
theorem shiftRow_perm {P Q : Row} (h : P.Perm Q) (s : Pt) : (shiftRow P s).Perm (shiftRow Q s) := h.map _
theorem turnRow_perm {P Q : Row} (h : P.Perm Q) (t : Tn) : (turnRow P t).Perm (turnRow Q t) := h.map _
theorem shift_sorted {d : Nat} {P : Row} (h : Dim d P) {s : Pt} (hs : s.length = d) (w : P.Pairwise (fun p q => leP p q = true)) : (shiftRow P s).Pairwise (fun p q => leP p q = true) := by
  unfold shiftRow
  rw [List.pairwise_map]
  exact List.Pairwise.imp_of_mem (fun {p q} hp hq hle => leP_shift (h p hp) (h q hq) hs hle) w
theorem corner_length {d : Nat} {P : Row} (h : Dim d P) (ne : P ≠ []) : (corner P).length = d := by
  unfold corner
  rw [List.length_map, List.length_range, h.dimR ne]
theorem shiftOf_length {d : Nat} {P : Row} (h : Dim d P) (ne : P ≠ []) : (shiftOf P).length = d := by
  unfold shiftOf
  rw [negP_length, corner_length h ne]
theorem corner_getD {d : Nat} {P : Row} (h : Dim d P) (ne : P ≠ []) {i : Nat} (hi : i < d) : (corner P).getD i 0 = minI (P.map fun p => p.getD i 0) := by
  unfold corner
  rw [h.dimR ne]
  simp only [List.getD_eq_getElem?_getD, List.getElem?_map, List.getElem?_range hi]
  rfl
theorem corner_perm {d : Nat} {P Q : Row} (h : Dim d P) (ne : P ≠ []) (e : P.Perm Q) : corner P = corner Q := by
  have hQ := h.perm e
  have neQ : Q ≠ [] := fun z => ne (by rw [z] at e; exact e.eq_nil)
  refine ext_getD (by rw [corner_length h ne, corner_length hQ neQ]) fun i hi => ?_
  rw [corner_length h ne] at hi
  rw [corner_getD h ne hi, corner_getD hQ neQ hi]
  exact minI_perm (e.map _)
theorem corner_shift {d : Nat} {P : Row} (h : Dim d P) (ne : P ≠ []) {s : Pt} (hs : s.length = d) : corner (shiftRow P s) = addP (corner P) s := by
  have h1 := corner_length h ne
  have h2 := corner_length (h.shift hs) (shiftRow_ne ne s)
  refine ext_getD (by rw [h2, addP_length h1 hs]) fun i hi => ?_
  rw [h2] at hi
  rw [corner_getD (h.shift hs) (shiftRow_ne ne s) hi, addP_getD (by omega), corner_getD h ne hi]
  have e : ((shiftRow P s).map fun p => p.getD i 0) = (P.map fun p => p.getD i 0).map fun x => x + s.getD i 0 := by
    unfold shiftRow
    rw [List.map_map, List.map_map]
    refine List.map_congr_left fun p hp => ?_
    exact addP_getD (by rw [h p hp, hs]) i
  rw [e, minI_add (fun z => ne (List.map_eq_nil_iff.mp z))]
theorem settled_eq (P : Row) : settledR P = sortP (shiftRow P (shiftOf P)) := rfl
theorem settled_shift {d : Nat} {P Q : Row} (h : Dim d P) (ne : P ≠ []) {s : Pt} (hs : s.length = d) (e : (shiftRow P s).Perm Q) : settledR P = settledR Q := by
  have hq := (h.shift hs).perm e
  have c1 := corner_length h ne
  have ec : corner Q = addP (corner P) s := by rw [← corner_perm (h.shift hs) (shiftRow_ne ne s) e, corner_shift h ne hs]
  have l2 : (shiftOf Q).length = d := by
    unfold shiftOf
    rw [negP_length, ec, addP_length c1 hs]
  rw [settled_eq, settled_eq]
  refine sortP_congr ?_
  refine List.Perm.trans ?_ (shiftRow_perm e (shiftOf Q))
  rw [shift_shift h hs l2]
  have : addP s (shiftOf Q) = shiftOf P := by
    refine ext_getD (by rw [addP_length hs l2, shiftOf_length h ne]) fun i _ => ?_
    rw [addP_getD (by omega)]
    unfold shiftOf
    rw [negP_getD, negP_getD, ec, addP_getD (by omega)]
    omega
  rw [this]
theorem settled_dim {d : Nat} {P : Row} (h : Dim d P) (ne : P ≠ []) : Dim d (settledR P) := (h.shift (shiftOf_length h ne)).sort
theorem settled_ne {P : Row} (ne : P ≠ []) : settledR P ≠ [] := sortP_ne (shiftRow_ne ne _)
theorem settled_len (P : Row) : (settledR P).length = P.length := by
  rw [settled_eq, sortP_length]
  unfold shiftRow
  rw [List.length_map]
end K9

/-! KM2 -/
set_option Elab.async false
/-! Plain mathematics: turns are a group; forms are one exactly if some motion brings one to the other. -/
namespace K9
/-- first t, then u -/
def comp (t u : Tn) : Tn := (u.1.map fun a => t.1.getD a.toNat 0, List.zipWith (fun a s => t.2.getD a.toNat 0 * s) u.1 u.2)
def stillT (d : Nat) : Tn := ((List.range d).map (fun i : Nat => (i : Int)), List.replicate d 1)
/-- a turn of d places -/
structure TOk (d : Nat) (t : Tn) : Prop where
  la : t.1.length = d
  ls : t.2.length = d
  ax : ∀ a ∈ t.1, 0 ≤ a ∧ a < (d : Int)
  sg : ∀ s ∈ t.2, s = 1 ∨ s = -1
def tokB (d : Nat) (t : Tn) : Bool := decide (t.1.length = d) && decide (t.2.length = d) && (t.1.all fun a => decide (0 ≤ a) && decide (a < (d : Int))) && (t.2.all fun s => decide (s = 1) || decide (s = -1))
theorem tok_of {d : Nat} {t : Tn} (h : tokB d t = true) : TOk d t := by
  unfold tokB at h
  simp only [Bool.and_eq_true, decide_eq_true_eq, List.all_eq_true, Bool.or_eq_true] at h
  obtain ⟨⟨⟨h1, h2⟩, h3⟩, h4⟩ := h
  exact ⟨h1, h2, h3, h4⟩
def grpB (d : Nat) (mir : Bool) : Bool :=
  (turnsOf d mir).all fun t => tokB d t && ((turnsOf d mir).all fun u => (turnsOf d mir).contains (comp t u)) && ((turnsOf d mir).any fun u => decide (comp t u = stillT d) && decide (comp u t = stillT d))
theorem grp_all : grpB 1 true = true ∧ grpB 1 false = true ∧ grpB 2 true = true ∧ grpB 2 false = true ∧ grpB 3 true = true ∧ grpB 3 false = true := by decide +kernel
theorem len_all : (turnsOf 1 true).length ≤ 48 ∧ (turnsOf 1 false).length ≤ 48 ∧ (turnsOf 2 true).length ≤ 48 ∧ (turnsOf 2 false).length ≤ 48 ∧ (turnsOf 3 true).length ≤ 48 ∧ (turnsOf 3 false).length ≤ 48 := by decide +kernel
theorem pos_all : 0 < (turnsOf 1 true).length ∧ 0 < (turnsOf 1 false).length ∧ 0 < (turnsOf 2 true).length ∧ 0 < (turnsOf 2 false).length ∧ 0 < (turnsOf 3 true).length ∧ 0 < (turnsOf 3 false).length := by decide +kernel
theorem grp {d : Nat} (h1 : 1 ≤ d) (h3 : d ≤ 3) (mir : Bool) : grpB d mir = true := by
  obtain ⟨a, b, c, e, f, g⟩ := grp_all
  have hd : d = 1 ∨ d = 2 ∨ d = 3 := by omega
  rcases hd with rfl | rfl | rfl <;> cases mir <;> assumption
theorem turns_len {d : Nat} (h1 : 1 ≤ d) (h3 : d ≤ 3) (mir : Bool) : (turnsOf d mir).length ≤ 48 := by
  obtain ⟨a, b, c, e, f, g⟩ := len_all
  have hd : d = 1 ∨ d = 2 ∨ d = 3 := by omega
  rcases hd with rfl | rfl | rfl <;> cases mir <;> assumption
theorem turns_ne {d : Nat} (h1 : 1 ≤ d) (h3 : d ≤ 3) (mir : Bool) : turnsOf d mir ≠ [] := by
  have : 0 < (turnsOf d mir).length := by
    obtain ⟨a, b, c, e, f, g⟩ := pos_all
    have hd : d = 1 ∨ d = 2 ∨ d = 3 := by omega
    rcases hd with rfl | rfl | rfl <;> cases mir <;> assumption
  intro e
  rw [e] at this
  exact absurd this (Nat.lt_irrefl 0)
section
variable {d : Nat} {mir : Bool}
theorem turn_ok (h1 : 1 ≤ d) (h3 : d ≤ 3) {t : Tn} (ht : t ∈ turnsOf d mir) : TOk d t := by
  have g := grp h1 h3 mir
  unfold grpB at g
  rw [List.all_eq_true] at g
  have := g t ht
  simp only [Bool.and_eq_true] at this
  exact tok_of this.1.1
theorem turn_comp (h1 : 1 ≤ d) (h3 : d ≤ 3) {t u : Tn} (ht : t ∈ turnsOf d mir) (hu : u ∈ turnsOf d mir) : comp t u ∈ turnsOf d mir := by
  have g := grp h1 h3 mir
  unfold grpB at g
  rw [List.all_eq_true] at g
  have := g t ht
  simp only [Bool.and_eq_true, List.all_eq_true] at this
  exact List.contains_iff_mem.mp (this.1.2 u hu)
theorem turn_inv (h1 : 1 ≤ d) (h3 : d ≤ 3) {t : Tn} (ht : t ∈ turnsOf d mir) : ∃ u, u ∈ turnsOf d mir ∧ comp t u = stillT d ∧ comp u t = stillT d := by
  have g := grp h1 h3 mir
  unfold grpB at g
  rw [List.all_eq_true] at g
  have := g t ht
  simp only [Bool.and_eq_true, List.any_eq_true, decide_eq_true_eq] at this
  exact this.2
end
/-! ### what a turn does -/
theorem turned_length {d : Nat} {t : Tn} (k : TOk d t) (p : Pt) : (turned p t).length = d := by
  unfold turned
  rw [List.length_zipWith, k.la, k.ls]
  omega
theorem turned_getD {d : Nat} {t : Tn} (k : TOk d t) (p : Pt) {i : Nat} (hi : i < d) : (turned p t).getD i 0 = t.2.getD i 0 * p.getD (t.1.getD i 0).toNat 0 := by
  unfold turned
  have e1 := k.la
  have e2 := k.ls
  simp only [List.getD_eq_getElem?_getD, List.getElem?_zipWith]
  rw [List.getElem?_eq_getElem (show i < t.1.length by omega), List.getElem?_eq_getElem (show i < t.2.length by omega)]
  rfl
theorem ax_get {d : Nat} {t : Tn} (k : TOk d t) {i : Nat} (hi : i < d) : (t.1.getD i 0).toNat < d := by
  have e1 := k.la
  have : t.1.getD i 0 ∈ t.1 := by
    rw [List.getD_eq_getElem?_getD, List.getElem?_eq_getElem (show i < t.1.length by omega)]
    exact List.getElem_mem _
  have := k.ax _ this
  omega
theorem turned_comp {d : Nat} {t u : Tn} (kt : TOk d t) (ku : TOk d u) (kc : TOk d (comp t u)) (p : Pt) : turned (turned p t) u = turned p (comp t u) := by
  refine ext_getD (by rw [turned_length ku, turned_length kc]) fun i hi => ?_
  rw [turned_length ku] at hi
  rw [turned_getD ku _ hi, turned_getD kc _ hi, turned_getD kt _ (ax_get ku hi)]
  have e1 := ku.la
  have e2 := ku.ls
  have c1 : (comp t u).1.getD i 0 = t.1.getD (u.1.getD i 0).toNat 0 := by
    unfold comp
    simp only [List.getD_eq_getElem?_getD, List.getElem?_map]
    rw [List.getElem?_eq_getElem (show i < u.1.length by omega)]
    rfl
  have c2 : (comp t u).2.getD i 0 = t.2.getD (u.1.getD i 0).toNat 0 * u.2.getD i 0 := by
    unfold comp
    simp only [List.getD_eq_getElem?_getD, List.getElem?_zipWith]
    rw [List.getElem?_eq_getElem (show i < u.1.length by omega), List.getElem?_eq_getElem (show i < u.2.length by omega)]
    rfl
  rw [c1, c2, ← Int.mul_assoc, Int.mul_comm (u.2.getD i 0)]
theorem still_ok (d : Nat) : TOk d (stillT d) := by
  refine ⟨by simp [stillT], by simp [stillT], fun a ha => ?_, fun s hs => ?_⟩
  · obtain ⟨i, hi, rfl⟩ := List.mem_map.mp ha
    have := List.mem_range.mp hi
    omega
  · exact .inl (List.eq_of_mem_replicate hs)
theorem turned_still {d : Nat} {p : Pt} (hp : p.length = d) : turned p (stillT d) = p := by
  refine ext_getD (by rw [turned_length (still_ok d), hp]) fun i hi => ?_
  rw [turned_length (still_ok d)] at hi
  rw [turned_getD (still_ok d) p hi]
  have c1 : (stillT d).1.getD i 0 = (i : Int) := by
    unfold stillT
    simp only [List.getD_eq_getElem?_getD, List.getElem?_map, List.getElem?_range hi]
    rfl
  have c2 : (stillT d).2.getD i 0 = 1 := by
    unfold stillT
    simp only [List.getD_eq_getElem?_getD, List.getElem?_replicate, hi, if_true]
    rfl
  rw [c1, c2, Int.one_mul]
  rfl
theorem turned_add {d : Nat} {t : Tn} (k : TOk d t) {p s : Pt} (hp : p.length = d) (hs : s.length = d) : turned (addP p s) t = addP (turned p t) (turned s t) := by
  have l1 := turned_length k p
  have l2 := turned_length k s
  refine ext_getD (by rw [turned_length k, addP_length l1 l2]) fun i hi => ?_
  rw [turned_length k] at hi
  rw [turned_getD k _ hi, addP_getD (by omega), addP_getD (by omega), turned_getD k _ hi, turned_getD k _ hi, Int.mul_add]
theorem Dim.turn {d : Nat} {t : Tn} (k : TOk d t) (P : Row) : Dim d (turnRow P t) := fun p hp => by
  obtain ⟨q, _, rfl⟩ := List.mem_map.mp hp
  exact turned_length k q
theorem turn_shift {d : Nat} {t : Tn} (k : TOk d t) {P : Row} (h : Dim d P) {s : Pt} (hs : s.length = d) : turnRow (shiftRow P s) t = shiftRow (turnRow P t) (turned s t) := by
  unfold turnRow shiftRow
  rw [List.map_map, List.map_map]
  exact List.map_congr_left fun p hp => turned_add k (h p hp) hs
theorem turn_turn {d : Nat} {t u : Tn} (kt : TOk d t) (ku : TOk d u) (kc : TOk d (comp t u)) (P : Row) : turnRow (turnRow P t) u = turnRow P (comp t u) := by
  unfold turnRow
  rw [List.map_map]
  exact List.map_congr_left fun p _ => turned_comp kt ku kc p
theorem turn_still {d : Nat} {P : Row} (h : Dim d P) : turnRow P (stillT d) = P := by
  unfold turnRow
  conv => rhs; rw [← List.map_id P]
  exact List.map_congr_left fun p hp => turned_still (h p hp)

/-! ### alike by some motion -/
section
variable {d : Nat} {mir : Bool} {A B C : Row}
/-- some motion brings A to B -/
def Rel (d : Nat) (mir : Bool) (A B : Row) : Prop := ∃ t, t ∈ turnsOf d mir ∧ ∃ s : Pt, s.length = d ∧ (shiftRow (turnRow A t) s).Perm B
theorem Rel.symm (h1 : 1 ≤ d) (h3 : d ≤ 3) (hA : Dim d A) (r : Rel d mir A B) : Rel d mir B A := by
  obtain ⟨t, ht, s, hs, e⟩ := r
  obtain ⟨u, hu, e1, e2⟩ := turn_inv h1 h3 ht
  have kt := turn_ok h1 h3 ht
  have ku := turn_ok h1 h3 hu
  have kc := turn_ok h1 h3 (turn_comp h1 h3 ht hu)
  refine ⟨u, hu, negP (turned s u), by rw [negP_length, turned_length ku], ?_⟩
  have e3 := shiftRow_perm (turnRow_perm e.symm u) (negP (turned s u))
  rw [turn_shift ku (Dim.turn kt A) hs, turn_turn kt ku kc, e1, turn_still hA, shift_back hA (turned_length ku s)] at e3
  exact e3
theorem Rel.trans (h1 : 1 ≤ d) (h3 : d ≤ 3) (r : Rel d mir A B) (q : Rel d mir B C) : Rel d mir A C := by
  obtain ⟨t, ht, s, hs, e⟩ := r
  obtain ⟨u, hu, v, hv, g⟩ := q
  have kt := turn_ok h1 h3 ht
  have ku := turn_ok h1 h3 hu
  have hc := turn_comp h1 h3 ht hu
  have kc := turn_ok h1 h3 hc
  have lu := turned_length ku s
  refine ⟨comp t u, hc, addP (turned s u) v, addP_length lu hv, ?_⟩
  have e3 := shiftRow_perm (turnRow_perm e u) v
  rw [turn_shift ku (Dim.turn kt A) hs, turn_turn kt ku kc, shift_shift (Dim.turn kc A) lu hv] at e3
  exact e3.trans g
theorem Rel.dim (h1 : 1 ≤ d) (h3 : d ≤ 3) (r : Rel d mir A B) : Dim d B := by
  obtain ⟨t, ht, s, hs, e⟩ := r
  exact ((Dim.turn (turn_ok h1 h3 ht) A).shift hs).perm e
theorem Rel.ne (ne : A ≠ []) (r : Rel d mir A B) : B ≠ [] := by
  obtain ⟨t, ht, s, hs, e⟩ := r
  intro z
  rw [z] at e
  exact shiftRow_ne (turnRow_ne ne t) s e.eq_nil
theorem Rel.len (r : Rel d mir A B) : A.length = B.length := by
  obtain ⟨t, ht, s, hs, e⟩ := r
  have := e.length_eq
  unfold shiftRow turnRow at this
  rw [List.length_map, List.length_map] at this
  exact this

/-! ### the forms -/
theorem forms_sub (h1 : 1 ≤ d) (h3 : d ≤ 3) (hA : Dim d A) (ne : A ≠ []) (r : Rel d mir A B) {x : Row} (hx : x ∈ formsR B mir) : x ∈ formsR A mir := by
  have hB := r.dim h1 h3
  have neB := r.ne ne
  obtain ⟨t, ht, s, hs, e⟩ := r
  unfold formsR at hx ⊢
  rw [hB.dimR neB] at hx
  rw [hA.dimR ne]
  obtain ⟨u, hu, rfl⟩ := List.mem_map.mp hx
  have kt := turn_ok h1 h3 ht
  have ku := turn_ok h1 h3 hu
  have hc := turn_comp h1 h3 ht hu
  have kc := turn_ok h1 h3 hc
  refine List.mem_map.mpr ⟨comp t u, hc, ?_⟩
  have e3 := turnRow_perm e u
  rw [turn_shift ku (Dim.turn kt A) hs, turn_turn kt ku kc] at e3
  exact settled_shift (Dim.turn kc A) (turnRow_ne ne _) (turned_length ku s) e3
theorem minR_le : ∀ (l : List Row) (r : Row), (l.foldl (fun a y => if decide (y < a) then y else a) r) ≤ r ∧ ∀ x ∈ l, (l.foldl (fun a y => if decide (y < a) then y else a) r) ≤ x
  | [], r => ⟨List.le_refl r, fun _ h => by cases h⟩
  | k :: l, r => by
    obtain ⟨i1, i2⟩ := minR_le l (if decide (k < r) then k else r)
    rw [List.foldl_cons]
    by_cases hk : k < r
    · rw [if_pos (decide_eq_true hk)] at i1 i2 ⊢
      refine ⟨List.le_trans i1 (Std.le_of_lt hk), fun x hx => ?_⟩
      rcases List.mem_cons.mp hx with rfl | hx
      · exact i1
      · exact i2 x hx
    · rw [if_neg (by simpa using hk)] at i1 i2 ⊢
      refine ⟨i1, fun x hx => ?_⟩
      rcases List.mem_cons.mp hx with rfl | hx
      · exact List.le_trans i1 (List.not_lt.mp hk)
      · exact i2 x hx
theorem minR_in : ∀ (l : List Row) (r : Row), (l.foldl (fun a y => if decide (y < a) then y else a) r) = r ∨ (l.foldl (fun a y => if decide (y < a) then y else a) r) ∈ l
  | [], r => .inl rfl
  | k :: l, r => by
    rw [List.foldl_cons]
    rcases minR_in l (if decide (k < r) then k else r) with h | h
    · by_cases hk : k < r
      · rw [if_pos (decide_eq_true hk)] at h ⊢
        exact .inr (List.mem_cons.mpr (.inl h))
      · rw [if_neg (by simpa using hk)] at h ⊢
        exact .inl h
    · exact .inr (List.mem_cons_of_mem _ h)
theorem minR_mem {l : List Row} (h : l ≠ []) : minR l ∈ l := by
  cases l with
  | nil => exact absurd rfl h
  | cons r rs =>
    rcases minR_in rs r with e | e
    · refine List.mem_cons.mpr (.inl e)
    · exact List.mem_cons_of_mem _ e
theorem minR_least {l : List Row} {x : Row} (h : x ∈ l) : minR l ≤ x := by
  cases l with
  | nil => cases h
  | cons r rs =>
    rcases List.mem_cons.mp h with rfl | h
    · exact (minR_le rs _).1
    · exact (minR_le rs r).2 x h
theorem minR_same {l k : List Row} (h : ∀ x, x ∈ l ↔ x ∈ k) (ne : l ≠ []) : minR l = minR k := by
  have nk : k ≠ [] := fun e => by
    have := (h _).mp (minR_mem ne)
    rw [e] at this
    cases this
  exact List.le_antisymm (minR_least ((h _).mpr (minR_mem nk))) (minR_least ((h _).mp (minR_mem ne)))
theorem forms_ne (h1 : 1 ≤ d) (h3 : d ≤ 3) (hA : Dim d A) (ne : A ≠ []) : formsR A mir ≠ [] := by
  unfold formsR
  rw [hA.dimR ne]
  intro e
  exact turns_ne h1 h3 mir (List.map_eq_nil_iff.mp e)
theorem form_mem (h1 : 1 ≤ d) (h3 : d ≤ 3) (hA : Dim d A) (ne : A ≠ []) : ∃ t, t ∈ turnsOf d mir ∧ formR A mir = settledR (turnRow A t) := by
  have := minR_mem (forms_ne (mir := mir) h1 h3 hA ne)
  unfold formR
  rw [if_neg ne]
  unfold formsR at this ⊢
  rw [hA.dimR ne] at this ⊢
  obtain ⟨t, ht, e⟩ := List.mem_map.mp this
  exact ⟨t, ht, e.symm⟩
theorem form_rel (h1 : 1 ≤ d) (h3 : d ≤ 3) (hA : Dim d A) (ne : A ≠ []) : Rel d mir A (formR A mir) := by
  obtain ⟨t, ht, e⟩ := form_mem (mir := mir) h1 h3 hA ne
  have kt := turn_ok h1 h3 ht
  refine ⟨t, ht, shiftOf (turnRow A t), shiftOf_length (Dim.turn kt A) (turnRow_ne ne t), ?_⟩
  rw [e, settled_eq]
  exact (sortP_perm _).symm
theorem form_same (h1 : 1 ≤ d) (h3 : d ≤ 3) (hA : Dim d A) (ne : A ≠ []) (r : Rel d mir A B) : formR A mir = formR B mir := by
  have hB := r.dim h1 h3
  have neB := r.ne ne
  unfold formR
  rw [if_neg ne, if_neg neB]
  refine minR_same (fun x => ⟨fun hx => ?_, fun hx => forms_sub h1 h3 hA ne r hx⟩) (forms_ne h1 h3 hA ne)
  exact forms_sub h1 h3 hB neB (r.symm h1 h3 hA) hx
theorem form_iff (h1 : 1 ≤ d) (h3 : d ≤ 3) (hA : Dim d A) (hB : Dim d B) (neA : A ≠ []) (neB : B ≠ []) : formR A mir = formR B mir ↔ Rel d mir A B := by
  refine ⟨fun e => ?_, fun r => form_same h1 h3 hA neA r⟩
  have r1 := form_rel (mir := mir) h1 h3 hA neA
  have r2 := form_rel (mir := mir) h1 h3 hB neB
  rw [e] at r1
  exact r1.trans h1 h3 (r2.symm h1 h3 hB)
theorem alike_iff (h1 : 1 ≤ d) (h3 : d ≤ 3) (hA : Dim d A) (hB : Dim d B) (neA : A ≠ []) (neB : B ≠ []) : alikeR A B mir = true ↔ Rel d mir A B := by
  unfold alikeR
  rw [Bool.and_eq_true, decide_eq_true_eq, decide_eq_true_eq, form_iff h1 h3 hA hB neA neB]
  exact ⟨fun h => h.2, fun r => ⟨r.len, r⟩⟩

/-! ### the law's own look -/
theorem zip_back {a s : Pt} {d : Nat} (ha : a.length = d) (hs : s.length = d) : List.zipWith (fun a b => b - a) a (addP a s) = s := by
  have l := addP_length ha hs
  refine ext_getD (by rw [List.length_zipWith]; omega) fun i hi => ?_
  rw [List.length_zipWith] at hi
  simp only [List.getD_eq_getElem?_getD, List.getElem?_zipWith]
  have e := addP_getD (p := a) (s := s) (by omega) i
  simp only [List.getD_eq_getElem?_getD] at e
  rw [List.getElem?_eq_getElem (show i < a.length by omega)] at e ⊢
  rw [List.getElem?_eq_getElem (show i < (addP a s).length by omega)] at e ⊢
  rw [List.getElem?_eq_getElem (show i < s.length by omega)] at e ⊢
  simp only [Option.getD_some] at e ⊢
  show (addP a s)[i] - a[i] = s[i]
  omega
theorem moves_iff {t : Tn} (kt : TOk d t) (hB : Dim d B) (neA : A ≠ []) (neB : B ≠ []) : movesTo A B t = true ↔ ∃ s : Pt, s.length = d ∧ (shiftRow (turnRow A t) s).Perm B := by
  have hT := Dim.turn kt A
  have neT := turnRow_ne neA t
  unfold movesTo
  rw [decide_eq_true_eq]
  constructor
  · intro e
    refine ⟨shiftTo (sortP (turnRow A t)) (sortP B), ?_, ?_⟩
    · unfold shiftTo
      rw [List.length_zipWith, hT.sort.head (sortP_ne neT), hB.sort.head (sortP_ne neB)]
      omega
    · refine List.Perm.trans (shiftRow_perm (sortP_perm _).symm _) ?_
      refine List.Perm.trans (sortP_perm _).symm ?_
      rw [e]
      exact sortP_perm _
  · rintro ⟨s, hs, e⟩
    have e1 : (shiftRow (sortP (turnRow A t)) s).Perm B := (shiftRow_perm (sortP_perm _) s).trans e
    have w := shift_sorted hT.sort hs (sortP_sorted _)
    have e2 : shiftRow (sortP (turnRow A t)) s = sortP B := sortP_of e1 w
    have e3 : shiftTo (sortP (turnRow A t)) (sortP B) = s := by
      rw [← e2]
      unfold shiftTo
      have hh := hT.sort.head (sortP_ne neT)
      cases hc : sortP (turnRow A t) with
      | nil => exact absurd hc (sortP_ne neT)
      | cons p r =>
        rw [hc] at hh
        exact zip_back hh hs
    rw [e3]
    exact sortP_congr e1
theorem moved_iff (h1 : 1 ≤ d) (h3 : d ≤ 3) (hA : Dim d A) (hB : Dim d B) (neA : A ≠ []) (neB : B ≠ []) : isMoved A B mir = true ↔ Rel d mir A B := by
  unfold isMoved
  rw [if_neg (fun h => h.elim neA neB), hA.dimR neA, List.any_eq_true]
  constructor
  · rintro ⟨t, ht, e⟩
    exact ⟨t, ht, (moves_iff (turn_ok h1 h3 ht) hB neA neB).mp e⟩
  · rintro ⟨t, ht, e⟩
    exact ⟨t, ht, (moves_iff (turn_ok h1 h3 ht) hB neA neB).mpr e⟩

/-! ### what the law asks -/
theorem bool_of {a b : Bool} {p : Prop} (ha : a = true ↔ p) (hb : b = true ↔ p) : a = b := by
  cases a <;> cases b <;> simp_all
theorem law_alike (h1 : 1 ≤ d) (h3 : d ≤ 3) (hA : Dim d A) (hB : Dim d B) (neA : A ≠ []) (neB : B ≠ []) : alikeR A B mir = isMoved A B mir :=
  bool_of (alike_iff h1 h3 hA hB neA neB) (moved_iff h1 h3 hA hB neA neB)
theorem law_forms (h1 : 1 ≤ d) (h3 : d ≤ 3) (hA : Dim d A) (hB : Dim d B) (neA : A ≠ []) (neB : B ≠ []) : decide (formR A mir = formR B mir) = isMoved A B mir :=
  bool_of (by rw [decide_eq_true_eq]; exact form_iff h1 h3 hA hB neA neB) (moved_iff h1 h3 hA hB neA neB)
theorem form_dim (h1 : 1 ≤ d) (h3 : d ≤ 3) (hA : Dim d A) (neA : A ≠ []) : Dim d (formR A mir) := (form_rel (mir := mir) h1 h3 hA neA).dim h1 h3
theorem form_ne (h1 : 1 ≤ d) (h3 : d ≤ 3) (hA : Dim d A) (neA : A ≠ []) : formR A mir ≠ [] := (form_rel (mir := mir) h1 h3 hA neA).ne neA
theorem form_len (h1 : 1 ≤ d) (h3 : d ≤ 3) (hA : Dim d A) (neA : A ≠ []) : (formR A mir).length = A.length := (form_rel (mir := mir) h1 h3 hA neA).len.symm
theorem form_form (h1 : 1 ≤ d) (h3 : d ≤ 3) (hA : Dim d A) (neA : A ≠ []) : formR (formR A mir) mir = formR A mir :=
  (form_same h1 h3 hA neA (form_rel h1 h3 hA neA)).symm
theorem form_alike (h1 : 1 ≤ d) (h3 : d ≤ 3) (hA : Dim d A) (neA : A ≠ []) : alikeR (formR A mir) A mir = true := by
  have r := form_rel (mir := mir) h1 h3 hA neA
  exact (alike_iff h1 h3 (r.dim h1 h3) hA (r.ne neA) neA).mpr (r.symm h1 h3 hA)
theorem settled_min (h1 : 1 ≤ d) (hA : Dim d A) (neA : A ≠ []) : minI ((settledR A).map minI) = 0 := by
  have c1 := corner_length hA neA
  have key : ∀ p ∈ A, ∀ i, i < d → (addP p (shiftOf A)).getD i 0 = p.getD i 0 - minI (A.map fun p => p.getD i 0) := fun p hp i hi => by
    rw [addP_getD (by rw [hA p hp, shiftOf_length hA neA])]
    unfold shiftOf
    rw [negP_getD, corner_getD hA neA hi]
    omega
  have nonneg : ∀ p ∈ A, ∀ x ∈ addP p (shiftOf A), 0 ≤ x := fun p hp x hx => by
    obtain ⟨i, hi, e⟩ := List.mem_iff_getElem.mp hx
    rw [addP_length (hA p hp) (shiftOf_length hA neA)] at hi
    have k := key p hp i hi
    have : (addP p (shiftOf A)).getD i 0 = x := by
      rw [List.getD_eq_getElem?_getD, List.getElem?_eq_getElem (by rw [addP_length (hA p hp) (shiftOf_length hA neA)]; exact hi), e]
      rfl
    rw [this] at k
    have m : minI (A.map fun p => p.getD i 0) ≤ p.getD i 0 := minI_le (List.mem_map.mpr ⟨p, hp, rfl⟩)
    omega
  have len1 : ∀ p ∈ A, addP p (shiftOf A) ≠ [] := fun p hp e => by
    have := addP_length (hA p hp) (shiftOf_length hA neA)
    rw [e] at this
    have : 0 = d := this
    omega
  have all0 : ∀ q ∈ settledR A, 0 ≤ minI q := fun q hq => by
    rw [settled_eq, sortP_mem] at hq
    obtain ⟨p, hp, rfl⟩ := List.mem_map.mp hq
    exact nonneg p hp _ (minI_mem (len1 p hp))
  -- a point whose first place is the least
  obtain ⟨p0, hp0, e0⟩ : ∃ p ∈ A, p.getD 0 0 = minI (A.map fun p => p.getD 0 0) := by
    have := minI_mem (l := A.map fun p => p.getD 0 0) (fun z => neA (List.map_eq_nil_iff.mp z))
    obtain ⟨p, hp, e⟩ := List.mem_map.mp this
    exact ⟨p, hp, e⟩
  have z0 : minI (addP p0 (shiftOf A)) = 0 := by
    have k := key p0 hp0 0 (by omega)
    rw [e0, Int.sub_self] at k
    have l := addP_length (hA p0 hp0) (shiftOf_length hA neA)
    refine minI_uniq ?_ fun x hx => nonneg p0 hp0 x hx
    have : (addP p0 (shiftOf A)).getD 0 0 ∈ addP p0 (shiftOf A) := by
      rw [List.getD_eq_getElem?_getD, List.getElem?_eq_getElem (show 0 < (addP p0 (shiftOf A)).length by omega)]
      exact List.getElem_mem _
    rw [k] at this
    exact this
  refine minI_uniq (List.mem_map.mpr ⟨_, ?_, z0⟩) fun x hx => ?_
  · rw [settled_eq, sortP_mem]
    exact List.mem_map.mpr ⟨p0, hp0, rfl⟩
  · obtain ⟨q, hq, rfl⟩ := List.mem_map.mp hx
    exact all0 q hq
theorem form_min (h1 : 1 ≤ d) (h3 : d ≤ 3) (hA : Dim d A) (neA : A ≠ []) : minI ((formR A mir).map minI) = 0 := by
  obtain ⟨t, ht, e⟩ := form_mem (mir := mir) h1 h3 hA neA
  rw [e]
  exact settled_min h1 (Dim.turn (turn_ok h1 h3 ht) A) (turnRow_ne neA t)
end
end K9

/-! KR1 -/
set_option Elab.async false
set_option linter.all false
set_option maxRecDepth 100000
/-! What a value in the heap stands for, heaps that only grow, comprehensions that change nothing. -/
namespace K9
open PySem PySem.Spec PyProof.Rows L2

/-! ### data -/
def ptD (p : Pt) : PyData := .tuple (p.map PyData.int)
def rowD (P : Row) : PyData := .tuple (P.map ptD)
def rowL (P : Row) : PyData := .list (P.map ptD)
def tnD (t : Tn) : PyData := .tuple [ptD t.1, ptD t.2]
section
variable {K : PySem.W.Frag} {H H' : Hp} {xs ys : List V} {ds es : List PyData}
theorem dpa_len : ∀ {xs : List V} {ds : List PyData}, DpAll K H xs ds → xs.length = ds.length
  | _, _, .nil => rfl
  | _, _, .cons _ t => by rw [List.length_cons, List.length_cons, dpa_len t]
theorem dpa_get : ∀ {xs : List V} {ds : List PyData} {i : Nat} {x : V}, DpAll K H xs ds → xs[i]? = some x → ∃ d, ds[i]? = some d ∧ Dp K H x d
  | _, _, _, _, .nil, e => by simp at e
  | _, _, 0, x, .cons (d := d) h _, e => by
    have e := Option.some.inj (show some _ = some x from e)
    subst e
    exact ⟨d, rfl, h⟩
  | _ :: _, _ :: _, i + 1, x, .cons _ t, e => dpa_get (i := i) t (by simpa using e)
theorem dpa_at {i : Nat} {x : V} {d : PyData} (h : DpAll K H xs ds) (e : xs[i]? = some x) (e' : ds[i]? = some d) : Dp K H x d := by
  obtain ⟨d', h1, h2⟩ := dpa_get h e
  rw [e'] at h1
  cases h1
  exact h2
theorem dpa_app : ∀ {xs ys : List V} {ds es : List PyData}, DpAll K H xs ds → DpAll K H ys es → DpAll K H (xs ++ ys) (ds ++ es)
  | _, _, _, _, .nil, h => h
  | _, _, _, _, .cons a t, h => .cons a (dpa_app t h)
theorem dpa_one {x : V} {d : PyData} (h : Dp K H x d) : DpAll K H [x] [d] := .cons h .nil
theorem dpa_ints : ∀ {xs : List V} {ns : List Int}, DpAll K H xs (ns.map PyData.int) → xs = ns.map V.int
  | _, [], h => by
    have h' : DpAll K H _ [] := h
    cases h'
    rfl
  | _, n :: ns, h => by
    have h' : DpAll K H _ (PyData.int n :: ns.map PyData.int) := h
    cases h' with
    | cons a t =>
      cases a
      rw [dpa_ints t]
      rfl
theorem dpa_of_ints : ∀ (ns : List Int), DpAll K H (ns.map V.int) (ns.map PyData.int)
  | [] => .nil
  | n :: ns => .cons (.int n) (dpa_of_ints ns)
theorem dp_pt {x : V} {p : Pt} (h : Dp K H x (ptD p)) : ∃ a, x = .ref a ∧ SqT K H a (p.map V.int) := by
  unfold ptD at h
  cases h with
  | tup hs ha => exact ⟨_, rfl, by rw [← dpa_ints ha]; exact hs⟩
theorem pt_dp {a : Addr} {p : Pt} (h : SqT K H a (p.map V.int)) : Dp K H (.ref a) (ptD p) := .tup h (dpa_of_ints p)
theorem dp_tup {x : V} (h : Dp K H x (.tuple ds)) : ∃ a xs, x = .ref a ∧ SqT K H a xs ∧ DpAll K H xs ds := by
  cases h with
  | tup hs ha => exact ⟨_, _, rfl, hs, ha⟩
theorem dp_lst {x : V} (h : Dp K H x (.list ds)) : ∃ a xs, x = .ref a ∧ SqL K H a xs ∧ DpAll K H xs ds := by
  cases h with
  | lst hs ha => exact ⟨_, _, rfl, hs, ha⟩
theorem dp_row {x : V} {P : Row} (h : Dp K H x (rowD P)) : ∃ a xs, x = .ref a ∧ SqT K H a xs ∧ DpAll K H xs (P.map ptD) := dp_tup h
theorem dp_rowL {x : V} {P : Row} (h : Dp K H x (rowL P)) : ∃ a xs, x = .ref a ∧ SqL K H a xs ∧ DpAll K H xs (P.map ptD) := dp_lst h
theorem dp_tn {x : V} {t : Tn} (h : Dp K H x (tnD t)) : ∃ a y z, x = .ref a ∧ SqT K H a [y, z] ∧ Dp K H y (ptD t.1) ∧ Dp K H z (ptD t.2) := by
  obtain ⟨a, xs, e, hs, ha⟩ := dp_tup h
  cases ha with
  | cons h1 t1 =>
    cases t1 with
    | cons h2 t2 =>
      cases t2
      exact ⟨a, _, _, e, hs, h1, h2⟩

/-! ### heaps that keep what stood -/
theorem same_upd {p : Addr} {o : HO} (h : H p = none) : Same H (upd H p o) := fun b x e => by
  rw [upd_ne (ne_of_none e h)]
  exact e
theorem seqT_same {a : Addr} (e : Same H H') (h : SqT K H a xs) : SqT K H' a xs := by
  rcases h with (h | ⟨o, h⟩) | h
  · exact .inl (.inl (e _ _ h))
  · exact .inl (.inr ⟨o, e _ _ h⟩)
  · exact .inr h
mutual
theorem dp_mono (eT : ∀ a xs, SqT K H a xs → SqT K H' a xs) (eL : ∀ a xs, SqL K H a xs → SqL K H' a xs) : ∀ {d : PyData} {v : V}, Dp K H v d → Dp K H' v d
  | _, _, .non => .non
  | _, _, .bl b => .bl b
  | _, _, .int i => .int i
  | _, _, .str x => .str x
  | _, _, .lst h1 h2 => .lst (eL _ _ h1) (dpa_mono eT eL h2)
  | _, _, .tup h1 h2 => .tup (eT _ _ h1) (dpa_mono eT eL h2)
theorem dpa_mono (eT : ∀ a xs, SqT K H a xs → SqT K H' a xs) (eL : ∀ a xs, SqL K H a xs → SqL K H' a xs) : ∀ {ds : List PyData} {vs : List V}, DpAll K H vs ds → DpAll K H' vs ds
  | _, _, .nil => .nil
  | _, _, .cons h1 h2 => .cons (dp_mono eT eL h1) (dpa_mono eT eL h2)
end
theorem dp_same (e : Same H H') {d : PyData} {v : V} (h : Dp K H v d) : Dp K H' v d := dp_mono (fun _ _ => seqT_same e) (fun _ _ => e.seq) h
theorem dpa_same (e : Same H H') (h : DpAll K H xs ds) : DpAll K H' xs ds := dpa_mono (fun _ _ => seqT_same e) (fun _ _ => e.seq) h

/-! points, rows of points, turns: tuples alone, so they stand also where one list (the draw) changes -/
/-- all that stood but at d stands -/
def But (d : Addr) (H H' : Hp) : Prop := ∀ b o, b ≠ d → H b = some o → H' b = some o
theorem But.refl (d : Addr) (H : Hp) : But d H H := fun _ _ _ h => h
theorem But.trans {d : Addr} {H1 H2 H3 : Hp} (a : But d H1 H2) (b : But d H2 H3) : But d H1 H3 := fun c o n h => b c o n (a c o n h)
theorem Same.but {d : Addr} (e : Same H H') : But d H H' := fun b o _ h => e b o h
theorem But.same {d : Addr} {H0 : Hp} (b : But d H H') (e : Same H0 H) (n : H0 d = none) : Same H0 H' := fun c o h => b c o (ne_of_none h n) (e c o h)
theorem seqT_but {d a : Addr} {zs : List V} (e : But d H H') (hd : H d = some (.lst zs)) (h : SqT K H a xs) : SqT K H' a xs := by
  rcases h with (h | ⟨o, h⟩) | h
  · exact .inl (.inl (e _ _ (ne_of h hd (by intro z; cases z)) h))
  · exact .inl (.inr ⟨o, e _ _ (ne_of h hd (by intro z; cases z)) h⟩)
  · exact .inr h
mutual
/-- no list stands within -/
def tupO : PyData → Bool
  | .list _ => false
  | .tuple ds => tupA ds
  | _ => true
def tupA : List PyData → Bool
  | [] => true
  | d :: ds => tupO d && tupA ds
end
theorem tupA_all : ∀ {ds : List PyData}, (∀ d ∈ ds, tupO d = true) → tupA ds = true
  | [], _ => by simp [tupA]
  | d :: ds, h => by
    rw [tupA, h d List.mem_cons_self, tupA_all fun e he => h e (List.mem_cons_of_mem _ he)]
    rfl
theorem tup_pt (p : Pt) : tupO (ptD p) = true := by
  unfold ptD
  rw [tupO]
  refine tupA_all fun d hd => ?_
  obtain ⟨i, _, rfl⟩ := List.mem_map.mp hd
  simp [tupO]
theorem tup_row (P : Row) : tupO (rowD P) = true := by
  unfold rowD
  rw [tupO]
  refine tupA_all fun d hd => ?_
  obtain ⟨i, _, rfl⟩ := List.mem_map.mp hd
  exact tup_pt i
theorem tup_tn (t : Tn) : tupO (tnD t) = true := by
  unfold tnD
  rw [tupO, tupA, tupA, tupA, tup_pt, tup_pt]
  rfl
mutual
theorem dp_but {d : Addr} {zs : List V} (e : But d H H') (hd : H d = some (.lst zs)) : ∀ {c : PyData} {v : V}, tupO c = true → Dp K H v c → Dp K H' v c
  | _, _, _, .non => .non
  | _, _, _, .bl b => .bl b
  | _, _, _, .int i => .int i
  | _, _, _, .str x => .str x
  | _, _, h, .lst h1 h2 => by simp [tupO] at h
  | _, _, h, .tup h1 h2 => .tup (seqT_but e hd h1) (dpa_but e hd (by simpa [tupO] using h) h2)
theorem dpa_but {d : Addr} {zs : List V} (e : But d H H') (hd : H d = some (.lst zs)) : ∀ {cs : List PyData} {vs : List V}, tupA cs = true → DpAll K H vs cs → DpAll K H' vs cs
  | _, _, _, .nil => .nil
  | _, _, h, .cons h1 h2 => by
    rw [tupA, Bool.and_eq_true] at h
    exact .cons (dp_but e hd h.1 h1) (dpa_but e hd h.2 h2)
end
end

/-! ### a comprehension, its turns counted -/
section
variable {J : It} {n : Nat} {g : TG} {tt : TT} {te : TE} {vs : List Nat} {σ : L2.St} {H1 : Hp} {D : Addr} {Qd : Hp → Prop} {K : PySem.W.Frag}
/-- one turn of a comprehension: the target, the test, the element laid behind the others -/
abbrev LcTurn (g : TG) (tt : TT) (te : TE) (vs : List Nat) (σ : L2.St) (D : Addr) (Nx : Hp → Prop) (x : V) (H' : Hp) : Prop :=
  g x (wipe σ vs) H' fun σ2 H2 => wipe σ2 vs = wipe σ vs ∧ tt σ2 H2 fun ok H3 => if ok = true then te σ2 H3 fun z H4 => ∃ acc, H4 D = some (.lst acc) ∧ acc.length < sizeLine ∧ Nx (upd H4 D (.lst (acc ++ [z]))) else Nx H3
/-- what a comprehension's reading asks of its turns -/
abbrev LcW (J : It) (g : TG) (tt : TT) (te : TE) (vs : List Nat) (σ : L2.St) (H1 : Hp) (D : Addr) (Qd : Hp → Prop) : Prop :=
  ∃ W : Nat → Nat → Hp → Prop, (∃ m, W 0 m (upd H1 D (.lst []))) ∧ ∀ i m H, W i m H → (J.stop i H ∧ Qd H) ∨ (J.go i H ∧ ∃ Nx : Hp → Prop, (∀ H', Nx H' → ∃ m', m' < m ∧ W (i + 1) m' H') ∧ ∀ x H', J.yld i H x H' → LcTurn g tt te vs σ D Nx x H')
theorem lc_any (Pv : Nat → Hp → Prop) (h0 : Pv 0 (upd H1 D (.lst []))) (hgo : ∀ i H, i < n → Pv i H → J.go i H) (hst : ∀ H, Pv n H → J.stop n H)
    (hs : ∀ i H x H', i < n → Pv i H → J.yld i H x H' → LcTurn g tt te vs σ D (Pv (i + 1)) x H') (hd : ∀ H, Pv n H → Qd H) : LcW J g tt te vs σ H1 D Qd := by
  refine ⟨fun i m H => m + i = n ∧ Pv i H, ⟨n, Nat.add_zero n, h0⟩, ?_⟩
  rintro i m H ⟨em, p⟩
  cases m with
  | zero =>
    have e : i = n := by omega
    subst e
    exact .inl ⟨hst H p, hd H p⟩
  | succ m => exact .inr ⟨hgo i H (by omega) p, Pv (i + 1), fun H' p' => ⟨m, Nat.lt_succ_self m, by omega, p'⟩, fun x H' y => hs i H x H' (by omega) p y⟩
/-- the turns keep what stands; turn i gives F i, or nothing -/
theorem lc_pure (F : Nat → Option PyData) (hF : ∀ i d, F i = some d → tupO d = true) (hn : n ≤ 1000) (hD : H1 D = none) (hgo : ∀ i H, i < n → Same H1 H → J.go i H) (hst : ∀ H, Same H1 H → J.stop n H)
    (hs : ∀ i H x H', i < n → Same H1 H → J.yld i H x H' → ∀ (Qt : Hp → Prop) (Qe : V → Hp → Prop), (∀ H3, Same H H3 → F i = none → Qt H3) → (∀ y H4 d, Same H H4 → F i = some d → Dp K H4 y d → Qe y H4) →
      g x (wipe σ vs) H' fun σ2 H2 => wipe σ2 vs = wipe σ vs ∧ tt σ2 H2 fun b H3 => if b = true then te σ2 H3 Qe else Qt H3)
    (hd : ∀ H acc, Same H1 H → H D = some (.lst acc) → DpAll K H acc ((List.range n).filterMap F) → Qd H) : LcW J g tt te vs σ H1 D Qd := by
  refine lc_any (n := n) (fun i H => Same H1 H ∧ ∃ acc, H D = some (.lst acc) ∧ DpAll K H acc ((List.range i).filterMap F)) ⟨same_upd hD, [], upd_same, .nil⟩
    (fun i H hi p => hgo i H hi p.1) (fun H p => hst H p.1) (fun i H x H' hi p y => ?_) fun H ⟨s, acc, h1, h2⟩ => hd H acc s h1 h2
  obtain ⟨s1, acc, hA, hd2⟩ := p
  have hl : acc.length ≤ i := by
    rw [dpa_len hd2]
    have := List.length_filterMap_le F (List.range i)
    rw [List.length_range] at this
    exact this
  refine hs i H x H' hi s1 y _ _ (fun H3 s3 e => ⟨s1.trans s3, acc, s3 _ _ hA, ?_⟩) fun z H4 d s4 e hz => ⟨acc, s4 _ _ hA, Nat.lt_of_le_of_lt (Nat.le_trans hl (Nat.le_of_lt hi)) (small1000 hn), fun b o hb => ?_, acc ++ [z], upd_same, ?_⟩
  · rw [List.range_succ, List.filterMap_append]
    simp only [List.filterMap_cons, List.filterMap_nil, e, List.append_nil]
    exact dpa_same s3 hd2
  · rw [upd_ne (ne_of_none hb hD)]
    exact s4 _ _ (s1 _ _ hb)
  · rw [List.range_succ, List.filterMap_append]
    simp only [List.filterMap_cons, List.filterMap_nil, e]
    have bt : But D H4 (upd H4 D (.lst (acc ++ [z]))) := fun b o nb hb => by
      rw [upd_ne nb]
      exact hb
    have tA : tupA ((List.range i).filterMap F) = true := tupA_all fun c hc => by
      obtain ⟨j, _, e⟩ := List.mem_filterMap.mp hc
      exact hF j c e
    exact dpa_app (dpa_but bt (s4 _ _ hA) tA (dpa_same s4 hd2)) (dpa_one (dp_but bt (s4 _ _ hA) (hF i d e) hz))
end

/-! ### the same over what is walked -/
section
variable {n : Nat} {g : TG} {tt : TT} {te : TE} {vs : List Nat} {σ : L2.St} {H1 : Hp} {D : Addr} {Qd : Hp → Prop} {K : PySem.W.Frag} {a b : Addr} {xs ys : List V}
/-- over a tuple -/
theorem lc_pt (F : Nat → Option PyData) (hF : ∀ i d, F i = some d → tupO d = true) (hn : xs.length ≤ 1000) (hD : H1 D = none) (hq : SqT K H1 a xs)
    (hs : ∀ i x H, xs[i]? = some x → Same H1 H → ∀ (Qt : Hp → Prop) (Qe : V → Hp → Prop), (∀ H3, Same H H3 → F i = none → Qt H3) → (∀ y H4 d, Same H H4 → F i = some d → Dp K H4 y d → Qe y H4) →
      g x (wipe σ vs) H fun σ2 H2 => wipe σ2 vs = wipe σ vs ∧ tt σ2 H2 fun b H3 => if b = true then te σ2 H3 Qe else Qt H3)
    (hd : ∀ H acc, Same H1 H → H D = some (.lst acc) → DpAll K H acc ((List.range xs.length).filterMap F) → Qd H) : LcW (Itt K a) g tt te vs σ H1 D Qd := by
  refine lc_pure F hF hn hD (fun i H hi s => ⟨xs, xs[i], seqT_same s hq, List.getElem?_eq_getElem hi⟩) (fun H s => ⟨xs, seqT_same s hq, Nat.le_refl _⟩) (fun i H x H' hi s y Qt Qe k1 k2 => ?_) hd
  obtain ⟨rfl, f⟩ := y
  exact hs i x _ (f xs (seqT_same s hq)) s Qt Qe k1 k2
/-- over a list -/
theorem lc_pl (F : Nat → Option PyData) (hF : ∀ i d, F i = some d → tupO d = true) (hn : xs.length ≤ 1000) (hD : H1 D = none) (hq : SqL K H1 a xs)
    (hs : ∀ i x H, xs[i]? = some x → Same H1 H → ∀ (Qt : Hp → Prop) (Qe : V → Hp → Prop), (∀ H3, Same H H3 → F i = none → Qt H3) → (∀ y H4 d, Same H H4 → F i = some d → Dp K H4 y d → Qe y H4) →
      g x (wipe σ vs) H fun σ2 H2 => wipe σ2 vs = wipe σ vs ∧ tt σ2 H2 fun b H3 => if b = true then te σ2 H3 Qe else Qt H3)
    (hd : ∀ H acc, Same H1 H → H D = some (.lst acc) → DpAll K H acc ((List.range xs.length).filterMap F) → Qd H) : LcW (Itl K a) g tt te vs σ H1 D Qd := by
  refine lc_pure F hF hn hD (fun i H hi s => ⟨xs, xs[i], s.seq hq, List.getElem?_eq_getElem hi⟩) (fun H s => ⟨xs, s.seq hq, Nat.le_refl _⟩) (fun i H x H' hi s y Qt Qe k1 k2 => ?_) hd
  obtain ⟨rfl, f⟩ := y
  exact hs i x _ (f xs (s.seq hq)) s Qt Qe k1 k2
/-- over range(n) -/
theorem lc_pr (F : Nat → Option PyData) (hF : ∀ i d, F i = some d → tupO d = true) (hn : n ≤ 1000) (hD : H1 D = none)
    (hs : ∀ i H, i < n → Same H1 H → ∀ (Qt : Hp → Prop) (Qe : V → Hp → Prop), (∀ H3, Same H H3 → F i = none → Qt H3) → (∀ y H4 d, Same H H4 → F i = some d → Dp K H4 y d → Qe y H4) →
      g (.int (0 + (i : Int))) (wipe σ vs) H fun σ2 H2 => wipe σ2 vs = wipe σ vs ∧ tt σ2 H2 fun b H3 => if b = true then te σ2 H3 Qe else Qt H3)
    (hd : ∀ H acc, Same H1 H → H D = some (.lst acc) → DpAll K H acc ((List.range n).filterMap F) → Qd H) : LcW (Itr 0 n) g tt te vs σ H1 D Qd := by
  refine lc_pure F hF hn hD (fun i H hi s => hi) (fun H s => Nat.le_refl _) (fun i H x H' hi s y Qt Qe k1 k2 => ?_) hd
  obtain ⟨rfl, rfl⟩ := y
  exact hs i _ hi s Qt Qe k1 k2
/-- over zip of two tuples of one length: the pair is new at T -/
theorem lc_pz (F : Nat → Option PyData) (hF : ∀ i d, F i = some d → tupO d = true) (hl : xs.length = ys.length) (hn : xs.length ≤ 1000) (hD : H1 D = none) (hq : SqT K H1 a xs) (hq2 : SqT K H1 b ys)
    (hs : ∀ i x y T H, xs[i]? = some x → ys[i]? = some y → Same H1 H → H T = none → ∀ (Qt : Hp → Prop) (Qe : V → Hp → Prop), (∀ H3, Same H H3 → F i = none → Qt H3) → (∀ y H4 d, Same H H4 → F i = some d → Dp K H4 y d → Qe y H4) →
      g (.ref T) (wipe σ vs) (upd H T (.tup [x, y])) fun σ2 H2 => wipe σ2 vs = wipe σ vs ∧ tt σ2 H2 fun b H3 => if b = true then te σ2 H3 Qe else Qt H3)
    (hd : ∀ H acc, Same H1 H → H D = some (.lst acc) → DpAll K H acc ((List.range xs.length).filterMap F) → Qd H) : LcW (RZ.ItzT K a b) g tt te vs σ H1 D Qd := by
  refine lc_pure F hF hn hD (fun i H hi s => ⟨xs, ys, xs[i], ys[i], seqT_same s hq, seqT_same s hq2, List.getElem?_eq_getElem hi, List.getElem?_eq_getElem (by omega)⟩) (fun H s => ⟨xs, ys, seqT_same s hq, seqT_same s hq2, .inl (Nat.le_refl _)⟩) (fun i H x H' hi s y Qt Qe k1 k2 => ?_) hd
  obtain ⟨T, x', y', rfl, hT, rfl, f1, f2⟩ := y
  exact hs i x' y' T H (f1 xs (seqT_same s hq)) (f2 ys (seqT_same s hq2)) s hT Qt Qe k1 k2
/-! each turn gives its item of ds -/
theorem fm_take (l : List PyData) : ∀ n, n ≤ l.length → (List.range n).filterMap (fun i => l[i]?) = l.take n
  | 0, _ => rfl
  | n + 1, h => by
    rw [List.range_succ, List.filterMap_append, fm_take l n (Nat.le_of_succ_le h), List.take_add_one]
    simp only [List.filterMap_cons, List.filterMap_nil]
    rw [List.getElem?_eq_getElem h]
    rfl
theorem fm_get (l : List PyData) : (List.range l.length).filterMap (fun i => l[i]?) = l := by
  rw [fm_take l _ (Nat.le_refl _), List.take_length]
theorem tupA_get {ds : List PyData} (h : tupA ds = true) : ∀ (i : Nat) d, ds[i]? = some d → tupO d = true := by
  induction ds with
  | nil => intro i d e; simp at e
  | cons c ds ih =>
    rw [tupA, Bool.and_eq_true] at h
    intro i d e
    cases i with
    | zero =>
      have e := Option.some.inj (show some _ = some d from e)
      rw [← e]; exact h.1
    | succ i => exact ih h.2 i d (by simpa using e)
variable (ds : List PyData)
theorem lc_mt (hF : tupA ds = true) (hl : xs.length = ds.length) (hn : xs.length ≤ 1000) (hD : H1 D = none) (hq : SqT K H1 a xs)
    (hs : ∀ (i : Nat) x d H, xs[i]? = some x → ds[i]? = some d → Same H1 H → ∀ (Qt : Hp → Prop) (Qe : V → Hp → Prop), (∀ y H4, Same H H4 → Dp K H4 y d → Qe y H4) →
      g x (wipe σ vs) H fun σ2 H2 => wipe σ2 vs = wipe σ vs ∧ tt σ2 H2 fun b H3 => if b = true then te σ2 H3 Qe else Qt H3)
    (hd : ∀ H acc, Same H1 H → H D = some (.lst acc) → DpAll K H acc ds → Qd H) : LcW (Itt K a) g tt te vs σ H1 D Qd := by
  refine lc_pt (fun i => ds[i]?) (tupA_get hF) hn hD hq (fun i x H hx s Qt Qe _ k2 => ?_) fun H acc s h1 h2 => hd H acc s h1 (by rw [hl, fm_get] at h2; exact h2)
  have hi : i < ds.length := by rw [← hl]; exact (List.getElem?_eq_some_iff.mp hx).1
  exact hs i x _ H hx (List.getElem?_eq_getElem hi) s Qt Qe fun y H4 s4 h4 => k2 y H4 _ s4 (List.getElem?_eq_getElem hi) h4
theorem lc_ml (hF : tupA ds = true) (hl : xs.length = ds.length) (hn : xs.length ≤ 1000) (hD : H1 D = none) (hq : SqL K H1 a xs)
    (hs : ∀ (i : Nat) x d H, xs[i]? = some x → ds[i]? = some d → Same H1 H → ∀ (Qt : Hp → Prop) (Qe : V → Hp → Prop), (∀ y H4, Same H H4 → Dp K H4 y d → Qe y H4) →
      g x (wipe σ vs) H fun σ2 H2 => wipe σ2 vs = wipe σ vs ∧ tt σ2 H2 fun b H3 => if b = true then te σ2 H3 Qe else Qt H3)
    (hd : ∀ H acc, Same H1 H → H D = some (.lst acc) → DpAll K H acc ds → Qd H) : LcW (Itl K a) g tt te vs σ H1 D Qd := by
  refine lc_pl (fun i => ds[i]?) (tupA_get hF) hn hD hq (fun i x H hx s Qt Qe _ k2 => ?_) fun H acc s h1 h2 => hd H acc s h1 (by rw [hl, fm_get] at h2; exact h2)
  have hi : i < ds.length := by rw [← hl]; exact (List.getElem?_eq_some_iff.mp hx).1
  exact hs i x _ H hx (List.getElem?_eq_getElem hi) s Qt Qe fun y H4 s4 h4 => k2 y H4 _ s4 (List.getElem?_eq_getElem hi) h4
theorem lc_mr (hF : tupA ds = true) (hl : n = ds.length) (hn : n ≤ 1000) (hD : H1 D = none)
    (hs : ∀ i d H, i < n → ds[i]? = some d → Same H1 H → ∀ (Qt : Hp → Prop) (Qe : V → Hp → Prop), (∀ y H4, Same H H4 → Dp K H4 y d → Qe y H4) →
      g (.int (0 + (i : Int))) (wipe σ vs) H fun σ2 H2 => wipe σ2 vs = wipe σ vs ∧ tt σ2 H2 fun b H3 => if b = true then te σ2 H3 Qe else Qt H3)
    (hd : ∀ H acc, Same H1 H → H D = some (.lst acc) → DpAll K H acc ds → Qd H) : LcW (Itr 0 n) g tt te vs σ H1 D Qd := by
  refine lc_pr (fun i => ds[i]?) (tupA_get hF) hn hD (fun i H hi s Qt Qe _ k2 => ?_) fun H acc s h1 h2 => hd H acc s h1 (by rw [hl, fm_get] at h2; exact h2)
  have hi' : i < ds.length := by rw [← hl]; exact hi
  exact hs i _ H hi (List.getElem?_eq_getElem hi') s Qt Qe fun y H4 s4 h4 => k2 y H4 _ s4 (List.getElem?_eq_getElem hi') h4
theorem lc_mz (hF : tupA ds = true) (hl : xs.length = ds.length) (hl2 : xs.length = ys.length) (hn : xs.length ≤ 1000) (hD : H1 D = none) (hq : SqT K H1 a xs) (hq2 : SqT K H1 b ys)
    (hs : ∀ (i : Nat) x y d T H, xs[i]? = some x → ys[i]? = some y → ds[i]? = some d → Same H1 H → H T = none → ∀ (Qt : Hp → Prop) (Qe : V → Hp → Prop), (∀ y H4, Same H H4 → Dp K H4 y d → Qe y H4) →
      g (.ref T) (wipe σ vs) (upd H T (.tup [x, y])) fun σ2 H2 => wipe σ2 vs = wipe σ vs ∧ tt σ2 H2 fun b H3 => if b = true then te σ2 H3 Qe else Qt H3)
    (hd : ∀ H acc, Same H1 H → H D = some (.lst acc) → DpAll K H acc ds → Qd H) : LcW (RZ.ItzT K a b) g tt te vs σ H1 D Qd := by
  refine lc_pz (fun i => ds[i]?) (tupA_get hF) hl2 hn hD hq hq2 (fun i x y T H hx hy s hT Qt Qe _ k2 => ?_) fun H acc s h1 h2 => hd H acc s h1 (by rw [hl, fm_get] at h2; exact h2)
  have hi : i < ds.length := by rw [← hl]; exact (List.getElem?_eq_some_iff.mp hx).1
  exact hs i x y _ T H hx hy (List.getElem?_eq_getElem hi) s hT Qt Qe fun y H4 s4 h4 => k2 y H4 _ s4 (List.getElem?_eq_getElem hi) h4
end
end K9

/-! KR2 -/
set_option Elab.async false
set_option linter.all false
set_option maxRecDepth 100000
set_option maxHeartbeats 4000000
/-! Rules that the layer lacks: sorted over a list, a tuple, a set of points; min over data; an item of a list read for an augmented store; enumerate of a tuple. -/
namespace K9
open PySem PySem.Spec PyProof.Rows L2

/-! ### what the order and == say -/
open PySem.W in
theorem dataLe_pts : dataLe false ptD = leP := by
  funext p q
  show (!dataLt (.tuple (q.map .int)) (.tuple (p.map .int))) = _
  rw [dataLt_tuple]
  show (!rowLt (q.map .int) (p.map .int)) = _
  rw [dataLt_ints]
  unfold leP
  by_cases h : q < p
  · have h' : ¬ p ≤ q := fun r => List.not_lt.mpr r h
    simp [h, h']
  · have h' : p ≤ q := List.not_lt.mp h
    simp [h, h']
open PySem.W in
theorem dataLt_pts (p q : Pt) : dataLt (ptD p) (ptD q) = decide (p < q) := by
  unfold ptD
  rw [dataLt_tuple]
  exact dataLt_ints p q
open PySem.W in
theorem alike_pts (p q : Pt) : alike (ptD p) (ptD q) = true := by
  unfold ptD
  rw [alike]
  exact alike_ints p q
open PySem.W in
theorem alike_ptsA : ∀ P Q : Row, alikeAll (P.map ptD) (Q.map ptD) = true
  | [], _ => by simp [alikeAll]
  | _ :: _, [] => by simp [alikeAll]
  | p :: P, q :: Q => by
    show alikeAll (ptD p :: P.map ptD) (ptD q :: Q.map ptD) = true
    rw [alikeAll, alike_pts, alike_ptsA P Q]
    rfl
open PySem.W in
theorem alike_rows (P Q : Row) : alike (rowD P) (rowD Q) = true := by
  unfold rowD
  rw [alike]
  exact alike_ptsA P Q
theorem eqvA_ints : ∀ p q : List Int, PyData.eqvAll (p.map .int) (q.map .int) = decide (p = q)
  | [], [] => by simp [PyData.eqvAll]
  | [], _ :: _ => by simp [PyData.eqvAll]
  | _ :: _, [] => by simp [PyData.eqvAll]
  | a :: p, b :: q => by
    show PyData.eqvAll (PyData.int a :: p.map .int) (PyData.int b :: q.map .int) = _
    rw [PyData.eqvAll, eqvA_ints p q, PyData.eqv]
    by_cases h : a = b <;> by_cases g : p = q <;> simp [h, g]
theorem eqv_pts (p q : Pt) : PyData.eqv (ptD p) (ptD q) = decide (p = q) := by
  unfold ptD
  rw [PyData.eqv]
  exact eqvA_ints p q
theorem eqvA_pts : ∀ P Q : Row, PyData.eqvAll (P.map ptD) (Q.map ptD) = decide (P = Q)
  | [], [] => by simp [PyData.eqvAll]
  | [], _ :: _ => by simp [PyData.eqvAll]
  | _ :: _, [] => by simp [PyData.eqvAll]
  | a :: p, b :: q => by
    show PyData.eqvAll (ptD a :: p.map ptD) (ptD b :: q.map ptD) = _
    rw [PyData.eqvAll, eqvA_pts p q, eqv_pts]
    by_cases h : a = b <;> by_cases g : p = q <;> simp [h, g]
theorem eqv_rows (P Q : Row) : PyData.eqv (rowD P) (rowD Q) = decide (P = Q) := by
  unfold rowD
  rw [PyData.eqv]
  exact eqvA_pts P Q
theorem eqv_rowL (P Q : Row) : PyData.eqv (rowL P) (rowL Q) = decide (P = Q) := by
  unfold rowL
  rw [PyData.eqv]
  exact eqvA_pts P Q
open PySem.W in
theorem dataLt_rows : ∀ P Q : Row, rowLt (P.map ptD) (Q.map ptD) = decide (P < Q)
  | [], [] => by
    have e : rowLt [] [] = false := lex_irrefl _
    simp [e]
  | [], q :: Q => by
    have e : rowLt [] (ptD q :: Q.map ptD) = true := by
      unfold rowLt
      rw [toks_all_cons]
      simp only [keyToksAll]
      rw [lex_diff (O := itemOrd) (by simp)]
      rfl
    simpa using e
  | p :: P, [] => by
    have e : rowLt (ptD p :: P.map ptD) [] = false := by
      unfold rowLt
      rw [toks_all_cons]
      simp only [keyToksAll]
      rw [lex_diff (O := itemOrd) (by simp)]
      rfl
    simpa using e
  | p :: P, q :: Q => by
    have e : rowLt (ptD p :: P.map ptD) (ptD q :: Q.map ptD) = if p = q then rowLt (P.map ptD) (Q.map ptD) else decide (p < q) := by
      unfold rowLt
      rw [dataLt_cons (alike_pts p q), dataLt_pts, eqv_pts]
      by_cases h : p = q <;> simp [h]
    show rowLt (ptD p :: P.map ptD) (ptD q :: Q.map ptD) = _
    rw [e]
    by_cases h : p = q
    · rw [if_pos h, dataLt_rows P Q]
      have irr : ¬ q < q := List.lt_irrefl q
      simp [h, List.cons_lt_cons_iff, irr]
    · rw [if_neg h]
      simp [h, List.cons_lt_cons_iff]
open PySem.W in
theorem dataLt_rowD (P Q : Row) : dataLt (rowD P) (rowD Q) = decide (P < Q) := by
  unfold rowD
  rw [dataLt_tuple]
  exact dataLt_rows P Q

/-! ### shapes -/
theorem lay_ints : ∀ p : List Int, PyData.canLayAll0 (p.map .int) = true
  | [] => by simp [PyData.canLayAll0]
  | a :: p => by
    show PyData.canLayAll0 (PyData.int a :: p.map .int) = true
    rw [PyData.canLayAll0, lay_ints p]
    simp [PyData.canLay0]
theorem depth_pt (p : Pt) : (ptD p).depth = 1 := by
  unfold ptD
  rw [PyData.depth, PySem.W.depth_ints]
theorem lay_pts : ∀ P : Row, PyData.canLayAll0 (P.map ptD) = true
  | [] => by simp [PyData.canLayAll0]
  | a :: P => by
    show PyData.canLayAll0 (ptD a :: P.map ptD) = true
    rw [PyData.canLayAll0, lay_pts P]
    unfold ptD
    rw [PyData.canLay0, lay_ints]
    rfl
theorem depth_pts : ∀ P : Row, PyData.depthAll (P.map ptD) ≤ 1
  | [] => by simp [PyData.depthAll]
  | a :: P => by
    show PyData.depthAll (ptD a :: P.map ptD) ≤ 1
    rw [PyData.depthAll, depth_pt]
    have := depth_pts P
    omega
theorem shaped_pt (p : Pt) : SeqAt.shaped (ptD p) = true := by
  unfold SeqAt.shaped
  rw [depth_pt]
  unfold ptD
  rw [PyData.canLay0, lay_ints]
  rfl
theorem shaped_row (P : Row) : SeqAt.shaped (rowD P) = true := by
  unfold SeqAt.shaped rowD
  rw [PyData.canLay0, lay_pts, PyData.depth]
  have := depth_pts P
  simp only [Bool.true_and, decide_eq_true_eq]
  omega
theorem shaped_rowL (P : Row) : SeqAt.shaped (rowL P) = true := by
  unfold SeqAt.shaped rowL
  rw [PyData.canLay0, lay_pts, PyData.depth]
  have := depth_pts P
  simp only [Bool.true_and, decide_eq_true_eq]
  omega
theorem shaped_ints (p : List Int) : SeqAt.shaped (.list (p.map .int)) = true := by
  unfold SeqAt.shaped
  rw [PyData.canLay0, lay_ints, PyData.depth, PySem.W.depth_ints]
  rfl

/-! ### sorted -/
theorem reads_ints : ∀ {h : Heap} {vs : List Value} {p : List Int} {as : List Addr}, ReadsAll h vs (p.map .int) as → as = []
  | _, _, [], _, r => by
    have r' : ReadsAll _ _ [] _ := r
    cases r'
    rfl
  | _, _, n :: p, _, r => by
    have r' : ReadsAll _ _ (PyData.int n :: p.map .int) _ := r
    cases r' with
    | cons h1 h2 =>
      cases h1
      rw [reads_ints h2]
      rfl
theorem reads_pt {h : Heap} {v : Value} {p : Pt} {as : List Addr} (r : Reads h v (ptD p) as) : as = [] := by
  unfold ptD at r
  cases r with
  | tuple _ _ _ h4 => exact reads_ints h4
section
variable {K : PySem.W.Frag} {H : Hp}
def StandV (K : PySem.W.Frag) (H : Hp) (v : Value) (p : Pt) : Prop := ∃ y : V, RelV y v ∧ Dp K H y (ptD p)
theorem each_of : ∀ {xs : List V} {us : List Value} {P : Row}, Vals xs us → DpAll K H xs (P.map ptD) → PySem.W.EachIs (StandV K H) us P
  | _, _, [], r, h => by
    have h' : DpAll K H _ [] := h
    cases h'
    cases r
    exact .nil
  | _, _, p :: P, r, h => by
    have h' : DpAll K H _ (ptD p :: P.map ptD) := h
    cases h' with
    | cons a t =>
      cases r with
      | cons r1 r2 => exact .cons ⟨_, r1, a⟩ (each_of r2 t)
theorem of_each : ∀ {us : List Value} {P : Row}, PySem.W.EachIs (StandV K H) us P → ∃ ys, Vals ys us ∧ DpAll K H ys (P.map ptD)
  | _, _, .nil => ⟨[], .nil, .nil⟩
  | _, _, .cons ⟨y, r, d⟩ t => by
    obtain ⟨ys, h1, h2⟩ := of_each t
    exact ⟨y :: ys, .cons r h1, .cons d h2⟩
end
section
variable {X : Cx} {pins : List (Addr × Obj)} {σ : L2.St} {H : Hp} {s : Shared}
theorem stand_reads (I : Inv X pins σ H s) {v : Value} {p : Pt} (h : StandV X.K H v p) : ∃ as, Reads s.heap v (ptD p) as := by
  obtain ⟨y, r, d⟩ := h
  exact Dp.reads I _ _ _ d r
/-- list.sort of a new list L of values that stand for points; the rest of the heap kept -/
theorem sort_new {A : Around} {E : Value → Shared → Prop} (I : Inv X pins σ H s) {h1 : Heap} {tk : Nat} {g1 : Array GenState} {d1 : Drawn} {vs : List Value} {P : Row} {L : Addr} {n : Nat} {Q : Value → Shared → Prop}
    (kp : ∀ b o, s.heap.get? b = some o → h1.get? b = some o) (ho : h1.get? L = some (seqObj "list" vs.toArray n)) (e : PySem.W.EachIs (StandV X.K H) vs P) (hl : P.length ≤ 1000) (hp : ∀ p ∈ P, p ≠ []) (hu : A.units + 2 < cLine)
    (hQ : ∀ out, out.length = P.length → PySem.W.EachIs (StandV X.K H) out (sortP P) → Q .none { s with heap := sortedHeap h1 L vs (List.toArray out), gens := g1, drawn := d1, toks := tk }) :
    wpAny (model X.prog X.w) A (call (.builtin "list.sort") [.ref L]) Q E { s with heap := h1, gens := g1, drawn := d1, toks := tk } := by
  refine PySem.W.list_sort_data (s := { s with heap := h1, gens := g1, drawn := d1, toks := tk }) (enc := ptD) (R := StandV X.K H) ho e (e.mono fun v b st => ?_) (PySem.W.AllAlike.of alike_pts) ?_ (by rw [sizeLine_eq]; omega) (fun b _ => by rw [depth_pt]; omega) fun out h2 h3 => ?_
  · obtain ⟨as, r⟩ := stand_reads I st
    exact ⟨as, PyProof.Rows.Reads.keeps kp r, by rw [reads_pt r]; simp⟩
  · refine .inl fun d hd => ?_
    obtain ⟨p, hpm, rfl⟩ := List.mem_map.mp hd
    cases p with
    | nil => exact absurd rfl (hp [] hpm)
    | cons a r => exact ⟨_, _, rfl⟩
  · rw [dataLe_pts] at h3
    exact hQ out h2 h3
def rSortQ (K : PySem.W.Frag) : List V → Hp → VK → Prop := fun vs H Q => ∃ (a : Addr) (xs : List V) (P : Row), vs = [V.ref a] ∧ (SqL K H a xs ∨ SqT K H a xs) ∧ DpAll K H xs (P.map ptD) ∧ P.length ≤ 1000 ∧ (∀ p ∈ P, p ≠ []) ∧
  ∀ ys p, H p = none → DpAll K H ys ((sortP P).map ptD) → Q (.ref p) (upd H p (.lst ys))
theorem vals_len {xs : List V} {us : List Value} (r : Vals xs us) : xs.length = us.length := r.length
theorem cr_sortQ (hu : X.A.units + 64 < cLine) : CallR X (.builtin "sorted") (rSortQ X.K) := by
  intro pins s σ H args us Q I ra want
  obtain ⟨a, xs, P, rfl, hs, hd, hl, hp, q⟩ := want
  rw [Vals.ref1 ra]
  have hxl : xs.length = P.length := (dpa_len hd).trans (List.length_map ..)
  obtain ⟨T, o, its, n, hT, ho, hc, hdt, rv⟩ : ∃ (T : String) (o : Obj) (its : List Value) (n : Nat), (T = "list" ∨ T = "tuple") ∧ s.heap.get? a = some o ∧ o.cls = .type T ∧ o.data = .seq its.toArray n ∧ Vals xs its := by
    rcases hs with hs | hs
    · obtain ⟨its, rv, ⟨o, n, ho, hc, _, hdt⟩, _⟩ := I.list hs
      exact ⟨_, o, its, n, .inl rfl, ho, hc, hdt, rv⟩
    · obtain ⟨its, rv, ⟨o, ho, hc, n, hdt⟩, _⟩ := I.tuple hs
      exact ⟨_, o, its, n, .inr rfl, ho, hc, hdt, rv⟩
  have hil : its.length = P.length := rv.length.symm.trans hxl
  have few : its.length ≤ sizeLine := by rw [sizeLine_eq, hil]; omega
  refine Calls.call_function_entry kind_sorted plain_sorted entry_sorted (args_sorted1 (.ref a)) ?_
  unfold Builtin.«sorted»
  -- the items are collected; the state behind that is I1's
  refine wpAny_bind (m := checkCount "sorted" 1 1 _) (wpAny_pure (wpAny_bind (wpAny_collect_seq a hT ho hc hdt (fun h1 kp => ?_) (by rw [List.size_toArray]; exact few))))
  have I1 : Inv X pins σ H { s with heap := h1, toks := s.toks } := I.kept kp
  have e1 : PySem.W.EachIs (StandV X.K H) its P := each_of rv hd
  refine wpAny_bind (wpAny_newList (wpAny_bind (wpAny_holding ?_)) few)
  have atL : (h1.push (seqObj "list" its.toArray 0)).get? h1.objs.size = some (seqObj "list" its.toArray 0) := Heap.get?_push_size _ rfl
  refine sort_new (g1 := s.gens) (d1 := s.drawn) (tk := s.toks) I1 (fun b u z => Heap.get?_push_of_some _ z) atL e1 hl hp (by show X.A.units + 1 + 2 < cLine; omega) fun out h2 h3 => ?_
  obtain ⟨ys, rys, dys⟩ := of_each h3
  obtain ⟨c, hc2⟩ := sortedHeap_at (vs := its) (out := out.toArray) atL
  refine wpAny_pure ⟨_, rfl, .ref h1.objs.size, upd H h1.objs.size (.lst ys), I1.laid (t' := s.toks) (fun b u z => ?_) (Nat.le_refl _) ⟨?_, out, c, rys, hc2⟩, rfl, q ys _ (I1.hok.fresh (Nat.le_refl _)) dys⟩
  · have lt := Heap.lt_size z
    rw [sortedHeap_old (Nat.ne_of_lt lt) (size_push' h1 _ ▸ Nat.lt_succ_of_lt lt)]
    exact Heap.get?_push_of_some _ z
  · rw [rys.length, h2, sizeLine_eq]
    omega

/-! sorted of a set of points -/
def rSortedS2 (K : PySem.W.Frag) (P : Program) (w : World) : List V → Hp → VK → Prop := fun vs H Q => ∃ (a : Addr) (L : List (Addr × List Int)), vs = [V.ref a] ∧ H a = some (SetTO P w a L) ∧ (∀ p ∈ L, SqT K H p.1 (p.2.map V.int)) ∧ (∀ p ∈ L, p.2 ≠ []) ∧
  ∀ (S : Row) (ys : List V) (p : Addr), (∀ q, q ∈ S ↔ q ∈ L.map (·.2)) → S.length < 64 → H p = none → DpAll K H ys (S.map ptD) → Q (.ref p) (upd H p (.lst ys))
/-- what is a rearrangement of the images is the images of a rearrangement -/
theorem perm_of_map {α β : Type} {f : α → β} {m n : List β} (h : n.Perm m) : ∀ {l : List α}, n = l.map f → ∃ k : List α, k.Perm l ∧ m = k.map f := by
  induction h with
  | nil => exact fun {l} e => ⟨l, .refl _, e⟩
  | cons x _ ih =>
    intro l e
    cases l with
    | nil => cases e
    | cons a l =>
      injection e with e1 e2
      obtain ⟨k, pk, ek⟩ := ih e2
      exact ⟨a :: k, pk.cons a, by rw [e1, ek, List.map_cons]⟩
  | swap x y _ =>
    intro l e
    match l, e with
    | a :: b :: l, e =>
      injection e with e1 e2
      injection e2 with e2 e3
      exact ⟨b :: a :: l, .swap a b l, by rw [e1, e2, e3, List.map_cons, List.map_cons]⟩
  | trans _ _ ih1 ih2 =>
    intro l e
    obtain ⟨k, pk, ek⟩ := ih1 e
    obtain ⟨j, pj, ej⟩ := ih2 ek
    exact ⟨j, pj.trans pk, ej⟩
theorem cr_sortedS2 (hc : X.calm = true) (hu : X.A.units + 64 < cLine) : CallR X (.builtin "sorted") (rSortedS2 X.K X.prog X.w) := by
  intro pins s σ H args us Q I ra want
  obtain ⟨a, L, rfl, hset, hk, hne, q⟩ := want
  obtain ⟨es, ep, tab, R⟩ := SetT0.full (I.hok a _ hset).1 fun p hp => I.isT (hk p hp)
  rw [Vals.ref1 ra]
  obtain ⟨ob, hob, hex, hdat⟩ := R.ob
  have hLf : L.length < 64 := R.few
  have hsz := R.size
  refine Calls.call_function_entry kind_sorted plain_sorted entry_sorted (args_sorted1 (.ref a)) ?_
  unfold Builtin.«sorted»
  refine wpAny_bind (m := checkCount "sorted" 1 1 _) (wpAny_pure (wpAny_bind (collect_set (A := X.A.in1) (I.ok.hd hc) ⟨ob, hob, hex.1, hdat⟩ R.fits (by unfold scanBound; omega) R.tab.ris R.led fun s1 vs k1 hz g1 o1 pm => ?_)))
  -- the collected values are the addresses of the members, in some order L1
  have images : es.toList.map (·.2) = L.map fun p => Value.ref p.1 := by
    rw [R.rows, show rowsOf X.prog X.w L = L.map fun p => (thash X.prog X.w p.2, Value.ref p.1) from rfl, List.map_map]
    rfl
  obtain ⟨L1, pL, e1⟩ := perm_of_map (f := fun p : Addr × List Int => Value.ref p.1) pm.symm images
  subst e1
  have few : L1.length < 64 := by rw [pL.length_eq]; exact hLf
  have stand : ∀ M : List (Addr × List Int), (∀ p ∈ M, p ∈ L) → PySem.W.EachIs (StandV X.K H) (M.map fun p => Value.ref p.1) (M.map (·.2)) := by
    intro M
    induction M with
    | nil => exact fun _ => .nil
    | cons m M ih => exact fun h => .cons ⟨.ref m.1, rfl, pt_dp (hk m (h m List.mem_cons_self))⟩ (ih fun p hp => h p (List.mem_cons_of_mem _ hp))
  have e2 := stand L1 fun p hp => pL.mem_iff.mp hp
  generalize hvs : (L1.map fun p => Value.ref p.1) = vs at e2 ⊢
  have lvs : vs.length = L1.length := by rw [← hvs, List.length_map]
  have sh : s1 = { s with heap := s1.heap, gens := s1.gens, drawn := s1.drawn, toks := s1.toks } := by
    cases s1
    cases s
    cases o1
    rfl
  rw [sh]
  refine wpAny_bind (wpAny_newList (wpAny_bind (wpAny_holding ?_)) (by rw [sizeLine_eq]; omega))
  have atL : (s1.heap.push (seqObj "list" vs.toArray 0)).get? s1.heap.objs.size = some (seqObj "list" vs.toArray 0) := Heap.get?_push_size _ rfl
  refine sort_new (g1 := s1.gens) (d1 := s1.drawn) (tk := s1.toks) I (fun b u z => Heap.get?_push_of_some _ (k1 b u z)) atL e2 (by rw [List.length_map]; omega) (fun p hp => ?_) (by show X.A.units + 1 + 2 < cLine; omega) fun out h2 h3 => ?_
  · obtain ⟨p0, hp0, rfl⟩ := List.mem_map.mp hp
    exact hne p0 (pL.mem_iff.mp hp0)
  obtain ⟨ys, rys, dys⟩ := of_each h3
  obtain ⟨c, hc2⟩ := sortedHeap_at (vs := vs) (out := out.toArray) atL
  have free : H s1.heap.objs.size = none := I.hok.fresh hz
  have old : ∀ b u, s.heap.get? b = some u → (sortedHeap (s1.heap.push (seqObj "list" vs.toArray 0)) s1.heap.objs.size vs out.toArray).get? b = some u := fun b u z => by
    have lt := Heap.lt_size (k1 b u z)
    rw [sortedHeap_old (Nat.ne_of_lt lt) (size_push' s1.heap _ ▸ Nat.lt_succ_of_lt lt)]
    exact Heap.get?_push_of_some _ (k1 b u z)
  have lys : ys.length ≤ sizeLine := by
    rw [rys.length, h2, List.length_map, sizeLine_eq]
    omega
  have J : Inv X pins σ (upd H s1.heap.objs.size (.lst ys)) { s with heap := sortedHeap (s1.heap.push (seqObj "list" vs.toArray 0)) s1.heap.objs.size vs out.toArray, gens := s1.gens, drawn := s1.drawn, toks := s1.toks } :=
    I.call (ch := []) (Un.laid old hz free) (I.hok.laid old hz ⟨lys, out, c, rys, hc2⟩) (g1 ▸ I.bare) fun _ z => nomatch z
  refine wpAny_pure ⟨_, rfl, .ref _, _, J, rfl, q _ ys _ (fun p => sortP_mem.trans (pL.map (·.2)).mem_iff) ?_ free dys⟩
  rw [sortP_length, List.length_map]
  exact few

/-! ### min over data -/
open PySem.W in
def rMinD (K : PySem.W.Frag) : List V → Hp → VK → Prop := fun vs H Q => ∃ (a : Addr) (xs : List V) (d : PyData) (ds : List PyData), vs = [V.ref a] ∧ (SqL K H a xs ∨ SqT K H a xs) ∧ DpAll K H xs (d :: ds) ∧ AlikeAll (d :: ds) ∧ PyData.depthAll (d :: ds) ≤ 60 ∧
  ∀ y, Dp K H y (minD d ds) → Q y H
theorem cr_minD (hc : X.calm = true) (hu : X.A.units + 64 < cLine) : CallR X (.builtin "min") (rMinD X.K) := by
  intro pins s σ H vs us Q I r h
  obtain ⟨a, xs, d, ds, rfl, hs, hd, hal, hdp, q⟩ := h
  rw [Vals.ref1 r]
  have fin : ∀ (its : List Value), Vals xs its → ∀ (i : Nat) (v : Value) (h' : Heap) (tk : Nat) (bs : List Addr), its.toArray[i]? = some v → Reads h' v (PySem.W.minD d ds) bs → (∀ b o, s.heap.get? b = some o → h'.get? b = some o) → EP X pins σ Q v { s with heap := h', toks := tk } := by
    intro its rv i v h' tk bs hv hr kp
    have hv' : its[i]? = some v := by simpa using hv
    have hil := rv.length
    have hi : i < its.length := (List.getElem?_eq_some_iff.mp hv').1
    have hx : xs[i]? = some xs[i] := List.getElem?_eq_getElem (by omega)
    obtain ⟨u, hu1, ru⟩ := rv.get hx
    rw [hv'] at hu1
    cases hu1
    obtain ⟨c, hc1, hc2⟩ := dpa_get hd hx
    obtain ⟨as, rc⟩ := Dp.reads I _ _ _ hc2 ru
    have hm : c ∈ d :: ds := List.mem_of_getElem? hc1
    have hmin : PySem.W.minD d ds ∈ d :: ds := by
      have : ∀ (l : List PyData) (x : PyData), l.foldl (fun a y => if PySem.W.dataLt y a then y else a) x ∈ x :: l := by
        intro l
        induction l with
        | nil => intro x; exact List.mem_cons_self
        | cons k l ih =>
          intro x
          rw [List.foldl_cons]
          have := ih (if PySem.W.dataLt k x = true then k else x)
          rcases List.mem_cons.mp this with e | e
          · rw [e]
            split
            · exact List.mem_cons_of_mem _ List.mem_cons_self
            · exact List.mem_cons_self
          · exact List.mem_cons_of_mem _ (List.mem_cons_of_mem _ e)
      exact this ds d
    have ec : c = PySem.W.minD d ds := PySem.W.alike_unique _ _ _ _ _ (hal.1 c hm _ hmin) (PyProof.Rows.Reads.keeps kp rc) hr
    subst ec
    exact ⟨xs[i], H, I.kept (t' := tk) kp, ru, q _ hc2⟩
  rcases hs with hs | hs
  · obtain ⟨its, rv, hl, _⟩ := I.list hs
    obtain ⟨as, hr⟩ := Dp.readsAll I _ _ _ hd rv
    exact PySem.W.min_list_data (I.ok.hd hc) hl.isList (by simpa using hr) hal (by omega) (fin its rv)
  · obtain ⟨its, rv, hl, _⟩ := I.tuple hs
    obtain ⟨as, hr⟩ := Dp.readsAll I _ _ _ hd rv
    exact PySem.W.min_tuple_data (I.ok.hd hc) (show s.heap.IsTuple a its.toArray from hl) (by simpa using hr) hal (by omega) (fin its rv)

/-! ### xs[i] read for an augmented store -/
def rGetL (K : PySem.W.Frag) : V → V → Hp → VK → Prop := fun o i H Q => ∃ (p : Addr) (xs : List V) (j : Nat) (v : V), o = .ref p ∧ i = .int (j : Int) ∧ SqL K H p xs ∧ xs[j]? = some v ∧ Q v H
theorem get_list : PGet X (rGetL X.K) := by
  intro pins s σ H o i ov iv Q I ro ri h
  obtain ⟨p, xs, j, z, rfl, rfl, hq, he, q⟩ := h
  cases ro
  obtain ⟨t, rfl⟩ := ri
  obtain ⟨its, r, pl, hz⟩ := I.list hq
  obtain ⟨w, ew, rw'⟩ := r.get he
  have hj : j < xs.length := (List.getElem?_eq_some_iff.mp he).1
  have := line63
  refine wpAny_getItem_list pl.isList (by omega) (by omega) (x := w) (by simpa using ew) ⟨z, H, I, rw', q⟩
end
end K9

/-! KR3 -/
set_option Elab.async false
set_option linter.all false
set_option maxRecDepth 100000
set_option maxHeartbeats 4000000
/-! enumerate of a tuple, as a loop walks it (the layer has enumerate of a list). -/
namespace K9
open PySem PySem.Spec PyProof.Rows L2

/-- the tuple at a, each item in a new pair with its number -/
def IteT (K : PySem.W.Frag) (a : Addr) : It where
  go i H := ∃ (xs : List V) (x : V), SqT K H a xs ∧ xs[i]? = some x
  yld i H v H' := ∃ T x, v = .ref T ∧ H T = none ∧ H' = upd H T (.tup [.int (i : Nat), x]) ∧ ∀ xs, SqT K H a xs → xs[i]? = some x
  stop i H := ∃ xs : List V, SqT K H a xs ∧ xs.length = i
/-- where the enumerate object en and the tuple's iterator ti stand ahead of turn i -/
structure EnumAt (a en ti : Addr) (i : Nat) (h : Heap) : Prop where
  ob : ∃ old, IsEnum h en ti ((i : Nat) : Int) old
  tu : h.IsTupleIter ti a i
  ne : en ≠ ti
section
variable {a en ti : Addr} {i : Nat} {h h' : Heap} {items : Array Value}
theorem EnumAt.ob_ne (E : EnumAt a en ti i h) (t : h.IsTuple a items) : en ≠ a := by
  obtain ⟨old, q⟩ := E.ob
  obtain ⟨o, ho, co, _⟩ := t
  rintro rfl
  have q : h.get? en = some _ := q
  rw [q] at ho
  have co : o.cls = Value.type "tuple" := co
  rw [← Option.some.inj ho] at co
  have co : Value.type "enumerate" = Value.type "tuple" := co
  injection co with co
  exact absurd co (by decide)
theorem EnumAt.tu_ne (E : EnumAt a en ti i h) (t : h.IsTuple a items) : a ≠ ti := by
  obtain ⟨o1, h1, c1, _⟩ := E.tu
  obtain ⟨o2, h2, c2, _⟩ := t
  rintro rfl
  rw [h1] at h2
  have c2 : o2.cls = Value.type "tuple" := c2
  have c1 : o1.cls = Value.type "tuple_iterator" := c1
  rw [← Option.some.inj h2, c1] at c2
  injection c2 with c2
  exact absurd c2 (by decide)
theorem EnumAt.keep (E : EnumAt a en ti i h) (k1 : ∀ o, h.get? en = some o → h'.get? en = some o) (k2 : ∀ o, h.get? ti = some o → h'.get? ti = some o) : EnumAt a en ti i h' :=
  ⟨E.ob.elim fun old q => ⟨old, k1 _ q⟩, E.tu.at k2, E.ne⟩
theorem EnumAt.lt (E : EnumAt a en ti i h) : en < h.objs.size ∧ ti < h.objs.size := ⟨E.ob.elim fun _ q => Heap.lt_size q, E.tu.elim fun _ q => Heap.lt_size q.1⟩
end
theorem two_of {b p q : Addr} (h : b ∈ [p, q]) : b = p ∨ b = q := by simpa using h
theorem turn_enumT {P : Program} {w : World} {K : PySem.W.Frag} {elts : List Expr} {kk : Nat} {tpos : Pos} (a en ti : Addr) : Turn P w K (.Tuple elts kk tpos) (IteT K a) [en, ti] en (EnumAt a en ti) where
  mem := List.mem_cons_self
  obj := fun i h E b hb => by
    rcases two_of hb with rfl | rfl
    · exact E.ob.elim fun old q => ⟨_, q, fun v z => nomatch z⟩
    · exact E.tu.elim fun o q => ⟨o, q.1, fun v z => by rw [q.2.2] at z; cases z⟩
  keep := fun i h h' E k => E.keep (k en (by simp)) (k ti (by simp))
  item := by
    intro X eP ew eK calm i pins s σ H Ex Iv fpo E ahead
    subst eP ew eK
    obtain ⟨xs, x, hxs, hx⟩ := ahead
    obtain ⟨its, rels, tup, _⟩ := Iv.tuple hxs
    obtain ⟨u, hu, rel⟩ := rels.get hx
    have tup : s.heap.IsTuple a its.toArray := tup
    obtain ⟨l1, l2⟩ := E.lt
    obtain ⟨old, q⟩ := E.ob
    have lt : i < its.toArray.size := by
      rw [List.size_toArray]
      exact (List.getElem?_eq_some_iff.mp hu).1
    refine wpAny_pyNext_enum_itemD (Draws.tuple (A := X.A.in1) (Iv.ok.hd calm) ti a (E.tu_ne tup) its.toArray) q ⟨E.tu, tup⟩ lt E.ne (by simp [E.ne, E.ob_ne tup]) fun y h1 tk hy out next pair _ kept => ?_
    rw [List.getElem?_toArray, hu] at hy
    cases hy
    refine ⟨_, rfl, wpAny_letOwnedTupleGo_enum (s := { s with heap := h1, toks := tk + 1 }) out fun h2 back but => ?_⟩
    have pair2 : h2.get? s.heap.objs.size = some { cls := .type "tuple", data := .seq #[.int i tk, u] } := (but.2 _ (Nat.ne_of_gt l1)).trans pair
    have new : ObjOk X.prog X.w (upd H s.heap.objs.size (.tup [.int (i : Nat), x])) h2 s.heap.objs.size (.tup [.int (i : Nat), x]) :=
      ⟨by show 2 ≤ sizeLine; decide, [.int i tk, u], .cons ⟨_, rfl⟩ (.cons rel .nil), ⟨_, pair2, rfl, _, rfl⟩⟩
    have I2 : Inv X pins σ (upd H s.heap.objs.size (.tup [.int (i : Nat), x])) { s with heap := h2, toks := tk + 1 } :=
      Iv.turnedNew (ch := [en, ti]) (fun b ob hb z => (but.2 b fun e => hb (by simp [e])).trans (kept b ob (fun e => hb (by simp [e])) (fun e => hb (by simp [e])) z)) fpo (Nat.le_refl _) new
    refine ⟨.ref s.heap.objs.size, _, I2, rfl, ⟨_, x, rfl, Iv.hok.fresh (Nat.le_refl _), rfl, fun ys hys => by rw [Iv.tuple_inj hys hxs]; exact hx⟩, ⟨⟨u, ?_⟩, next.1.at fun o z => (but.2 ti (Ne.symm E.ne)).trans z, E.ne⟩, fun b hb => ?_⟩
    · rw [Int.natCast_succ]
      exact back
    · have lb : b < s.heap.objs.size := by
        rcases two_of hb with rfl | rfl
        · exact l1
        · exact l2
      rw [upd_ne (Nat.ne_of_lt lb)]
      exact (fpo b hb).1
  done := by
    intro X eP ew eK calm i pins s σ H Ex Iv fpo E over
    subst eP ew eK
    obtain ⟨xs, hxs, len⟩ := over
    obtain ⟨its, rels, tup, _⟩ := Iv.tuple hxs
    have tup : s.heap.IsTuple a its.toArray := tup
    obtain ⟨old, q⟩ := E.ob
    have sz : its.toArray.size = i := by rw [List.size_toArray, ← rels.length, len]
    obtain ⟨n0, n1, n2, n3, n4, n5⟩ := fpo ti (by simp)
    exact wpAny_pyNext_enum_endD (Draws.tuple (A := X.A.in1) (Iv.ok.hd calm) ti a (E.tu_ne tup) its.toArray) q (sz.symm ▸ ⟨E.tu, tup⟩) fun h1 ext => ⟨rfl, Iv.turned (t' := s.toks) ext n0 n1 n3 n4 n5⟩
  self := fun A i s Q Ex E want => E.ob.elim fun _ q => wpAny_pyIter_enum q want
set_option maxHeartbeats 4000000 in
theorem meets_enumerate_newT (l : Addr) (items : Array Value) :
    Meets (Builtin.«enumerate.__new__» ⟨[.type "enumerate", .ref l], []⟩) (fun _ R s => s.heap.IsTuple l items ∧
      R (.ok (.ret (.ref (s.heap.push { cls := .type "tuple_iterator", data := .fields #[.ref l, .int 0 0] }).objs.size)))
        { s with heap := (s.heap.push { cls := .type "tuple_iterator", data := .fields #[.ref l, .int 0 0] }).push { cls := .type "enumerate", data := .fields #[.none, .bool false, .ref s.heap.objs.size, rawInt 0, .none, .none] } }) := by
  refine .of_wp fun prog w A R s want => ?_
  obtain ⟨hp, ge, dn, tk, os⟩ := s
  obtain ⟨tup, fin⟩ := want
  have hsub := sub_enumerate
  have it1 : ∀ {A' : Around} {Ex : Value → Shared → Prop} {Q : Value → Shared → Prop}, Q (.ref hp.objs.size) ⟨hp.push { cls := .type "tuple_iterator", data := .fields #[.ref l, .int 0 0] }, ge, dn, tk, os⟩ → wpAny (model prog w) A' (pyIter (.ref l)) Q Ex ⟨hp, ge, dn, tk, os⟩ :=
    fun z => wpAny_pyIter_tuple tup z
  wp_walk using it1
  refine wpAny_stack_any fun _ => wpAny_pure ?_
  split
  · rename_i c _ _ _ _ _
    cases hc : (c == Value.type "enumerate") <;> (wp_walk using it1; exact ⟨_, rfl, fin⟩)
  · wp_walk using it1
    exact ⟨_, rfl, fin⟩
theorem call_enumerate_tup {prog : Program} {w : World} {A : Around} {Ex : Value → Shared → Prop} {s : Shared} {l : Addr} {items : Array Value} {Q : Value → Shared → Prop} (tup : s.heap.IsTuple l items)
    (want : ∀ h', EnumAt l (s.heap.objs.size + 1) s.heap.objs.size 0 h' → (∀ b o, s.heap.get? b = some o → h'.get? b = some o) → Q (.ref (s.heap.objs.size + 1)) { s with heap := h' }) : wpAny (model prog w) A (call (.type "enumerate") [.ref l]) Q Ex s := by
  refine callType_new F.called_enumerate (by decide) (F.typeCall_enumerate_1 (.ref l)) (F.newCall_enumerate_1 (.ref l)) (fun obj => F.args_object_init_2 obj (.ref l)) F.entry_enumerate_new (meets_enumerate_newT l items) ⟨tup, ?_⟩
  generalize ho : ({ cls := .type "tuple_iterator", data := .fields #[.ref l, .int 0 0] } : Obj) = io
  have nf : io.isFreed = false := by rw [← ho]; rfl
  generalize he : ({ cls := .type "enumerate", data := .fields #[.none, .bool false, .ref s.heap.objs.size, rawInt 0, .none, .none] } : Obj) = eo
  have nf2 : eo.isFreed = false := by rw [← he]; rfl
  have sz : (s.heap.push io).objs.size = s.heap.objs.size + 1 := Heap.size_push s.heap io
  have at2 : ((s.heap.push io).push eo).get? (s.heap.objs.size + 1) = some eo := sz ▸ Heap.get?_push_size (s.heap.push io) nf2
  show _ ∧ _
  rw [sz]
  refine ⟨⟨eo, at2, by rw [← he]⟩, want _ ⟨⟨.none, by rw [← he] at at2 ⊢; exact at2⟩, ⟨io, Heap.get?_push_of_some _ (Heap.get?_push_size _ nf), by rw [← ho], by rw [← ho]; rfl⟩, Nat.succ_ne_self _⟩ fun b o z => Heap.get?_push_of_some _ (Heap.get?_push_of_some _ z)⟩
def iEnumT (K : PySem.W.Frag) (ta : TA) : TI := fun σ H R => ta σ H fun vs H1 => ∃ a xs, vs = [.ref a] ∧ SqT K H1 a xs ∧ R (IteT K a) H1
theorem pi_enumT {X : Cx} {e : Expr} {ta : TA} {p pos tpos : Pos} {elts : List Expr} {kk : Nat} (hg : Gl X "enumerate") (hm : X.mg "enumerate" = none) (ha : PA X [e] ta) (hs : starEach [e] X.env = [(false, eval e X.env)] := by rfl) :
    PI X (.Tuple elts kk tpos) (.Call (.Name "enumerate" p) [e] [] pos) (iEnumT X.K ta) := by
  constructor
  intro pins s σ H R Iv want
  refine Call_ (ld_blt Iv hg hm boot_enumerate (PyProof.Rows.callWith_type1 (thn (ha.run pos pins s σ H _ Iv want) fun us s1 got => ?_) hs rfl))
  obtain ⟨vs, H1, I1, rels, a, xs, rfl, hxs, q⟩ := got
  rw [Vals.ref1 rels]
  obtain ⟨its, _, tup, _⟩ := I1.tuple hxs
  refine call_enumerate_tup (show s1.heap.IsTuple a its.toArray from tup) fun h1 E kept => wpAny_pyIter_enum E.ob.choose_spec ?_
  refine ⟨s1.heap.objs.size + 1, [s1.heap.objs.size + 1, s1.heap.objs.size], _, _, H1, rfl, I1.kept (t' := s1.toks) kept, turn_enumT a (s1.heap.objs.size + 1) s1.heap.objs.size, E, fun b hb => ?_, q⟩
  have above : s1.heap.objs.size ≤ b := by
    rcases two_of hb with rfl | rfl
    · exact Nat.le_succ _
    · exact Nat.le_refl _
  exact I1.fpOk above (I1.hok.fresh above)
/-- a loop over enumerate of a tuple -/
theorem for_enumT {K : PySem.W.Frag} {a : Addr} {xs : List V} {g : TG} {tb : TS} {D : Ends} {σ : L2.St} {H : Hp} (Pv : Nat → L2.St → Hp → Prop) (h0 : Pv 0 σ H) (hq : ∀ i σ H, Pv i σ H → SqT K H a xs)
    (hs : ∀ (i : Nat) (x : V) (T : Addr) (σ : L2.St) (H : Hp), xs[i]? = some x → Pv i σ H → H T = none → g (.ref T) σ (upd H T (.tup [.int (i : Int), x])) fun σ2 H2 => tb { D with nx := Pv (i + 1), ct := Pv (i + 1), bk := D.nx } σ2 H2) (hd : ∀ σ H, Pv xs.length σ H → D.nx σ H) :
    ∃ W : Nat → Nat → L2.St → Hp → Prop, (∃ m, W 0 m σ H) ∧ ∀ i m σ H, W i m σ H → ((IteT K a).stop i H ∧ D.nx σ H) ∨ ((IteT K a).go i H ∧ ∃ N : L2.St → Hp → Prop, (∀ σ' H', N σ' H' → ∃ m', m' < m ∧ W (i + 1) m' σ' H') ∧
      ∀ v H', (IteT K a).yld i H v H' → g v σ H' fun σ2 H2 => tb { D with nx := N, ct := N, bk := D.nx } σ2 H2) := by
  refine ⟨fun i m σ H => m + i = xs.length ∧ Pv i σ H, ⟨xs.length, Nat.add_zero _, h0⟩, ?_⟩
  rintro i m σ H ⟨em, p⟩
  have qx := hq i σ H p
  cases m with
  | zero =>
    have ei : i = xs.length := by omega
    subst ei
    exact .inl ⟨⟨xs, qx, rfl⟩, hd σ H p⟩
  | succ m =>
    refine .inr ⟨⟨xs, xs[i]'(by omega), qx, List.getElem?_eq_getElem (by omega)⟩, Pv (i + 1), fun σ' H' p' => ⟨m, Nat.lt_succ_self m, by omega, p'⟩, fun v H' y => ?_⟩
    obtain ⟨T, x', rfl, fresh, rfl, item⟩ := y
    exact hs i x' T σ H (item xs qx) p fresh
end K9

/-! KT -/
set_option Elab.async false
set_option linter.all false
set_option maxRecDepth 100000
set_option maxHeartbeats 4000000
/-! The text by its places; the names that are still built-in. -/
namespace K9
open PySem PySem.Spec PyProof.Rows L2
def topS (i : Nat) : Stmt := PySem.Challenge.pw_finecloud_k09_whole_alike.main.body.getD i (.Pass ⟨0, 0, 0, 0⟩)
abbrev sRows : Stmt := topS 1
abbrev sSigns : Stmt := topS 2
abbrev sProper : Stmt := topS 3
abbrev sTurns : Stmt := topS 4
abbrev sTurned : Stmt := topS 5
abbrev sMoved : Stmt := topS 6
abbrev sCorner : Stmt := topS 8
abbrev sSettled : Stmt := topS 9
abbrev sForms : Stmt := topS 10
abbrev sForm : Stmt := topS 11
abbrev sAlike : Stmt := topS 12
abbrev sNumber : Stmt := topS 14
abbrev sTake : Stmt := topS 15
abbrev sPick : Stmt := topS 16
abbrev sIsMoved : Stmt := topS 17
abbrev sLaw : Stmt := topS 18
/-- what the module's names hide of the built-ins: nothing -/
structure Gn (mg : Str → Option Value) : Prop where
  range : mg "range" = none
  len : mg "len" = none
  enumerate : mg "enumerate" = none
  zip : mg "zip" = none
  tuple : mg "tuple" = none
  min : mg "min" = none
  sorted : mg "sorted" = none
  set : mg "set" = none
  int : mg "int" = none
  abs : mg "abs" = none
/-! ### the rules with the written part named (within a comprehension's block the context is a bound one) -/
section
variable (K : PySem.W.Frag) {X : Cx} {tg : Expr}
theorem ixT (hK : X.K = K := by rfl) : IxR X (rIxT K) := hK ▸ ix_tup
theorem ixL (hK : X.K = K := by rfl) : IxR X (rIxL K) := hK ▸ ix_list
theorem slA (hK : X.K = K := by rfl) : SlR X (rSlA K) := hK ▸ sl_tupA
def rTupOf (K : PySem.W.Frag) : List V → Hp → VK → Prop := fun xs H Q => ∃ p ys, xs = [.ref p] ∧ ((SqL K H p ys ∧ ∀ l, H l = none → Q (.ref l) (upd H l (.tup ys))) ∨ (SqT K H p ys ∧ Q (.ref p) H))
theorem tupOf (hK : X.K = K := by rfl) : CallR X (.type "tuple") (rTupOf K) := hK ▸ call_tuple_of
/-- at a stand xs, in a list or in a tuple -/
def SqA (K : PySem.W.Frag) (H : Hp) (a : Addr) (xs : List V) : Prop := SqL K H a xs ∨ SqT K H a xs
def rLenS (K : PySem.W.Frag) : List V → Hp → VK → Prop := fun us H Q => ∃ a xs, us = [.ref a] ∧ SqA K H a xs ∧ Q (.int xs.length) H
theorem lenS (hK : X.K = K := by rfl) : CallR X (.builtin "len") (rLenS K) := hK ▸ call_len_seq
theorem sortQ (hu : X.A.units + 64 < cLine) (hK : X.K = K := by rfl) : CallR X (.builtin "sorted") (rSortQ K) := hK ▸ cr_sortQ hu
theorem minDc (hu : X.A.units + 64 < cLine) (hc : X.calm = true := by rfl) (hK : X.K = K := by rfl) : CallR X (.builtin "min") (rMinD K) := hK ▸ cr_minD hc hu
theorem eqD (hu : X.A.units + 64 < cLine) (hK : X.K = K := by rfl) : OpR X (compareOp .Eq) (rEqD K) := hK ▸ op_eqD hu
theorem neD (hu : X.A.units + 64 < cLine) (hK : X.K = K := by rfl) : OpR X (compareOp .NotEq) (rNeD K) := hK ▸ op_neD hu
theorem notIn (hK : X.K = K := by rfl) : OpR X (compareOp .NotIn) (rIn K true) := hK ▸ op_notIn_seq
theorem pgT (n : Nat) {es : List Expr} {k : Nat} {t : TGs} {pos : Pos} (h : PGs X es t) (hc : X.calm = true := by rfl) (hK : X.K = K := by rfl)
    (hn : (assignEach es X.env).length = n := by rfl) (hst : (assignEach es X.env).findIdx? (·.1) = none := by rfl) : PG X (.Tuple es k pos) (gTup K n t) := hK ▸ pg_tup hc h hn hst
theorem piL {l : Expr} {tl : TE} (hl : PE X l tl) (hK : X.K = K := by rfl) : PI X tg l (iList K tl) := hK ▸ pi_list hl
theorem piT {l : Expr} {tl : TE} (hl : PE X l tl) (hK : X.K = K := by rfl) : PI X tg l (iTup K tl) := hK ▸ pi_tup hl
theorem piZ {e e2 : Expr} {ta : TA} {p pos tpos : Pos} {elts : List Expr} {kk : Nat} (hg : Gl X "zip") (hm : X.mg "zip" = none) (ha : PA X [e, e2] ta) (hK : X.K = K := by rfl) (hs : starEach [e, e2] X.env = (false, eval e X.env) :: starEach [e2] X.env := by rfl) (hpl : (backTo pos (starEach [e2] X.env)).any (·.1) = false := by rfl) :
    PI X (.Tuple elts kk tpos) (.Call (.Name "zip" p) [e, e2] [] pos) (RZ.iZipA K ta) := hK ▸ RZ.pi_zipA hg hm ha hs hpl
theorem piE {e : Expr} {ta : TA} {p pos tpos : Pos} {elts : List Expr} {kk : Nat} (hg : Gl X "enumerate") (hm : X.mg "enumerate" = none) (ha : PA X [e] ta) (hK : X.K = K := by rfl) (hs : starEach [e] X.env = [(false, eval e X.env)] := by rfl) :
    PI X (.Tuple elts kk tpos) (.Call (.Name "enumerate" p) [e] [] pos) (iEnumT K ta) := hK ▸ pi_enumT hg hm ha hs
theorem paStar {e : Expr} {es : List Expr} {p : Pos} {te : TE} {t : TA} (he : PE X e te) (hes : PA X es t) (hK : X.K = K := by rfl) (hs : starEach (.Starred e p :: es) X.env = (true, eval e X.env) :: starEach es X.env := by rfl) : PA X (.Starred e p :: es) (StX.tStar K te t) := hK ▸ StX.pa_star he hes hs
end
end K9

/-! KR4 -/
set_option Elab.async false
set_option linter.all false
set_option maxRecDepth 100000
set_option maxHeartbeats 4000000
/-! A list or a tuple, walked and read alike; sums of two tuples by zip; scopes of comprehensions by places; what is known of a def. -/
namespace K9
open PySem PySem.Spec PyProof.Rows L2
/-- a def of the text: what stands at its address, its name, how its arguments bind -/
structure Dfn (K : PySem.W.Frag) (mg : Str → Option Value) (x : Str) (st : Stmt) (ps : List Str) (f : Addr) (fd : FuncData) : Prop where
  F : Fun K x x st f fd
  g : mg x = some (.ref f)
  b : Binds K fd ps []

/-! ### scopes by places -/
def lcs : Expr → Scope
  | .ListComp _ _ sc _ => sc
  | _ => { kind := .function, names := [], isGenerator := false, isCoroutine := false }
def arg0 : Expr → Expr
  | .Call _ (a :: _) _ _ => a
  | e => e
def retE : Stmt → Expr
  | .Return (some e) _ => e
  | _ => .Name "?" ⟨0, 0, 0, 0⟩
def asgE : Stmt → Expr
  | .Assign _ e _ => e
  | _ => .Name "?" ⟨0, 0, 0, 0⟩
def eltE : Expr → Expr
  | .ListComp e _ _ _ => e
  | e => e
def bodyAt (st : Stmt) (i : Nat) : Stmt := (defBody st).getD i (.Pass ⟨0, 0, 0, 0⟩)
def forAt (st : Stmt) (i : Nat) : Stmt := match st with
  | .For _ _ body _ _ => body.getD i (.Pass ⟨0, 0, 0, 0⟩)
  | _ => .Pass ⟨0, 0, 0, 0⟩

/-! ### a list or a tuple -/
section
variable {K : PySem.W.Frag} {H H' H1 : Hp} {a : Addr} {xs : List V}
theorem SqA.same (h : SqA K H a xs) (e : Same H H') : SqA K H' a xs := h.elim (fun h => .inl (e.seq h)) (fun h => .inr (seqT_same e h))
def WJ (K : PySem.W.Frag) (H : Hp) (a : Addr) (xs : List V) (J : It) : Prop := (J = Itl K a ∧ SqL K H a xs) ∨ (J = Itt K a ∧ SqT K H a xs)
theorem SqA.wj (h : SqA K H a xs) : ∃ J, WJ K H a xs J := h.elim (fun h => ⟨_, .inl ⟨rfl, h⟩⟩) (fun h => ⟨_, .inr ⟨rfl, h⟩⟩)
def iAny (K : PySem.W.Frag) (tl : TE) : TI := fun σ H R => tl σ H fun x H1 => ∃ a xs, x = .ref a ∧ SqA K H1 a xs ∧ ∀ J, WJ K H1 a xs J → R J H1
theorem piA (K : PySem.W.Frag) {X : Cx} {tg l : Expr} {tl : TE} (hl : PE X l tl) (hK : X.K = K := by rfl) : PI X tg l (iAny K tl) := by
  subst hK
  refine ⟨fun pins s σ H R Iv want => thn (hl.run pins s σ H _ Iv want) fun v s1 got => ?_⟩
  obtain ⟨x, H1, I1, r1, a, xs, rfl, hq, q⟩ := got
  cases r1
  have fp : ∀ b ∈ [s1.heap.objs.size], FpOk X pins H1 b := fun b hb => by
    cases List.mem_singleton.mp hb
    exact I1.fpOk (Nat.le_refl s1.heap.objs.size) (I1.hok.fresh (Nat.le_refl s1.heap.objs.size))
  rcases hq with hq | hq
  · obtain ⟨its, rv, p, hz⟩ := I1.list hq
    refine wpAny_pyIter_list p.isList ?_
    exact ⟨s1.heap.objs.size, [s1.heap.objs.size], _, _, H1, rfl, I1.kept (t' := s1.toks) fun b o e => Heap.get?_push_of_some _ e, turn_list a _, ⟨_, Heap.get?_push_size _ rfl, rfl, rfl⟩, fp, q _ (.inl ⟨rfl, hq⟩)⟩
  · obtain ⟨its, rv, p, hz⟩ := I1.tuple hq
    refine wpAny_pyIter_tuple (show s1.heap.IsTuple a its.toArray from p) ?_
    exact ⟨s1.heap.objs.size, [s1.heap.objs.size], _, _, H1, rfl, I1.kept (t' := s1.toks) fun b o e => Heap.get?_push_of_some _ e, turn_tuple a _, ⟨_, Heap.get?_push_size _ rfl, rfl, rfl⟩, fp, q _ (.inr ⟨rfl, hq⟩)⟩
def rIxA (K : PySem.W.Frag) : R2 := fun x y H Q => ∃ p xs i v, x = .ref p ∧ y = .int i ∧ SqA K H p xs ∧ atI xs i = some v ∧ Q v H
theorem ixA (K : PySem.W.Frag) {X : Cx} (hK : X.K = K := by rfl) : IxR X (rIxA K) := by
  subst hK
  intro value slice pins s σ H x y v u Q I rx ry h hs
  obtain ⟨p, xs, i, z, e1, e2, hq, he, q⟩ := h
  rcases hq with hq | hq
  · exact ix_list value slice pins s σ H x y v u Q I rx ry ⟨p, xs, i, z, e1, e2, hq, he, q⟩ hs
  · exact ix_tup value slice pins s σ H x y v u Q I rx ry ⟨p, xs, i, z, e1, e2, hq, he, q⟩ hs
end
section
variable {n : Nat} {g : TG} {tt : TT} {te : TE} {vs : List Nat} {σ : L2.St} {H1 : Hp} {D : Addr} {Qd : Hp → Prop} {K : PySem.W.Frag} {a b : Addr} {xs ys : List V}
theorem lc_ma (ds : List PyData) {J : It} (hJ : WJ K H1 a xs J) (hF : tupA ds = true) (hl : xs.length = ds.length) (hn : xs.length ≤ 1000) (hD : H1 D = none)
    (hs : ∀ (i : Nat) x d H, xs[i]? = some x → ds[i]? = some d → Same H1 H → ∀ (Qt : Hp → Prop) (Qe : V → Hp → Prop), (∀ y H4, Same H H4 → Dp K H4 y d → Qe y H4) →
      g x (wipe σ vs) H fun σ2 H2 => wipe σ2 vs = wipe σ vs ∧ tt σ2 H2 fun b H3 => if b = true then te σ2 H3 Qe else Qt H3)
    (hd : ∀ H acc, Same H1 H → H D = some (.lst acc) → DpAll K H acc ds → Qd H) : LcW J g tt te vs σ H1 D Qd := by
  rcases hJ with ⟨rfl, hq⟩ | ⟨rfl, hq⟩
  · exact lc_ml ds hF hl hn hD hq hs hd
  · exact lc_mt ds hF hl hn hD hq hs hd
theorem tupA_ints (ns : List Int) : tupA (ns.map PyData.int) = true := tupA_all fun d hd => by
  obtain ⟨i, _, rfl⟩ := List.mem_map.mp hd
  simp [tupO]
theorem tupA_pts (P : Row) : tupA (P.map ptD) = true := tupA_all fun d hd => by
  obtain ⟨i, _, rfl⟩ := List.mem_map.mp hd
  exact tup_pt i
/-- two tuples of ints, place by place -/
theorem lc_zi (f : Int → Int → Int) (ns ms : List Int) (hl : ns.length = ms.length) (hn : ns.length ≤ 1000) (hD : H1 D = none) (hq : SqT K H1 a (ns.map V.int)) (hq2 : SqT K H1 b (ms.map V.int))
    (hs : ∀ (x y : Int) T H, Same H1 H → H T = none → ∀ (Qt : Hp → Prop) (Qe : V → Hp → Prop), Qe (.int (f x y)) (upd H T (.tup [.int x, .int y])) →
      g (.ref T) (wipe σ vs) (upd H T (.tup [.int x, .int y])) fun σ2 H2 => wipe σ2 vs = wipe σ vs ∧ tt σ2 H2 fun b H3 => if b = true then te σ2 H3 Qe else Qt H3)
    (hd : ∀ H, Same H1 H → H D = some (.lst ((List.zipWith f ns ms).map V.int)) → Qd H) : LcW (RZ.ItzT K a b) g tt te vs σ H1 D Qd := by
  refine lc_mz ((List.zipWith f ns ms).map PyData.int) (tupA_ints _) (by rw [List.length_map, List.length_map, List.length_zipWith]; omega) (by rw [List.length_map, List.length_map]; exact hl) (by rw [List.length_map]; exact hn) hD hq hq2
    (fun i x y c T H hx hy hc s hT Qt Qe k => ?_) fun H acc s hA hdp => hd H s (by rw [dpa_ints hdp] at hA; exact hA)
  have hi : i < ns.length := by
    have := (List.getElem?_eq_some_iff.mp hx).1
    rwa [List.length_map] at this
  rw [List.getElem?_map, List.getElem?_eq_getElem hi] at hx
  rw [List.getElem?_map, List.getElem?_eq_getElem (by omega)] at hy
  rw [List.getElem?_map, List.getElem?_zipWith, List.getElem?_eq_getElem hi, List.getElem?_eq_getElem (by omega)] at hc
  have e1 := Option.some.inj hx
  have e2 := Option.some.inj hy
  have e3 : PyData.int (f ns[i] ms[i]) = c := Option.some.inj hc
  subst e1 e2 e3
  exact hs _ _ T H s hT Qt Qe (k _ _ (same_upd hT) (.int _))
end

/-! ### what the def asks of rows -/
theorem map_get {α β : Type} {f : α → β} {l : List α} {i : Nat} {y : β} (h : (l.map f)[i]? = some y) : ∃ hi : i < l.length, y = f l[i] := by
  have hi : i < l.length := by
    have := (List.getElem?_eq_some_iff.mp h).1
    rwa [List.length_map] at this
  rw [List.getElem?_map, List.getElem?_eq_getElem hi] at h
  exact ⟨hi, (Option.some.inj h).symm⟩
theorem pts_get {K : PySem.W.Frag} {H : Hp} {xs : List V} {Q : Row} {i : Nat} {x : V} (h : DpAll K H xs (Q.map ptD)) (hx : xs[i]? = some x) : ∃ hi : i < Q.length, Dp K H x (ptD Q[i]) := by
  obtain ⟨d, h1, h2⟩ := dpa_get h hx
  obtain ⟨hi, rfl⟩ := map_get h1
  exact ⟨hi, h2⟩
theorem pts_len {K : PySem.W.Frag} {H : Hp} {xs : List V} {Q : Row} (h : DpAll K H xs (Q.map ptD)) : xs.length = Q.length := by rw [dpa_len h, List.length_map]
/-- a row of points: 1 to 63 points of d places, d from 1 to 3 -/
structure ROk (d : Nat) (Q : Row) : Prop where
  dim : Dim d Q
  ne : Q ≠ []
  h1 : 1 ≤ d
  h3 : d ≤ 3
  len : Q.length ≤ 63
theorem ROk.first {d : Nat} {Q : Row} (r : ROk d Q) {K : PySem.W.Frag} {H : Hp} {xs : List V} (h : DpAll K H xs (Q.map ptD)) : ∃ x b p, xs[0]? = some x ∧ x = .ref b ∧ SqT K H b (p.map V.int) ∧ Q[0]? = some p ∧ p.length = d := by
  cases Q with
  | nil => exact absurd rfl r.ne
  | cons p P =>
    have h' : DpAll K H xs (ptD p :: P.map ptD) := h
    cases h' with
    | cons a t =>
      obtain ⟨b, rfl, hb⟩ := dp_pt a
      exact ⟨_, b, p, rfl, rfl, hb, rfl, r.dim p List.mem_cons_self⟩
end K9

/-! KD1 -/
set_option Elab.async false
set_option linter.all false
set_option maxRecDepth 100000
set_option maxHeartbeats 4000000
namespace K9
open PySem PySem.Spec PyProof.Rows L2
section
variable {P : Program} {w : World} {K : PySem.W.Frag} {mg : Str → Option Value} {base : Heap}
abbrev nTurned : List Str := ["point", "turn", "axes", "signs", "axis", "sign"]
theorem scTurned : FnScope nTurned ["point", "turn"] (defScope sTurned) := ⟨rfl, rfl, rfl, by decide +kernel, rfl, by decide +kernel, by decide +kernel⟩
def spTurned (K : PySem.W.Frag) : Sp := fun vs H Q _ => ∃ (x y : V) (p : Pt) (t : Tn) (d : Nat), vs = [x, y] ∧ Dp K H x (ptD p) ∧ Dp K H y (tnD t) ∧ TOk d t ∧ p.length = d ∧ d ≤ 3 ∧
  ∀ z H', Same H H' → Dp K H' z (ptD (turned p t)) → Q z H'
theorem ok_turned {f : Addr} {fd : FuncData} (F : Fun K "turned_by" "turned_by" sTurned f fd) (T : Gn mg) : FnOk P w K mg base CX0 1 f fd ["point", "turn"] (spTurned K) := by
  refine F.ok scTurned (fun vs H Q E h => ?_) (fun cdv A outer s H vs Q E hr h => ?_)
  · obtain ⟨x, y, p, t, d, rfl, _⟩ := h
    rfl
  · obtain ⟨x, y, p, t, d, rfl, hx, hy, kt, hp, h3, q⟩ := h
    have nd := scTurned.nd
    refine ⟨_, pss_cons (ps_asg (pv 1) (pgT K 2 (pgs_cons (pg_name (i := 2) nd rfl (Or.inl rfl)) (pgs_cons (pg_name (i := 3) nd rfl (Or.inl rfl)) pgs_nil))))
      (pss_one (ps_ret (pe_callTy (tupOf K) (by rfl) T.tuple boot_tuple (pa_cons
        (pe_lc (own := [("axis", 4), ("sign", 5)]) rfl nd (piZ K (by rfl) T.zip (pa_cons (pv 2) (pa_cons (pv 3) pa_nil))) (blkOk_by (N := nTurned) (sc := defScope sTurned) (by decide +kernel))
          (fun _ _ _ _ _ => pgT K 2 (pgs_cons (pg_name (i := 4) nd rfl (Or.inl rfl)) (pgs_cons (pg_name (i := 5) nd rfl (Or.inl rfl)) pgs_nil)))
          (fun _ _ _ _ _ => pts_nil) (fun _ _ _ _ _ => pe_op op_mul (pv 5) (pe_ix (ixT K) (pv 0) (pv 4) (fun _ _ => rfl)))) pa_nil)))), ?_⟩
    obtain ⟨a, rfl, hxs⟩ := dp_pt hx
    obtain ⟨b, y1, y2, rfl, hys, h1, h2⟩ := dp_tn hy
    obtain ⟨b1, rfl, hb1⟩ := dp_pt h1
    obtain ⟨b2, rfl, hb2⟩ := dp_pt h2
    refine ⟨_, rfl, b, _, rfl, hys, rfl, _, _, rfl, _, _, rfl, rfl, ?_⟩
    refine ⟨_, rfl, _, rfl, b1, b2, _, _, rfl, .inr ⟨hb1, hb2, fun D hD => ?_⟩⟩
    have l1 := kt.la
    have l2 := kt.ls
    have lt := turned_length kt p
    refine lc_mz ((turned p t).map PyData.int) (by simpa [ptD, tupO] using tup_pt (turned p t)) (by rw [List.length_map, List.length_map, l1, lt]) (by rw [List.length_map, List.length_map, l1, l2]) (by rw [List.length_map, l1]; omega) hD hb1 hb2
      (fun i x y c T' H2 hx1 hy1 hc s2 hT Qt Qe k2 => ?_) fun H2 acc s2 hA hdp => ?_
    · have hi : i < d := by
        have := (List.getElem?_eq_some_iff.mp hx1).1
        rw [List.length_map] at this
        omega
      rw [List.getElem?_map, List.getElem?_eq_getElem (by omega)] at hx1 hy1 hc
      have e1 := Option.some.inj hx1
      have e2 := Option.some.inj hy1
      have e3 := Option.some.inj hc
      subst e1 e2 e3
      have ha1 : t.1[i] ∈ t.1 := List.getElem_mem _
      obtain ⟨a0, a1⟩ := kt.ax _ ha1
      have hs1 := kt.sg (t.2[i]) (List.getElem_mem _)
      have sT : Same H2 (upd H2 T' (.tup [V.int t.1[i], V.int t.2[i]])) := same_upd hT
      refine ⟨T', _, rfl, .inl (.inl upd_same), rfl, _, _, rfl, _, _, rfl, rfl, rfl, _, rfl, _, rfl, _, rfl, a, _, t.1[i], _, rfl, rfl, seqT_same (s2.trans sT) hxs, at_of (j := (t.1[i]).toNat) (by omega) (by rw [List.getElem?_map, List.getElem?_eq_getElem (show (t.1[i]).toNat < p.length by omega)]; rfl), _, _, rfl, rfl, ?_, ?_⟩
      · left
        rcases hs1 with e | e <;> rw [e] <;> decide
      · refine k2 _ _ sT ?_
        have e := turned_getD kt p hi
        simp only [List.getD_eq_getElem?_getD] at e
        rw [List.getElem?_eq_getElem (show i < (turned p t).length by omega), List.getElem?_eq_getElem (show i < t.1.length by omega), List.getElem?_eq_getElem (show i < t.2.length by omega)] at e
        simp only [Option.getD_some] at e
        rw [List.getElem?_eq_getElem (show (t.1[i]).toNat < p.length by omega)] at e
        simp only [Option.getD_some] at e
        rw [e]
        exact .int _
    · rw [dpa_ints hdp] at hA
      exact ⟨D, _, rfl, .inl ⟨.inl (.inl hA), fun l hl => q _ _ (s2.trans (same_upd hl)) (pt_dp (.inl (.inl upd_same)))⟩⟩
end
end K9

/-! KD2 -/
set_option Elab.async false
set_option linter.all false
set_option maxRecDepth 100000
set_option maxHeartbeats 4000000
namespace K9
open PySem PySem.Spec PyProof.Rows L2
section
variable {P : Program} {w : World} {K : PySem.W.Frag} {mg : Str → Option Value} {base : Heap}
abbrev nMoved : List Str := ["point", "motion", "turn", "shift", "place", "more"]
theorem scMoved : FnScope nMoved ["point", "motion"] (defScope sMoved) := ⟨rfl, rfl, rfl, by decide +kernel, rfl, by decide +kernel, by decide +kernel⟩
def moD (t : Tn) (s : Pt) : PyData := .tuple [tnD t, ptD s]
def spMoved (K : PySem.W.Frag) : Sp := fun vs H Q _ => ∃ (x y : V) (p : Pt) (t : Tn) (u : Pt) (d : Nat), vs = [x, y] ∧ Dp K H x (ptD p) ∧ Dp K H y (moD t u) ∧ TOk d t ∧ p.length = d ∧ u.length = d ∧ d ≤ 3 ∧
  ∀ z H', Same H H' → Dp K H' z (ptD (addP (turned p t) u)) → Q z H'
theorem ok_moved {f fT : Addr} {fd fdT : FuncData} (D : Dfn K mg "moved" sMoved ["point", "motion"] f fd) (DT : Dfn K mg "turned_by" sTurned ["point", "turn"] fT fdT) (T : Gn mg) : FnOk P w K mg base CX0 2 f fd ["point", "motion"] (spMoved K) := by
  have GT : FnOk P w K mg base CX0 1 fT fdT ["point", "turn"] (spTurned K) := ok_turned DT.F T
  refine D.F.ok scMoved (fun vs H Q E h => ?_) (fun cdv A outer s H vs Q E hr h => ?_)
  · obtain ⟨x, y, p, t, u, d, rfl, _⟩ := h
    rfl
  · obtain ⟨x, y, p, t, u, d, rfl, hx, hy, kt, hp, hu, h3, q⟩ := h
    have nd := scMoved.nd
    refine ⟨_, pss_cons (ps_asg (pv 1) (pgT K 2 (pgs_cons (pg_name (i := 2) nd rfl (Or.inl rfl)) (pgs_cons (pg_name (i := 3) nd rfl (Or.inl rfl)) pgs_nil))))
      (pss_one (ps_ret (pe_callTy (tupOf K) (by rfl) T.tuple boot_tuple (pa_cons
        (pe_lc (own := [("place", 4), ("more", 5)]) rfl nd (piZ K (by rfl) T.zip (pa_cons (pe_call GT hr (by rfl) DT.g DT.F.kp DT.b .nil pass0 (pa_cons (pv 0) (pa_cons (pv 2) pa_nil))) (pa_cons (pv 3) pa_nil))) (blkOk_by (N := nMoved) (sc := defScope sMoved) (by decide +kernel))
          (fun _ _ _ _ _ => pgT K 2 (pgs_cons (pg_name (i := 4) nd rfl (Or.inl rfl)) (pgs_cons (pg_name (i := 5) nd rfl (Or.inl rfl)) pgs_nil)))
          (fun _ _ _ _ _ => pts_nil) (fun _ _ _ _ _ => pe_op op_add (pv 4) (pv 5))) pa_nil)))), ?_⟩
    obtain ⟨b, xs, rfl, hys, hda⟩ := dp_tup hy
    cases hda with
    | cons h1 t1 =>
      cases t1 with
      | cons h2 t2 =>
        cases t2
        obtain ⟨b2, rfl, hb2⟩ := dp_pt h2
        refine ⟨_, rfl, b, _, rfl, hys, rfl, _, _, rfl, _, _, rfl, rfl, ?_⟩
        refine ⟨_, rfl, _, rfl, _, _, p, t, d, rfl, hx, h1, kt, hp, h3, fun z H1 s1 hz => ?_⟩
        obtain ⟨b3, rfl, hb3⟩ := dp_pt hz
        have lt := turned_length kt p
        refine ⟨_, rfl, b3, b2, _, _, rfl, .inr ⟨hb3, seqT_same s1 hb2, fun D2 hD => ?_⟩⟩
        refine lc_zi (fun x y => x + y) (turned p t) u (by omega) (by omega) hD hb3 (seqT_same s1 hb2) (fun x y T' H2 s2 hT Qt Qe k => ?_) fun H2 s2 hA => ?_
        · exact ⟨T', _, rfl, .inl (.inl upd_same), rfl, _, _, rfl, _, _, rfl, rfl, rfl, _, rfl, _, rfl, _, _, rfl, rfl, k⟩
        · exact ⟨D2, _, rfl, .inl ⟨.inl (.inl hA), fun l hl => q _ _ (s1.trans (s2.trans (same_upd hl))) (pt_dp (.inl (.inl upd_same)))⟩⟩
end
end K9

/-! KD3 -/
set_option Elab.async false
set_option linter.all false
set_option maxRecDepth 100000
set_option maxHeartbeats 4000000
namespace K9
open PySem PySem.Spec PyProof.Rows L2
section
variable {P : Program} {w : World} {K : PySem.W.Frag} {mg : Str → Option Value} {base : Heap}
abbrev nCorner : List Str := ["points", "axis", "point"]
theorem scCorner : FnScope nCorner ["points"] (defScope sCorner) := ⟨rfl, rfl, rfl, by decide +kernel, rfl, by decide +kernel, by decide +kernel⟩
def minC (K : PySem.W.Frag) {X : Cx} (hc : X.calm = true) (hK : X.K = K := by rfl) : CallR X (.builtin "min") (rMin K) := hK ▸ cr_min hc
abbrev scoCorner : Scope := lcs (arg0 (retE (bodyAt sCorner 0)))
def spCorner (K : PySem.W.Frag) : Sp := fun vs H Q _ => ∃ (a : Addr) (xs : List V) (R : Row) (d : Nat), vs = [.ref a] ∧ SqA K H a xs ∧ DpAll K H xs (R.map ptD) ∧ ROk d R ∧
  ∀ z H', Same H H' → Dp K H' z (ptD (corner R)) → Q z H'
theorem ok_corner {f : Addr} {fd : FuncData} (D : Dfn K mg "corner_of" sCorner ["points"] f fd) (T : Gn mg) : FnOk P w K mg base CX0 1 f fd ["points"] (spCorner K) := by
  refine D.F.ok scCorner (fun vs H Q E h => ?_) (fun cdv A outer s H vs Q E hr h => ?_)
  · obtain ⟨a, xs, R, d, rfl, _⟩ := h
    rfl
  · obtain ⟨a, xs, R, d, rfl, ha, hd, ok, q⟩ := h
    have nd := scCorner.nd
    refine ⟨_, pss_one (ps_ret (pe_callTy (tupOf K) (by rfl) T.tuple boot_tuple (pa_cons
        (pe_lc (own := [("axis", 1)]) (g := gName 1) (tt := tYes) rfl nd (pi_range1 (by rfl) T.range (pa_cons (pe_callB (lenS K) (by rfl) T.len PySem.boot_len (pa_cons (pe_ix (ixA K) (pv 0) pe_int (fun _ _ => rfl)) pa_nil)) pa_nil)) (blkOk_by (N := nCorner) (sc := defScope sCorner) (by decide +kernel))
          (fun _ _ _ _ _ => pg_name (i := 1) nd rfl (Or.inr rfl)) (fun _ _ _ _ _ => pts_nil)
          (fun _ _ _ _ _ => pe_callB (minC K rfl) (by rfl) T.min boot_min (pa_cons
            (pe_lc (own := [("point", 2)]) (g := gName 2) (tt := tYes) rfl nd (piA K (pv 0)) (blkOk_by (N := nCorner) (sc := relS scoCorner (defScope sCorner)) (by decide +kernel))
              (fun _ _ _ _ _ => pg_name (i := 2) nd rfl (Or.inl rfl)) (fun _ _ _ _ _ => pts_nil)
              (fun _ _ _ _ _ => pe_ix (ixT K) (pv 2) (pv 1) (fun _ _ => rfl))) pa_nil))) pa_nil))), ?_⟩
    obtain ⟨x0, b0, p0, hx0, rfl, hb0, hp0, hl0⟩ := ok.first hd
    have h3 := ok.h3
    have ec := corner_length ok.dim ok.ne
    refine ⟨_, rfl, a, xs, 0, _, rfl, rfl, ha, atI_nat (j := 0) hx0, b0, _, rfl, .inr hb0, ((d : Nat) : Int), ?_, by omega, by omega, fun D2 hD => ?_⟩
    · rw [List.length_map, hl0]
    show LcW (Itr 0 ((d : Nat) : Int).toNat) _ _ _ _ _ _ _ _
    rw [Int.toNat_natCast]
    refine lc_mr (K := K) ((corner R).map PyData.int) (tupA_ints _) (by rw [List.length_map, ec]) (by omega) hD (fun i c H2 hi hc s2 Qt Qe k => ?_) fun H2 acc s2 hA hdp => ?_
    · refine ⟨rfl, ?_⟩
      refine ⟨_, rfl, a, xs, rfl, ha.same s2, fun J hJ D3 hD3 => ?_⟩
      have hxl := pts_len hd
      have hlen := ok.len
      refine lc_ma ((R.map fun p => p.getD i 0).map PyData.int) hJ (tupA_ints _) (by rw [List.length_map, List.length_map, hxl]) (by omega) hD3 (fun j x c' H3 hx hc' s3 Qt' Qe' k' => ?_) fun H3 acc s3 hA3 hdp3 => ?_
      · obtain ⟨hj, hxp⟩ := pts_get (dpa_same (s2.trans s3) hd) hx
        obtain ⟨b, rfl, hb⟩ := dp_pt hxp
        obtain ⟨hj2, rfl⟩ := map_get hc'
        have hpl : (R[j]).length = d := ok.dim _ (List.getElem_mem _)
        refine ⟨rfl, _, rfl, _, rfl, b, _, 0 + (i : Int), V.int (R[j])[i], rfl, rfl, hb, at_of (j := i) (by omega) (by rw [List.getElem?_map, List.getElem?_eq_getElem (by omega)]; rfl), k' _ _ (Same.refl _) ?_⟩
        rw [List.getElem_map, List.getD_eq_getElem?_getD, List.getElem?_eq_getElem (by omega)]
        exact .int _
      · rw [dpa_ints hdp3] at hA3
        refine ⟨D3, _, rfl, .inl (.inl hA3), ?_, fun m hm hle => k _ _ s3 ?_⟩
        · rw [List.length_map]
          exact List.length_pos_iff.mpr ok.ne
        · obtain ⟨hi2, rfl⟩ := map_get hc
          have e : (corner R)[i] = m := by
            have e1 := corner_getD ok.dim ok.ne hi
            rw [List.getD_eq_getElem?_getD, List.getElem?_eq_getElem hi2] at e1
            rw [show (corner R)[i] = minI (R.map fun p => p.getD i 0) from e1]
            exact minI_uniq hm hle
          rw [e]
          exact .int _
    · rw [dpa_ints hdp] at hA
      exact ⟨D2, _, rfl, .inl ⟨.inl (.inl hA), fun l hl => q _ _ (s2.trans (same_upd hl)) (pt_dp (.inl (.inl upd_same)))⟩⟩
end
end K9

/-! KD4 -/
set_option Elab.async false
set_option linter.all false
set_option maxRecDepth 100000
set_option maxHeartbeats 4000000
namespace K9
open PySem PySem.Spec PyProof.Rows L2
section
variable {P : Program} {w : World} {K : PySem.W.Frag} {mg : Str → Option Value} {base : Heap}
abbrev nSettled : List Str := ["points", "shift", "rows", "place", "point", "more"]
theorem scSettled : FnScope nSettled ["points"] (defScope sSettled) := ⟨rfl, rfl, rfl, by decide +kernel, rfl, by decide +kernel, by decide +kernel⟩
abbrev scoSettled : Scope := lcs (asgE (bodyAt sSettled 1))
def seD (R : Row) : PyData := .tuple [rowD (settledR R), ptD (shiftOf R)]
def spSettled (K : PySem.W.Frag) : Sp := fun vs H Q _ => ∃ (a : Addr) (xs : List V) (R : Row) (d : Nat), vs = [.ref a] ∧ SqA K H a xs ∧ DpAll K H xs (R.map ptD) ∧ ROk d R ∧
  ∀ z H', Same H H' → Dp K H' z (seD R) → Q z H'
theorem ok_settled {f fC : Addr} {fd fdC : FuncData} (D : Dfn K mg "settled" sSettled ["points"] f fd) (DC : Dfn K mg "corner_of" sCorner ["points"] fC fdC) (T : Gn mg) : FnOk P w K mg base CX0 2 f fd ["points"] (spSettled K) := by
  have GC : FnOk P w K mg base CX0 1 fC fdC ["points"] (spCorner K) := ok_corner DC T
  refine D.F.ok scSettled (fun vs H Q E h => ?_) (fun cdv A outer s H vs Q E hr h => ?_)
  · obtain ⟨a, xs, R, d, rfl, _⟩ := h
    rfl
  · obtain ⟨a, xs, R, d, rfl, ha, hd, ok, q⟩ := h
    have nd := scSettled.nd
    refine ⟨_, pss_cons (ps_set (i := 1) nd rfl (Or.inr rfl) (pe_callTy (tupOf K) (by rfl) T.tuple boot_tuple (pa_cons
        (pe_lc (own := [("place", 3)]) (g := gName 3) (tt := tYes) rfl nd (piT K (pe_call GC hr (by rfl) DC.g DC.F.kp DC.b .nil pass0 (pa_cons (pv 0) pa_nil))) (blkOk_by (N := nSettled) (sc := defScope sSettled) (by decide +kernel))
          (fun _ _ _ _ _ => pg_name (i := 3) nd rfl (Or.inl rfl)) (fun _ _ _ _ _ => pts_nil) (fun _ _ _ _ _ => pe_un un_neg (pv 3))) pa_nil)))
      (pss_cons (ps_setLc (i := 2) (own := [("point", 4)]) (g := gName 4) (tt := tYes) rfl nd rfl rfl (sw_true rfl rfl rfl (by decide +kernel)) (piA K (pv 0)) (blkOk_by (N := nSettled) (sc := defScope sSettled) (by decide +kernel))
          (fun _ _ _ _ _ => pg_name (i := 4) nd rfl (Or.inl rfl)) (fun _ _ _ _ _ => pts_nil)
          (fun _ _ _ _ _ => pe_callTy (tupOf K) (by rfl) T.tuple boot_tuple (pa_cons
            (pe_lc (own := [("place", 3), ("more", 5)]) (g := gTup K 2 (gCons (gName 3) (gCons (gName 5) gNil))) (tt := tYes) rfl nd (piZ K (by rfl) T.zip (pa_cons (pv 4) (pa_cons (pv 1) pa_nil))) (blkOk_by (N := nSettled) (sc := relS scoSettled (defScope sSettled)) (by decide +kernel))
              (fun _ _ _ _ _ => pgT K 2 (pgs_cons (pg_name (i := 3) nd rfl (Or.inl rfl)) (pgs_cons (pg_name (i := 5) nd rfl (Or.inl rfl)) pgs_nil))) (fun _ _ _ _ _ => pts_nil)
              (fun _ _ _ _ _ => pe_op op_add (pv 3) (pv 5))) pa_nil)))
      (pss_one (ps_ret (pe_tup (pa_cons (pe_callTy (tupOf K) (by rfl) T.tuple boot_tuple (pa_cons (pe_callB (sortQ K hr.units) (by rfl) T.sorted boot_sorted (pa_cons (pv 2) pa_nil)) pa_nil)) (pa_cons (pv 1) pa_nil)))))), ?_⟩
    have h1 := ok.h1
    have h3 := ok.h3
    have hlen := ok.len
    have hxl := pts_len hd
    have ec := corner_length ok.dim ok.ne
    have es := shiftOf_length ok.dim ok.ne
    -- shift = tuple([-place for place in corner_of(points)])
    refine ⟨_, rfl, a, xs, R, d, rfl, ha, hd, ok, fun z H1 s1 hz => ?_⟩
    obtain ⟨b1, rfl, hb1⟩ := dp_pt hz
    refine ⟨b1, rfl, ⟨_, hb1⟩, fun D1 hD1 => ?_⟩
    refine lc_mt ((shiftOf R).map PyData.int) (tupA_ints _) (by rw [List.length_map, List.length_map, ec, es]) (by rw [List.length_map]; omega) hD1 hb1 (fun i x c H2 hx hc s2 Qt Qe k => ?_) fun H2 acc s2 hA hdp => ?_
    · obtain ⟨hi, rfl⟩ := map_get hx
      obtain ⟨hi2, rfl⟩ := map_get hc
      refine ⟨rfl, _, rfl, _, rfl, k _ _ (Same.refl _) ?_⟩
      rw [show (shiftOf R)[i] = -(corner R)[i] from List.getElem_map ..]
      exact .int _
    rw [dpa_ints hdp] at hA
    refine ⟨D1, _, rfl, .inl ⟨.inl (.inl hA), fun b2 hb2 => ?_⟩⟩
    have s12 : Same H (upd H2 b2 (.tup ((shiftOf R).map V.int))) := s1.trans (s2.trans (same_upd hb2))
    have hsh : SqT K (upd H2 b2 (.tup ((shiftOf R).map V.int))) b2 ((shiftOf R).map V.int) := .inl (.inl upd_same)
    generalize upd H2 b2 (.tup ((shiftOf R).map V.int)) = H3 at s12 hsh
    -- rows = [tuple([..]) for point in points]
    refine ⟨_, rfl, a, xs, rfl, ha.same s12, fun J hJ D2 hD2 => ?_⟩
    refine lc_ma ((shiftRow R (shiftOf R)).map ptD) hJ (tupA_pts _) (by rw [List.length_map, hxl]; unfold shiftRow; rw [List.length_map]) (by omega) hD2 (fun j x c' H4 hx hc' s4 Qt' Qe' k' => ?_) fun H4 acc s4 hA4 hdp4 => ?_
    · obtain ⟨hj, hxp⟩ := pts_get (dpa_same (s12.trans s4) hd) hx
      obtain ⟨b, rfl, hb⟩ := dp_pt hxp
      obtain ⟨hj2, rfl⟩ := map_get hc'
      have hpl : (R[j]).length = d := ok.dim _ (List.getElem_mem _)
      have hsh4 := seqT_same s4 hsh
      refine ⟨rfl, _, rfl, _, rfl, b, b2, _, _, rfl, .inr ⟨hb, hsh4, fun D3 hD3 => ?_⟩⟩
      refine lc_zi (fun x y => x + y) R[j] (shiftOf R) (by omega) (by omega) hD3 hb hsh4 (fun x y T' H5 s5 hT Qt Qe k => ?_) fun H5 s5 hA5 => ?_
      · exact ⟨T', _, rfl, .inl (.inl upd_same), rfl, _, _, rfl, _, _, rfl, rfl, rfl, _, rfl, _, rfl, _, _, rfl, rfl, k⟩
      · refine ⟨D3, _, rfl, .inl ⟨.inl (.inl hA5), fun l hl => k' _ _ (s5.trans (same_upd hl)) ?_⟩⟩
        rw [show (shiftRow R (shiftOf R))[j] = addP R[j] (shiftOf R) from List.getElem_map ..]
        exact pt_dp (.inl (.inl upd_same))
    -- return (tuple(sorted(rows)), shift)
    have sdim := ok.dim.shift es
    refine ⟨_, rfl, D2, acc, shiftRow R (shiftOf R), rfl, .inl (.inl (.inl hA4)), hdp4, ?_, fun p hp e => ?_, fun ys b3 hb3 hys => ?_⟩
    · unfold shiftRow
      rw [List.length_map]
      omega
    · have := sdim p hp
      rw [e] at this
      have : 0 = d := this
      omega
    · refine ⟨b3, ys, rfl, .inl ⟨.inl (.inl upd_same), fun b4 hb4 => ⟨_, rfl, (by show 2 ≤ sizeLine; decide), fun b5 hb5 => ?_⟩⟩⟩
      have t1 : Same H4 (upd H4 b3 (.lst ys)) := same_upd hb3
      have t2 : Same (upd H4 b3 (.lst ys)) (upd (upd H4 b3 (.lst ys)) b4 (.tup ys)) := same_upd hb4
      have t3 := same_upd (o := .tup [.ref b4, .ref b2]) hb5
      refine q _ _ (s12.trans (s4.trans (t1.trans (t2.trans t3)))) (.tup (.inl (.inl upd_same)) (.cons ?_ (.cons ?_ .nil)))
      · exact dp_same t3 (.tup (.inl (.inl upd_same)) (dpa_same t2 (dpa_same t1 hys)))
      · exact dp_same (s4.trans (t1.trans (t2.trans t3))) (pt_dp hsh)
end
end K9

/-! KD5 -/
set_option Elab.async false
set_option linter.all false
set_option maxRecDepth 100000
set_option maxHeartbeats 4000000
namespace K9
open PySem PySem.Spec PyProof.Rows L2
/-! ### sizes and steps -/
theorem rows_all : ∀ d, d ≤ 3 → ∀ i, i ≤ 3 → (rowsN d i).length ≤ 27 ∧ ((rowsN d i).all fun r => decide (r.length = i)) = true := by decide +kernel
theorem signs_all : ∀ i, i ≤ 3 → (signsN i).length ≤ 8 ∧ ((signsN i).all fun r => decide (r.length = i)) = true := by decide +kernel
theorem rows_len {d i : Nat} (hd : d ≤ 3) (hi : i ≤ 3) : (rowsN d i).length ≤ 27 := (rows_all d hd i hi).1
theorem rows_row {d i : Nat} (hd : d ≤ 3) (hi : i ≤ 3) {r : Pt} (h : r ∈ rowsN d i) : r.length = i := by
  have := (rows_all d hd i hi).2
  rw [List.all_eq_true] at this
  exact of_decide_eq_true (this r h)
theorem signs_len {i : Nat} (hi : i ≤ 3) : (signsN i).length ≤ 8 := (signs_all i hi).1
theorem signs_row {i : Nat} (hi : i ≤ 3) {r : Pt} (h : r ∈ signsN i) : r.length = i := by
  have := (signs_all i hi).2
  rw [List.all_eq_true] at this
  exact of_decide_eq_true (this r h)
def rowStep (m : Nat) (row : Pt) : Row := ((List.range m).filter fun n : Nat => !row.contains (n : Int)).map fun n : Nat => row ++ [(n : Int)]
theorem rowStep_len (m : Nat) (row : Pt) : (rowStep m row).length ≤ m := by
  unfold rowStep
  rw [List.length_map]
  have := List.length_filter_le (fun n : Nat => !row.contains (n : Int)) (List.range m)
  rw [List.length_range] at this
  exact this
theorem rowsStep_take (m : Nat) (R : Row) {i : Nat} (hi : i < R.length) : rowsStep m (R.take (i + 1)) = rowsStep m (R.take i) ++ rowStep m R[i] := by
  unfold rowsStep
  rw [List.take_add_one, List.getElem?_eq_getElem hi, List.flatMap_append]
  simp [rowStep]
theorem rowsStep_len (m : Nat) : ∀ R : Row, (rowsStep m R).length ≤ R.length * m
  | [] => by simp [rowsStep]
  | r :: R => by
    have h1 := rowsStep_len m R
    have h2 := rowStep_len m r
    have e : rowsStep m (r :: R) = rowStep m r ++ rowsStep m R := by simp [rowsStep, rowStep]
    rw [e, List.length_append, List.length_cons, Nat.add_mul, Nat.one_mul]
    omega
theorem in_ints (n : Int) (row : List Int) : inV (.int n) (row.map V.int) = row.contains n := by
  unfold inV
  rw [List.any_map]
  induction row with
  | nil => rfl
  | cons a r ih =>
    rw [List.any_cons, ih, List.contains_cons]
    show ((a == n) || _) = _
    rw [show (a == n) = (n == a) from PySem.W.beq_swap a n]
theorem flat_ints (row : List Int) : (row.map V.int).all flatV = true := by
  rw [List.all_map]
  induction row with
  | nil => rfl
  | cons a r ih => rw [List.all_cons, ih]; rfl
theorem fm_filter (p : Nat → Bool) (f : Nat → PyData) : ∀ n, (List.range n).filterMap (fun i => if p i = true then some (f i) else none) = ((List.range n).filter p).map f
  | 0 => rfl
  | n + 1 => by
    rw [List.range_succ, List.filterMap_append, fm_filter p f n, List.filter_append, List.map_append]
    congr 1
    by_cases h : p n = true <;> simp [h]
section
variable {P : Program} {w : World} {K : PySem.W.Frag} {mg : Str → Option Value} {base : Heap}
abbrev nRows : List Str := ["many", "found", "turn", "longer", "row", "number"]
theorem scRows : FnScope nRows ["many"] (defScope sRows) := ⟨rfl, rfl, rfl, by decide +kernel, rfl, by decide +kernel, by decide +kernel⟩
def spRows (K : PySem.W.Frag) : Sp := fun vs H Q _ => ∃ d : Nat, vs = [.int (d : Int)] ∧ d ≤ 3 ∧ ∀ z H', Same H H' → Dp K H' z (rowL (rowsN d d)) → Q z H'
theorem ok_rows {f : Addr} {fd : FuncData} (D : Dfn K mg "rows_of" sRows ["many"] f fd) (T : Gn mg) : FnOk P w K mg base CX0 1 f fd ["many"] (spRows K) := by
  refine D.F.ok scRows (fun vs H Q E h => ?_) (fun cdv A outer s H vs Q E hr h => ?_)
  · obtain ⟨d, rfl, _⟩ := h
    rfl
  · obtain ⟨d, rfl, h3, q⟩ := h
    have nd := scRows.nd
    refine ⟨_, pss_cons (ps_set (i := 1) nd rfl (Or.inl rfl) (pe_lst (pa_cons (pe_tup pa_nil) pa_nil)))
      (pss_cons (ps_for PassesOwn.never rfl (pi_range1 (by rfl) T.range (pa_cons (pv 0) pa_nil)) (pg_name (i := 2) nd rfl (Or.inl rfl))
        (pss_cons (ps_set (i := 3) nd rfl (Or.inl rfl) (pe_lst pa_nil))
        (pss_cons (ps_for PassesOwn.never rfl (piL K (pv 1)) (pg_name (i := 4) nd rfl (Or.inr rfl))
          (pss_one (ps_expr (pe_bm PySem.F.plainAttrs_list PySem.F.slot_list_extend PySem.F.type_list_extend mt_extend (pv 3) (pa_cons
            (pe_lc (own := [("number", 5)]) (g := gName 5) rfl nd (pi_range1 (by rfl) T.range (pa_cons (pv 0) pa_nil)) (blkOk_by (N := nRows) (sc := defScope sRows) (by decide +kernel))
              (fun _ _ _ _ _ => pg_name (i := 5) nd rfl (Or.inl rfl)) (fun _ _ _ _ _ => pts_one (pt_cmpR (notIn K) (pv 5) (pv 4) (by rfl)))
              (fun _ _ _ _ _ => pe_tup (paStar K (pv 4) (pa_cons (pv 5) pa_nil)))) pa_nil)))))
        (pss_one (ps_set (i := 1) nd rfl (Or.inl rfl) (pv 3))))))
      (pss_one (ps_ret (pv 1)))), ?_⟩
    -- found = [()]
    refine ⟨Nat.zero_le _, fun t0 ht0 => ⟨(by show 1 ≤ sizeLine; decide), fun l0 hl0 => ?_⟩⟩
    have s0 : Same H (upd (upd H t0 (.tup [])) l0 (.lst [.ref t0])) := (same_upd ht0).trans (same_upd hl0)
    have d0 : DpAll K (upd (upd H t0 (.tup [])) l0 (.lst [.ref t0])) [.ref t0] ((rowsN d 0).map ptD) :=
      .cons (dp_same (same_upd hl0) (.tup (.inl (.inl upd_same)) .nil)) .nil
    have h0 : (upd (upd H t0 (.tup [])) l0 (.lst [.ref t0])) l0 = some (.lst [.ref t0]) := upd_same
    generalize upd (upd H t0 (.tup [])) l0 (.lst [.ref t0]) = H0 at s0 d0 h0
    -- for turn in range(many)
    refine ⟨_, rfl, (d : Int), rfl, by omega, by omega, ?_⟩
    show ∃ W : Nat → Nat → L2.St → Hp → Prop, _
    rw [Int.toNat_natCast]
    refine for_range (lo := 0) (n := d) (fun i σ H' => ∃ (l : Addr) (xs : List V) (v2 v3 v4 v5 : Option V), σ = [some (.int (d : Int)), some (.ref l), v2, v3, v4, v5] ∧ Same H H' ∧ H' l = some (.lst xs) ∧ DpAll K H' xs ((rowsN d i).map ptD))
      ⟨l0, [.ref t0], none, none, none, none, rfl, s0, h0, d0⟩ ?_ ?_
    · rintro i σ H1 hi ⟨l, xs, v2, v3, v4, v5, rfl, s1, hl, hd⟩
      have hR := rows_len h3 (show i ≤ 3 by omega)
      have hxl := pts_len hd
      -- longer = []
      refine ⟨Nat.zero_le _, fun L hL => ?_⟩
      have s2 : Same H1 (upd H1 L (.lst [])) := same_upd hL
      have nLl : l ≠ L := ne_of_none hl hL
      refine ⟨_, rfl, l, rfl, ⟨xs, .inl (.inl (s2 _ _ hl))⟩, ?_⟩
      refine for_list (K := K) (a := l) (xs := xs) (fun j σ H' => ∃ (acc : List V) (v4 v5 : Option V), σ = [some (.int (d : Int)), some (.ref l), some (.int (0 + (i : Int))), some (.ref L), v4, v5] ∧ Same H H' ∧ H L = none ∧ H' l = some (.lst xs) ∧ DpAll K H' xs ((rowsN d i).map ptD) ∧
          H' L = some (.lst acc) ∧ DpAll K H' acc ((rowsStep d ((rowsN d i).take j)).map ptD))
        ⟨[], v4, v5, rfl, s1.trans s2, s1.free hL, s2 _ _ hl, dpa_same s2 hd, upd_same, .nil⟩ (fun j σ H' _ ⟨_, _, _, _, _, _, h, _⟩ => .inl (.inl h)) ?_ ?_
      · rintro j x σ H2 hx ⟨acc, v4, v5, rfl, s3, nL, hl2, hd2, hA, hda⟩
        obtain ⟨hj, hxp⟩ := pts_get hd2 hx
        obtain ⟨b, rfl, hb⟩ := dp_pt hxp
        have hrl : ((rowsN d i)[j]).length = i := rows_row h3 (by omega) (List.getElem_mem _)
        have hal : acc.length ≤ 81 := by
          rw [pts_len hda]
          have h1 := rowsStep_len d ((rowsN d i).take j)
          have h2 : ((rowsN d i).take j).length ≤ 27 := by rw [List.length_take]; omega
          have h4 : ((rowsN d i).take j).length * d ≤ 27 * 3 := Nat.mul_le_mul h2 h3
          omega
        refine ⟨_, rfl, .inl ⟨rfl, _, .inl (.inl hA)⟩, _, rfl, (d : Int), rfl, by omega, by omega, fun D1 hD1 => ?_⟩
        show LcW (Itr 0 ((d : Nat) : Int).toNat) _ _ _ _ _ _ _ _
        rw [Int.toNat_natCast]
        refine lc_pr (K := K) (fun k => if (!((rowsN d i)[j]).contains (k : Int)) = true then some (ptD ((rowsN d i)[j] ++ [(k : Int)])) else none) (fun k c e => ?_) (by omega) hD1 (fun k H3 hk s4 Qt Qe k1 k2 => ?_) fun H3 zs s4 hZ hdz => ?_
        · split at e
          · rw [← Option.some.inj e]; exact tup_pt _
          · cases e
        · have hb3 := seqT_same s4 hb
          refine ⟨rfl, _, rfl, _, rfl, b, _, rfl, .inr hb3, rfl, flat_ints _, _, rfl, ?_⟩
          rw [in_ints]
          have e0 : (0 : Int) + (k : Int) = (k : Int) := Int.zero_add _
          rw [e0]
          simp only [if_true]
          refine ite2 (fun hc => ?_) (fun hc => ?_)
          · refine ⟨_, rfl, b, _, rfl, .inl hb3, _, rfl, ?_, fun p hp => k2 _ _ _ (same_upd hp) (if_pos hc) ?_⟩
            · rw [List.length_append, List.length_map, hrl, sizeLine_eq]
              show i + 1 ≤ _
              omega
            · refine pt_dp (.inl (.inl ?_))
              rw [upd_same, List.map_append]
              rfl
          · exact k1 _ (Same.refl _) (if_neg hc)
        · rw [fm_filter (fun k : Nat => !((rowsN d i)[j]).contains (k : Int)) (fun k : Nat => ptD ((rowsN d i)[j] ++ [(k : Int)]))] at hdz
          have hz2 : DpAll K H3 zs ((rowStep d (rowsN d i)[j]).map ptD) := by
            unfold rowStep
            rw [List.map_map]
            exact hdz
          have hzl : zs.length ≤ d := by
            rw [pts_len hz2]
            exact rowStep_len _ _
          refine ⟨L, D1, acc, zs, rfl, rfl, s4 _ _ hA, hZ, by rw [sizeLine_eq]; omega, ?_⟩
          have bt : But L H3 (upd H3 L (.lst (acc ++ zs))) := fun b o nb hb => by rw [upd_ne nb]; exact hb
          have hA3 := s4 _ _ hA
          refine ⟨acc ++ zs, _, v5, rfl, (bt.same (s3.trans s4) nL), nL, bt _ _ nLl (s4 _ _ hl2), dpa_but bt hA3 (tupA_pts _) (dpa_same s4 hd2), upd_same, ?_⟩
          rw [rowsStep_take d _ hj, List.map_append]
          exact dpa_app (dpa_but bt hA3 (tupA_pts _) (dpa_same s4 hda)) (dpa_but bt hA3 (tupA_pts _) hz2)
      · rintro σ H2 ⟨acc, v4, v5, rfl, s3, nL, hl2, hd2, hA, hda⟩
        rw [hxl, List.take_length] at hda
        exact ⟨_, rfl, L, acc, _, _, v4, v5, rfl, s3, hA, hda⟩
    · rintro σ H1 ⟨l, xs, v2, v3, v4, v5, rfl, s1, hl, hd⟩
      exact ⟨_, rfl, q _ _ s1 (.lst (.inl (.inl hl)) hd)⟩
end
end K9

/-! KD6 -/
set_option Elab.async false
set_option linter.all false
set_option maxRecDepth 100000
set_option maxHeartbeats 4000000
namespace K9
open PySem PySem.Spec PyProof.Rows L2
theorem signsStep_take (R : Row) {i : Nat} (hi : i < R.length) : signsStep (R.take (i + 1)) = signsStep (R.take i) ++ [R[i] ++ [-1], R[i] ++ [1]] := by
  unfold signsStep
  rw [List.take_add_one, List.getElem?_eq_getElem hi, List.flatMap_append]
  simp
theorem signsStep_len : ∀ R : Row, (signsStep R).length = R.length * 2
  | [] => rfl
  | r :: R => by
    have h1 := signsStep_len R
    have e : signsStep (r :: R) = [r ++ [-1], r ++ [1]] ++ signsStep R := by simp [signsStep]
    rw [e, List.length_append, h1, List.length_cons]
    simp
    omega
section
variable {P : Program} {w : World} {K : PySem.W.Frag} {mg : Str → Option Value} {base : Heap}
abbrev nSigns : List Str := ["many", "found", "turn", "row", "sign"]
theorem scSigns : FnScope nSigns ["many"] (defScope sSigns) := ⟨rfl, rfl, rfl, by decide +kernel, rfl, by decide +kernel, by decide +kernel⟩
def spSigns (K : PySem.W.Frag) : Sp := fun vs H Q _ => ∃ d : Nat, vs = [.int (d : Int)] ∧ d ≤ 3 ∧ ∀ z H', Same H H' → Dp K H' z (rowL (signsN d)) → Q z H'
theorem ok_signs {f : Addr} {fd : FuncData} (D : Dfn K mg "signs_of" sSigns ["many"] f fd) (T : Gn mg) : FnOk P w K mg base CX0 1 f fd ["many"] (spSigns K) := by
  refine D.F.ok scSigns (fun vs H Q E h => ?_) (fun cdv A outer s H vs Q E hr h => ?_)
  · obtain ⟨d, rfl, _⟩ := h
    rfl
  · obtain ⟨d, rfl, h3, q⟩ := h
    have nd := scSigns.nd
    refine ⟨_, pss_cons (ps_set (i := 1) nd rfl (Or.inl rfl) (pe_lst (pa_cons (pe_tup pa_nil) pa_nil)))
      (pss_cons (ps_for PassesOwn.never rfl (pi_range1 (by rfl) T.range (pa_cons (pv 0) pa_nil)) (pg_name (i := 2) nd rfl (Or.inl rfl))
        (pss_one (ps_setLc2 (i := 1) (own := [("row", 3), ("sign", 4)]) (vs1 := [4]) (g := gName 3) (g1 := gName 4) (tt := tYes) (tt1 := tYes) rfl nd rfl rfl (sw_true rfl rfl rfl (by decide +kernel)) (piL K (pv 1)) (blkOk_by (N := nSigns) (sc := defScope sSigns) (by decide +kernel)) (by decide)
          (fun _ _ _ _ _ => pg_name (i := 3) nd rfl (Or.inl rfl)) (fun _ _ _ _ _ => pts_nil) (fun _ _ _ _ _ => piT K (pe_tup (pa_cons (pe_un un_neg pe_int) (pa_cons pe_int pa_nil))))
          (fun _ _ _ _ _ => pg_name (i := 4) nd rfl (Or.inl rfl)) (fun _ _ _ _ _ => pts_nil) (fun _ _ _ _ _ => pe_tup (paStar K (pv 3) (pa_cons (pv 4) pa_nil))))))
      (pss_one (ps_ret (pv 1)))), ?_⟩
    -- found = [()]
    refine ⟨Nat.zero_le _, fun t0 ht0 => ⟨(by show 1 ≤ sizeLine; decide), fun l0 hl0 => ?_⟩⟩
    have s0 : Same H (upd (upd H t0 (.tup [])) l0 (.lst [.ref t0])) := (same_upd ht0).trans (same_upd hl0)
    have d0 : DpAll K (upd (upd H t0 (.tup [])) l0 (.lst [.ref t0])) [.ref t0] ((signsN 0).map ptD) :=
      .cons (dp_same (same_upd hl0) (.tup (.inl (.inl upd_same)) .nil)) .nil
    have h0 : (upd (upd H t0 (.tup [])) l0 (.lst [.ref t0])) l0 = some (.lst [.ref t0]) := upd_same
    generalize upd (upd H t0 (.tup [])) l0 (.lst [.ref t0]) = H0 at s0 d0 h0
    refine ⟨_, rfl, (d : Int), rfl, by omega, by omega, ?_⟩
    show ∃ W : Nat → Nat → L2.St → Hp → Prop, _
    rw [Int.toNat_natCast]
    refine for_range (lo := 0) (n := d) (fun i σ H' => ∃ (l : Addr) (xs : List V) (v2 v3 v4 : Option V), σ = [some (.int (d : Int)), some (.ref l), v2, v3, v4] ∧ Same H H' ∧ H' l = some (.lst xs) ∧ DpAll K H' xs ((signsN i).map ptD))
      ⟨l0, [.ref t0], none, none, none, rfl, s0, h0, d0⟩ ?_ ?_
    · rintro i σ H1 hi ⟨l, xs, v2, v3, v4, rfl, s1, hl, hd⟩
      have hR := signs_len (show i ≤ 3 by omega)
      have hxl := pts_len hd
      refine ⟨_, rfl, l, rfl, ⟨xs, .inl (.inl hl)⟩, fun D1 hD1 => ?_⟩
      have nD : H D1 = none := s1.free hD1
      -- the outer turns
      refine ⟨fun j m H' => m = xs.length - j ∧ j ≤ xs.length ∧ Same H1 H' ∧ ∃ acc, H' D1 = some (.lst acc) ∧ DpAll K H' acc ((signsStep ((signsN i).take j)).map ptD),
        ⟨xs.length, rfl, Nat.zero_le _, same_upd hD1, [], upd_same, .nil⟩, ?_⟩
      rintro j m H2 ⟨rfl, hj, s2, acc, hA, hda⟩
      by_cases hlt : j < xs.length
      · refine .inr ⟨⟨xs, xs[j], .inl (.inl (s2 _ _ hl)), List.getElem?_eq_getElem hlt⟩, fun H' => Same H1 H' ∧ ∃ acc, H' D1 = some (.lst acc) ∧ DpAll K H' acc ((signsStep ((signsN i).take (j + 1))).map ptD), fun H' ⟨a1, a2⟩ => ⟨xs.length - (j + 1), by omega, rfl, hlt, a1, a2⟩, fun x H' y => ?_⟩
        obtain ⟨rfl, fx⟩ := y
        have hx := fx xs (.inl (.inl (s2 _ _ hl)))
        obtain ⟨hj2, hxp⟩ := pts_get (dpa_same s2 hd) hx
        obtain ⟨b, rfl, hb⟩ := dp_pt hxp
        have hrl : ((signsN i)[j]).length = i := signs_row (by omega) (List.getElem_mem _)
        have hal : acc.length ≤ 16 := by
          rw [pts_len hda, signsStep_len, List.length_take]
          omega
        refine ⟨rfl, _, rfl, (by show 2 ≤ sizeLine; decide), fun b2 hb2 => ⟨b2, rfl, ⟨[.int (-1), .int 1], .inl (.inl upd_same)⟩, ?_⟩⟩
        have s3 := s2.trans (same_upd (o := .tup [.int (-1), .int 1]) hb2)
        have hb3 : SqT K (upd H' b2 (.tup [.int (-1), .int 1])) b2 [.int (-1), .int 1] := .inl (.inl upd_same)
        have hA3 := same_upd (o := .tup [.int (-1), .int 1]) hb2 _ _ hA
        have hd3 := dpa_same (same_upd (o := .tup [.int (-1), .int 1]) hb2) hda
        have hbb := seqT_same (same_upd (o := .tup [.int (-1), .int 1]) hb2) hb
        generalize upd H' b2 (.tup [.int (-1), .int 1]) = H3 at s3 hb3 hA3 hd3 hbb
        -- the inner turns
        refine ⟨fun k m H' => m = 2 - k ∧ k ≤ 2 ∧ Same H1 H' ∧ SqT K H' b2 [.int (-1), .int 1] ∧ SqT K H' b (((signsN i)[j]).map V.int) ∧ ∃ acc, acc.length ≤ 18 ∧ H' D1 = some (.lst acc) ∧ DpAll K H' acc ((signsStep ((signsN i).take j) ++ ([(signsN i)[j] ++ [-1], (signsN i)[j] ++ [1]] : Row).take k).map ptD),
          ⟨2, rfl, by omega, s3, hb3, hbb, acc, by omega, hA3, by simpa using hd3⟩, ?_⟩
        rintro k m H4 ⟨rfl, hk, s4, hb4, hbb4, acc4, hl4, hA4, hd4⟩
        by_cases hlk : k < 2
        · refine .inr ⟨⟨_, ([V.int (-1), V.int 1])[k], hb4, List.getElem?_eq_getElem hlk⟩, fun H' => Same H1 H' ∧ SqT K H' b2 [.int (-1), .int 1] ∧ SqT K H' b (((signsN i)[j]).map V.int) ∧ ∃ acc, acc.length ≤ 18 ∧ H' D1 = some (.lst acc) ∧ DpAll K H' acc ((signsStep ((signsN i).take j) ++ ([(signsN i)[j] ++ [-1], (signsN i)[j] ++ [1]] : Row).take (k + 1)).map ptD),
            fun H' ⟨a1, a2, a3, a4⟩ => ⟨2 - (k + 1), by omega, rfl, by omega, a1, a2, a3, a4⟩, fun x H' y => ?_⟩
          obtain ⟨rfl, fx⟩ := y
          have hx2 := fx _ hb4
          obtain ⟨sg, rfl, hsg⟩ : ∃ sg : Int, x = V.int sg ∧ ([(signsN i)[j] ++ [-1], (signsN i)[j] ++ [1]] : Row)[k]? = some ((signsN i)[j] ++ [sg]) := by
            have hk2 : k = 0 ∨ k = 1 := by omega
            rcases hk2 with rfl | rfl
            · exact ⟨-1, (Option.some.inj hx2).symm, rfl⟩
            · exact ⟨1, (Option.some.inj hx2).symm, rfl⟩
          refine ⟨rfl, _, rfl, b, _, rfl, .inl hbb4, _, rfl, ?_, fun p hp => ?_⟩
          · rw [List.length_append, List.length_map, hrl, sizeLine_eq]
            show i + 1 ≤ _
            omega
          · have s5 : Same H' (upd H' p (.tup (((signsN i)[j]).map V.int ++ [V.int sg]))) := same_upd hp
            have hal5 : acc4.length < 18 := by
              have := pts_len hd4
              rw [List.length_append, signsStep_len, List.length_take, List.length_take] at this
              have h2 : min k ([(signsN i)[j] ++ [-1], (signsN i)[j] ++ [1]] : Row).length ≤ 1 := by omega
              omega
            refine ⟨acc4, s5 _ _ hA4, by rw [sizeLine_eq]; omega, ?_⟩
            have np : Dp K (upd H' p (.tup (((signsN i)[j]).map V.int ++ [V.int sg]))) (.ref p) (ptD ((signsN i)[j] ++ [sg])) := pt_dp (.inl (.inl (by rw [upd_same, List.map_append]; rfl)))
            have hA5 := s5 _ _ hA4
            have hd5 := dpa_same s5 hd4
            have hb5 := seqT_same s5 hb4
            have hbb5 := seqT_same s5 hbb4
            have s15 := s4.trans s5
            generalize upd H' p (.tup (((signsN i)[j]).map V.int ++ [V.int sg])) = H5 at np hA5 hd5 hb5 hbb5 s15
            have bt : But D1 H5 (upd H5 D1 (.lst (acc4 ++ [.ref p]))) := fun b o nb hb => by rw [upd_ne nb]; exact hb
            refine ⟨bt.same s15 hD1, seqT_but bt hA5 hb5, seqT_but bt hA5 hbb5, acc4 ++ [.ref p], by rw [List.length_append, List.length_singleton]; omega, upd_same, ?_⟩
            rw [List.take_add_one, hsg, ← List.append_assoc, List.map_append]
            exact dpa_app (dpa_but bt hA5 (tupA_pts _) hd5) (dpa_one (dp_but bt hA5 (tup_pt _) np))
        · have e : k = 2 := by omega
          subst e
          refine .inl ⟨⟨_, hb4, Nat.le_refl _⟩, s4, acc4, hA4, ?_⟩
          rw [signsStep_take _ hj2]
          exact hd4
      · have e : j = xs.length := by omega
        subst e
        rw [hxl, List.take_length] at hda
        exact .inl ⟨⟨xs, .inl (.inl (s2 _ _ hl)), Nat.le_refl _⟩, D1, acc, _, v3, v4, rfl, s1.trans s2, hA, hda⟩
    · rintro σ H1 ⟨l, xs, v2, v3, v4, rfl, s1, hl, hd⟩
      exact ⟨_, rfl, q _ _ s1 (.lst (.inl (.inl hl)) hd)⟩
end
end K9

/-! KD7 -/
set_option Elab.async false
set_option linter.all false
set_option maxRecDepth 100000
set_option maxHeartbeats 4000000
namespace K9
open PySem PySem.Spec PyProof.Rows L2
/-- the ints of a tuple that pass a test, picked turn by turn -/
theorem fm_pick (p : Int → Bool) (l : List Int) : ∀ n, n ≤ l.length → (List.range n).filterMap (fun i => (l[i]?).bind fun x => if p x = true then some (PyData.int x) else none) = ((l.take n).filter p).map PyData.int
  | 0, _ => rfl
  | n + 1, h => by
    rw [List.range_succ, List.filterMap_append, fm_pick p l n (Nat.le_of_succ_le h), List.take_add_one, List.filter_append, List.map_append, List.getElem?_eq_getElem (show n < l.length by omega)]
    congr 1
    simp only [List.filterMap_cons, List.filterMap_nil, List.getElem?_eq_getElem (show n < l.length by omega), Option.bind_some]
    by_cases hp : p l[n] = true <;> simp [hp]
theorem cut_drop (xs : List V) (k : Nat) : cutV xs (some ((k : Nat) : Int)) none = xs.drop k := by
  unfold cutV
  rw [HT.sIx_nat, HT.sIx_none]
  by_cases h : k ≤ xs.length
  · rw [Nat.min_eq_left h]
    exact List.take_of_length_le (by rw [List.length_drop]; exact Nat.le_refl _)
  · rw [Nat.min_eq_right (by omega), Nat.sub_self, List.take_zero, List.drop_eq_nil_of_le (by omega)]
section
variable {P : Program} {w : World} {K : PySem.W.Frag} {mg : Str → Option Value} {base : Heap}
abbrev nProper : List Str := ["axes", "signs", "odd", "at", "axis", "sign", "late"]
theorem scProper : FnScope nProper ["axes", "signs"] (defScope sProper) := ⟨rfl, rfl, rfl, by decide +kernel, rfl, by decide +kernel, by decide +kernel⟩
def spProper (K : PySem.W.Frag) : Sp := fun vs H Q _ => ∃ (x y : V) (axes signs : Pt), vs = [x, y] ∧ Dp K H x (ptD axes) ∧ Dp K H y (ptD signs) ∧ axes.length ≤ 3 ∧ signs.length ≤ 3 ∧
  ∀ H', Same H H' → Q (.bl (isProper axes signs)) H'
theorem ok_proper {f : Addr} {fd : FuncData} (D : Dfn K mg "is_proper" sProper ["axes", "signs"] f fd) (T : Gn mg) : FnOk P w K mg base CX0 1 f fd ["axes", "signs"] (spProper K) := by
  refine D.F.ok scProper (fun vs H Q E h => ?_) (fun cdv A outer s H vs Q E hr h => ?_)
  · obtain ⟨x, y, axes, signs, rfl, _⟩ := h
    rfl
  · obtain ⟨x, y, axes, signs, rfl, hx, hy, l1, l2, q⟩ := h
    have nd := scProper.nd
    refine ⟨_, pss_cons (ps_set (i := 2) nd rfl (Or.inl rfl) (pe_callB (lenS K) (by rfl) T.len PySem.boot_len (pa_cons
        (pe_lc (own := [("sign", 5)]) (g := gName 5) rfl nd (piT K (pv 1)) (blkOk_by (N := nProper) (sc := defScope sProper) (by decide +kernel))
          (fun _ _ _ _ _ => pg_name (i := 5) nd rfl (Or.inl rfl)) (fun _ _ _ _ _ => pts_one (pt_cmpR op_lt (pv 5) pe_int (nomark _))) (fun _ _ _ _ _ => pv 5)) pa_nil)))
      (pss_cons (ps_for PassesOwn.never rfl (piE K (by rfl) T.enumerate (pa_cons (pv 0) pa_nil)) (pgT K 2 (pgs_cons (pg_name (i := 3) nd rfl (Or.inl rfl)) (pgs_cons (pg_name (i := 4) nd rfl (Or.inr rfl)) pgs_nil)))
        (pss_one (ps_aug (i := 2) nd rfl (Or.inl rfl) (pe_callB (lenS K) (by rfl) T.len PySem.boot_len (pa_cons
          (pe_lc (own := [("late", 6)]) (g := gName 6) rfl nd (piT K (pe_slice (slA K) (pv 0) (po_some (pe_op op_add (pv 3) pe_int)) po_none)) (blkOk_by (N := nProper) (sc := defScope sProper) (by decide +kernel))
            (fun _ _ _ _ _ => pg_name (i := 6) nd rfl (Or.inl rfl)) (fun _ _ _ _ _ => pts_one (pt_cmpR op_lt (pv 6) (pv 4) (nomark _))) (fun _ _ _ _ _ => pv 6)) pa_nil)) ip_add)))
      (pss_one (ps_ret (pe_cmpR op_eq (pe_op op_mod (pv 2) pe_int) pe_int (nomark _))))), ?_⟩
    obtain ⟨a, rfl, ha⟩ := dp_pt hx
    obtain ⟨b, rfl, hb⟩ := dp_pt hy
    -- odd = len([sign for sign in signs if sign < 0])
    refine ⟨_, rfl, b, rfl, ⟨_, hb⟩, fun D1 hD1 => ?_⟩
    refine lc_pt (K := K) (fun i => (signs[i]?).bind fun x => if decide (x < 0) = true then some (PyData.int x) else none) (fun i c e => ?_) (by rw [List.length_map]; omega) hD1 hb (fun i x H2 hx2 s2 Qt Qe k1 k2 => ?_) fun H2 acc s2 hA hdp => ?_
    · cases e2 : signs[i]? with
      | none => rw [e2] at e; cases e
      | some n =>
        rw [e2, Option.bind_some] at e
        split at e
        · rw [← Option.some.inj e]; simp [tupO]
        · cases e
    · obtain ⟨hi, rfl⟩ := map_get hx2
      rw [List.getElem?_eq_getElem hi, Option.bind_some] at k1 k2
      refine ⟨rfl, _, rfl, _, _, rfl, rfl, _, rfl, ?_⟩
      refine ite2 (fun hc => ?_) (fun hc => ?_)
      · exact ⟨_, rfl, k2 _ _ _ (Same.refl _) (if_pos hc) (.int _)⟩
      · exact k1 _ (Same.refl _) (if_neg hc)
    rw [List.length_map, fm_pick _ _ _ (Nat.le_refl _), List.take_length] at hdp
    have el : acc.length = (signs.filter fun s => decide (s < 0)).length := by rw [dpa_len hdp, List.length_map]
    refine ⟨D1, acc, rfl, .inl (.inl (.inl hA)), ?_⟩
    -- for at, axis in enumerate(axes)
    refine ⟨_, rfl, a, axes.map V.int, rfl, seqT_same s2 ha, ?_⟩
    refine for_enumT (K := K) (a := a) (xs := axes.map V.int) (fun i σ H' => ∃ (c : Nat) (v3 v4 v5 v6 : Option V), σ = [some (.ref a), some (.ref b), some (.int (c : Int)), v3, v4, v5, v6] ∧ Same H H' ∧ c + invs (axes.drop i) = oddN axes signs)
      ⟨acc.length, none, none, none, none, rfl, s2, by rw [el]; rfl⟩ (fun i σ H' ⟨_, _, _, _, _, _, s3, _⟩ => seqT_same s3 ha) ?_ ?_
    · rintro i x T' σ H3 hx3 ⟨c, v3, v4, v5, v6, rfl, s3, ec⟩ hT
      obtain ⟨hi, rfl⟩ := map_get hx3
      have s4 : Same H (upd H3 T' (.tup [.int (i : Int), .int axes[i]])) := s3.trans (same_upd hT)
      have ha4 := seqT_same s4 ha
      refine ⟨T', _, rfl, .inl (.inl upd_same), rfl, _, _, rfl, _, _, rfl, rfl, ?_⟩
      generalize upd H3 T' (.tup [.int (i : Int), .int axes[i]]) = H4 at s4 ha4
      refine ⟨_, rfl, _, rfl, _, rfl, _, _, rfl, rfl, _, rfl, a, _, rfl, ha4, fun hz => ?_, fun _ p hp => ?_⟩
      · exfalso
        obtain ⟨hz, _⟩ := hz
        rw [show ((i : Int) + 1) = ((i + 1 : Nat) : Int) by omega, HT.sIx_nat, List.length_map] at hz
        omega
      · rw [show ((i : Int) + 1) = ((i + 1 : Nat) : Int) by omega, cut_drop, ← List.map_drop]
        refine ⟨p, rfl, ⟨_, .inl (.inl upd_same)⟩, fun D2 hD2 => ?_⟩
        have s5 := s4.trans (same_upd (o := .tup ((axes.drop (i + 1)).map V.int)) hp)
        have hq5 : SqT K (upd H4 p (.tup ((axes.drop (i + 1)).map V.int))) p ((axes.drop (i + 1)).map V.int) := .inl (.inl upd_same)
        refine lc_pt (K := K) (fun k => ((axes.drop (i + 1))[k]?).bind fun x => if decide (x < axes[i]) = true then some (PyData.int x) else none) (fun k c e => ?_) (by rw [List.length_map, List.length_drop]; omega) hD2 hq5 (fun k x H5 hx5 s6 Qt Qe k1 k2 => ?_) fun H5 acc5 s6 hA5 hdp5 => ?_
        · cases e2 : (axes.drop (i + 1))[k]? with
          | none => rw [e2] at e; cases e
          | some n =>
            rw [e2, Option.bind_some] at e
            split at e
            · rw [← Option.some.inj e]; simp [tupO]
            · cases e
        · obtain ⟨hk, rfl⟩ := map_get hx5
          rw [List.getElem?_eq_getElem hk, Option.bind_some] at k1 k2
          refine ⟨rfl, _, rfl, _, rfl, _, _, rfl, rfl, _, rfl, ?_⟩
          refine ite2 (fun hc => ?_) (fun hc => ?_)
          · exact ⟨_, rfl, k2 _ _ _ (Same.refl _) (if_pos hc) (.int _)⟩
          · exact k1 _ (Same.refl _) (if_neg hc)
        · rw [List.length_map, fm_pick _ _ _ (Nat.le_refl _), List.take_length] at hdp5
          have el5 : acc5.length = ((axes.drop (i + 1)).filter fun s => decide (s < axes[i])).length := by rw [dpa_len hdp5, List.length_map]
          refine ⟨D2, acc5, rfl, .inl (.inl (.inl hA5)), _, _, rfl, rfl, ?_⟩
          refine ⟨c + acc5.length, _, _, v5, v6, rfl, s5.trans s6, ?_⟩
          rw [List.drop_eq_getElem_cons hi] at ec
          have e7 : invs (axes[i] :: axes.drop (i + 1)) = ((axes.drop (i + 1)).filter fun b => decide (b < axes[i])).length + invs (axes.drop (i + 1)) := rfl
          rw [e7] at ec
          omega
    · rintro σ H3 ⟨c, v3, v4, v5, v6, rfl, s3, ec⟩
      rw [List.length_map, List.drop_length] at ec
      have e0 : invs [] = 0 := rfl
      rw [e0, Nat.add_zero] at ec
      refine ⟨_, rfl, _, _, rfl, rfl, (by show (0 : Int) < 2; decide), rfl, ?_⟩
      have e1 : decide (V.int ((c : Int) % 2) = V.int 0) = isProper axes signs := by
        unfold isProper
        rw [ec]
        by_cases h : ((oddN axes signs : Nat) : Int) % 2 = 0
        · rw [decide_eq_true h, decide_eq_true (by rw [h])]
        · rw [decide_eq_false h, decide_eq_false (fun z => h (V.int.inj z))]
      show Q (.bl (decide (V.int ((c : Int) % 2) = V.int 0))) _
      rw [e1]
      exact q _ s3
end
end K9

/-! KD8 -/
set_option Elab.async false
set_option linter.all false
set_option maxRecDepth 100000
set_option maxHeartbeats 4000000
namespace K9
open PySem PySem.Spec PyProof.Rows L2
theorem fm_pickA {α : Type} (p : α → Bool) (f : α → PyData) (l : List α) : ∀ n, n ≤ l.length → (List.range n).filterMap (fun i => (l[i]?).bind fun x => if p x = true then some (f x) else none) = ((l.take n).filter p).map f
  | 0, _ => rfl
  | n + 1, h => by
    rw [List.range_succ, List.filterMap_append, fm_pickA p f l n (Nat.le_of_succ_le h), List.take_add_one, List.filter_append, List.map_append, List.getElem?_eq_getElem (show n < l.length by omega)]
    congr 1
    simp only [List.filterMap_cons, List.filterMap_nil, List.getElem?_eq_getElem (show n < l.length by omega), Option.bind_some]
    by_cases hp : p l[n] = true <;> simp [hp]
theorem turns_take (m : Nat) (mir : Bool) (R : Row) {i : Nat} (hi : i < R.length) : (R.take (i + 1)).flatMap (fun axes => turnsRow axes m mir) = (R.take i).flatMap (fun axes => turnsRow axes m mir) ++ turnsRow R[i] m mir := by
  rw [List.take_add_one, List.getElem?_eq_getElem hi, List.flatMap_append]
  simp
theorem turns_pre (m : Nat) (mir : Bool) (R : Row) (i : Nat) : ((R.take i).flatMap (fun axes => turnsRow axes m mir)).length ≤ (R.flatMap (fun axes => turnsRow axes m mir)).length := by
  conv => rhs; rw [← List.take_append_drop i R]
  rw [List.flatMap_append, List.length_append]
  omega
theorem tupA_tns (l : List Tn) : tupA (l.map tnD) = true := tupA_all fun d hd => by
  obtain ⟨i, _, rfl⟩ := List.mem_map.mp hd
  exact tup_tn i
section
variable {P : Program} {w : World} {K : PySem.W.Frag} {mg : Str → Option Value} {base : Heap}
abbrev nTurns : List Str := ["many", "are_mirrored", "found", "axes", "signs"]
theorem scTurns : FnScope nTurns ["many", "are_mirrored"] (defScope sTurns) := ⟨rfl, rfl, rfl, by decide +kernel, rfl, by decide +kernel, by decide +kernel⟩
def tnL (l : List Tn) : PyData := .list (l.map tnD)
def spTurns (K : PySem.W.Frag) : Sp := fun vs H Q _ => ∃ (d : Nat) (mir : Bool), vs = [.int (d : Int), .bl mir] ∧ 1 ≤ d ∧ d ≤ 3 ∧ ∀ z H', Same H H' → Dp K H' z (tnL (turnsOf d mir)) → Q z H'
theorem ok_turns {f fR fS fP : Addr} {fd fdR fdS fdP : FuncData} (D : Dfn K mg "turns_of" sTurns ["many", "are_mirrored"] f fd) (DR : Dfn K mg "rows_of" sRows ["many"] fR fdR) (DS : Dfn K mg "signs_of" sSigns ["many"] fS fdS) (DP : Dfn K mg "is_proper" sProper ["axes", "signs"] fP fdP) (T : Gn mg) :
    FnOk P w K mg base CX0 2 f fd ["many", "are_mirrored"] (spTurns K) := by
  have GR : FnOk P w K mg base CX0 1 fR fdR ["many"] (spRows K) := ok_rows DR T
  have GS : FnOk P w K mg base CX0 1 fS fdS ["many"] (spSigns K) := ok_signs DS T
  have GP : FnOk P w K mg base CX0 1 fP fdP ["axes", "signs"] (spProper K) := ok_proper DP T
  refine D.F.ok scTurns (fun vs H Q E h => ?_) (fun cdv A outer s H vs Q E hr h => ?_)
  · obtain ⟨d, mir, rfl, _⟩ := h
    rfl
  · obtain ⟨d, mir, rfl, h1, h3, q⟩ := h
    have nd := scTurns.nd
    refine ⟨_, pss_cons (ps_set (i := 2) nd rfl (Or.inl rfl) (pe_lst pa_nil))
      (pss_cons (ps_for PassesOwn.never rfl (piL K (pe_call GR hr (by rfl) DR.g DR.F.kp DR.b .nil pass0 (pa_cons (pv 0) pa_nil))) (pg_name (i := 3) nd rfl (Or.inr rfl))
        (pss_one (ps_expr (pe_bm PySem.F.plainAttrs_list PySem.F.slot_list_extend PySem.F.type_list_extend mt_extend (pv 2) (pa_cons
          (pe_lc (own := [("signs", 4)]) (g := gName 4) rfl nd (piL K (pe_call GS hr (by rfl) DS.g DS.F.kp DS.b .nil pass0 (pa_cons (pv 0) pa_nil))) (blkOk_by (N := nTurns) (sc := defScope sTurns) (by decide +kernel))
            (fun _ _ _ _ _ => pg_name (i := 4) nd rfl (Or.inl rfl))
            (fun _ _ _ _ _ => pts_one (PW.pt (pw_or (pt_val (pv 1)) (pw_or1 (pt_val (pe_call GP hr (by rfl) DP.g DP.F.kp DP.b .nil pass0 (pa_cons (pv 3) (pa_cons (pv 4) pa_nil))))))))
            (fun _ _ _ _ _ => pe_tup (pa_cons (pv 3) (pa_cons (pv 4) pa_nil)))) pa_nil)))))
      (pss_one (ps_ret (pv 2)))), ?_⟩
    -- found = []
    refine ⟨Nat.zero_le _, fun L hL => ?_⟩
    have s0 : Same H (upd H L (.lst [])) := same_upd hL
    refine ⟨_, rfl, d, rfl, h3, fun z H1 s1 hz => ?_⟩
    obtain ⟨l, xs, rfl, hl, hd⟩ := dp_rowL hz
    have hxl := pts_len hd
    have hR := rows_len h3 (show d ≤ 3 by omega)
    have hfull := turns_len h1 h3 mir
    refine ⟨l, rfl, ⟨xs, hl⟩, ?_⟩
    have hL1 : H1 L = some (.lst []) := s1 _ _ upd_same
    -- the list of rows stands beside L
    have hrows : ∀ H', But L H1 H' → SqL K H' l xs := fun H' bt => by
      rcases hl with (hl | ⟨o, hl⟩) | hl
      · by_cases e : l = L
        · subst e
          rw [hL1] at hl
          have hx0 : ([] : List V) = xs := by injection hl with hl; injection hl
          exfalso
          rw [← hx0] at hxl
          have : 0 = (rowsN d d).length := hxl
          have hd3 : d = 1 ∨ d = 2 ∨ d = 3 := by omega
          rcases hd3 with rfl | rfl | rfl <;> revert this <;> decide
        · exact .inl (.inl (bt _ _ e hl))
      · exact .inl (.inr ⟨o, bt _ _ (fun e => by subst e; rw [hL1] at hl; cases hl) hl⟩)
      · exact .inr hl
    refine for_list (K := K) (a := l) (xs := xs) (fun j σ H' => ∃ (acc : List V) (v3 v4 : Option V), σ = [some (.int (d : Int)), some (.bl mir), some (.ref L), v3, v4] ∧ But L H1 H' ∧ DpAll K H' xs ((rowsN d d).map ptD) ∧
        H' L = some (.lst acc) ∧ DpAll K H' acc ((((rowsN d d).take j).flatMap (fun axes => turnsRow axes d mir)).map tnD))
      ⟨[], none, none, rfl, But.refl _ _, hd, hL1, .nil⟩ (fun j σ H' _ ⟨_, _, _, _, bt, _⟩ => hrows _ bt) ?_ ?_
    · rintro j x σ H2 hx ⟨acc, v3, v4, rfl, bt, hd2, hA, hda⟩
      obtain ⟨hj, hxp⟩ := pts_get hd2 hx
      have hrl : ((rowsN d d)[j]).length = d := rows_row h3 h3 (List.getElem_mem _)
      have hal : acc.length ≤ 48 := by
        rw [dpa_len hda, List.length_map]
        exact Nat.le_trans (turns_pre d mir _ j) hfull
      refine ⟨_, rfl, .inl ⟨rfl, _, .inl (.inl hA)⟩, ?_⟩
      refine ⟨_, rfl, d, rfl, h3, fun z H3 s3 hz3 => ?_⟩
      obtain ⟨ls, ys, rfl, hls, hdy⟩ := dp_rowL hz3
      have hyl := pts_len hdy
      have hS := signs_len (show d ≤ 3 by omega)
      refine ⟨ls, rfl, ⟨ys, hls⟩, fun D1 hD1 => ?_⟩
      refine lc_pl (K := K) (fun k => ((signsN d)[k]?).bind fun sg => if (mir || isProper (rowsN d d)[j] sg) = true then some (tnD ((rowsN d d)[j], sg)) else none) (fun k c e => ?_) (by omega) hD1 hls (fun k y H4 hy s4 Qt Qe k1 k2 => ?_) fun H4 zs s4 hZ hdz => ?_
      · cases e2 : (signsN d)[k]? with
        | none => rw [e2] at e; cases e
        | some n =>
          rw [e2, Option.bind_some] at e
          split at e
          · rw [← Option.some.inj e]; exact tup_tn _
          · cases e
      · obtain ⟨hk, hyp⟩ := pts_get (dpa_same s4 hdy) hy
        have hsl : ((signsN d)[k]).length = d := signs_row h3 (List.getElem_mem _)
        rw [List.getElem?_eq_getElem hk, Option.bind_some] at k1 k2
        have hx4 := dp_same (s3.trans s4) hxp
        have fin : ∀ H5, Same H4 H5 → (mir || isProper (rowsN d d)[j] (signsN d)[k]) = true → ∀ p, H5 p = none → Qe (.ref p) (upd H5 p (.tup [x, y])) := fun H5 s5 ht p hp =>
          k2 _ _ _ (s5.trans (same_upd hp)) (if_pos ht) (.tup (.inl (.inl upd_same)) (.cons (dp_same (s5.trans (same_upd hp)) hx4) (.cons (dp_same (s5.trans (same_upd hp)) hyp) .nil)))
        refine ⟨rfl, _, rfl, mir, rfl, ?_⟩
        cases mir with
        | true =>
          refine iteT ?_
          exact ⟨_, rfl, _, rfl, (by show 2 ≤ sizeLine; decide), fun p hp => fin _ (Same.refl _) rfl p hp⟩
        | false =>
          refine iteF ?_
          refine ⟨_, rfl, _, rfl, x, y, (rowsN d d)[j], (signsN d)[k], rfl, hx4, hyp, by omega, by omega, fun H5 s5 => ⟨_, rfl, ?_⟩⟩
          refine ite2 (fun hc => ?_) (fun hc => ?_)
          · exact ⟨_, rfl, _, rfl, (by show 2 ≤ sizeLine; decide), fun p hp => fin _ s5 (by rw [hc]; rfl) p hp⟩
          · exact k1 _ s5 (if_neg (by simpa using hc))
      · rw [hyl, fm_pickA (fun sg => mir || isProper (rowsN d d)[j] sg) (fun sg => tnD ((rowsN d d)[j], sg)) _ _ (Nat.le_refl _), List.take_length] at hdz
        have hz2 : DpAll K H4 zs ((turnsRow (rowsN d d)[j] d mir).map tnD) := by
          unfold turnsRow
          rw [List.map_map]
          exact hdz
        have hzl : zs.length ≤ 8 := by
          rw [dpa_len hz2, List.length_map]
          unfold turnsRow
          rw [List.length_map]
          exact Nat.le_trans (List.length_filter_le _ _) hS
        have hA4 := (s3.trans s4) _ _ hA
        refine ⟨L, D1, acc, zs, rfl, rfl, hA4, hZ, by rw [sizeLine_eq]; omega, ?_⟩
        have b2 : But L H4 (upd H4 L (.lst (acc ++ zs))) := fun b o nb hb => by rw [upd_ne nb]; exact hb
        refine ⟨acc ++ zs, _, v4, rfl, bt.trans ((Same.but (s3.trans s4)).trans b2), dpa_but b2 hA4 (tupA_pts _) (dpa_same (s3.trans s4) hd2), upd_same, ?_⟩
        rw [turns_take d mir _ hj, List.map_append]
        exact dpa_app (dpa_but b2 hA4 (tupA_tns _) (dpa_same (s3.trans s4) hda)) (dpa_but b2 hA4 (tupA_tns _) hz2)
    · rintro σ H2 ⟨acc, v3, v4, rfl, bt, hd2, hA, hda⟩
      rw [hxl, List.take_length] at hda
      exact ⟨_, rfl, q _ _ (bt.same (s0.trans s1) hL) (.lst (.inl (.inl hA)) hda)⟩
end
end K9

/-! KD9 -/
set_option Elab.async false
set_option linter.all false
set_option maxRecDepth 100000
set_option maxHeartbeats 4000000
namespace K9
open PySem PySem.Spec PyProof.Rows L2
theorem seqL_but {K : PySem.W.Frag} {H H' : Hp} {L l : Addr} {xs : List V} (hl : SqL K H l xs) (hL : H L = some (.lst [])) (ne : xs ≠ []) (bt : But L H H') : SqL K H' l xs := by
  rcases hl with (hl | ⟨o, hl⟩) | hl
  · by_cases e : l = L
    · subst e
      rw [hL] at hl
      exfalso
      injection hl with hl
      injection hl with hl
      exact ne hl.symm
    · exact .inl (.inl (bt _ _ e hl))
  · exact .inl (.inr ⟨o, bt _ _ (fun e => by subst e; rw [hL] at hl; cases hl) hl⟩)
  · exact .inr hl
theorem dp_two {K : PySem.W.Frag} {H : Hp} {x : V} {c e : PyData} (h : Dp K H x (.tuple [c, e])) : ∃ a y z, x = .ref a ∧ SqT K H a [y, z] ∧ Dp K H y c ∧ Dp K H z e := by
  obtain ⟨a, xs, e, hs, ha⟩ := dp_tup h
  cases ha with
  | cons h1 t1 =>
    cases t1 with
    | cons h2 t2 =>
      cases t2
      exact ⟨a, _, _, e, hs, h1, h2⟩
theorem ROk.turn {d : Nat} {R : Row} (ok : ROk d R) {t : Tn} (kt : TOk d t) : ROk d (turnRow R t) := ⟨Dim.turn kt R, turnRow_ne ok.ne t, ok.h1, ok.h3, by unfold turnRow; rw [List.length_map]; exact ok.len⟩
def foD (R : Row) (t : Tn) : PyData := .tuple [rowD (settledR (turnRow R t)), moT t (shiftOf (turnRow R t))]
where moT (t : Tn) (s : Pt) : PyData := .tuple [tnD t, ptD s]
theorem tup_fo (R : Row) (t : Tn) : tupO (foD R t) = true := by
  unfold foD foD.moT
  rw [tupO, tupA, tupA, tupA, tup_row, tupO, tupA, tupA, tupA, tup_tn, tup_pt]
  rfl
theorem tupA_fos (R : Row) (l : List Tn) : tupA (l.map (foD R)) = true := tupA_all fun d hd => by
  obtain ⟨i, _, rfl⟩ := List.mem_map.mp hd
  exact tup_fo R i
section
variable {P : Program} {w : World} {K : PySem.W.Frag} {mg : Str → Option Value} {base : Heap}
abbrev nForms : List Str := ["points", "are_mirrored", "found", "turn", "row", "shift", "point"]
theorem scForms : FnScope nForms ["points", "are_mirrored"] (defScope sForms) := ⟨rfl, rfl, rfl, by decide +kernel, rfl, by decide +kernel, by decide +kernel⟩
def spForms (K : PySem.W.Frag) : Sp := fun vs H Q _ => ∃ (x : V) (R : Row) (d : Nat) (mir : Bool), vs = [x, .bl mir] ∧ Dp K H x (rowD R) ∧ ROk d R ∧ ∀ z H', Same H H' → Dp K H' z (.list ((turnsOf d mir).map (foD R))) → Q z H'
theorem ok_forms {f fT fC fS fU fR fG fP : Addr} {fd fdT fdC fdS fdU fdR fdG fdP : FuncData} (D : Dfn K mg "forms_of" sForms ["points", "are_mirrored"] f fd)
    (DT : Dfn K mg "turned_by" sTurned ["point", "turn"] fT fdT) (DC : Dfn K mg "corner_of" sCorner ["points"] fC fdC) (DS : Dfn K mg "settled" sSettled ["points"] fS fdS)
    (DU : Dfn K mg "turns_of" sTurns ["many", "are_mirrored"] fU fdU) (DR : Dfn K mg "rows_of" sRows ["many"] fR fdR) (DG : Dfn K mg "signs_of" sSigns ["many"] fG fdG) (DP : Dfn K mg "is_proper" sProper ["axes", "signs"] fP fdP) (T : Gn mg) :
    FnOk P w K mg base CX0 3 f fd ["points", "are_mirrored"] (spForms K) := by
  have GT : FnOk P w K mg base CX0 1 fT fdT ["point", "turn"] (spTurned K) := ok_turned DT.F T
  have GS : FnOk P w K mg base CX0 2 fS fdS ["points"] (spSettled K) := ok_settled DS DC T
  have GU : FnOk P w K mg base CX0 2 fU fdU ["many", "are_mirrored"] (spTurns K) := ok_turns DU DR DG DP T
  refine D.F.ok scForms (fun vs H Q E h => ?_) (fun cdv A outer s H vs Q E hr h => ?_)
  · obtain ⟨x, R, d, mir, rfl, _⟩ := h
    rfl
  · obtain ⟨x, R, d, mir, rfl, hx, ok, q⟩ := h
    have nd := scForms.nd
    have hr1 : Room 1 _ := hr.mono (by decide)
    refine ⟨_, pss_cons (ps_set (i := 2) nd rfl (Or.inl rfl) (pe_lst pa_nil))
      (pss_cons (ps_for PassesOwn.never rfl (piL K (pe_call GU hr (by rfl) DU.g DU.F.kp DU.b .nil pass0 (pa_cons (pe_callB (lenS K) (by rfl) T.len PySem.boot_len (pa_cons (pe_ix (ixT K) (pv 0) pe_int (fun _ _ => rfl)) pa_nil)) (pa_cons (pv 1) pa_nil)))) (pg_name (i := 3) nd rfl (Or.inr rfl))
        (pss_cons (ps_asg (pe_call GS hr (by rfl) DS.g DS.F.kp DS.b .nil pass0 (pa_cons
            (pe_lc (own := [("point", 6)]) (g := gName 6) (tt := tYes) rfl nd (piT K (pv 0)) (blkOk_by (N := nForms) (sc := defScope sForms) (by decide +kernel))
              (fun _ _ _ _ _ => pg_name (i := 6) nd rfl (Or.inl rfl)) (fun _ _ _ _ _ => pts_nil)
              (fun _ _ _ _ _ => pe_call GT hr1 (by rfl) DT.g DT.F.kp DT.b .nil pass0 (pa_cons (pv 6) (pa_cons (pv 3) pa_nil)))) pa_nil))
          (pgT K 2 (pgs_cons (pg_name (i := 4) nd rfl (Or.inl rfl)) (pgs_cons (pg_name (i := 5) nd rfl (Or.inl rfl)) pgs_nil))))
        (pss_one (ps_expr (pe_bm PySem.F.plainAttrs_list PySem.F.slot_list_append PySem.F.type_list_append mt_append (pv 2) (pa_cons (pe_tup (pa_cons (pv 4) (pa_cons (pe_tup (pa_cons (pv 3) (pa_cons (pv 5) pa_nil))) pa_nil))) pa_nil))))))
      (pss_one (ps_ret (pv 2)))), ?_⟩
    obtain ⟨a, xs, rfl, hq, hd⟩ := dp_row hx
    have hxl := pts_len hd
    have hlen := ok.len
    obtain ⟨x0, b0, p0, hx0, rfl, hb0, hp0, hl0⟩ := ok.first hd
    -- found = []
    refine ⟨Nat.zero_le _, fun L hL => ?_⟩
    have s0 : Same H (upd H L (.lst [])) := same_upd hL
    -- for turn in turns_of(len(points[0]), are_mirrored)
    refine ⟨_, rfl, a, xs, 0, _, rfl, rfl, seqT_same s0 hq, atI_nat (j := 0) hx0, b0, _, rfl, .inr (seqT_same s0 hb0), _, rfl, d, mir, ?_, ok.h1, ok.h3, fun z H1 s1 hz => ?_⟩
    · rw [List.length_map, hl0]
      rfl
    obtain ⟨l, ys, rfl, hl, hdy⟩ := dp_lst hz
    have hyl : ys.length = (turnsOf d mir).length := by rw [dpa_len hdy, List.length_map]
    have hfull := turns_len ok.h1 ok.h3 mir
    have yne : ys ≠ [] := fun e => by
      rw [e] at hyl
      exact turns_ne ok.h1 ok.h3 mir (List.eq_nil_of_length_eq_zero hyl.symm)
    refine ⟨l, rfl, ⟨ys, hl⟩, ?_⟩
    have hL1 : H1 L = some (.lst []) := s1 _ _ upd_same
    have s01 : Same H H1 := s0.trans s1
    refine for_list (K := K) (a := l) (xs := ys) (fun j σ H' => ∃ (acc : List V) (v3 v4 v5 v6 : Option V), σ = [some (.ref a), some (.bl mir), some (.ref L), v3, v4, v5, v6] ∧ But L H1 H' ∧ DpAll K H' ys ((turnsOf d mir).map tnD) ∧
        H' L = some (.lst acc) ∧ DpAll K H' acc (((turnsOf d mir).take j).map (foD R)))
      ⟨[], none, none, none, none, rfl, But.refl _ _, hdy, hL1, .nil⟩ (fun j σ H' _ ⟨_, _, _, _, _, _, bt, _⟩ => seqL_but hl hL1 yne bt) ?_ ?_
    · rintro j y σ H2 hy ⟨acc, v3, v4, v5, v6, rfl, bt, hdy2, hA, hda⟩
      obtain ⟨c, hc, hyt⟩ := dpa_get hdy2 hy
      obtain ⟨hj, rfl⟩ := map_get hc
      have kt := turn_ok ok.h1 ok.h3 (List.getElem_mem hj)
      have hal : acc.length ≤ 48 := by
        rw [dpa_len hda, List.length_map, List.length_take]
        omega
      have s02 : Same H H2 := bt.same s01 hL
      -- settled([turned_by(point, turn) for point in points])
      refine ⟨_, rfl, a, rfl, ⟨xs, seqT_same s02 hq⟩, fun D1 hD1 => ?_⟩
      refine lc_mt ((turnRow R (turnsOf d mir)[j]).map ptD) (tupA_pts _) (by rw [List.length_map, hxl]; unfold turnRow; rw [List.length_map]) (by omega) hD1 (seqT_same s02 hq) (fun i x c H3 hx3 hc3 s3 Qt Qe k => ?_) fun H3 zs s3 hZ hdz => ?_
      · obtain ⟨hi, hxp⟩ := pts_get (dpa_same (s02.trans s3) hd) hx3
        obtain ⟨hi2, rfl⟩ := map_get hc3
        refine ⟨rfl, _, rfl, _, rfl, x, y, R[i], (turnsOf d mir)[j], d, rfl, hxp, dp_same s3 hyt, kt, ok.dim _ (List.getElem_mem _), ok.h3, fun z H4 s4 hz4 => k _ _ s4 ?_⟩
        rw [show (turnRow R (turnsOf d mir)[j])[i] = turned R[i] (turnsOf d mir)[j] from List.getElem_map ..]
        exact hz4
      refine ⟨D1, zs, turnRow R (turnsOf d mir)[j], d, rfl, .inl (.inl (.inl hZ)), hdz, ok.turn kt, fun z H4 s4 hz4 => ?_⟩
      obtain ⟨b, z1, z2, rfl, hbs, g1, g2⟩ := dp_two hz4
      have s24 := s3.trans s4
      have hA4 := s24 _ _ hA
      refine ⟨b, _, rfl, hbs, rfl, _, _, rfl, _, _, rfl, rfl, ?_⟩
      refine ⟨_, rfl, .inl ⟨rfl, _, .inl (.inl hA4)⟩, _, rfl, _, rfl, _, rfl, (by show 2 ≤ sizeLine; decide), fun p1 hp1 => ⟨(by show 2 ≤ sizeLine; decide), fun p2 hp2 => ?_⟩⟩
      have t1 : Same H4 (upd H4 p1 (.tup [y, z2])) := same_upd hp1
      have t2 := same_upd (o := .tup [z1, V.ref p1]) hp2
      refine ⟨L, acc, _, rfl, rfl, t2 _ _ (t1 _ _ hA4), by rw [sizeLine_eq]; omega, ?_⟩
      have np := Dp.tup (K := K) (.inl (.inl (upd_same (H := upd H4 p1 (.tup [y, z2])) (a := p2)))) (.cons (dp_same (t1.trans t2) g1) (.cons (dp_same t2 (.tup (.inl (.inl upd_same)) (.cons (dp_same (s24.trans t1) hyt) (.cons (dp_same t1 g2) .nil)))) .nil))
      have s25 := s24.trans (t1.trans t2)
      have hA5 := s25 _ _ hA
      generalize upd (upd H4 p1 (.tup [y, z2])) p2 (.tup [z1, .ref p1]) = H5 at np s25 hA5
      have b2 : But L H5 (upd H5 L (.lst (acc ++ [.ref p2]))) := fun b o nb hb => by rw [upd_ne nb]; exact hb
      refine ⟨acc ++ [.ref p2], _, _, _, v6, rfl, bt.trans ((Same.but s25).trans b2), dpa_but b2 hA5 (tupA_tns _) (dpa_same s25 hdy2), upd_same, ?_⟩
      rw [List.take_add_one, List.getElem?_eq_getElem hj, List.map_append]
      exact dpa_app (dpa_but b2 hA5 (tupA_fos R _) (dpa_same s25 hda)) (dpa_one (dp_but b2 hA5 (tup_fo R _) np))
    · rintro σ H2 ⟨acc, v3, v4, v5, v6, rfl, bt, hdy2, hA, hda⟩
      rw [hyl, List.take_length] at hda
      exact ⟨_, rfl, q _ _ (bt.same s01 hL) (.lst (.inl (.inl hA)) hda)⟩
end
end K9

/-! KD10 -/
set_option Elab.async false
set_option linter.all false
set_option maxRecDepth 100000
set_option maxHeartbeats 4000000
namespace K9
open PySem PySem.Spec PyProof.Rows L2
theorem minD_rows : ∀ (rs : List Row) (r : Row), PySem.W.minD (rowD r) (rs.map rowD) = rowD (rs.foldl (fun a y => if decide (y < a) then y else a) r)
  | [], r => rfl
  | k :: rs, r => by
    have ih := minD_rows rs (if decide (k < r) then k else r)
    unfold PySem.W.minD at ih ⊢
    rw [List.map_cons, List.foldl_cons, List.foldl_cons, ← ih, dataLt_rowD]
    by_cases h : decide (k < r) = true
    · rw [if_pos h, if_pos h]
    · rw [if_neg h, if_neg h]
theorem depth_row (R : Row) : (rowD R).depth ≤ 2 := by
  unfold rowD
  rw [PyData.depth]
  have := depth_pts R
  omega
theorem depth_rows : ∀ rs : List Row, PyData.depthAll (rs.map rowD) ≤ 2
  | [] => by simp [PyData.depthAll]
  | r :: rs => by
    show PyData.depthAll (rowD r :: rs.map rowD) ≤ 2
    rw [PyData.depthAll]
    have h1 := depth_row r
    have h2 := depth_rows rs
    omega
theorem alike_rowsA (rs : List Row) : PySem.W.AlikeAll (rs.map rowD) := ⟨fun x hx y hy => by
    obtain ⟨a, _, rfl⟩ := List.mem_map.mp hx
    obtain ⟨b, _, rfl⟩ := List.mem_map.mp hy
    exact alike_rows a b, fun x hx => by
    obtain ⟨a, _, rfl⟩ := List.mem_map.mp hx
    intro e
    cases e⟩
theorem tupA_rows (rs : List Row) : tupA (rs.map rowD) = true := tupA_all fun d hd => by
  obtain ⟨i, _, rfl⟩ := List.mem_map.mp hd
  exact tup_row i
theorem dp_nil {K : PySem.W.Frag} {H : Hp} {p : Addr} : Dp K (upd H p (.tup [])) (.ref p) (rowD []) := .tup (.inl (.inl upd_same)) .nil
/-- the defs of motions and shapes -/
structure Sh (K : PySem.W.Frag) (mg : Str → Option Value) (fR fG fP fU fT fM fC fS fF fO fA : Addr) (dR dG dP dU dT dM dC dS dF dO dA : FuncData) : Prop where
  R : Dfn K mg "rows_of" sRows ["many"] fR dR
  G : Dfn K mg "signs_of" sSigns ["many"] fG dG
  P : Dfn K mg "is_proper" sProper ["axes", "signs"] fP dP
  U : Dfn K mg "turns_of" sTurns ["many", "are_mirrored"] fU dU
  T : Dfn K mg "turned_by" sTurned ["point", "turn"] fT dT
  M : Dfn K mg "moved" sMoved ["point", "motion"] fM dM
  C : Dfn K mg "corner_of" sCorner ["points"] fC dC
  S : Dfn K mg "settled" sSettled ["points"] fS dS
  F : Dfn K mg "forms_of" sForms ["points", "are_mirrored"] fF dF
  O : Dfn K mg "form_of" sForm ["points", "are_mirrored"] fO dO
  A : Dfn K mg "are_alike" sAlike ["one", "other", "are_mirrored"] fA dA
section
variable {P : Program} {w : World} {K : PySem.W.Frag} {mg : Str → Option Value} {base : Heap} {fR fG fP fU fT fM fC fS fF fO fA : Addr} {dR dG dP dU dT dM dC dS dF dO dA : FuncData}
abbrev nForm : List Str := ["points", "are_mirrored", "row", "motion"]
theorem scForm : FnScope nForm ["points", "are_mirrored"] (defScope sForm) := ⟨rfl, rfl, rfl, by decide +kernel, rfl, by decide +kernel, by decide +kernel⟩
def spForm (K : PySem.W.Frag) : Sp := fun vs H Q _ => ∃ (x : V) (R : Row) (d : Nat) (mir : Bool), vs = [x, .bl mir] ∧ Dp K H x (rowD R) ∧ (R = [] ∨ ROk d R) ∧ ∀ z H', Same H H' → Dp K H' z (rowD (formR R mir)) → Q z H'
theorem ok_form (D : Sh K mg fR fG fP fU fT fM fC fS fF fO fA dR dG dP dU dT dM dC dS dF dO dA) (T : Gn mg) : FnOk P w K mg base CX0 4 fO dO ["points", "are_mirrored"] (spForm K) := by
  have GF : FnOk P w K mg base CX0 3 fF dF ["points", "are_mirrored"] (spForms K) := ok_forms D.F D.T D.C D.S D.U D.R D.G D.P T
  refine D.O.F.ok scForm (fun vs H Q E h => ?_) (fun cdv A outer s H vs Q E hr h => ?_)
  · obtain ⟨x, R, d, mir, rfl, _⟩ := h
    rfl
  · obtain ⟨x, R, d, mir, rfl, hx, ok, q⟩ := h
    have nd := scForm.nd
    refine ⟨_, pss_one (ps_ret (pe_ifExp (pt_cmpR (neD K hr.units) (pv 0) (pe_tup pa_nil) (nomark _))
      (pe_callB (minDc K hr.units) (by rfl) T.min boot_min (pa_cons
        (pe_lc (own := [("row", 2), ("motion", 3)]) (g := gTup K 2 (gCons (gName 2) (gCons (gName 3) gNil))) (tt := tYes) rfl nd (piL K (pe_call GF hr (by rfl) D.F.g D.F.F.kp D.F.b .nil pass0 (pa_cons (pv 0) (pa_cons (pv 1) pa_nil)))) (blkOk_by (N := nForm) (sc := defScope sForm) (by decide +kernel))
          (fun _ _ _ _ _ => pgT K 2 (pgs_cons (pg_name (i := 2) nd rfl (Or.inl rfl)) (pgs_cons (pg_name (i := 3) nd rfl (Or.inl rfl)) pgs_nil))) (fun _ _ _ _ _ => pts_nil) (fun _ _ _ _ _ => pv 2)) pa_nil))
      (pe_tup pa_nil))), ?_⟩
    refine ⟨_, rfl, Nat.zero_le _, fun p0 hp0 => ⟨rowD R, rowD [], dp_same (same_upd hp0) hx, dp_nil, shaped_row _, shaped_row _, _, rfl, ?_⟩⟩
    rw [eqv_rows]
    rcases ok with rfl | ok
    · rw [decide_eq_true (rfl : ([] : Row) = [])]
      refine iteF ⟨Nat.zero_le _, fun p1 hp1 => q _ _ ((same_upd hp0).trans (same_upd hp1)) ?_⟩
      unfold formR
      rw [if_pos rfl]
      exact dp_nil
    · rw [decide_eq_false ok.ne]
      refine iteT ?_
      have s0 : Same H (upd H p0 (.tup [])) := same_upd hp0
      refine ⟨_, rfl, _, rfl, x, R, d, mir, rfl, dp_same s0 hx, ok, fun z H1 s1 hz => ?_⟩
      obtain ⟨l, xs, rfl, hl, hd⟩ := dp_lst hz
      have hxl : xs.length = (turnsOf d mir).length := by rw [dpa_len hd, List.length_map]
      have hfull := turns_len ok.h1 ok.h3 mir
      have ef : formsR R mir = (turnsOf d mir).map fun t => settledR (turnRow R t) := by
        unfold formsR
        rw [ok.dim.dimR ok.ne]
      refine ⟨l, rfl, ⟨xs, hl⟩, fun D1 hD1 => ?_⟩
      refine lc_ml ((formsR R mir).map rowD) (tupA_rows _) (by rw [List.length_map, ef, List.length_map, hxl]) (by omega) hD1 hl (fun i y c H2 hy hc s2 Qt Qe k => ?_) fun H2 acc s2 hA hda => ?_
      · obtain ⟨c', hc', hyc⟩ := dpa_get (dpa_same s2 hd) hy
        obtain ⟨hi, rfl⟩ := map_get hc'
        obtain ⟨hi2, rfl⟩ := map_get hc
        obtain ⟨b, y1, y2, rfl, hb, g1, g2⟩ := dp_two hyc
        refine ⟨b, _, rfl, hb, rfl, _, _, rfl, _, _, rfl, rfl, rfl, _, rfl, k _ _ (Same.refl _) ?_⟩
        have e : (formsR R mir)[i] = settledR (turnRow R (turnsOf d mir)[i]) := by
          simp only [ef, List.getElem_map]
        rw [e]
        exact g1
      · have hne : formsR R mir ≠ [] := forms_ne ok.h1 ok.h3 ok.dim ok.ne
        have efr : formR R mir = minR (formsR R mir) := by
          unfold formR
          rw [if_neg ok.ne]
        rw [efr] at q
        have hal := alike_rowsA (formsR R mir)
        have hdp := depth_rows (formsR R mir)
        cases hc : formsR R mir with
        | nil => exact absurd hc hne
        | cons r rs =>
          rw [hc] at hda hal hdp q
          refine ⟨D1, acc, rowD r, rs.map rowD, rfl, .inl (.inl (.inl hA)), hda, hal, Nat.le_trans hdp (by decide), fun y hy => q _ _ (s0.trans (s1.trans s2)) ?_⟩
          rw [minD_rows] at hy
          exact hy
abbrev nAlike : List Str := ["one", "other", "are_mirrored"]
theorem scAlike : FnScope nAlike ["one", "other", "are_mirrored"] (defScope sAlike) := ⟨rfl, rfl, rfl, by decide +kernel, rfl, by decide +kernel, by decide +kernel⟩
def spAlike (K : PySem.W.Frag) : Sp := fun vs H Q _ => ∃ (x y : V) (A B : Row) (d e : Nat) (mir : Bool), vs = [x, y, .bl mir] ∧ Dp K H x (rowD A) ∧ Dp K H y (rowD B) ∧ (A = [] ∨ ROk d A) ∧ (B = [] ∨ ROk e B) ∧ ∀ H', Same H H' → Q (.bl (alikeR A B mir)) H'
theorem ok_alike (D : Sh K mg fR fG fP fU fT fM fC fS fF fO fA dR dG dP dU dT dM dC dS dF dO dA) (T : Gn mg) : FnOk P w K mg base CX0 5 fA dA ["one", "other", "are_mirrored"] (spAlike K) := by
  have GO : FnOk P w K mg base CX0 4 fO dO ["points", "are_mirrored"] (spForm K) := ok_form D T
  refine D.A.F.ok scAlike (fun vs H Q E h => ?_) (fun cdv A outer s H vs Q E hr h => ?_)
  · obtain ⟨x, y, A, B, d, e, mir, rfl, _⟩ := h
    rfl
  · obtain ⟨x, y, R, S, d, e, mir, rfl, hx, hy, okR, okS, q⟩ := h
    have nd := scAlike.nd
    refine ⟨_, pss_cons (ps_if (pt_cmpR op_ne (pe_callB (lenS K) (by rfl) T.len PySem.boot_len (pa_cons (pv 0) pa_nil)) (pe_callB (lenS K) (by rfl) T.len PySem.boot_len (pa_cons (pv 1) pa_nil)) (nomark _)) (pss_one (ps_ret pe_bl)) pss_nil)
      (pss_one (ps_ret (pe_cmpR (eqD K hr.units) (pe_call GO hr (by rfl) D.O.g D.O.F.kp D.O.b .nil pass0 (pa_cons (pv 0) (pa_cons (pv 2) pa_nil))) (pe_call GO hr (by rfl) D.O.g D.O.F.kp D.O.b .nil pass0 (pa_cons (pv 1) (pa_cons (pv 2) pa_nil))) (nomark _)))), ?_⟩
    obtain ⟨a, xs, rfl, hq, hd⟩ := dp_row hx
    obtain ⟨b, ys, rfl, hq2, hd2⟩ := dp_row hy
    have hxl := pts_len hd
    have hyl := pts_len hd2
    refine ⟨_, rfl, a, xs, rfl, .inr hq, _, rfl, b, ys, rfl, .inr hq2, rfl, _, rfl, ?_⟩
    rw [hxl, hyl]
    by_cases hl : R.length = S.length
    · rw [show decide (V.int (R.length : Int) = V.int (S.length : Int)) = true from decide_eq_true (by rw [hl])]
      refine iteF ?_
      refine ⟨_, rfl, _, rfl, _, R, d, mir, rfl, hx, okR, fun z H1 s1 hz => ?_⟩
      refine ⟨_, rfl, _, rfl, _, S, e, mir, rfl, dp_same s1 hy, okS, fun z2 H2 s2 hz2 => ?_⟩
      refine ⟨_, _, dp_same s2 hz, hz2, shaped_row _, shaped_row _, ?_⟩
      have := q H2 (s1.trans s2)
      unfold alikeR at this
      rw [decide_eq_true hl, Bool.true_and] at this
      rw [eqv_rows]
      exact this
    · rw [show decide (V.int (R.length : Int) = V.int (S.length : Int)) = false from decide_eq_false (fun z => hl (by have := V.int.inj z; omega))]
      refine iteT ?_
      have := q H (Same.refl H)
      unfold alikeR at this
      rw [decide_eq_false hl, Bool.false_and] at this
      exact this
end
end K9

/-! KD11 -/
set_option Elab.async false
set_option linter.all false
set_option maxRecDepth 100000
set_option maxHeartbeats 4000000
namespace K9
open PySem PySem.Spec PyProof.Rows L2
/-- the draw at d: the script and how many were drawn; H0 stood ahead of it -/
structure DrawAt (K : PySem.W.Frag) (H0 H : Hp) (d a : Addr) (ns : List Int) (n : Int) : Prop where
  same : Same H0 H
  new : H0 d = none
  scr : SqL K H0 a (ns.map V.int)
  at_ : H d = some (.lst [.ref a, .int n])
section
variable {K : PySem.W.Frag} {H0 H H' : Hp} {d a : Addr} {ns : List Int} {n : Int}
theorem DrawAt.keep (D : DrawAt K H0 H d a ns n) (e : Same H H') : DrawAt K H0 H' d a ns n := ⟨D.same.trans e, D.new, D.scr, e _ _ D.at_⟩
theorem DrawAt.next (D : DrawAt K H0 H d a ns n) (b : But d H H') (e : H' d = some (.lst [.ref a, .int (n + 1)])) : DrawAt K H0 H' d a ns (n + 1) := ⟨b.same D.same D.new, D.new, D.scr, e⟩
theorem nil_eqv : ∀ ns : List Int, PyData.eqv (.list (ns.map .int)) (.list []) = decide (ns = [])
  | [] => by simp [PyData.eqv, PyData.eqvAll]
  | a :: r => by
    rw [PyData.eqv]
    show PyData.eqvAll (PyData.int a :: r.map .int) [] = _
    rw [PyData.eqvAll]
    simp
end
section
variable {P : Program} {w : World} {K : PySem.W.Frag} {mg : Str → Option Value} {base : Heap}
abbrev nNumber : List Str := ["_law_script", "_law_index", "_law_cell", "_law_blend"]
theorem scNumber : FnScope nNumber ["_law_script", "_law_index"] (defScope sNumber) := ⟨rfl, rfl, rfl, by decide +kernel, rfl, by decide +kernel, by decide +kernel⟩
/-- some int -/
def spNumber (K : PySem.W.Frag) : Sp := fun vs H Q _ => ∃ (a : Addr) (ns : List Int) (n : Int), vs = [.ref a, .int n] ∧ SqL K H a (ns.map V.int) ∧ ∀ (r : Int) H', Same H H' → Q (.int r) H'
theorem ok_number {f : Addr} {fd : FuncData} (D : Dfn K mg "_law_number" sNumber ["_law_script", "_law_index"] f fd) (T : Gn mg) : FnOk P w K mg base CX0 1 f fd ["_law_script", "_law_index"] (spNumber K) := by
  refine D.F.ok scNumber (fun vs H Q E h => ?_) (fun cdv A outer s H vs Q E hr h => ?_)
  · obtain ⟨a, ns, n, rfl, _⟩ := h
    rfl
  · obtain ⟨a, ns, n, rfl, hs, q⟩ := h
    have nd := scNumber.nd
    refine ⟨_, pss_cons (ps_if (pt_cmpR (eqD K hr.units) (pv 0) (pe_lst pa_nil) (nomark _)) (pss_one (ps_ret (pe_callTy call_int1 (by rfl) T.int boot_int (pa_cons (pe_op op_mod (pe_op op_add (pe_op op_mul (pv 1) pe_int) pe_int) pe_int) pa_nil)))) pss_nil)
      (pss_cons (ps_set (i := 2) nd rfl (Or.inl rfl) (pe_ix (ixL K) (pv 0) (pe_op op_mod (pv 1) (pe_callB (lenS K) (by rfl) T.len PySem.boot_len (pa_cons (pv 0) pa_nil))) (fun _ _ => rfl)))
      (pss_cons (ps_if (pt_cmpR op_ge (pe_callB call_abs (by rfl) T.abs boot_abs (pa_cons (pv 2) pa_nil)) (pe_op op_pow pe_int pe_int) (nomark _)) (pss_one (ps_set (i := 2) nd rfl (Or.inl rfl) (pe_op op_modN (pv 2) (pe_op op_pow pe_int pe_int)))) pss_nil)
      (pss_cons (ps_set (i := 3) nd rfl (Or.inl rfl) (pe_op op_mod (pe_op op_add (pe_op op_mul (pe_op op_add (pv 2) (pe_op op_mul pe_int (pv 1))) pe_int) (pe_op op_mul pe_int (pe_callB (lenS K) (by rfl) T.len PySem.boot_len (pa_cons (pv 0) pa_nil)))) pe_int))
      (pss_one (ps_ret (pe_callTy call_int1 (by rfl) T.int boot_int (pa_cons (pe_op op_mod (pe_op op_add (pe_op op_mul (pe_op op_mod (pe_op op_mul (pv 3) pe_int) pe_int) pe_int) (pv 1)) pe_int) pa_nil))))))), ?_⟩
    refine ⟨_, rfl, Nat.zero_le _, fun p0 hp0 => ?_⟩
    have s0 : Same H (upd H p0 (.lst [])) := same_upd hp0
    have hs0 := s0.seq hs
    refine ⟨.list (ns.map .int), .list [], .lst hs0 (dpa_of_ints ns), .lst (.inl (.inl upd_same)) .nil, shaped_ints _, by rfl, _, rfl, ?_⟩
    rw [nil_eqv]
    generalize upd H p0 (.lst []) = H1 at s0 hs0
    by_cases hn : ns = []
    · rw [decide_eq_true hn]
      refine iteT ?_
      exact ⟨_, rfl, _, _, rfl, rfl, .inr ⟨by decide, by decide⟩, _, _, rfl, rfl, _, _, rfl, rfl, (by show (0 : Int) < 2147483647; decide), .inl ⟨_, rfl, q _ _ s0⟩⟩
    · rw [decide_eq_false hn]
      refine iteF ?_
      have hpos : 0 < ns.length := List.length_pos_iff.mpr hn
      have b0 : 0 ≤ n % (ns.length : Int) := Int.emod_nonneg _ (by omega)
      have b1 : n % (ns.length : Int) < (ns.length : Int) := Int.emod_lt_of_pos _ (by omega)
      have hlt : (n % (ns.length : Int)).toNat < ns.length := by omega
      refine ⟨_, rfl, _, rfl, _, rfl, a, _, rfl, .inl hs0, _, _, rfl, rfl, ?_, a, _, _, V.int ns[(n % (ns.length : Int)).toNat], rfl, rfl, hs0, ?_, ?_⟩
      · show (0 : Int) < ((ns.map V.int).length : Int)
        rw [List.length_map]
        omega
      · rw [List.length_map]
        exact at_of (j := (n % (ns.length : Int)).toNat) (by omega) (by rw [List.getElem?_map, List.getElem?_eq_getElem hlt]; rfl)
      · -- the cell, made small
        refine ⟨_, rfl, _, rfl, _, _, rfl, rfl, ⟨by decide, by decide, by decide⟩, _, _, rfl, rfl, _, rfl, ?_⟩
        refine ite2 (fun _ => ⟨_, rfl, _, _, rfl, rfl, ⟨by decide, by decide, by decide⟩, _, _, rfl, rfl, (by show (10 : Int) ^ 18 ≠ 0; decide), ?_⟩) (fun _ => ?_)
        all_goals exact
          ⟨_, rfl, _, rfl, _, _, rfl, rfl, .inl ⟨by decide, by decide⟩, _, _, rfl, rfl, _, _, rfl, rfl, .inr ⟨by decide, by decide⟩, _, rfl, a, _, rfl, .inl hs0, _, _, rfl, rfl, .inl ⟨by decide, by decide⟩, _, _, rfl, rfl, _, _, rfl, rfl, (by show (0 : Int) < 2147483647; decide),
            _, rfl, _, _, rfl, rfl, .inr ⟨by decide, by decide⟩, _, _, rfl, rfl, (by show (0 : Int) < 2147483629; decide), _, _, rfl, rfl, .inr ⟨by decide, by decide⟩, _, rfl, _, _, rfl, rfl, _, _, rfl, rfl, (by show (0 : Int) < 2147483587; decide), .inl ⟨_, rfl, q _ _ s0⟩⟩
end
end K9

/-! KD12 -/
set_option Elab.async false
set_option linter.all false
set_option maxRecDepth 100000
set_option maxHeartbeats 4000000
namespace K9
open PySem PySem.Spec PyProof.Rows L2
section
variable {P : Program} {w : World} {K : PySem.W.Frag} {mg : Str → Option Value} {base : Heap}
abbrev nTake : List Str := ["_law_draw", "_law_many"]
theorem scTake : FnScope nTake ["_law_draw", "_law_many"] (defScope sTake) := ⟨rfl, rfl, rfl, by decide +kernel, rfl, by decide +kernel, by decide +kernel⟩
def spTake (K : PySem.W.Frag) : Sp := fun vs H Q _ => ∃ (d a : Addr) (ns : List Int) (n m : Int) (H0 : Hp), vs = [.ref d, .int m] ∧ 0 < m ∧ DrawAt K H0 H d a ns n ∧
  ∀ (r : Int) H', 0 ≤ r → r < m → But d H H' → H' d = some (.lst [.ref a, .int (n + 1)]) → Q (.int r) H'
theorem ok_take {f fN : Addr} {fd fdN : FuncData} (D : Dfn K mg "_law_take" sTake ["_law_draw", "_law_many"] f fd) (DN : Dfn K mg "_law_number" sNumber ["_law_script", "_law_index"] fN fdN) (T : Gn mg) : FnOk P w K mg base CX0 2 f fd ["_law_draw", "_law_many"] (spTake K) := by
  have GN : FnOk P w K mg base CX0 1 fN fdN ["_law_script", "_law_index"] (spNumber K) := ok_number DN T
  refine D.F.ok scTake (fun vs H Q E h => ?_) (fun cdv A outer s H vs Q E hr h => ?_)
  · obtain ⟨d, a, ns, n, m, H0, rfl, _⟩ := h
    rfl
  · obtain ⟨d, a, ns, n, m, H0, rfl, hm, dr, q⟩ := h
    have nd := scTake.nd
    refine ⟨_, pss_cons (ps_augS (pv 0) pe_int get_list pe_int ip_add set_list)
      (pss_one (ps_ret (pe_op op_mod (pe_callTy call_int1 (by rfl) T.int boot_int (pa_cons (pe_call GN hr (by rfl) DN.g DN.F.kp DN.b .nil pass0 (pa_cons (pe_ix (ixL K) (pv 0) pe_int (fun _ _ => rfl)) (pa_cons (pe_callTy call_int1 (by rfl) T.int boot_int (pa_cons (pe_ix (ixL K) (pv 0) pe_int (fun _ _ => rfl)) pa_nil)) pa_nil))) pa_nil)) (pv 1)))), ?_⟩
    refine ⟨_, rfl, d, _, 1, _, rfl, rfl, .inl (.inl dr.at_), rfl, n, 1, rfl, rfl, d, _, 1, 1, rfl, rfl, dr.at_, rfl, ?_⟩
    have bt0 : But d H (upd H d (.lst [.ref a, .int (n + 1)])) := fun b o nb hb => by rw [upd_ne nb]; exact hb
    have e0 : upd H d (.lst [.ref a, .int (n + 1)]) d = some (.lst [.ref a, .int (n + 1)]) := upd_same
    generalize hH : upd H d (HO.lst ([V.ref a, V.int n].set 1 (V.int ((fun i j => i + j) n 1)))) = H1
    have bt : But d H H1 := by rw [← hH]; exact bt0
    have e1 : H1 d = some (.lst [.ref a, .int (n + 1)]) := by rw [← hH]; exact e0
    have dr1 := dr.next bt e1
    refine ⟨_, rfl, d, _, 0, _, rfl, rfl, .inl (.inl e1), rfl, _, rfl, d, _, 1, _, rfl, rfl, .inl (.inl e1), rfl, .inl ⟨_, rfl, ?_⟩⟩
    refine ⟨a, ns, n + 1, rfl, dr1.same.seq dr1.scr, fun r H2 s2 => .inl ⟨_, rfl, _, rfl, _, _, rfl, rfl, hm, ?_⟩⟩
    exact q _ _ (Int.emod_nonneg _ (by omega)) (Int.emod_lt_of_pos _ hm) (bt.trans (Same.but s2)) (s2 _ _ e1)
abbrev nPick : List Str := ["_law_draw", "_law_items"]
theorem scPick : FnScope nPick ["_law_draw", "_law_items"] (defScope sPick) := ⟨rfl, rfl, rfl, by decide +kernel, rfl, by decide +kernel, by decide +kernel⟩
def spPick (K : PySem.W.Frag) : Sp := fun vs H Q _ => ∃ (d a l : Addr) (ns : List Int) (n : Int) (H0 : Hp) (xs : List V), vs = [.ref d, .ref l] ∧ DrawAt K H0 H d a ns n ∧ SqL K H l xs ∧ xs ≠ [] ∧ (∀ H', But d H H' → SqL K H' l xs) ∧
  ∀ (i : Nat) (x : V) H', xs[i]? = some x → But d H H' → H' d = some (.lst [.ref a, .int (n + 1)]) → Q x H'
theorem ok_pick {f fT fN : Addr} {fd fdT fdN : FuncData} (D : Dfn K mg "_law_pick" sPick ["_law_draw", "_law_items"] f fd) (DT : Dfn K mg "_law_take" sTake ["_law_draw", "_law_many"] fT fdT) (DN : Dfn K mg "_law_number" sNumber ["_law_script", "_law_index"] fN fdN) (T : Gn mg) : FnOk P w K mg base CX0 3 f fd ["_law_draw", "_law_items"] (spPick K) := by
  have GT : FnOk P w K mg base CX0 2 fT fdT ["_law_draw", "_law_many"] (spTake K) := ok_take DT DN T
  refine D.F.ok scPick (fun vs H Q E h => ?_) (fun cdv A outer s H vs Q E hr h => ?_)
  · obtain ⟨d, a, l, ns, n, H0, xs, rfl, _⟩ := h
    rfl
  · obtain ⟨d, a, l, ns, n, H0, xs, rfl, dr, hl, ne, hk, q⟩ := h
    have nd := scPick.nd
    have hpos : 0 < xs.length := List.length_pos_iff.mpr ne
    refine ⟨_, pss_one (ps_ret (pe_ix (ixL K) (pv 1) (pe_call GT hr (by rfl) DT.g DT.F.kp DT.b .nil pass0 (pa_cons (pv 0) (pa_cons (pe_callB (lenS K) (by rfl) T.len PySem.boot_len (pa_cons (pv 1) pa_nil)) pa_nil))) (fun _ _ => rfl))), ?_⟩
    refine ⟨_, rfl, _, rfl, _, rfl, l, xs, rfl, .inl hl, d, a, ns, n, (xs.length : Int), H0, rfl, by omega, dr, fun r H1 r0 r1 b1 e1 => ?_⟩
    have hlt : r.toNat < xs.length := by omega
    exact ⟨l, xs, r, xs[r.toNat], rfl, rfl, hk _ b1, at_of (j := r.toNat) (by omega) (List.getElem?_eq_getElem hlt), q _ _ _ (List.getElem?_eq_getElem hlt) b1 e1⟩
end
end K9

/-! KD13 -/
set_option Elab.async false
set_option linter.all false
set_option maxRecDepth 100000
set_option maxHeartbeats 4000000
namespace K9
open PySem PySem.Spec PyProof.Rows L2
section
variable {P : Program} {w : World} {K : PySem.W.Frag} {mg : Str → Option Value} {base : Heap} {fR fG fP fU fT fM fC fS fF fO fA : Addr} {dR dG dP dU dT dM dC dS dF dO dA : FuncData}
abbrev nIsMoved : List Str := ["_law_one", "_law_other", "_law_are_mirrored", "_law_goal", "_law_turn", "_law_rows", "_law_shift", "_law_point", "_law_early", "_law_late", "_law_place", "_law_more"]
theorem scIsMoved : FnScope nIsMoved ["_law_one", "_law_other", "_law_are_mirrored"] (defScope sIsMoved) := ⟨rfl, rfl, rfl, by decide +kernel, rfl, by decide +kernel, by decide +kernel⟩
def ifT : Stmt → Expr
  | .If c _ _ _ => c
  | _ => .Name "?" ⟨0, 0, 0, 0⟩
def cmpL : Expr → Expr
  | .Compare a _ _ _ => a
  | e => e
abbrev scoIsMoved : Scope := lcs (arg0 (cmpL (ifT (forAt (bodyAt sIsMoved 2) 2))))
def spIsMoved (K : PySem.W.Frag) : Sp := fun vs H Q _ => ∃ (x y : V) (A B : Row) (d : Nat) (mir : Bool), vs = [x, y, .bl mir] ∧ Dp K H x (rowD A) ∧ Dp K H y (rowD B) ∧ ROk d A ∧ ROk d B ∧ ∀ H', Same H H' → Q (.bl (isMoved A B mir)) H'
theorem ROk.sort {d : Nat} {R : Row} (ok : ROk d R) : ROk d (sortP R) := ⟨ok.dim.sort, sortP_ne ok.ne, ok.h1, ok.h3, by rw [sortP_length]; exact ok.len⟩
theorem ROk.nonempty {d : Nat} {R : Row} (ok : ROk d R) : ∀ p ∈ R, p ≠ [] := fun p hp e => by
  have := ok.dim p hp
  rw [e] at this
  have h1 := ok.h1
  have : 0 = d := this
  omega
theorem ROk.shift {d : Nat} {R : Row} (ok : ROk d R) {s : Pt} (hs : s.length = d) : ROk d (shiftRow R s) := ⟨ok.dim.shift hs, shiftRow_ne ok.ne s, ok.h1, ok.h3, by unfold shiftRow; rw [List.length_map]; exact ok.len⟩
theorem headD_of {R : Row} {p : Pt} (h : R[0]? = some p) : R.headD [] = p := by
  cases R with
  | nil => simp at h
  | cons q r => exact Option.some.inj h
theorem ok_isMoved {f : Addr} {fd : FuncData} (E' : Dfn K mg "_law_is_moved" sIsMoved ["_law_one", "_law_other", "_law_are_mirrored"] f fd) (D : Sh K mg fR fG fP fU fT fM fC fS fF fO fA dR dG dP dU dT dM dC dS dF dO dA) (T : Gn mg) :
    FnOk P w K mg base CX0 3 f fd ["_law_one", "_law_other", "_law_are_mirrored"] (spIsMoved K) := by
  have GT : FnOk P w K mg base CX0 1 fT dT ["point", "turn"] (spTurned K) := ok_turned D.T.F T
  have GU : FnOk P w K mg base CX0 2 fU dU ["many", "are_mirrored"] (spTurns K) := ok_turns D.U D.R D.G D.P T
  refine E'.F.ok scIsMoved (fun vs H Q E h => ?_) (fun cdv A outer s H vs Q E hr h => ?_)
  · obtain ⟨x, y, A, B, d, mir, rfl, _⟩ := h
    rfl
  · obtain ⟨x, y, R, S, d, mir, rfl, hx, hy, okR, okS, q⟩ := h
    have nd := scIsMoved.nd
    have hr1 : Room 1 _ := hr.mono (by decide)
    have hu := hr.units
    refine ⟨_, pss_cons (ps_if (PW.pt (pw_or (pt_cmpR (eqD K hu) (pv 0) (pe_tup pa_nil) (nomark _)) (pw_or1 (pt_cmpR (eqD K hu) (pv 1) (pe_tup pa_nil) (nomark _))))) pss_never pss_nil)
      (pss_cons (ps_set (i := 3) nd rfl (Or.inl rfl) (pe_callB (sortQ K hu) (by rfl) T.sorted boot_sorted (pa_cons (pv 1) pa_nil)))
      (pss_cons (ps_for PassesOwn.never rfl (piL K (pe_call GU hr (by rfl) D.U.g D.U.F.kp D.U.b .nil pass0 (pa_cons (pe_callB (lenS K) (by rfl) T.len PySem.boot_len (pa_cons (pe_ix (ixT K) (pv 0) pe_int (fun _ _ => rfl)) pa_nil)) (pa_cons (pv 2) pa_nil)))) (pg_name (i := 4) nd rfl (Or.inr rfl))
        (pss_cons (ps_set (i := 5) nd rfl (Or.inl rfl) (pe_callB (sortQ K hu) (by rfl) T.sorted boot_sorted (pa_cons
          (pe_lc (own := [("_law_point", 7)]) (g := gName 7) (tt := tYes) rfl nd (piT K (pv 0)) (blkOk_by (N := nIsMoved) (sc := defScope sIsMoved) (by decide +kernel))
              (fun _ _ _ _ _ => pg_name (i := 7) nd rfl (Or.inl rfl)) (fun _ _ _ _ _ => pts_nil)
              (fun _ _ _ _ _ => pe_call GT hr1 (by rfl) D.T.g D.T.F.kp D.T.b .nil pass0 (pa_cons (pv 7) (pa_cons (pv 4) pa_nil)))) pa_nil)))
        (pss_cons (ps_set (i := 6) nd rfl (Or.inr rfl) (pe_callTy (tupOf K) (by rfl) T.tuple boot_tuple (pa_cons
          (pe_lc (own := [("_law_early", 8), ("_law_late", 9)]) (g := gTup K 2 (gCons (gName 8) (gCons (gName 9) gNil))) (tt := tYes) rfl nd (piZ K (by rfl) T.zip (pa_cons (pe_ix (ixL K) (pv 5) pe_int (fun _ _ => rfl)) (pa_cons (pe_ix (ixL K) (pv 3) pe_int (fun _ _ => rfl)) pa_nil))) (blkOk_by (N := nIsMoved) (sc := defScope sIsMoved) (by decide +kernel))
              (fun _ _ _ _ _ => pgT K 2 (pgs_cons (pg_name (i := 8) nd rfl (Or.inl rfl)) (pgs_cons (pg_name (i := 9) nd rfl (Or.inl rfl)) pgs_nil))) (fun _ _ _ _ _ => pts_nil)
              (fun _ _ _ _ _ => pe_op op_sub (pv 9) (pv 8))) pa_nil)))
        (pss_one (ps_if (pt_cmpR (eqD K hu) (pe_callB (sortQ K hu) (by rfl) T.sorted boot_sorted (pa_cons
          (pe_lc (own := [("_law_point", 7)]) (g := gName 7) (tt := tYes) rfl nd (piL K (pv 5)) (blkOk_by (N := nIsMoved) (sc := defScope sIsMoved) (by decide +kernel))
              (fun _ _ _ _ _ => pg_name (i := 7) nd rfl (Or.inl rfl)) (fun _ _ _ _ _ => pts_nil)
              (fun _ _ _ _ _ => pe_callTy (tupOf K) (by rfl) T.tuple boot_tuple (pa_cons
                (pe_lc (own := [("_law_place", 10), ("_law_more", 11)]) (g := gTup K 2 (gCons (gName 10) (gCons (gName 11) gNil))) (tt := tYes) rfl nd (piZ K (by rfl) T.zip (pa_cons (pv 7) (pa_cons (pv 6) pa_nil))) (blkOk_by (N := nIsMoved) (sc := relS scoIsMoved (defScope sIsMoved)) (by decide +kernel))
                  (fun _ _ _ _ _ => pgT K 2 (pgs_cons (pg_name (i := 10) nd rfl (Or.inl rfl)) (pgs_cons (pg_name (i := 11) nd rfl (Or.inl rfl)) pgs_nil))) (fun _ _ _ _ _ => pts_nil)
                  (fun _ _ _ _ _ => pe_op op_add (pv 10) (pv 11))) pa_nil))) pa_nil)) (pv 3) (nomark _)) (pss_one (ps_ret pe_bl)) pss_nil)))))
      (pss_one (ps_ret pe_bl)))), ?_⟩
    obtain ⟨a, xs, rfl, hq, hd⟩ := dp_row hx
    obtain ⟨b, ys, rfl, hq2, hd2⟩ := dp_row hy
    have hxl := pts_len hd
    have hyl := pts_len hd2
    have hl1 := okR.len
    have hl2 := okS.len
    have h1 := okR.h1
    have h3 := okR.h3
    -- neither is empty
    refine ⟨_, rfl, Nat.zero_le _, fun p0 hp0 => ⟨rowD R, rowD [], dp_same (same_upd hp0) hx, dp_nil, shaped_row _, shaped_row _, _, rfl, ?_⟩⟩
    rw [eqv_rows, decide_eq_false okR.ne]
    refine iteF ?_
    have s0 : Same H (upd H p0 (.tup [])) := same_upd hp0
    refine ⟨_, rfl, Nat.zero_le _, fun p1 hp1 => ⟨rowD S, rowD [], dp_same (s0.trans (same_upd hp1)) hy, dp_nil, shaped_row _, shaped_row _, _, rfl, ?_⟩⟩
    rw [eqv_rows, decide_eq_false okS.ne]
    refine iteF ?_
    have s1 := s0.trans (same_upd (o := .tup []) hp1)
    generalize upd (upd H p0 (.tup [])) p1 (.tup []) = H1 at s1
    -- goal = sorted(other)
    refine ⟨_, rfl, b, ys, S, rfl, .inr (seqT_same s1 hq2), dpa_same s1 hd2, by omega, okS.nonempty, fun gs g0 hg0 hgs => ?_⟩
    have s2 := s1.trans (same_upd (o := .lst gs) hg0)
    have hG : (upd H1 g0 (.lst gs)) g0 = some (.lst gs) := upd_same
    have hgd := dpa_same (same_upd (o := .lst gs) hg0) hgs
    generalize upd H1 g0 (.lst gs) = H2 at s2 hG hgd
    obtain ⟨x0, b0, r0, hx0, rfl, hb0, hr0, hl0⟩ := okR.first hd
    -- for turn in turns_of(len(one[0]), are_mirrored)
    refine ⟨_, rfl, a, xs, 0, _, rfl, rfl, seqT_same s2 hq, atI_nat (j := 0) hx0, b0, _, rfl, .inr (seqT_same s2 hb0), _, rfl, d, mir, ?_, h1, h3, fun z H3 s3 hz => ?_⟩
    · rw [List.length_map, hl0]
      rfl
    obtain ⟨l, ts, rfl, hl, hdt⟩ := dp_lst hz
    have htl : ts.length = (turnsOf d mir).length := by rw [dpa_len hdt, List.length_map]
    have em : isMoved R S mir = (turnsOf d mir).any (movesTo R S) := by
      unfold isMoved
      rw [if_neg (fun h => h.elim okR.ne okS.ne), okR.dim.dimR okR.ne]
    have s03 := s2.trans s3
    refine ⟨l, rfl, ⟨ts, hl⟩, ?_⟩
    refine for_list (K := K) (a := l) (xs := ts) (fun j σ H' => ∃ (v4 v5 v6 v7 v8 v9 v10 v11 : Option V), σ = [some (.ref a), some (.ref b), some (.bl mir), some (.ref g0), v4, v5, v6, v7, v8, v9, v10, v11] ∧ Same H3 H' ∧ ((turnsOf d mir).take j).any (movesTo R S) = false)
      ⟨none, none, none, none, none, none, none, none, rfl, Same.refl _, rfl⟩ (fun j σ H' _ ⟨_, _, _, _, _, _, _, _, _, s4, _⟩ => s4.seq hl) ?_ ?_
    · rintro j y σ H4 hy4 ⟨v4, v5, v6, v7, v8, v9, v10, v11, rfl, s4, hno⟩
      obtain ⟨c, hc, hyt⟩ := dpa_get (dpa_same s4 hdt) hy4
      obtain ⟨hj, rfl⟩ := map_get hc
      have kt := turn_ok h1 h3 (List.getElem_mem hj)
      generalize ht : (turnsOf d mir)[j] = t at kt hyt
      have okT := okR.turn kt
      have s14 := s03.trans s4
      have hG4 := (s3.trans s4) _ _ hG
      have hgd4 := dpa_same (s3.trans s4) hgd
      have okG := okS.sort
      -- rows = sorted([turned_by(point, turn) for point in one])
      refine ⟨_, rfl, a, rfl, ⟨xs, seqT_same s14 hq⟩, fun D1 hD1 => ?_⟩
      refine lc_mt ((turnRow R t).map ptD) (tupA_pts _) (by rw [List.length_map, hxl]; unfold turnRow; rw [List.length_map]) (by omega) hD1 (seqT_same s14 hq) (fun i x c H5 hx5 hc5 s5 Qt Qe k => ?_) fun H5 zs s5 hZ hdz => ?_
      · obtain ⟨hi, hxp⟩ := pts_get (dpa_same (s14.trans s5) hd) hx5
        obtain ⟨hi2, rfl⟩ := map_get hc5
        refine ⟨rfl, _, rfl, _, rfl, x, y, R[i], t, d, rfl, hxp, dp_same s5 hyt, kt, okR.dim _ (List.getElem_mem _), h3, fun z H6 s6 hz6 => k _ _ s6 ?_⟩
        rw [show (turnRow R t)[i] = turned R[i] t from List.getElem_map ..]
        exact hz6
      refine ⟨D1, zs, turnRow R t, rfl, .inl (.inl (.inl hZ)), hdz, by have := okT.len; omega, okT.nonempty, fun rs r1 hr1' hrs => ?_⟩
      have okQ := okT.sort
      have hRw : (upd H5 r1 (.lst rs)) r1 = some (.lst rs) := upd_same
      have hrd := dpa_same (same_upd (o := .lst rs) hr1') hrs
      have s46 := s5.trans (same_upd (o := .lst rs) hr1')
      generalize upd H5 r1 (.lst rs) = H6 at s46 hRw hrd
      have hG6 := s46 _ _ hG4
      have hgd6 := dpa_same s46 hgd4
      generalize hQ : sortP (turnRow R t) = Q1 at okQ hrd
      generalize hS1 : sortP S = S1 at okG hgd6
      -- shift = tuple([late - early for early, late in zip(rows[0], goal[0])])
      obtain ⟨x1, b1, q1, hx1, rfl, hb1, hq1, hlq⟩ := okQ.first hrd
      obtain ⟨x2, b2, q2, hx2, rfl, hb2, hq2', hlg⟩ := okG.first hgd6
      refine ⟨_, rfl, r1, rs, 0, _, rfl, rfl, .inl (.inl hRw), atI_nat (j := 0) hx1, _, rfl, g0, gs, 0, _, rfl, rfl, .inl (.inl hG6), atI_nat (j := 0) hx2, b1, b2, _, _, rfl, .inr ⟨hb1, hb2, fun D2 hD2 => ?_⟩⟩
      refine lc_zi (fun x y => y - x) q1 q2 (by omega) (by omega) hD2 hb1 hb2 (fun x y T' H7 s7 hT Qt Qe k => ?_) fun H7 s7 hA7 => ?_
      · exact ⟨T', _, rfl, .inl (.inl upd_same), rfl, _, _, rfl, _, _, rfl, rfl, rfl, _, rfl, _, rfl, _, _, rfl, rfl, k⟩
      have esh : List.zipWith (fun x y => y - x) q1 q2 = shiftTo Q1 S1 := by
        unfold shiftTo
        rw [headD_of hq1, headD_of hq2']
      rw [esh] at hA7
      have lsh : (shiftTo Q1 S1).length = d := by
        rw [← esh, List.length_zipWith]
        omega
      refine ⟨D2, _, rfl, .inl ⟨.inl (.inl hA7), fun b3 hb3 => ?_⟩⟩
      have hsh : SqT K (upd H7 b3 (.tup ((shiftTo Q1 S1).map V.int))) b3 ((shiftTo Q1 S1).map V.int) := .inl (.inl upd_same)
      have s68 := s7.trans (same_upd (o := .tup ((shiftTo Q1 S1).map V.int)) hb3)
      generalize upd H7 b3 (.tup ((shiftTo Q1 S1).map V.int)) = H8 at hsh s68
      -- sorted([tuple([..]) for point in rows]) == goal
      have hR8 := s68 _ _ hRw
      have hrd8 := dpa_same s68 hrd
      have hrl := pts_len hrd
      have hq1l := okQ.len
      refine ⟨_, rfl, r1, rfl, ⟨rs, .inl (.inl hR8)⟩, fun D3 hD3 => ?_⟩
      refine lc_ml ((shiftRow Q1 (shiftTo Q1 S1)).map ptD) (tupA_pts _) (by rw [List.length_map, hrl]; unfold shiftRow; rw [List.length_map]) (by omega) hD3 (.inl (.inl hR8)) (fun i x c H9 hx9 hc9 s9 Qt Qe k => ?_) fun H9 ws s9 hW hdw => ?_
      · obtain ⟨hi, hxp⟩ := pts_get (dpa_same s9 hrd8) hx9
        obtain ⟨b, rfl, hb⟩ := dp_pt hxp
        obtain ⟨hi2, rfl⟩ := map_get hc9
        have hpl : (Q1[i]).length = d := okQ.dim _ (List.getElem_mem _)
        have hsh9 := seqT_same s9 hsh
        refine ⟨rfl, _, rfl, _, rfl, b, b3, _, _, rfl, .inr ⟨hb, hsh9, fun D4 hD4 => ?_⟩⟩
        refine lc_zi (fun x y => x + y) Q1[i] (shiftTo Q1 S1) (by omega) (by omega) hD4 hb hsh9 (fun x y T' H10 s10 hT Qt' Qe' k' => ?_) fun H10 s10 hA10 => ?_
        · exact ⟨T', _, rfl, .inl (.inl upd_same), rfl, _, _, rfl, _, _, rfl, rfl, rfl, _, rfl, _, rfl, _, _, rfl, rfl, k'⟩
        · refine ⟨D4, _, rfl, .inl ⟨.inl (.inl hA10), fun l hl => k _ _ (s10.trans (same_upd hl)) ?_⟩⟩
          rw [show (shiftRow Q1 (shiftTo Q1 S1))[i] = addP Q1[i] (shiftTo Q1 S1) from List.getElem_map ..]
          exact pt_dp (.inl (.inl upd_same))
      have okW := okQ.shift lsh
      refine ⟨D3, ws, shiftRow Q1 (shiftTo Q1 S1), rfl, .inl (.inl (.inl hW)), hdw, by have := okW.len; omega, okW.nonempty, fun us u1 hu1 hus => ?_⟩
      have s8e := s9.trans (same_upd (o := .lst us) hu1)
      have s6e := s68.trans s8e
      refine ⟨_, rfl, rowL (sortP (shiftRow Q1 (shiftTo Q1 S1))), rowL S1, .lst (.inl (.inl upd_same)) (dpa_same (same_upd hu1) hus), .lst (.inl (.inl (s6e _ _ hG6))) (dpa_same s6e hgd6), shaped_rowL _, shaped_rowL _, _, rfl, ?_⟩
      have emv : movesTo R S t = decide (sortP (shiftRow Q1 (shiftTo Q1 S1)) = S1) := by
        unfold movesTo
        rw [hQ, hS1]
      rw [eqv_rowL, ← emv]
      have s4e : Same H3 (upd H9 u1 (.lst us)) := s4.trans (s46.trans s6e)
      refine ite2 (fun hyes => ?_) (fun hnot => ?_)
      · have : isMoved R S mir = true := by
          rw [em, List.any_eq_true]
          exact ⟨t, by rw [← ht]; exact List.getElem_mem _, hyes⟩
        rw [this] at q
        exact q _ (s03.trans s4e)
      · refine ⟨_, _, _, v7, v8, v9, v10, v11, rfl, s4e, ?_⟩
        rw [List.take_add_one, List.getElem?_eq_getElem hj, List.any_append, hno, ht]
        simp [hnot]
    · rintro σ H4 ⟨v4, v5, v6, v7, v8, v9, v10, v11, rfl, s4, hno⟩
      rw [htl, List.take_length] at hno
      rw [em, hno] at q
      exact q _ (s03.trans s4)
end
end K9

/-! KD14 -/
set_option Elab.async false
set_option linter.all false
set_option maxRecDepth 100000
set_option maxHeartbeats 4000000
/-! Comprehensions whose turns draw; lists of points told by their places. -/
namespace K9
open PySem PySem.Spec PyProof.Rows L2
section
variable {K : PySem.W.Frag} {H0 H H' : Hp} {d a : Addr} {ns : List Int} {n : Int}
theorem DrawAt.move (D : DrawAt K H0 H d a ns n) {m : Int} (b : But d H H') (e : H' d = some (.lst [.ref a, .int m])) : DrawAt K H0 H' d a ns m := ⟨b.same D.same D.new, D.new, D.scr, e⟩
theorem all_ints : ∀ {ds : List PyData}, (∀ c ∈ ds, ∃ r : Int, c = PyData.int r) → ∃ p : List Int, ds = p.map PyData.int
  | [], _ => ⟨[], rfl⟩
  | c :: ds, h => by
    obtain ⟨r, rfl⟩ := h c List.mem_cons_self
    obtain ⟨p, rfl⟩ := all_ints fun e he => h e (List.mem_cons_of_mem _ he)
    exact ⟨r :: p, rfl⟩
theorem all_pts {m : Nat} : ∀ {ds : List PyData}, (∀ c ∈ ds, ∃ p : Pt, c = ptD p ∧ p.length = m) → ∃ R : Row, ds = R.map ptD ∧ Dim m R
  | [], _ => ⟨[], rfl, fun p hp => by cases hp⟩
  | c :: ds, h => by
    obtain ⟨p, rfl, hp⟩ := h c List.mem_cons_self
    obtain ⟨R, rfl, hR⟩ := all_pts fun e he => h e (List.mem_cons_of_mem _ he)
    refine ⟨p :: R, rfl, fun q hq => ?_⟩
    rcases List.mem_cons.mp hq with rfl | hq
    · exact hp
    · exact hR q hq
/-- a row of points as addresses and ints -/
theorem keys_of : ∀ {xs : List V} {R : Row}, DpAll K H xs (R.map ptD) → ∃ ks : List (Addr × List Int), xs = ks.map (fun p => V.ref p.1) ∧ R = ks.map (·.2) ∧ ∀ p ∈ ks, SqT K H p.1 (p.2.map V.int)
  | _, [], h => by
    have h' : DpAll K H _ [] := h
    cases h'
    exact ⟨[], rfl, rfl, fun p hp => by cases hp⟩
  | _, p :: R, h => by
    have h' : DpAll K H _ (ptD p :: R.map ptD) := h
    cases h' with
    | cons b t =>
      obtain ⟨c, rfl, hc⟩ := dp_pt b
      obtain ⟨ks, rfl, rfl, hk⟩ := keys_of t
      refine ⟨(c, p) :: ks, rfl, rfl, fun q hq => ?_⟩
      rcases List.mem_cons.mp hq with rfl | hq
      · exact hc
      · exact hk q hq
end
section
variable {J : It} {n : Nat} {g : TG} {tt : TT} {te : TE} {vs : List Nat} {σ : L2.St} {H0 H1 : Hp} {D d a : Addr} {ns : List Int} {k0 : Int} {Qd : Hp → Prop} {K : PySem.W.Frag}
/-- the turns may draw; each gives a thing of the kind G -/
theorem lc_dg (G : PyData → Prop) (hG : ∀ c, G c → tupO c = true) (hn : n ≤ 1000) (dr : DrawAt K H0 H1 d a ns k0) (hD : H1 D = none) (hgo : ∀ i H, i < n → But d H1 H → J.go i H) (hst : ∀ H, But d H1 H → J.stop n H)
    (hs : ∀ i H x H' k, i < n → But d H1 H → DrawAt K H0 H d a ns k → J.yld i H x H' → ∀ (Qt : Hp → Prop) (Qe : V → Hp → Prop), (∀ y H4 c k', But d H H4 → H4 d = some (.lst [.ref a, .int k']) → G c → Dp K H4 y c → Qe y H4) →
      g x (wipe σ vs) H' fun σ2 H2 => wipe σ2 vs = wipe σ vs ∧ tt σ2 H2 fun b H3 => if b = true then te σ2 H3 Qe else Qt H3)
    (hd : ∀ H k acc ds, But d H1 H → DrawAt K H0 H d a ns k → H D = some (.lst acc) → DpAll K H acc ds → ds.length = n → (∀ c ∈ ds, G c) → Qd H) : LcW J g tt te vs σ H1 D Qd := by
  have nDd : D ≠ d := fun e => by
    subst e
    rw [dr.at_] at hD
    cases hD
  refine lc_any (n := n) (fun i H => But d H1 H ∧ ∃ k acc ds, DrawAt K H0 H d a ns k ∧ H D = some (.lst acc) ∧ DpAll K H acc ds ∧ ds.length = i ∧ ∀ c ∈ ds, G c) ⟨Same.but (same_upd hD), k0, [], [], dr.keep (same_upd hD), upd_same, .nil, rfl, fun c hc => by cases hc⟩
    (fun i H hi p => hgo i H hi p.1) (fun H p => hst H p.1) (fun i H x H' hi p y => ?_) fun H ⟨b1, k, acc, ds, dr1, hA, hda, hl, hg⟩ => hd H k acc ds b1 dr1 hA hda hl hg
  obtain ⟨b1, k, acc, ds, dr1, hA, hda, hl, hg⟩ := p
  have tA : tupA ds = true := tupA_all fun c hc => hG c (hg c hc)
  refine hs i H x H' k hi b1 dr1 y _ _ fun z H4 c k' b4 e4 hc hz => ?_
  have hA4 : H4 D = some (.lst acc) := b4 _ _ nDd hA
  have hd4 : DpAll K H4 acc ds := dpa_but b4 dr1.at_ tA hda
  have dr4 := dr1.move b4 e4
  refine ⟨acc, hA4, Nat.lt_of_le_of_lt (Nat.le_of_eq (by rw [dpa_len hda, hl])) (small1000 (by omega)), ?_⟩
  have bD : But D H4 (upd H4 D (.lst (acc ++ [z]))) := fun b o nb hb => by
    rw [upd_ne nb]
    exact hb
  have e5 : (upd H4 D (.lst (acc ++ [z]))) d = some (.lst [.ref a, .int k']) := by
    rw [upd_ne (Ne.symm nDd)]
    exact e4
  have b5 : But d H1 (upd H4 D (.lst (acc ++ [z]))) := fun b o nb hb => by
    rw [upd_ne (ne_of_none hb hD)]
    exact (b1.trans b4) b o nb hb
  refine ⟨b5, k', acc ++ [z], ds ++ [c], dr.move b5 e5, upd_same, dpa_app (dpa_but bD hA4 tA hd4) (dpa_one (dp_but bD hA4 (hG c hc) hz)), by rw [List.length_append, hl]; rfl, fun e he => ?_⟩
  rcases List.mem_append.mp he with he | he
  · exact hg e he
  · rw [List.mem_singleton.mp he]
    exact hc
/-- over range(n) -/
theorem lc_dr (G : PyData → Prop) (hG : ∀ c, G c → tupO c = true) (hn : n ≤ 1000) (dr : DrawAt K H0 H1 d a ns k0) (hD : H1 D = none)
    (hs : ∀ i H k, i < n → But d H1 H → DrawAt K H0 H d a ns k → ∀ (Qt : Hp → Prop) (Qe : V → Hp → Prop), (∀ y H4 c k', But d H H4 → H4 d = some (.lst [.ref a, .int k']) → G c → Dp K H4 y c → Qe y H4) →
      g (.int (0 + (i : Int))) (wipe σ vs) H fun σ2 H2 => wipe σ2 vs = wipe σ vs ∧ tt σ2 H2 fun b H3 => if b = true then te σ2 H3 Qe else Qt H3)
    (hd : ∀ H k acc ds, But d H1 H → DrawAt K H0 H d a ns k → H D = some (.lst acc) → DpAll K H acc ds → ds.length = n → (∀ c ∈ ds, G c) → Qd H) : LcW (Itr 0 n) g tt te vs σ H1 D Qd := by
  refine lc_dg G hG hn dr hD (fun i H hi _ => hi) (fun H _ => Nat.le_refl _) (fun i H x H' k hi b dr1 y Qt Qe k2 => ?_) hd
  obtain ⟨rfl, rfl⟩ := y
  exact hs i _ k hi b dr1 Qt Qe k2
/-- over a tuple -/
theorem lc_dt (G : PyData → Prop) (hG : ∀ c, G c → tupO c = true) {b : Addr} {xs : List V} (hl : xs.length = n) (hn : n ≤ 1000) (dr : DrawAt K H0 H1 d a ns k0) (hD : H1 D = none) (hq : SqT K H1 b xs)
    (hs : ∀ (i : Nat) H x k, xs[i]? = some x → But d H1 H → DrawAt K H0 H d a ns k → ∀ (Qt : Hp → Prop) (Qe : V → Hp → Prop), (∀ y H4 c k', But d H H4 → H4 d = some (.lst [.ref a, .int k']) → G c → Dp K H4 y c → Qe y H4) →
      g x (wipe σ vs) H fun σ2 H2 => wipe σ2 vs = wipe σ vs ∧ tt σ2 H2 fun b H3 => if b = true then te σ2 H3 Qe else Qt H3)
    (hd : ∀ H k acc ds, But d H1 H → DrawAt K H0 H d a ns k → H D = some (.lst acc) → DpAll K H acc ds → ds.length = n → (∀ c ∈ ds, G c) → Qd H) : LcW (Itt K b) g tt te vs σ H1 D Qd := by
  have st : ∀ H, But d H1 H → SqT K H b xs := fun H bt => seqT_but bt dr.at_ hq
  refine lc_dg G hG hn dr hD (fun i H hi bt => ⟨xs, xs[i], st H bt, List.getElem?_eq_getElem (by omega)⟩) (fun H bt => ⟨xs, st H bt, by omega⟩) (fun i H x H' k hi bt dr1 y Qt Qe k2 => ?_) hd
  obtain ⟨rfl, f⟩ := y
  exact hs i _ x k (f xs (st _ bt)) bt dr1 Qt Qe k2
end
/-- a + b, the sum named -/
def rAddK : R2 := fun x y H Q => ∃ i j k : Int, x = .int i ∧ y = .int j ∧ i + j = k ∧ Q (.int k) H
theorem op_addK {X : Cx} : OpR X (binaryOp .Add) rAddK := by
  intro pins s σ H x y v u Q I rx ry h
  obtain ⟨i, j, k, e1, e2, rfl, q⟩ := h
  exact op_add pins s σ H x y v u Q I rx ry ⟨i, j, e1, e2, q⟩
end K9

/-! KD15 -/
set_option Elab.async false
set_option linter.all false
set_option maxRecDepth 100000
set_option maxHeartbeats 4000000
namespace K9
open PySem PySem.Spec PyProof.Rows L2
abbrev nLaw : List Str := ["_law_script", "_law_draw", "_law_many", "_law_shape", "_law_motion", "_law_other", "_law_are_mirrored", "_law_due", "_law_form", "_law_row", "_law_shift", "_law_number_here", "_law_axis", "_law_point", "_law_place", "_law_more"]
theorem scLaw : FnScope nLaw ["_law_script"] (defScope sLaw) := ⟨rfl, rfl, rfl, by decide +kernel, rfl, by decide +kernel, by decide +kernel⟩
def tl : List Stmt → List Stmt
  | [] => []
  | _ :: r => r
def lawRest : List Stmt := tl (tl (tl (tl (tl (tl (tl (defBody sLaw)))))))
abbrev scoLast : Scope := lcs (arg0 (arg0 (match ifT (bodyAt sLaw 9) with | .Compare _ _ (b :: _) _ => b | e => e)))
theorem min_pt (p : Pt) (hp : p ≠ []) : ∃ n ns, p = n :: ns ∧ PySem.W.minD (.int n) (ns.map .int) = .int (minI p) := by
  cases p with
  | nil => exact absurd rfl hp
  | cons n ns => exact ⟨n, ns, rfl, PySem.W.minD_ints n ns⟩
theorem alike_intsA (ns : List Int) : PySem.W.AlikeAll (ns.map PyData.int) := ⟨fun x hx y hy => by
    obtain ⟨a, _, rfl⟩ := List.mem_map.mp hx
    obtain ⟨b, _, rfl⟩ := List.mem_map.mp hy
    simp [PySem.W.alike], fun x hx => by
    obtain ⟨a, _, rfl⟩ := List.mem_map.mp hx
    intro e
    cases e⟩
/-- behind the drawing: the shape at slot 3, the other at slot 5 -/
def MidB (K : PySem.W.Frag) (σ : L2.St) (H : Hp) : Prop := ∃ (v0 v1 v2 v4 : Option V) (x y : V) (R S : Row) (d : Nat), σ = [v0, v1, v2, some x, v4, some y, none, none, none, none, none, none, none, none, none, none] ∧ Dp K H x (rowD R) ∧ Dp K H y (rowD S) ∧ ROk d R ∧ ROk d S
section
variable {P : Program} {w : World} {K : PySem.W.Frag} {mg : Str → Option Value} {base : Heap} {fR fG fP fU fT fM fC fS fF fO fA fI : Addr} {dR dG dP dU dT dM dC dS dF dO dA dI : FuncData}
theorem form_ok {d : Nat} {R : Row} (ok : ROk d R) (mir : Bool) : ROk d (formR R mir) := ⟨form_dim ok.h1 ok.h3 ok.dim ok.ne, form_ne ok.h1 ok.h3 ok.dim ok.ne, ok.h1, ok.h3, by rw [form_len ok.h1 ok.h3 ok.dim ok.ne]; exact ok.len⟩
theorem law_B (D : Sh K mg fR fG fP fU fT fM fC fS fF fO fA dR dG dP dU dT dM dC dS dF dO dA) (DI : Dfn K mg "_law_is_moved" sIsMoved ["_law_one", "_law_other", "_law_are_mirrored"] fI dI) (T : Gn mg)
    {f : Addr} {cdv : Value} {A : Around} {outer : List Env} {s : Shared} {H : Hp} {E : XK} (hr : Room 5 (A.deeper (envOfC "law" (defScope sLaw) s.heap.objs.size f cdv))) :
    ∃ t, PSs (cxOf CX0 P w K mg base nLaw "law" (defScope sLaw) f cdv A outer s H E).nox lawRest t ∧ ∀ (Q : VK) σ H', (∀ H'', Q (.bl true) H'') → MidB K σ H' → t { nx := fun _ H' => Q .non H', rt := Q } σ H' := by
  have nd := scLaw.nd
  have hu := hr.units
  have hr4 : Room 4 _ := hr.mono (by decide)
  have hr3 : Room 3 _ := hr.mono (by decide)
  have hr2 : Room 2 _ := hr.mono (by decide)
  have GI : FnOk P w K mg base CX0 3 fI dI ["_law_one", "_law_other", "_law_are_mirrored"] (spIsMoved K) := ok_isMoved DI D T
  have GA : FnOk P w K mg base CX0 5 fA dA ["one", "other", "are_mirrored"] (spAlike K) := ok_alike D T
  have GO : FnOk P w K mg base CX0 4 fO dO ["points", "are_mirrored"] (spForm K) := ok_form D T
  have GS : FnOk P w K mg base CX0 2 fS dS ["points"] (spSettled K) := ok_settled D.S D.C T
  refine ⟨_, pss_cons (ps_for PassesOwn.never rfl (piT K (pe_tup (pa_cons pe_bl (pa_cons pe_bl pa_nil)))) (pg_name (i := 6) nd rfl (Or.inl rfl))
        (pss_cons (ps_set (i := 7) nd rfl (Or.inl rfl) (pe_call GI hr3 (by rfl) DI.g DI.F.kp DI.b .nil pass0 (pa_cons (pv 3) (pa_cons (pv 5) (pa_cons (pv 6) pa_nil)))))
        (pss_cons (ps_if (PW.pt (pw_or (pt_cmpR op_ne (pe_call GA hr (by rfl) D.A.g D.A.F.kp D.A.b .nil pass0 (pa_cons (pv 3) (pa_cons (pv 5) (pa_cons (pv 6) pa_nil)))) (pv 7) (nomark _))
            (pw_or1 (pt_cmpR op_ne (pe_cmpR (eqD K hu) (pe_call GO hr4 (by rfl) D.O.g D.O.F.kp D.O.b .nil pass0 (pa_cons (pv 3) (pa_cons (pv 6) pa_nil))) (pe_call GO hr4 (by rfl) D.O.g D.O.F.kp D.O.b .nil pass0 (pa_cons (pv 5) (pa_cons (pv 6) pa_nil))) (nomark _)) (pv 7) (nomark _))))) pss_never pss_nil)
        (pss_cons (ps_set (i := 8) nd rfl (Or.inl rfl) (pe_call GO hr4 (by rfl) D.O.g D.O.F.kp D.O.b .nil pass0 (pa_cons (pv 3) (pa_cons (pv 6) pa_nil))))
        (pss_one (ps_if (PW.pt (pw_or (pt_cmpR (neD K hu) (pe_call GO hr4 (by rfl) D.O.g D.O.F.kp D.O.b .nil pass0 (pa_cons (pv 8) (pa_cons (pv 6) pa_nil))) (pv 8) (nomark _))
            (pw_or (pt_not (pt_val (pe_call GA hr (by rfl) D.A.g D.A.F.kp D.A.b .nil pass0 (pa_cons (pv 8) (pa_cons (pv 3) (pa_cons (pv 6) pa_nil))))))
            (pw_or1 (pt_cmpR op_ne (pe_callB (minC K rfl) (by rfl) T.min boot_min (pa_cons
              (pe_lc (own := [("_law_point", 13)]) (g := gName 13) (tt := tYes) rfl nd (piT K (pv 8)) (blkOk_by (N := nLaw) (sc := defScope sLaw) (by decide +kernel))
                (fun _ _ _ _ _ => pg_name (i := 13) nd rfl (Or.inl rfl)) (fun _ _ _ _ _ => pts_nil) (fun _ _ _ _ _ => pe_callB (minDc K hu) (by rfl) T.min boot_min (pa_cons (pv 13) pa_nil))) pa_nil)) pe_int (nomark _)))))) pss_never pss_nil))))))
      (pss_cons (ps_asg (pe_call GS hr2 (by rfl) D.S.g D.S.F.kp D.S.b .nil pass0 (pa_cons (pv 3) pa_nil)) (pgT K 2 (pgs_cons (pg_name (i := 9) nd rfl (Or.inl rfl)) (pgs_cons (pg_name (i := 10) nd rfl (Or.inr rfl)) pgs_nil))))
      (pss_cons (ps_if (pt_cmpR (neD K hu) (pv 9) (pe_callTy (tupOf K) (by rfl) T.tuple boot_tuple (pa_cons (pe_callB (sortQ K hu) (by rfl) T.sorted boot_sorted (pa_cons
          (pe_lc (own := [("_law_point", 13)]) (g := gName 13) (tt := tYes) rfl nd (piT K (pv 3)) (blkOk_by (N := nLaw) (sc := defScope sLaw) (by decide +kernel))
              (fun _ _ _ _ _ => pg_name (i := 13) nd rfl (Or.inl rfl)) (fun _ _ _ _ _ => pts_nil)
              (fun _ _ _ _ _ => pe_callTy (tupOf K) (by rfl) T.tuple boot_tuple (pa_cons
                (pe_lc (own := [("_law_place", 14), ("_law_more", 15)]) (g := gTup K 2 (gCons (gName 14) (gCons (gName 15) gNil))) (tt := tYes) rfl nd (piZ K (by rfl) T.zip (pa_cons (pv 13) (pa_cons (pv 10) pa_nil))) (blkOk_by (N := nLaw) (sc := relS scoLast (defScope sLaw)) (by decide +kernel))
                  (fun _ _ _ _ _ => pgT K 2 (pgs_cons (pg_name (i := 14) nd rfl (Or.inl rfl)) (pgs_cons (pg_name (i := 15) nd rfl (Or.inl rfl)) pgs_nil))) (fun _ _ _ _ _ => pts_nil)
                  (fun _ _ _ _ _ => pe_op op_add (pv 14) (pv 15))) pa_nil))) pa_nil)) pa_nil)) (nomark _)) pss_never pss_nil)
      (pss_one (ps_ret (pe_and (pe_cmpR (eqD K hu) (pe_call GO hr4 (by rfl) D.O.g D.O.F.kp D.O.b .nil pass0 (pa_cons (pe_tup pa_nil) (pa_cons pe_bl pa_nil))) (pe_tup pa_nil) (nomark _))
        (pe_and (pe_call GA hr (by rfl) D.A.g D.A.F.kp D.A.b .nil pass0 (pa_cons (pe_tup pa_nil) (pa_cons (pe_tup pa_nil) (pa_cons pe_bl pa_nil))))
        (pe_one (pe_not (pe_call GA hr (by rfl) D.A.g D.A.F.kp D.A.b .nil pass0 (pa_cons (pe_tup pa_nil) (pa_cons (pv 3) (pa_cons pe_bl pa_nil)))))))))))), ?_⟩
  rintro Q σ H0 hQ ⟨v0, v1, v2, v4, x, y, R, S, d, rfl, hx, hy, okR, okS⟩
  have h1 := okR.h1
  have h3 := okR.h3
  have hl1 := okR.len
  -- for _law_are_mirrored in (True, False)
  refine ⟨(by show 2 ≤ sizeLine; decide), fun p hp => ⟨p, rfl, ⟨[.bl true, .bl false], .inl (.inl upd_same)⟩, ?_⟩⟩
  have s0 : Same H0 (upd H0 p (.tup [.bl true, .bl false])) := same_upd hp
  have hp1 : SqT K (upd H0 p (.tup [.bl true, .bl false])) p [.bl true, .bl false] := .inl (.inl upd_same)
  generalize upd H0 p (.tup [.bl true, .bl false]) = H1 at s0 hp1
  refine for_tup (K := K) (a := p) (xs := [.bl true, .bl false]) (fun _ σ H' => ∃ (v6 v7 v8 : Option V), σ = [v0, v1, v2, some x, v4, some y, v6, v7, v8, none, none, none, none, none, none, none] ∧ Same H1 H')
    ⟨none, none, none, rfl, Same.refl _⟩ (fun _ σ H' _ ⟨_, _, _, _, s1⟩ => seqT_same s1 hp1) ?_ ?_
  · rintro i z σ H2 hz ⟨v6, v7, v8, rfl, s1⟩
    obtain ⟨mir, rfl⟩ : ∃ mir : Bool, z = V.bl mir := by
      have : z ∈ [V.bl true, V.bl false] := List.mem_of_getElem? hz
      rcases List.mem_cons.mp this with e | e
      · exact ⟨true, e⟩
      · exact ⟨false, by simpa using e⟩
    have okF := form_ok okR mir
    have s02 := s0.trans s1
    have hx2 := dp_same s02 hx
    have hy2 := dp_same s02 hy
    have e1 := law_alike (mir := mir) h1 h3 okR.dim okS.dim okR.ne okS.ne
    have e2 := law_forms (mir := mir) h1 h3 okR.dim okS.dim okR.ne okS.ne
    have e3 := form_form (mir := mir) h1 h3 okR.dim okR.ne
    have e4 := form_alike (mir := mir) h1 h3 okR.dim okR.ne
    have e5 := form_min (mir := mir) h1 h3 okR.dim okR.ne
    -- due
    refine ⟨_, rfl, _, rfl, _, rfl, x, y, R, S, d, mir, rfl, hx2, hy2, okR, okS, fun H3 s3 => ?_⟩
    have s03 := s02.trans s3
    -- are_alike(..) != due
    refine ⟨_, rfl, _, rfl, _, rfl, x, y, R, S, d, d, mir, rfl, dp_same s03 hx, dp_same s03 hy, .inr okR, .inr okS, fun H4 s4 => ?_⟩
    have s04 := s03.trans s4
    refine ⟨_, rfl, rfl, _, rfl, ?_⟩
    rw [e1, decide_eq_true rfl]
    refine iteF ?_
    -- (form_of(..) == form_of(..)) != due
    refine ⟨_, rfl, _, rfl, x, R, d, mir, rfl, dp_same s04 hx, .inr okR, fun z1 H5 s5 hz1 => ?_⟩
    have s05 := s04.trans s5
    refine ⟨_, rfl, _, rfl, y, S, d, mir, rfl, dp_same s05 hy, .inr okS, fun z2 H6 s6 hz2 => ?_⟩
    have s06 := s05.trans s6
    refine ⟨_, _, dp_same s6 hz1, hz2, shaped_row _, shaped_row _, _, rfl, rfl, _, rfl, ?_⟩
    rw [eqv_rows, e2, decide_eq_true rfl]
    refine iteF ?_
    -- form
    refine ⟨_, rfl, _, rfl, x, R, d, mir, rfl, dp_same s06 hx, .inr okR, fun z3 H7 s7 hz3 => ?_⟩
    have s07 := s06.trans s7
    -- form_of(form) != form
    refine ⟨_, rfl, _, rfl, z3, formR R mir, d, mir, rfl, hz3, .inr okF, fun z4 H8 s8 hz4 => ?_⟩
    have s08 := s07.trans s8
    have hf8 := dp_same s8 hz3
    refine ⟨_, rfl, _, _, hz4, hf8, shaped_row _, shaped_row _, _, rfl, ?_⟩
    rw [eqv_rows, e3, decide_eq_true rfl]
    refine iteF ?_
    -- not are_alike(form, shape)
    refine ⟨_, rfl, _, rfl, _, rfl, z3, x, formR R mir, R, d, d, mir, rfl, hf8, dp_same s08 hx, .inr okF, .inr okR, fun H9 s9 => ⟨_, rfl, ?_⟩⟩
    rw [e4]
    refine iteF ?_
    -- min([min(point) for point in form]) != 0
    have s09 := s08.trans s9
    have hf9 := dp_same s9 hf8
    obtain ⟨b, fs, rfl, hb, hfd⟩ := dp_row hf9
    have hfl := pts_len hfd
    have hfl2 := okF.len
    refine ⟨_, rfl, b, rfl, ⟨fs, hb⟩, fun D1 hD1 => ?_⟩
    refine lc_mt (((formR R mir).map minI).map PyData.int) (tupA_ints _) (by rw [List.length_map, List.length_map, hfl]) (by omega) hD1 hb (fun j u c H10 hu10 hc s10 Qt Qe k => ?_) fun H10 acc s10 hA hda => ?_
    · obtain ⟨hj, hup⟩ := pts_get (dpa_same s10 hfd) hu10
      obtain ⟨hj2, rfl⟩ := map_get hc
      obtain ⟨n, ns, en, em⟩ := min_pt _ (okF.nonempty _ (List.getElem_mem hj))
      obtain ⟨b1, rfl, hb1⟩ := dp_pt hup
      have hal := alike_intsA (formR R mir)[j]
      have hdp : PyData.depthAll (((formR R mir)[j]).map PyData.int) = 0 := PySem.W.depth_ints _
      have hdd := dpa_of_ints (K := K) (H := H10) (formR R mir)[j]
      refine ⟨rfl, _, rfl, b1, _, .int n, ns.map .int, rfl, .inr hb1, ?_, ?_, ?_, fun w hw => k _ _ (Same.refl _) ?_⟩
      · rw [en] at hdd ⊢
        exact hdd
      · rw [en] at hal
        exact hal
      · rw [en] at hdp
        exact Nat.le_trans (Nat.le_of_eq hdp) (by decide)
      · rw [em] at hw
        rw [List.getElem_map]
        exact hw
    · rw [dpa_ints hda] at hA
      refine ⟨D1, _, rfl, .inl (.inl hA), ?_, fun m hm hle => ⟨rfl, _, rfl, ?_⟩⟩
      · rw [List.length_map]
        exact List.length_pos_iff.mpr okF.ne
      · have em : m = 0 := by rw [← e5]; exact (minI_uniq hm hle).symm
        rw [em, decide_eq_true rfl]
        refine iteF ?_
        exact ⟨_, _, _, rfl, s1.trans (s3.trans (s4.trans (s5.trans (s6.trans (s7.trans (s8.trans (s9.trans s10)))))))⟩
  · rintro σ H2 ⟨v6, v7, v8, rfl, s1⟩
    have s02 := s0.trans s1
    have hx2 := dp_same s02 hx
    -- _law_row, _law_shift = settled(_law_shape)
    obtain ⟨a, xs, rfl, hq, hd⟩ := dp_row hx2
    have hxl := pts_len hd
    refine ⟨_, rfl, a, xs, R, d, rfl, .inr hq, hd, okR, fun z H3 s3 hz => ?_⟩
    obtain ⟨b, z1, z2, rfl, hb, g1, g2⟩ := dp_two hz
    obtain ⟨b2, rfl, hb2⟩ := dp_pt g2
    have es := shiftOf_length okR.dim okR.ne
    refine ⟨b, _, rfl, hb, rfl, _, _, rfl, _, _, rfl, rfl, ?_⟩
    -- the row once more
    refine ⟨_, rfl, _, rfl, a, rfl, ⟨xs, seqT_same s3 hq⟩, fun D1 hD1 => ?_⟩
    refine lc_mt ((shiftRow R (shiftOf R)).map ptD) (tupA_pts _) (by rw [List.length_map, hxl]; unfold shiftRow; rw [List.length_map]) (by omega) hD1 (seqT_same s3 hq) (fun j u c H4 hu4 hc s4 Qt Qe k => ?_) fun H4 ws s4 hW hdw => ?_
    · obtain ⟨hj, hup⟩ := pts_get (dpa_same (s3.trans s4) hd) hu4
      obtain ⟨b1, rfl, hb1⟩ := dp_pt hup
      obtain ⟨hj2, rfl⟩ := map_get hc
      have hpl : (R[j]).length = d := okR.dim _ (List.getElem_mem _)
      have hsh4 := seqT_same s4 hb2
      refine ⟨rfl, _, rfl, _, rfl, b1, b2, _, _, rfl, .inr ⟨hb1, hsh4, fun D3 hD3 => ?_⟩⟩
      refine lc_zi (fun x y => x + y) R[j] (shiftOf R) (by omega) (by omega) hD3 hb1 hsh4 (fun x y T' H5 s5 hT Qt' Qe' k' => ?_) fun H5 s5 hA5 => ?_
      · exact ⟨T', _, rfl, .inl (.inl upd_same), rfl, _, _, rfl, _, _, rfl, rfl, rfl, _, rfl, _, rfl, _, _, rfl, rfl, k'⟩
      · refine ⟨D3, _, rfl, .inl ⟨.inl (.inl hA5), fun l hl => k _ _ (s5.trans (same_upd hl)) ?_⟩⟩
        rw [show (shiftRow R (shiftOf R))[j] = addP R[j] (shiftOf R) from List.getElem_map ..]
        exact pt_dp (.inl (.inl upd_same))
    have okW := okR.shift es
    refine ⟨D1, ws, shiftRow R (shiftOf R), rfl, .inl (.inl (.inl hW)), hdw, by have := okW.len; omega, okW.nonempty, fun us u1 hu1 hus => ?_⟩
    refine ⟨u1, us, rfl, .inl ⟨.inl (.inl upd_same), fun u2 hu2 => ?_⟩⟩
    have t1 : Same H4 (upd H4 u1 (.lst us)) := same_upd hu1
    have t2 : Same (upd H4 u1 (.lst us)) (upd (upd H4 u1 (.lst us)) u2 (.tup us)) := same_upd hu2
    refine ⟨rowD (settledR R), rowD (settledR R), dp_same (s4.trans (t1.trans t2)) g1, .tup (.inl (.inl upd_same)) (dpa_same t2 (dpa_same t1 hus)), shaped_row _, shaped_row _, _, rfl, ?_⟩
    rw [eqv_rows, decide_eq_true rfl]
    refine iteF ?_
    have s05 := s02.trans (s3.trans (s4.trans (t1.trans t2)))
    generalize upd (upd H4 u1 (.lst us)) u2 (.tup us) = H5 at s05
    -- the last row
    refine ⟨Nat.zero_le _, fun q1 hq1 => ⟨.ref q1, [], 0, true, rfl, dp_nil, .inl rfl, fun z1 H6 s6 hz1 => ?_⟩⟩
    have s06 := s05.trans ((same_upd (o := .tup []) hq1).trans s6)
    refine ⟨Nat.zero_le _, fun q2 hq2 => ⟨rowD [], rowD [], dp_same (same_upd hq2) hz1, dp_nil, shaped_row _, shaped_row _, _, rfl, ?_⟩⟩
    rw [eqv_rows, decide_eq_true rfl]
    refine iteT ?_
    have s07 := s06.trans (same_upd (o := .tup []) hq2)
    generalize upd H6 q2 (.tup []) = H7 at s07
    refine ⟨Nat.zero_le _, fun q3 hq3 => ⟨Nat.zero_le _, fun q4 hq4 => ⟨.ref q3, .ref q4, [], [], 0, 0, false, rfl, dp_same (same_upd hq4) dp_nil, dp_nil, .inl rfl, .inl rfl, fun H8 s8 => ⟨_, rfl, ?_⟩⟩⟩⟩
    have s08 := s07.trans ((same_upd (o := .tup []) hq3).trans ((same_upd (o := .tup []) hq4).trans s8))
    have ea : alikeR [] [] false = true := by decide
    rw [ea]
    refine iteT ?_
    refine ⟨Nat.zero_le _, fun q5 hq5 => ⟨_, rfl, .ref q5, _, [], R, 0, d, true, rfl, dp_nil, dp_same (s08.trans (same_upd hq5)) hx, .inl rfl, .inr okR, fun H9 s9 => ⟨_, rfl, ?_⟩⟩⟩
    have eb : alikeR [] R true = false := by
      unfold alikeR
      have : ¬ (([] : Row).length = R.length) := fun e => okR.ne (List.eq_nil_of_length_eq_zero e.symm)
      rw [decide_eq_false this, Bool.false_and]
    rw [eb]
    exact hQ _
end
end K9

/-! KD16 -/
set_option Elab.async false
set_option linter.all false
set_option maxRecDepth 100000
set_option maxHeartbeats 4000000
namespace K9
open PySem PySem.Spec PyProof.Rows L2
theorem seqL_but2 {K : PySem.W.Frag} {H H' : Hp} {L l : Addr} {xs zs : List V} (hl : SqL K H l xs) (hL : H L = some (.lst zs)) (ne : xs ≠ zs) (bt : But L H H') : SqL K H' l xs := by
  rcases hl with (hl | ⟨o, hl⟩) | hl
  · by_cases e : l = L
    · subst e
      rw [hL] at hl
      exfalso
      injection hl with hl
      injection hl with hl
      exact ne hl.symm
    · exact .inl (.inl (bt _ _ e hl))
  · exact .inl (.inr ⟨o, bt _ _ (fun e => by subst e; rw [hL] at hl; cases hl) hl⟩)
  · exact .inr hl
theorem ix_zero (n : Nat) : ixN (n + 1) 0 = some 0 := by
  unfold ixN
  rw [if_pos (Int.le_refl 0), if_pos (by omega)]
  rfl
abbrev scoShape : Scope := lcs (arg0 (arg0 (arg0 (asgE (bodyAt sLaw 2)))))
def spLaw (K : PySem.W.Frag) : Sp := fun vs H Q _ => ∃ (a : Addr) (ns : List Int), vs = [.ref a] ∧ SqL K H a (ns.map V.int) ∧ ∀ H', Q (.bl true) H'
/-- behind the spoiling -/
def Mid5 (K : PySem.W.Frag) (σ : L2.St) (H : Hp) : Prop := ∃ (v0 v1 v2 v4 : Option V) (x : V) (e5 : Addr) (acc : List V) (R O : Row) (m : Nat), σ = [v0, v1, v2, some x, v4, some (.ref e5), none, none, none, none, none, none, none, none, none, none] ∧
  Dp K H x (rowD R) ∧ ROk m R ∧ H e5 = some (.lst acc) ∧ DpAll K H acc (O.map ptD) ∧ Dim m O ∧ O.length = R.length
section
variable {P : Program} {w : World} {K : PySem.W.Frag} {mg : Str → Option Value} {base : Heap} {fR fG fP fU fT fM fC fS fF fO fA fI fN fK fQ : Addr} {dR dG dP dU dT dM dC dS dF dO dA dI dN dK dQ : FuncData}
theorem ok_law {f : Addr} {fd : FuncData} (DL : Dfn K mg "law" sLaw ["_law_script"] f fd) (D : Sh K mg fR fG fP fU fT fM fC fS fF fO fA dR dG dP dU dT dM dC dS dF dO dA) (DI : Dfn K mg "_law_is_moved" sIsMoved ["_law_one", "_law_other", "_law_are_mirrored"] fI dI)
    (DN : Dfn K mg "_law_number" sNumber ["_law_script", "_law_index"] fN dN) (DK : Dfn K mg "_law_take" sTake ["_law_draw", "_law_many"] fK dK) (DQ : Dfn K mg "_law_pick" sPick ["_law_draw", "_law_items"] fQ dQ) (T : Gn mg) : FnOk P w K mg base CX0 6 f fd ["_law_script"] (spLaw K) := by
  have GK : FnOk P w K mg base CX0 2 fK dK ["_law_draw", "_law_many"] (spTake K) := ok_take DK DN T
  have GQ : FnOk P w K mg base CX0 3 fQ dQ ["_law_draw", "_law_items"] (spPick K) := ok_pick DQ DK DN T
  have GU : FnOk P w K mg base CX0 2 fU dU ["many", "are_mirrored"] (spTurns K) := ok_turns D.U D.R D.G D.P T
  have GM : FnOk P w K mg base CX0 2 fM dM ["point", "motion"] (spMoved K) := ok_moved D.M D.T T
  refine DL.F.ok scLaw (fun vs H Q E h => ?_) (fun cdv A outer s H vs Q E hr h => ?_)
  · obtain ⟨a, ns, rfl, _⟩ := h
    rfl
  · obtain ⟨a, ns, rfl, hS, q⟩ := h
    have nd := scLaw.nd
    have hu := hr.units
    have hr3 : Room 3 _ := hr.mono (by decide)
    have hr2 : Room 2 _ := hr.mono (by decide)
    obtain ⟨tB, hB, qB⟩ := law_B (P := P) (w := w) (base := base) (outer := outer) (H := H) (E := E) D DI T hr
    refine ⟨_, pss_cons (ps_set (i := 1) nd rfl (Or.inr rfl) (pe_lst (pa_cons (pv 0) (pa_cons pe_int pa_nil))))
      (pss_cons (ps_set (i := 2) nd rfl (Or.inr rfl) (pe_op op_addK pe_int (pe_call GK hr2 (by rfl) DK.g DK.F.kp DK.b .nil pass0 (pa_cons (pv 1) (pa_cons pe_int pa_nil)))))
      (pss_cons (ps_set (i := 3) nd rfl (Or.inl rfl) (pe_callTy (tupOf K) (by rfl) T.tuple boot_tuple (pa_cons (pe_callB (cr_sortedS2 rfl hu) (by rfl) T.sorted boot_sorted (pa_cons (pe_callTy (cr_setOfT rfl hu) (by rfl) T.set boot_set (pa_cons
          (pe_lc (own := [("_law_number_here", 11)]) (g := gName 11) (tt := tYes) rfl nd (pi_range1 (by rfl) T.range (pa_cons (pe_op op_addK pe_int (pe_call GK hr2 (by rfl) DK.g DK.F.kp DK.b .nil pass0 (pa_cons (pv 1) (pa_cons pe_int pa_nil)))) pa_nil)) (blkOk_by (N := nLaw) (sc := defScope sLaw) (by decide +kernel))
            (fun _ _ _ _ _ => pg_name (i := 11) nd rfl (Or.inl rfl)) (fun _ _ _ _ _ => pts_nil)
            (fun _ _ _ _ _ => pe_callTy (tupOf K) (by rfl) T.tuple boot_tuple (pa_cons
              (pe_lc (own := [("_law_axis", 12)]) (g := gName 12) (tt := tYes) rfl nd (pi_range1 (by rfl) T.range (pa_cons (pv 2) pa_nil)) (blkOk_by (N := nLaw) (sc := relS scoShape (defScope sLaw)) (by decide +kernel))
                (fun _ _ _ _ _ => pg_name (i := 12) nd rfl (Or.inl rfl)) (fun _ _ _ _ _ => pts_nil)
                (fun _ _ _ _ _ => pe_call GK hr2 (by rfl) DK.g DK.F.kp DK.b .nil pass0 (pa_cons (pv 1) (pa_cons pe_int pa_nil)))) pa_nil))) pa_nil)) pa_nil)) pa_nil)))
      (pss_cons (ps_set (i := 4) nd rfl (Or.inr rfl) (pe_tup (pa_cons (pe_call GQ hr3 (by rfl) DQ.g DQ.F.kp DQ.b .nil pass0 (pa_cons (pv 1) (pa_cons (pe_call GU hr2 (by rfl) D.U.g D.U.F.kp D.U.b .nil pass0 (pa_cons (pv 2) (pa_cons pe_bl pa_nil))) pa_nil)))
          (pa_cons (pe_callTy (tupOf K) (by rfl) T.tuple boot_tuple (pa_cons
            (pe_lc (own := [("_law_axis", 12)]) (g := gName 12) (tt := tYes) rfl nd (pi_range1 (by rfl) T.range (pa_cons (pv 2) pa_nil)) (blkOk_by (N := nLaw) (sc := defScope sLaw) (by decide +kernel))
              (fun _ _ _ _ _ => pg_name (i := 12) nd rfl (Or.inl rfl)) (fun _ _ _ _ _ => pts_nil)
              (fun _ _ _ _ _ => pe_op op_sub (pe_call GK hr2 (by rfl) DK.g DK.F.kp DK.b .nil pass0 (pa_cons (pv 1) (pa_cons pe_int pa_nil))) pe_int)) pa_nil)) pa_nil))))
      (pss_cons (ps_setLc (i := 5) (own := [("_law_point", 13)]) (g := gName 13) (tt := tYes) rfl nd rfl rfl (sw_true rfl rfl rfl (by decide +kernel)) (piT K (pv 3)) (blkOk_by (N := nLaw) (sc := defScope sLaw) (by decide +kernel))
          (fun _ _ _ _ _ => pg_name (i := 13) nd rfl (Or.inl rfl)) (fun _ _ _ _ _ => pts_nil)
          (fun _ _ _ _ _ => pe_call GM hr2 (by rfl) D.M.g D.M.F.kp D.M.b .nil pass0 (pa_cons (pv 13) (pa_cons (pv 4) pa_nil))))
      (C8.pss_cut (ps_if (pt_cmpR op_eq (pe_call GK hr2 (by rfl) DK.g DK.F.kp DK.b .nil pass0 (pa_cons (pv 1) (pa_cons pe_int pa_nil))) pe_int (nomark _))
          (pss_one (ps_asg (pe_callTy (tupOf K) (by rfl) T.tuple boot_tuple (pa_cons
            (pe_lc (own := [("_law_place", 14)]) (g := gName 14) (tt := tYes) rfl nd (piT K (pe_ix (ixL K) (pv 5) pe_int (fun _ _ => rfl))) (blkOk_by (N := nLaw) (sc := defScope sLaw) (by decide +kernel))
              (fun _ _ _ _ _ => pg_name (i := 14) nd rfl (Or.inl rfl)) (fun _ _ _ _ _ => pts_nil)
              (fun _ _ _ _ _ => pe_op op_add (pv 14) (pe_call GK hr2 (by rfl) DK.g DK.F.kp DK.b .nil pass0 (pa_cons (pv 1) (pa_cons pe_int pa_nil))))) pa_nil)) (pg_sub (pv 5) pe_int set_list))) pss_nil)
      (C8.pss_cut (ps_set (i := 5) nd rfl (Or.inl rfl) (pe_callTy (tupOf K) (by rfl) T.tuple boot_tuple (pa_cons (pe_callB (cr_sortedS2 rfl hu) (by rfl) T.sorted boot_sorted (pa_cons (pe_callTy (cr_setOfT rfl hu) (by rfl) T.set boot_set (pa_cons (pv 5) pa_nil)) pa_nil)) pa_nil)))
      hB)))))), ?_⟩
    have gInt : ∀ c : PyData, (∃ r : Int, c = PyData.int r) → tupO c = true := fun c ⟨r, e⟩ => by rw [e]; simp [tupO]
    have gPt : ∀ (m : Nat) (c : PyData), (∃ p : Pt, c = ptD p ∧ p.length = m) → tupO c = true := fun m c ⟨p, e, _⟩ => by rw [e]; exact tup_pt p
    -- _law_draw = [_law_script, 0]
    refine ⟨_, rfl, (by show 2 ≤ sizeLine; decide), fun d hd => ?_⟩
    have dr0 : DrawAt K H (upd H d (.lst [.ref a, .int 0])) d a ns 0 := ⟨same_upd hd, hd, hS, upd_same⟩
    generalize upd H d (.lst [.ref a, .int 0]) = H1 at dr0
    -- _law_many
    refine ⟨_, rfl, d, a, ns, 0, 3, H, rfl, by decide, dr0, fun r1 H2 r10 r11 b2 e2 => ?_⟩
    have dr2 := dr0.next b2 e2
    obtain ⟨m, hm⟩ : ∃ m : Nat, (1 : Int) + r1 = (m : Int) := ⟨(1 + r1).toNat, by omega⟩
    have m1 : 1 ≤ m := by omega
    have m3 : m ≤ 3 := by omega
    refine ⟨1, r1, (m : Int), rfl, rfl, hm, ?_⟩
    clear hm r10 r11 r1
    -- the drawn points
    refine ⟨_, rfl, d, a, ns, _, 6, H, rfl, by decide, dr2, fun r2 H3 r20 r21 b3 e3 => ?_⟩
    have dr3 := dr2.next b3 e3
    obtain ⟨c0, hc0⟩ : ∃ c0 : Nat, (1 : Int) + r2 = (c0 : Int) := ⟨(1 + r2).toNat, by omega⟩
    have c1 : 1 ≤ c0 := by omega
    have c6 : c0 ≤ 6 := by omega
    refine ⟨1, r2, (c0 : Int), rfl, rfl, hc0, ?_⟩
    clear hc0 r20 r21 r2
    refine ⟨(c0 : Int), rfl, by omega, by omega, fun D1 hD1 => ?_⟩
    show LcW (Itr 0 ((c0 : Nat) : Int).toNat) _ _ _ _ _ _ _ _
    rw [Int.toNat_natCast]
    refine lc_dr (K := K) (fun c => ∃ p : Pt, c = ptD p ∧ p.length = m) (gPt m) (by omega) dr3 hD1 (fun i H4 k4 hi b4 dr4 Qt Qe k2 => ?_) fun H4 k4 acc ds b4 dr4 hA hda hl hg => ?_
    · refine ⟨rfl, _, rfl, (m : Int), rfl, by omega, by omega, fun D2 hD2 => ?_⟩
      show LcW (Itr 0 ((m : Nat) : Int).toNat) _ _ _ _ _ _ _ _
      rw [Int.toNat_natCast]
      refine lc_dr (K := K) (fun c => ∃ r : Int, c = PyData.int r) gInt (by omega) dr4 hD2 (fun j H5 k5 hj b5 dr5 Qt' Qe' k2' => ?_) fun H5 k5 acc5 ds5 b5 dr5 hA5 hda5 hl5 hg5 => ?_
      · exact ⟨rfl, _, rfl, d, a, ns, k5, 4, H, rfl, by decide, dr5, fun r H' _ _ b e => k2' _ _ (.int r) _ b e ⟨r, rfl⟩ (.int r)⟩
      · obtain ⟨p, rfl⟩ := all_ints hg5
        rw [dpa_ints hda5] at hA5
        rw [List.length_map] at hl5
        refine ⟨D2, _, rfl, .inl ⟨.inl (.inl hA5), fun l hl' => k2 _ _ (ptD p) k5 (b5.trans (Same.but (same_upd hl'))) (same_upd hl' _ _ dr5.at_) ⟨p, rfl, hl5⟩ (pt_dp (.inl (.inl upd_same)))⟩⟩
    obtain ⟨R0, rfl, hR0⟩ := all_pts hg
    rw [List.length_map] at hl
    -- the set of them, sorted
    obtain ⟨ks, rfl, rfl, hk⟩ := keys_of hda
    rw [List.length_map] at hl
    refine ⟨D1, ks, rfl, .inl (.inl hA), hk, by omega, fun a1 L ha1 hL1 hL2 => ?_⟩
    have s5 : Same H4 (upd H4 a1 (SetTO P w a1 L)) := same_upd ha1
    refine ⟨a1, L, rfl, upd_same, fun p hp => seqT_same s5 (hk p (hL1 p hp)), fun p hp e => ?_, fun S ys y1 hS1 hS2 hy1 hys => ?_⟩
    · have := hR0 p.2 (List.mem_map.mpr ⟨p, hL1 p hp, rfl⟩)
      rw [e] at this
      have : 0 = m := this
      omega
    refine ⟨y1, ys, rfl, .inl ⟨.inl (.inl upd_same), fun x1 hx1 => ?_⟩⟩
    have s6 : Same (upd H4 a1 (SetTO P w a1 L)) (upd (upd H4 a1 (SetTO P w a1 L)) y1 (.lst ys)) := same_upd hy1
    have s7 : Same (upd (upd H4 a1 (SetTO P w a1 L)) y1 (.lst ys)) (upd (upd (upd H4 a1 (SetTO P w a1 L)) y1 (.lst ys)) x1 (.tup ys)) := same_upd hx1
    have hxS : Dp K (upd (upd (upd H4 a1 (SetTO P w a1 L)) y1 (.lst ys)) x1 (.tup ys)) (.ref x1) (rowD S) := .tup (.inl (.inl upd_same)) (dpa_same (s6.trans s7) hys)
    have dr7 := dr4.keep (s5.trans (s6.trans s7))
    generalize hH7 : upd (upd (upd H4 a1 (SetTO (cxOf CX0 P w K mg base nLaw "law" (defScope sLaw) f cdv A outer s H E).nox.prog (cxOf CX0 P w K mg base nLaw "law" (defScope sLaw) f cdv A outer s H E).nox.w a1 L)) y1 (.lst ys)) x1 (.tup ys) = H7
    replace hxS : Dp K H7 (.ref x1) (rowD S) := by rw [← hH7]; exact hxS
    replace dr7 : DrawAt K H H7 d a ns k4 := by rw [← hH7]; exact dr7
    have okS : ROk m S := by
      refine ⟨fun p hp => ?_, fun e => ?_, m1, m3, by omega⟩
      · obtain ⟨q, hq, rfl⟩ := List.mem_map.mp ((hS1 p).mp hp)
        exact hR0 _ (List.mem_map.mpr ⟨q, hL1 q hq, rfl⟩)
      · have hpos : 0 < ks.length := by omega
        have hm0 : ks[0] ∈ ks := List.getElem_mem hpos
        have := (hS1 _).mpr (hL2 _ hm0)
        rw [e] at this
        cases this
    clear hys hS1 hS2 hL1 hL2 hk hR0 hg hda hA s5 s6 s7
    -- _law_motion
    refine ⟨_, rfl, _, rfl, m, true, rfl, m1, m3, fun z H8 s8 hz => ?_⟩
    have dr8 := dr7.keep s8
    obtain ⟨l, xs, rfl, hl8, hd8⟩ := dp_lst hz
    have hxl : xs.length = (turnsOf m true).length := by rw [dpa_len hd8, List.length_map]
    have xne : xs ≠ [] := fun e => by
      rw [e] at hxl
      exact turns_ne m1 m3 true (List.eq_nil_of_length_eq_zero hxl.symm)
    have xnd : xs ≠ [V.ref a, V.int k4] := fun e => by
      rw [e] at hd8
      obtain ⟨c, hc, hdp⟩ := dpa_get (i := 1) hd8 rfl
      obtain ⟨_, rfl⟩ := map_get hc
      cases hdp
    refine ⟨d, a, l, ns, _, H, xs, rfl, dr8, hl8, xne, fun H' bt => seqL_but2 hl8 dr8.at_ xnd bt, fun i x4 H9 hx4 b9 e9 => ?_⟩
    have dr9 := dr8.next b9 e9
    obtain ⟨c, hc, htn⟩ := dpa_get hd8 hx4
    obtain ⟨hi4, rfl⟩ := map_get hc
    have kt := turn_ok m1 m3 (List.getElem_mem hi4)
    generalize (turnsOf m true)[i] = t at kt htn
    have ht9 := dp_but b9 dr8.at_ (tup_tn t) htn
    have hxS9 := dp_but b9 dr8.at_ (tup_row S) (dp_same s8 hxS)
    refine ⟨_, rfl, (m : Int), rfl, by omega, by omega, fun D3 hD3 => ?_⟩
    show LcW (Itr 0 ((m : Nat) : Int).toNat) _ _ _ _ _ _ _ _
    rw [Int.toNat_natCast]
    refine lc_dr (K := K) (fun c => ∃ r : Int, c = PyData.int r) gInt (by omega) dr9 hD3 (fun j H5 k5 hj b5 dr5 Qt' Qe' k2' => ?_) fun H10 k10 acc10 ds10 b10 dr10 hA10 hda10 hl10 hg10 => ?_
    · exact ⟨rfl, _, rfl, d, a, ns, k5, 9, H, rfl, by decide, dr5, fun r H' _ _ b e => ⟨_, _, rfl, rfl, k2' _ _ (.int _) _ b e ⟨_, rfl⟩ (.int _)⟩⟩
    obtain ⟨u, rfl⟩ := all_ints hg10
    rw [dpa_ints hda10] at hA10
    rw [List.length_map] at hl10
    refine ⟨D3, _, rfl, .inl ⟨.inl (.inl hA10), fun l2 hl2 => ⟨(by show 2 ≤ sizeLine; decide), fun l3 hl3 => ?_⟩⟩⟩
    have s11 : Same H10 (upd H10 l2 (.tup (u.map V.int))) := same_upd hl2
    have s12 : Same (upd H10 l2 (.tup (u.map V.int))) (upd (upd H10 l2 (.tup (u.map V.int))) l3 (.tup [x4, .ref l2])) := same_upd hl3
    have ht12 := dp_same (s11.trans s12) (dp_but b10 dr9.at_ (tup_tn t) ht9)
    have hxS12 := dp_same (s11.trans s12) (dp_but b10 dr9.at_ (tup_row S) hxS9)
    have hmo : Dp K (upd (upd H10 l2 (.tup (u.map V.int))) l3 (.tup [x4, .ref l2])) (.ref l3) (moD t u) := .tup (.inl (.inl upd_same)) (.cons ht12 (.cons (dp_same s12 (pt_dp (.inl (.inl upd_same)))) .nil))
    have dr12 := dr10.keep (s11.trans s12)
    generalize upd (upd H10 l2 (.tup (u.map V.int))) l3 (.tup [x4, .ref l2]) = H12 at ht12 hxS12 hmo dr12
    -- _law_other = [moved(_law_point, _law_motion) for _law_point in _law_shape]
    obtain ⟨bS, ss, eS, hqS, hdS⟩ := dp_row hxS12
    cases eS
    have hsl := pts_len hdS
    have hSlen := okS.len
    refine ⟨_, rfl, _, rfl, ⟨ss, hqS⟩, fun e5 he5 => ?_⟩
    refine lc_mt ((shiftRow (turnRow S t) u).map ptD) (tupA_pts _) (by rw [List.length_map, hsl]; unfold shiftRow turnRow; rw [List.length_map, List.length_map]) (by omega) he5 hqS (fun j y c H13 hy hc13 s13 Qt Qe k => ?_) fun H13 acc13 s13 hA13 hda13 => ?_
    · obtain ⟨hj, hyp⟩ := pts_get (dpa_same s13 hdS) hy
      obtain ⟨hj2, rfl⟩ := map_get hc13
      refine ⟨rfl, _, rfl, _, rfl, y, _, S[j], t, u, m, rfl, hyp, dp_same s13 hmo, kt, okS.dim _ (List.getElem_mem _), hl10, m3, fun z H14 s14 hz14 => k _ _ s14 ?_⟩
      rw [show (shiftRow (turnRow S t) u)[j] = addP (turned S[j] t) u by simp [shiftRow, turnRow]]
      exact hz14
    have okO : ROk m (shiftRow (turnRow S t) u) := (okS.turn kt).shift hl10
    have hOl : (shiftRow (turnRow S t) u).length = S.length := by unfold shiftRow turnRow; rw [List.length_map, List.length_map]
    generalize shiftRow (turnRow S t) u = O at hda13 okO hOl
    have dr13 := dr12.keep s13
    have hxS13 := dp_same s13 hxS12
    have n5d : e5 ≠ d := fun e => by
      subst e
      rw [dr12.at_] at he5
      cases he5
    -- if _law_take(_law_draw, 2) == 0: the spoiling
    refine ⟨Mid5 K, ?_, ?_⟩
    · refine ⟨_, rfl, d, a, ns, _, 2, H, rfl, by decide, dr13, fun r H14 _ _ b14 e14 => ⟨rfl, _, rfl, ?_⟩⟩
      have dr14 := dr13.next b14 e14
      have hA14 := b14 _ _ n5d hA13
      have hda14 := dpa_but b14 dr13.at_ (tupA_pts _) hda13
      have hxS14 := dp_but b14 dr13.at_ (tup_row S) hxS13
      refine ite2 (fun _ => ?_) (fun _ => ?_)
      · obtain ⟨y0, b0, p0, hy0, rfl, hb0, hp0, hl0⟩ := okO.first hda14
        refine ⟨_, rfl, e5, acc13, 0, _, rfl, rfl, .inl (.inl hA14), atI_nat (j := 0) hy0, b0, rfl, ⟨_, hb0⟩, fun D4 hD4 => ?_⟩
        have n54 : e5 ≠ D4 := ne_of_none hA14 hD4
        refine lc_dt (K := K) (fun c => ∃ r : Int, c = PyData.int r) gInt (n := m) (by rw [List.length_map, hl0]) (by omega) dr14 hD4 hb0 (fun j H15 y k15 hy b15 dr15 Qt Qe k2 => ?_) fun H15 k15 acc15 ds15 b15 dr15 hA15 hda15 hl15 hg15 => ?_
        · obtain ⟨hj, rfl⟩ := map_get hy
          exact ⟨rfl, _, rfl, _, rfl, d, a, ns, k15, 2, H, rfl, by decide, dr15, fun r H' _ _ b e => ⟨_, _, rfl, rfl, k2 _ _ (.int _) _ b e ⟨_, rfl⟩ (.int _)⟩⟩
        · obtain ⟨v, rfl⟩ := all_ints hg15
          rw [dpa_ints hda15] at hA15
          rw [List.length_map] at hl15
          refine ⟨D4, _, rfl, .inl ⟨.inl (.inl hA15), fun l4 hl4 => ?_⟩⟩
          have s16 : Same H15 (upd H15 l4 (.tup (v.map V.int))) := same_upd hl4
          have hA16 := s16 _ _ (b15 _ _ n5d hA14)
          have hda16 := dpa_same s16 (dpa_but b15 dr14.at_ (tupA_pts _) hda14)
          have hxS16 := dp_same s16 (dp_but b15 dr14.at_ (tup_row S) hxS14)
          have hv : Dp K (upd H15 l4 (.tup (v.map V.int))) (.ref l4) (ptD v) := pt_dp (.inl (.inl upd_same))
          generalize upd H15 l4 (.tup (v.map V.int)) = H16 at hA16 hda16 hxS16 hv
          cases O with
          | nil => exact absurd rfl okO.ne
          | cons q0 O' =>
            cases acc13 with
            | nil =>
              have hda16' : DpAll K H16 [] (ptD q0 :: O'.map ptD) := hda16
              cases hda16'
            | cons w0 w1 =>
              have hda16' : DpAll K H16 (w0 :: w1) (ptD q0 :: O'.map ptD) := hda16
              cases hda16' with
              | cons g0 g1 =>
                refine ⟨_, rfl, e5, _, 0, 0, rfl, rfl, hA16, ix_zero _, ?_⟩
                have b17 : But e5 H16 (upd H16 e5 (.lst (V.ref l4 :: w1))) := fun b o nb hb => by
                  rw [upd_ne nb]
                  exact hb
                refine ⟨_, _, _, _, _, e5, _, S, v :: O', m, rfl, dp_but b17 hA16 (tup_row S) hxS16, okS, upd_same, .cons (dp_but b17 hA16 (tup_pt v) hv) (dpa_but b17 hA16 (tupA_pts _) g1), fun p hp => ?_, hOl⟩
                rcases List.mem_cons.mp hp with rfl | hp
                · exact hl15
                · exact okO.dim p (List.mem_cons_of_mem _ hp)
      · exact ⟨_, _, _, _, _, e5, acc13, S, O, m, rfl, hxS14, okS, hA14, hda14, okO.dim, hOl⟩
    -- _law_other = tuple(sorted(set(_law_other)))
    rintro σ H14 ⟨v0, v1, v2, v4, x, e6, acc, R, O1, n, rfl, hx, okR, hA, hda, hdim, hlen⟩
    refine ⟨MidB K, ?_, fun σ' H' hm => qB Q σ' H' q hm⟩
    have hRl := okR.len
    have hR1 := okR.h1
    obtain ⟨ks, rfl, rfl, hk⟩ := keys_of hda
    rw [List.length_map] at hlen
    refine ⟨_, rfl, e6, ks, rfl, .inl (.inl hA), hk, by omega, fun a1 L ha1 hL1 hL2 => ?_⟩
    have s5 : Same H14 (upd H14 a1 (SetTO P w a1 L)) := same_upd ha1
    refine ⟨a1, L, rfl, upd_same, fun p hp => seqT_same s5 (hk p (hL1 p hp)), fun p hp e => ?_, fun S ys y1 hS1 hS2 hy1 hys => ?_⟩
    · have := hdim p.2 (List.mem_map.mpr ⟨p, hL1 p hp, rfl⟩)
      rw [e] at this
      have : 0 = n := this
      omega
    refine ⟨y1, ys, rfl, .inl ⟨.inl (.inl upd_same), fun x1 hx1 => ?_⟩⟩
    have s6 : Same (upd H14 a1 (SetTO P w a1 L)) (upd (upd H14 a1 (SetTO P w a1 L)) y1 (.lst ys)) := same_upd hy1
    have s7 : Same (upd (upd H14 a1 (SetTO P w a1 L)) y1 (.lst ys)) (upd (upd (upd H14 a1 (SetTO P w a1 L)) y1 (.lst ys)) x1 (.tup ys)) := same_upd hx1
    refine ⟨_, _, _, _, x, .ref x1, R, S, n, rfl, dp_same (s5.trans (s6.trans s7)) hx, .tup (.inl (.inl upd_same)) (dpa_same (s6.trans s7) hys), okR, fun p hp => ?_, fun e => ?_, okR.h1, okR.h3, by omega⟩
    · obtain ⟨q, hq, rfl⟩ := List.mem_map.mp ((hS1 p).mp hp)
      exact hdim _ (List.mem_map.mpr ⟨q, hL1 q hq, rfl⟩)
    · have hpos : 0 < ks.length := by
        have := List.length_pos_iff.mpr okR.ne
        omega
      have hm0 : ks[0] ∈ ks := List.getElem_mem hpos
      have := (hS1 _).mpr (hL2 _ hm0)
      rw [e] at this
      cases this
end
end K9

/-! KZ -/
set_option Elab.async false
set_option linter.all false
set_option maxRecDepth 100000
set_option maxHeartbeats 4000000
namespace K9
open PySem PySem.Spec PyProof.Rows L2
/-! What the top has left; the walk; the law. -/
theorem dfn_mk {K : PySem.W.Frag} {h : Heap} {mg : Str → Option Value} {x : Str} {st : Stmt} {ps : List Str} {f : Addr} {oc : Value} {od an : Option Addr} {sl : Array (Option Value)} {kV dc pm cd ct : Value} (X : K.In h) (G : h.Ns mainGlobals mg)
    (a : PySem.W.nsIn K mainGlobals x = some (some (.ref f))) (l : K.lookup f = some ⟨oc, od, .func (PySem.W.fnOf x x (defArgs st) (defBody st) (defScope st) .none kV dc pm an cd ct), sl⟩) (c : PySem.W.codeIn K cd x = true) (k : PySem.W.keepIn K (.ref f) = true)
    (h : ∀ (kV doc pm : Value) (an : Option Addr) (cdv ct : Value) (us : List Value), us.length = ps.length → bindArgs (PySem.W.fnOf x x (defArgs st) (defBody st) (defScope st) .none kV doc pm an cdv ct) ⟨us, []⟩ = pure (ps.zip us)) :
    Dfn K mg x st ps f (PySem.W.fnOf x x (defArgs st) (defBody st) (defScope st) .none kV dc pm an cd ct) :=
  have F := fun_mk (st := st) l c k
  ⟨F, PySem.W.mg_of X G a, F.binds h⟩
theorem all_mk {l : PySem.W.OpenLaw} {w : World} {K : PySem.W.Frag} {h : Heap} {mg : Str → Option Value} {fa : Addr} (X : K.In h) (G : h.Ns mainGlobals mg) (hfa : mg "law" = some (.ref fa))
    {fR fG fP fU fT fM fC fS fF fO fA fN fK fQ fI fL : Addr} {odR anR odG anG odP anP odU anU odT anT odM anM odC anC odS anS odF anF odO anO odA anA odN anN odK anK odQ anQ odI anI odL anL : Option Addr} {slR slG slP slU slT slM slC slS slF slO slA slN slK slQ slI slL : Array (Option Value)}
    {ocR kVR dcR pmR cdR ctR ocG kVG dcG pmG cdG ctG ocP kVP dcP pmP cdP ctP ocU kVU dcU pmU cdU ctU ocT kVT dcT pmT cdT ctT ocM kVM dcM pmM cdM ctM ocC kVC dcC pmC cdC ctC ocS kVS dcS pmS cdS ctS ocF kVF dcF pmF cdF ctF ocO kVO dcO pmO cdO ctO ocA kVA dcA pmA cdA ctA ocN kVN dcN pmN cdN ctN ocK kVK dcK pmK cdK ctK ocQ kVQ dcQ pmQ cdQ ctQ ocI kVI dcI pmI cdI ctI ocL kVL dcL pmL cdL ctL : Value}
    (aR : PySem.W.nsIn K mainGlobals "rows_of" = some (some (.ref fR))) (lR : K.lookup fR = some ⟨ocR, odR, .func (PySem.W.fnOf "rows_of" "rows_of" (defArgs sRows) (defBody sRows) (defScope sRows) .none kVR dcR pmR anR cdR ctR), slR⟩) (cR : PySem.W.codeIn K cdR "rows_of" = true) (kR : PySem.W.keepIn K (.ref fR) = true)
    (aG : PySem.W.nsIn K mainGlobals "signs_of" = some (some (.ref fG))) (lG : K.lookup fG = some ⟨ocG, odG, .func (PySem.W.fnOf "signs_of" "signs_of" (defArgs sSigns) (defBody sSigns) (defScope sSigns) .none kVG dcG pmG anG cdG ctG), slG⟩) (cG : PySem.W.codeIn K cdG "signs_of" = true) (kG : PySem.W.keepIn K (.ref fG) = true)
    (aP : PySem.W.nsIn K mainGlobals "is_proper" = some (some (.ref fP))) (lP : K.lookup fP = some ⟨ocP, odP, .func (PySem.W.fnOf "is_proper" "is_proper" (defArgs sProper) (defBody sProper) (defScope sProper) .none kVP dcP pmP anP cdP ctP), slP⟩) (cP : PySem.W.codeIn K cdP "is_proper" = true) (kP : PySem.W.keepIn K (.ref fP) = true)
    (aU : PySem.W.nsIn K mainGlobals "turns_of" = some (some (.ref fU))) (lU : K.lookup fU = some ⟨ocU, odU, .func (PySem.W.fnOf "turns_of" "turns_of" (defArgs sTurns) (defBody sTurns) (defScope sTurns) .none kVU dcU pmU anU cdU ctU), slU⟩) (cU : PySem.W.codeIn K cdU "turns_of" = true) (kU : PySem.W.keepIn K (.ref fU) = true)
    (aT : PySem.W.nsIn K mainGlobals "turned_by" = some (some (.ref fT))) (lT : K.lookup fT = some ⟨ocT, odT, .func (PySem.W.fnOf "turned_by" "turned_by" (defArgs sTurned) (defBody sTurned) (defScope sTurned) .none kVT dcT pmT anT cdT ctT), slT⟩) (cT : PySem.W.codeIn K cdT "turned_by" = true) (kT : PySem.W.keepIn K (.ref fT) = true)
    (aM : PySem.W.nsIn K mainGlobals "moved" = some (some (.ref fM))) (lM : K.lookup fM = some ⟨ocM, odM, .func (PySem.W.fnOf "moved" "moved" (defArgs sMoved) (defBody sMoved) (defScope sMoved) .none kVM dcM pmM anM cdM ctM), slM⟩) (cM : PySem.W.codeIn K cdM "moved" = true) (kM : PySem.W.keepIn K (.ref fM) = true)
    (aC : PySem.W.nsIn K mainGlobals "corner_of" = some (some (.ref fC))) (lC : K.lookup fC = some ⟨ocC, odC, .func (PySem.W.fnOf "corner_of" "corner_of" (defArgs sCorner) (defBody sCorner) (defScope sCorner) .none kVC dcC pmC anC cdC ctC), slC⟩) (cC : PySem.W.codeIn K cdC "corner_of" = true) (kC : PySem.W.keepIn K (.ref fC) = true)
    (aS : PySem.W.nsIn K mainGlobals "settled" = some (some (.ref fS))) (lS : K.lookup fS = some ⟨ocS, odS, .func (PySem.W.fnOf "settled" "settled" (defArgs sSettled) (defBody sSettled) (defScope sSettled) .none kVS dcS pmS anS cdS ctS), slS⟩) (cS : PySem.W.codeIn K cdS "settled" = true) (kS : PySem.W.keepIn K (.ref fS) = true)
    (aF : PySem.W.nsIn K mainGlobals "forms_of" = some (some (.ref fF))) (lF : K.lookup fF = some ⟨ocF, odF, .func (PySem.W.fnOf "forms_of" "forms_of" (defArgs sForms) (defBody sForms) (defScope sForms) .none kVF dcF pmF anF cdF ctF), slF⟩) (cF : PySem.W.codeIn K cdF "forms_of" = true) (kF : PySem.W.keepIn K (.ref fF) = true)
    (aO : PySem.W.nsIn K mainGlobals "form_of" = some (some (.ref fO))) (lO : K.lookup fO = some ⟨ocO, odO, .func (PySem.W.fnOf "form_of" "form_of" (defArgs sForm) (defBody sForm) (defScope sForm) .none kVO dcO pmO anO cdO ctO), slO⟩) (cO : PySem.W.codeIn K cdO "form_of" = true) (kO : PySem.W.keepIn K (.ref fO) = true)
    (aA : PySem.W.nsIn K mainGlobals "are_alike" = some (some (.ref fA))) (lA : K.lookup fA = some ⟨ocA, odA, .func (PySem.W.fnOf "are_alike" "are_alike" (defArgs sAlike) (defBody sAlike) (defScope sAlike) .none kVA dcA pmA anA cdA ctA), slA⟩) (cA : PySem.W.codeIn K cdA "are_alike" = true) (kA : PySem.W.keepIn K (.ref fA) = true)
    (aN : PySem.W.nsIn K mainGlobals "_law_number" = some (some (.ref fN))) (lN : K.lookup fN = some ⟨ocN, odN, .func (PySem.W.fnOf "_law_number" "_law_number" (defArgs sNumber) (defBody sNumber) (defScope sNumber) .none kVN dcN pmN anN cdN ctN), slN⟩) (cN : PySem.W.codeIn K cdN "_law_number" = true) (kN : PySem.W.keepIn K (.ref fN) = true)
    (aK : PySem.W.nsIn K mainGlobals "_law_take" = some (some (.ref fK))) (lK : K.lookup fK = some ⟨ocK, odK, .func (PySem.W.fnOf "_law_take" "_law_take" (defArgs sTake) (defBody sTake) (defScope sTake) .none kVK dcK pmK anK cdK ctK), slK⟩) (cK : PySem.W.codeIn K cdK "_law_take" = true) (kK : PySem.W.keepIn K (.ref fK) = true)
    (aQ : PySem.W.nsIn K mainGlobals "_law_pick" = some (some (.ref fQ))) (lQ : K.lookup fQ = some ⟨ocQ, odQ, .func (PySem.W.fnOf "_law_pick" "_law_pick" (defArgs sPick) (defBody sPick) (defScope sPick) .none kVQ dcQ pmQ anQ cdQ ctQ), slQ⟩) (cQ : PySem.W.codeIn K cdQ "_law_pick" = true) (kQ : PySem.W.keepIn K (.ref fQ) = true)
    (aI : PySem.W.nsIn K mainGlobals "_law_is_moved" = some (some (.ref fI))) (lI : K.lookup fI = some ⟨ocI, odI, .func (PySem.W.fnOf "_law_is_moved" "_law_is_moved" (defArgs sIsMoved) (defBody sIsMoved) (defScope sIsMoved) .none kVI dcI pmI anI cdI ctI), slI⟩) (cI : PySem.W.codeIn K cdI "_law_is_moved" = true) (kI : PySem.W.keepIn K (.ref fI) = true)
    (aL : PySem.W.nsIn K mainGlobals "law" = some (some (.ref fL))) (lL : K.lookup fL = some ⟨ocL, odL, .func (PySem.W.fnOf "law" "law" (defArgs sLaw) (defBody sLaw) (defScope sLaw) .none kVL dcL pmL anL cdL ctL), slL⟩) (cL : PySem.W.codeIn K cdL "law" = true) (kL : PySem.W.keepIn K (.ref fL) = true)
    (z_range : PySem.W.nsIn K mainGlobals "range" = some none) (z_len : PySem.W.nsIn K mainGlobals "len" = some none) (z_enumerate : PySem.W.nsIn K mainGlobals "enumerate" = some none) (z_zip : PySem.W.nsIn K mainGlobals "zip" = some none) (z_tuple : PySem.W.nsIn K mainGlobals "tuple" = some none) (z_min : PySem.W.nsIn K mainGlobals "min" = some none) (z_sorted : PySem.W.nsIn K mainGlobals "sorted" = some none) (z_set : PySem.W.nsIn K mainGlobals "set" = some none) (z_int : PySem.W.nsIn K mainGlobals "int" = some none) (z_abs : PySem.W.nsIn K mainGlobals "abs" = some none) :
    ∃ fd : FuncData, (∀ (s : Shared) (v : Value), BindsTo s fd ⟨[v], []⟩ [("_law_script", v)]) ∧ ∀ base : Heap, K.In base → base.Ns mainGlobals mg → FnOk l.prog w K mg base CX0 6 fa fd ["_law_script"] (spLaw K) := by
  have e := hfa.symm.trans (PySem.W.mg_of X G aL)
  cases e
  have T : Gn mg := ⟨PySem.W.mg_none_of X G z_range, PySem.W.mg_none_of X G z_len, PySem.W.mg_none_of X G z_enumerate, PySem.W.mg_none_of X G z_zip, PySem.W.mg_none_of X G z_tuple, PySem.W.mg_none_of X G z_min, PySem.W.mg_none_of X G z_sorted, PySem.W.mg_none_of X G z_set, PySem.W.mg_none_of X G z_int, PySem.W.mg_none_of X G z_abs⟩
  have DR := dfn_mk (ps := ["many"]) X G aR lR cR kR fun _ _ _ _ _ _ us hl => match us, hl with | [_], _ => rfl
  have DG := dfn_mk (ps := ["many"]) X G aG lG cG kG fun _ _ _ _ _ _ us hl => match us, hl with | [_], _ => rfl
  have DP := dfn_mk (ps := ["axes", "signs"]) X G aP lP cP kP fun _ _ _ _ _ _ us hl => match us, hl with | [_, _], _ => rfl
  have DU := dfn_mk (ps := ["many", "are_mirrored"]) X G aU lU cU kU fun _ _ _ _ _ _ us hl => match us, hl with | [_, _], _ => rfl
  have DT := dfn_mk (ps := ["point", "turn"]) X G aT lT cT kT fun _ _ _ _ _ _ us hl => match us, hl with | [_, _], _ => rfl
  have DM := dfn_mk (ps := ["point", "motion"]) X G aM lM cM kM fun _ _ _ _ _ _ us hl => match us, hl with | [_, _], _ => rfl
  have DC := dfn_mk (ps := ["points"]) X G aC lC cC kC fun _ _ _ _ _ _ us hl => match us, hl with | [_], _ => rfl
  have DS := dfn_mk (ps := ["points"]) X G aS lS cS kS fun _ _ _ _ _ _ us hl => match us, hl with | [_], _ => rfl
  have DF := dfn_mk (ps := ["points", "are_mirrored"]) X G aF lF cF kF fun _ _ _ _ _ _ us hl => match us, hl with | [_, _], _ => rfl
  have DO := dfn_mk (ps := ["points", "are_mirrored"]) X G aO lO cO kO fun _ _ _ _ _ _ us hl => match us, hl with | [_, _], _ => rfl
  have DA := dfn_mk (ps := ["one", "other", "are_mirrored"]) X G aA lA cA kA fun _ _ _ _ _ _ us hl => match us, hl with | [_, _, _], _ => rfl
  have DN := dfn_mk (ps := ["_law_script", "_law_index"]) X G aN lN cN kN fun _ _ _ _ _ _ us hl => match us, hl with | [_, _], _ => rfl
  have DK := dfn_mk (ps := ["_law_draw", "_law_many"]) X G aK lK cK kK fun _ _ _ _ _ _ us hl => match us, hl with | [_, _], _ => rfl
  have DQ := dfn_mk (ps := ["_law_draw", "_law_items"]) X G aQ lQ cQ kQ fun _ _ _ _ _ _ us hl => match us, hl with | [_, _], _ => rfl
  have DI := dfn_mk (ps := ["_law_one", "_law_other", "_law_are_mirrored"]) X G aI lI cI kI fun _ _ _ _ _ _ us hl => match us, hl with | [_, _, _], _ => rfl
  have DL := dfn_mk (ps := ["_law_script"]) X G aL lL cL kL fun _ _ _ _ _ _ us hl => match us, hl with | [_], _ => rfl
  exact ⟨PySem.W.fnOf "law" "law" (defArgs sLaw) (defBody sLaw) (defScope sLaw) .none kVL dcL pmL anL cdL ctL, fun s v => .of_eq rfl, fun base _ _ => ok_law DL ⟨DR, DG, DP, DU, DT, DM, DC, DS, DF, DO, DA⟩ DI DN DK DQ T⟩
theorem walk {l : PySem.W.OpenLaw} {q : Program} {loose : List Str} {XP : (Str → Option Value) → Heap → Prop} {YP : World → Heap → Prop} {d : DefRec} {K : Params → PySem.W.Frag} (hn : l.most = some 63) (hdf : d.params.defaults = [])
    (hY : ∀ (w : World) (h : Heap), YP w h → (K w.params).In h)
    (F : ∀ (w : World) (mg : Str → Option Value) (fa : Addr) (h : Heap), (K w.params).In h → h.Ns mainGlobals mg → mg d.name = some (.ref fa) →
      ∃ fd : FuncData, (∀ (s : Shared) (u : Value), BindsTo s fd ⟨[u], []⟩ [("_law_script", u)]) ∧ ∀ base : Heap, (K w.params).In base → base.Ns mainGlobals mg → FnOk l.prog w (K w.params) mg base CX0 6 fa fd ["_law_script"] (spLaw (K w.params))) :
    PySem.W.WalkO q loose XP YP l.row.toRowW d [] (fun f vs => PySem.call f vs) :=
  L2.walk_of (n := 63) (k := 6) (x := "_law_script") (CX := fun _ => CX0) (sp := fun w => spLaw (K w.params)) hn (by decide) hdf ⟨rfl, by decide, by decide⟩ hY F (fun _ _ a ns hl _ hS => ⟨a, ns, rfl, hS, fun _ => rfl⟩) fun _ _ _ _ _ z => z
end K9

open PySem PySem.W PyProof.Rows in
set_option maxRecDepth 100000 in
set_option maxHeartbeats 0 in
theorem PySem.Challenge.cw_finecloud_k09_whole_alike_holds : PySem.Challenge.rw_finecloud_k09_whole_alike.Holds := by
  w_on; o_law; k_head; (case hw => w_witness2)
  k_fill
  refine K9.walk (l := PySem.Challenge.rw_finecloud_k09_whole_alike) rfl rfl (fun w h Y => PySem.W.kIn_of Y) ?F
  case F =>
    intro w mg fa h KX G hmg
    refine' K9.all_mk KX G hmg ?aR ?lR ?cR ?kR ?aG ?lG ?cG ?kG ?aP ?lP ?cP ?kP ?aU ?lU ?cU ?kU ?aT ?lT ?cT ?kT ?aM ?lM ?cM ?kM ?aC ?lC ?cC ?kC ?aS ?lS ?cS ?kS ?aF ?lF ?cF ?kF ?aO ?lO ?cO ?kO ?aA ?lA ?cA ?kA ?aN ?lN ?cN ?kN ?aK ?lK ?cK ?kK ?aQ ?lQ ?cQ ?kQ ?aI ?lI ?cI ?kI ?aL ?lL ?cL ?kL ?z_range ?z_len ?z_enumerate ?z_zip ?z_tuple ?z_min ?z_sorted ?z_set ?z_int ?z_abs
    (case aR => k_is)
    (case lR => k_is)
    (case cR => k_is)
    (case kR => k_is)
    (case aG => k_is)
    (case lG => k_is)
    (case cG => k_is)
    (case kG => k_is)
    (case aP => k_is)
    (case lP => k_is)
    (case cP => k_is)
    (case kP => k_is)
    (case aU => k_is)
    (case lU => k_is)
    (case cU => k_is)
    (case kU => k_is)
    (case aT => k_is)
    (case lT => k_is)
    (case cT => k_is)
    (case kT => k_is)
    (case aM => k_is)
    (case lM => k_is)
    (case cM => k_is)
    (case kM => k_is)
    (case aC => k_is)
    (case lC => k_is)
    (case cC => k_is)
    (case kC => k_is)
    (case aS => k_is)
    (case lS => k_is)
    (case cS => k_is)
    (case kS => k_is)
    (case aF => k_is)
    (case lF => k_is)
    (case cF => k_is)
    (case kF => k_is)
    (case aO => k_is)
    (case lO => k_is)
    (case cO => k_is)
    (case kO => k_is)
    (case aA => k_is)
    (case lA => k_is)
    (case cA => k_is)
    (case kA => k_is)
    (case aN => k_is)
    (case lN => k_is)
    (case cN => k_is)
    (case kN => k_is)
    (case aK => k_is)
    (case lK => k_is)
    (case cK => k_is)
    (case kK => k_is)
    (case aQ => k_is)
    (case lQ => k_is)
    (case cQ => k_is)
    (case kQ => k_is)
    (case aI => k_is)
    (case lI => k_is)
    (case cI => k_is)
    (case kI => k_is)
    (case aL => k_is)
    (case lL => k_is)
    (case cL => k_is)
    (case kL => k_is)
    (case z_range => k_is)
    (case z_len => k_is)
    (case z_enumerate => k_is)
    (case z_zip => k_is)
    (case z_tuple => k_is)
    (case z_min => k_is)
    (case z_sorted => k_is)
    (case z_set => k_is)
    (case z_int => k_is)
    (case z_abs => k_is)
#print axioms PySem.Challenge.cw_finecloud_k09_whole_alike_holds
