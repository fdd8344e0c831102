import PyProof.Rows.All
import Wide.All
import OpenK.AllK
import Wide.FinOn
import HandS.ForMost
import HandS.TupAny
import HandS.IsInst
import HandS.Zip
import HandS.Conv
import HandS.NoneIn
import HandS.More
import HandS.Walk
import PySem.Challenge.RW_scribehall_k19_whole_settled_by_many
import KE.GoesEnum
import KE.KDictList
import PyProof.DictUpdate
set_option Elab.async false
set_option linter.all false
set_option maxRecDepth 100000
set_option maxHeartbeats 4000000
namespace Sh
/-! ### rows, logs -/
structure Row where
  reign : Nat
  deed : Nat
  deriving DecidableEq
structure Log where
  fp : Nat
  fr : Nat
  m : Nat
  rows : List Row
def Log.last (L : Log) : Nat := L.fp + L.rows.length
def reignOf (rows : List Row) (p : Nat) : Nat := if p = 0 then 0 else match rows[p - 1]? with | some r => r.reign | none => 0
def reignAt (L : Log) (p : Nat) : Option Nat :=
  if L.fp < p ∧ p ≤ L.last then (L.rows[p - L.fp - 1]?).map Row.reign
  else if p = L.fp then some L.fr else none
def putFrom (L : Log) : Nat → List Row → Log
  | _, [] => L
  | p, r :: rs => if L.fp < p ∧ reignAt L p ≠ some r.reign then { L with rows := L.rows.take (p - L.fp - 1) ++ (r :: rs) } else putFrom L (p + 1) rs
def foldTaken (L : Log) (fp fr m : Nat) : Log :=
  if fp < L.fp then L
  else if reignAt L fp = some fr then ⟨fp, fr, m, L.rows.drop (fp - L.fp)⟩
  else ⟨fp, fr, m, []⟩
inductive Letter where
  | fold (to reign fp fr m : Nat)
  | rows (to reign before brn : Nat) (rs : List Row) (st : Nat)
def Letter.to : Letter → Nat
  | .fold to _ _ _ _ => to
  | .rows to _ _ _ _ _ => to
structure Heard where
  log : Log
  sure : Nat
  good : Bool
  place : Nat
def heard (L : Log) (sure : Nat) : Letter → Heard
  | .fold _ _ fp fr m => if sure < fp then ⟨foldTaken L fp fr m, fp, true, fp⟩ else ⟨L, sure, true, sure⟩
  | .rows _ _ before brn rs st =>
    if L.last < before ∨ (reignAt L before ≠ none ∧ reignAt L before ≠ some brn) then ⟨L, sure, false, min L.last (before - 1)⟩
    else ⟨putFrom L (before + 1) rs, max sure (min st (before + rs.length)), true, before + rs.length⟩
/-- up to where the log is the head's, behind a letter -/
def newC (L : Log) (sure c : Nat) : Letter → Nat
  | .fold _ _ fp _ _ => if sure < fp then max c fp else c
  | .rows _ _ before brn rs st =>
    if L.last < before ∨ (reignAt L before ≠ none ∧ reignAt L before ≠ some brn) then c else max c (before + rs.length)

structure RowsOk (rows : List Row) : Prop where
  ok : ∀ r ∈ rows, r.reign % 2 = 0 ∧ r.reign ≤ 1000 ∧ r.deed < 3
structure Fol (rows : List Row) (m : Nat) (L : Log) (sure c : Nat) : Prop where
  c_len : c ≤ rows.length
  sure_c : sure ≤ c
  fp_sure : L.fp ≤ sure
  fr : L.fr = reignOf rows L.fp
  m : L.m = m
  stray : ∃ st : List Row, L.rows = (rows.take c).drop L.fp ++ st ∧ st.length ≤ 5 ∧ ∀ r ∈ st, r.reign % 2 = 1 ∧ r.reign ≤ 1000 ∧ r.deed < 3
inductive LetOk (rows : List Row) (m Fp settled : Nat) : Letter → Prop
  | fold (to reign : Nat) : 1 ≤ to → to ≤ m → LetOk rows m Fp settled (.fold to reign Fp (reignOf rows Fp) m)
  | rows (to reign before : Nat) (n st : Nat) : 1 ≤ to → to ≤ m → before + n ≤ rows.length → n ≤ 8 → st ≤ settled →
      LetOk rows m Fp settled (.rows to reign before (reignOf rows before) ((rows.drop before).take n) st)

section
variable {rows : List Row} {m : Nat} {L : Log} {sure c : Nat}
theorem reignOf_le (h : RowsOk rows) (p : Nat) : reignOf rows p ≤ 1000 := by
  unfold reignOf
  split
  · omega
  · split
    · rename_i r e
      exact (h.ok r (List.mem_of_getElem? e)).2.1
    · omega
theorem reignOf_even (h : RowsOk rows) (p : Nat) : reignOf rows p % 2 = 0 := by
  unfold reignOf
  split
  · rfl
  · split
    · rename_i r e
      exact (h.ok r (List.mem_of_getElem? e)).1
    · rfl
theorem reignOf_append (xs : List Row) {p : Nat} (h : p ≤ rows.length) : reignOf (rows ++ xs) p = reignOf rows p := by
  unfold reignOf
  split
  · rfl
  · rw [List.getElem?_append_left (by omega)]
theorem reignOf_get {p : Nat} {r : Row} (h : rows[p]? = some r) : reignOf rows (p + 1) = r.reign := by
  unfold reignOf
  rw [if_neg (by omega)]
  simp [h]

theorem Fol.fp_c (f : Fol rows m L sure c) : L.fp ≤ c := Nat.le_trans f.fp_sure f.sure_c
theorem Fol.len (f : Fol rows m L sure c) : ∃ k, k ≤ 5 ∧ L.rows.length = (c - L.fp) + k := by
  obtain ⟨st, e, hl, _⟩ := f.stray
  refine ⟨st.length, hl, ?_⟩
  have := f.c_len
  rw [e]
  simp only [List.length_append, List.length_drop, List.length_take]
  omega
theorem Fol.last_ge (f : Fol rows m L sure c) : c ≤ L.last := by
  obtain ⟨k, _, e⟩ := f.len
  have := f.fp_c
  unfold Log.last
  omega
theorem Fol.last_le (f : Fol rows m L sure c) : L.last ≤ c + 5 := by
  obtain ⟨k, _, e⟩ := f.len
  have := f.fp_c
  unfold Log.last
  omega
/-- a row of the common part -/
theorem Fol.get (f : Fol rows m L sure c) {p : Nat} (h1 : L.fp < p) (h2 : p ≤ c) : L.rows[p - L.fp - 1]? = rows[p - 1]? := by
  obtain ⟨st, e, hl, _⟩ := f.stray
  have := f.c_len
  rw [e, List.getElem?_append_left (by simp only [List.length_drop, List.length_take]; omega), List.getElem?_drop, List.getElem?_take_of_lt (by omega)]
  congr 1
  omega
/-- a stray row -/
theorem Fol.odd (f : Fol rows m L sure c) {p : Nat} (h1 : c < p) (h2 : p ≤ L.last) : ∃ r, L.rows[p - L.fp - 1]? = some r ∧ r.reign % 2 = 1 := by
  obtain ⟨st, e, hl, ho⟩ := f.stray
  have := f.c_len
  have hc := f.fp_c
  have hlen : L.rows.length = (c - L.fp) + st.length := by
    rw [e]
    simp only [List.length_append, List.length_drop, List.length_take]
    omega
  have hp : p - L.fp - 1 < L.rows.length := by unfold Log.last at h2; omega
  rw [e, List.getElem?_append_right (by simp only [List.length_drop, List.length_take]; omega)]
  have hq : p - L.fp - 1 - ((rows.take c).drop L.fp).length < st.length := by
    simp only [List.length_drop, List.length_take]
    omega
  exact ⟨_, List.getElem?_eq_getElem hq, (ho _ (List.getElem_mem hq)).1⟩
theorem Fol.at (f : Fol rows m L sure c) {p : Nat} (h1 : L.fp ≤ p) (h2 : p ≤ c) : reignAt L p = some (reignOf rows p) := by
  unfold reignAt
  by_cases h : L.fp < p
  · have := f.last_ge
    have hc := f.c_len
    rw [if_pos ⟨h, by omega⟩, f.get h h2]
    have hp : p - 1 < rows.length := by omega
    rw [List.getElem?_eq_getElem hp]
    unfold reignOf
    rw [if_neg (by omega), List.getElem?_eq_getElem hp]
    rfl
  · have e : p = L.fp := by omega
    rw [if_neg (fun z => h z.1), if_pos e, f.fr, e]
theorem Fol.at_odd (f : Fol rows m L sure c) {p : Nat} (h1 : c < p) (h2 : p ≤ L.last) : ∃ r, reignAt L p = some r ∧ r % 2 = 1 := by
  obtain ⟨r, e, ho⟩ := f.odd h1 h2
  have := f.fp_c
  unfold reignAt
  rw [if_pos ⟨by omega, h2⟩, e]
  exact ⟨_, rfl, ho⟩
theorem reignAt_out {p : Nat} (h : L.last < p) : reignAt L p = none := by
  unfold reignAt
  have : L.fp ≤ L.last := by unfold Log.last; omega
  rw [if_neg (by omega), if_neg (by omega)]
theorem reignAt_low {p : Nat} (h : p < L.fp) : reignAt L p = none := by
  unfold reignAt
  rw [if_neg (by omega), if_neg (by omega)]
/-- the letter's rows are taken -/
theorem accept_iff (h : RowsOk rows) (f : Fol rows m L sure c) {before : Nat} (hb : before ≤ rows.length) :
    (L.last < before ∨ (reignAt L before ≠ none ∧ reignAt L before ≠ some (reignOf rows before))) ↔ c < before := by
  constructor
  · rintro (z | ⟨z1, z2⟩)
    · have := f.last_ge
      omega
    · by_cases q : before ≤ c
      · by_cases q2 : L.fp ≤ before
        · exact absurd (f.at q2 q) z2
        · exact absurd (reignAt_low (by omega)) z1
      · omega
  · intro z
    by_cases q : L.last < before
    · exact .inl q
    · obtain ⟨r, e, ho⟩ := f.at_odd z (by omega)
      refine .inr ⟨by rw [e]; simp, ?_⟩
      rw [e]
      intro w
      have w := Option.some.inj w
      have := reignOf_even h before
      omega
/-- rows that the log has change nothing; others put an end to what strayed -/
theorem putFrom_fol (h : RowsOk rows) (f : Fol rows m L sure c) : ∀ (n p : Nat), 1 ≤ p → p ≤ c + 1 → p - 1 + n ≤ rows.length →
    Fol rows m (putFrom L p ((rows.drop (p - 1)).take n)) sure (max c (p - 1 + n)) ∧ (putFrom L p ((rows.drop (p - 1)).take n)).fp = L.fp := by
  intro n
  induction n with
  | zero =>
    intro p h1 h2 h3
    rw [List.take_zero, Nat.add_zero, Nat.max_eq_left (by omega)]
    exact ⟨f, rfl⟩
  | succ n ih =>
    intro p h1 h2 h3
    have hp : p - 1 < rows.length := by omega
    have e : (rows.drop (p - 1)).take (n + 1) = rows[p - 1] :: (rows.drop p).take n := by
      rw [List.drop_eq_getElem_cons hp, List.take_succ_cons]
      have : p - 1 + 1 = p := by omega
      rw [this]
    rw [e]
    unfold putFrom
    by_cases hc : p ≤ c
    · have hno : ¬ (L.fp < p ∧ reignAt L p ≠ some rows[p - 1].reign) := by
        rintro ⟨z1, z2⟩
        apply z2
        rw [f.at (by omega) hc]
        unfold reignOf
        rw [if_neg (by omega), List.getElem?_eq_getElem hp]
      rw [if_neg hno]
      have q := ih (p + 1) (by omega) (by omega) (by omega)
      have e2 : p + 1 - 1 = p := by omega
      rw [e2] at q
      have e3 : p - 1 + (n + 1) = p + n := by omega
      rw [e3]
      exact q
    · have ep : p = c + 1 := by omega
      subst ep
      have hfc := f.fp_c
      have hyes : L.fp < c + 1 ∧ reignAt L (c + 1) ≠ some rows[c + 1 - 1].reign := by
        refine ⟨by omega, ?_⟩
        by_cases z : c + 1 ≤ L.last
        · obtain ⟨r, e, ho⟩ := f.at_odd (p := c + 1) (by omega) z
          rw [e]
          intro w
          have w := Option.some.inj w
          have := (h.ok _ (List.getElem_mem hp)).1
          omega
        · rw [reignAt_out (by omega)]
          simp
      rw [if_pos hyes]
      have e4 : c + 1 - 1 = c := by omega
      have e5 : max c (c + 1 - 1 + (n + 1)) = c + (n + 1) := by omega
      rw [e5]
      obtain ⟨st, e6, hl, ho⟩ := f.stray
      have hcl := f.c_len
      have e7 : L.rows.take (c + 1 - L.fp - 1) = (rows.take c).drop L.fp := by
        rw [e6, List.take_append_of_le_length (by simp only [List.length_drop, List.length_take]; omega)]
        exact List.take_of_length_le (by simp only [List.length_drop, List.length_take]; omega)
      refine ⟨⟨by omega, by have := f.sure_c; omega, f.fp_sure, f.fr, f.m, [], ?_, by simp, by simp⟩, rfl⟩
      show L.rows.take (c + 1 - L.fp - 1) ++ (rows[c + 1 - 1] :: (rows.drop (c + 1)).take n) = (rows.take (c + (n + 1))).drop L.fp ++ []
      rw [e7, List.append_nil]
      have e8 : rows[c + 1 - 1] :: (rows.drop (c + 1)).take n = (rows.drop c).take (n + 1) := by
        rw [List.drop_eq_getElem_cons (by omega : c < rows.length), List.take_succ_cons]
        congr 1
      rw [e8]
      have e9 : rows.take (c + (n + 1)) = rows.take c ++ (rows.drop c).take (n + 1) := List.take_add
      rw [e9, List.drop_append_of_le_length (by rw [List.length_take]; omega)]
theorem Fol.upto (f : Fol rows m L sure c) {s' : Nat} (h1 : sure ≤ s') (h2 : s' ≤ c) : Fol rows m L s' c := ⟨f.c_len, h2, Nat.le_trans f.fp_sure h1, f.fr, f.m, f.stray⟩
theorem foldTaken_fol (h : RowsOk rows) (f : Fol rows m L sure c) {Fp : Nat} (h1 : sure < Fp) (h2 : Fp ≤ rows.length) :
    Fol rows m (foldTaken L Fp (reignOf rows Fp) m) Fp (max c Fp) := by
  have hfs := f.fp_sure
  have hfc := f.fp_c
  have hcl := f.c_len
  unfold foldTaken
  rw [if_neg (by omega)]
  by_cases hc : Fp ≤ c
  · rw [if_pos (f.at (by omega) hc)]
    obtain ⟨st, e, hl, ho⟩ := f.stray
    refine ⟨by omega, by omega, Nat.le_refl _, rfl, rfl, st, ?_, hl, ho⟩
    show L.rows.drop (Fp - L.fp) = (rows.take (max c Fp)).drop Fp ++ st
    rw [Nat.max_eq_left hc, e, List.drop_append_of_le_length (by simp only [List.length_drop, List.length_take]; omega), List.drop_drop]
    have : L.fp + (Fp - L.fp) = Fp := by omega
    rw [this]
  · have hno : reignAt L Fp ≠ some (reignOf rows Fp) := by
      by_cases z : Fp ≤ L.last
      · obtain ⟨r, e, ho⟩ := f.at_odd (p := Fp) (by omega) z
        rw [e]
        intro w
        have w := Option.some.inj w
        have := reignOf_even h Fp
        omega
      · rw [reignAt_out (by omega)]
        simp
    rw [if_neg hno]
    refine ⟨by omega, by omega, Nat.le_refl _, rfl, rfl, [], ?_, by simp, by simp⟩
    show [] = (rows.take (max c Fp)).drop Fp ++ []
    rw [Nat.max_eq_right (by omega), List.append_nil]
    exact (List.drop_of_length_le (by rw [List.length_take]; omega)).symm
theorem heard_fol (h : RowsOk rows) (f : Fol rows m L sure c) {Fp settled : Nat} (hF : Fp ≤ settled) (hS : settled ≤ rows.length) (hs : sure ≤ settled) {l : Letter} (lo : LetOk rows m Fp settled l) :
    Fol rows m (heard L sure l).log (heard L sure l).sure (newC L sure c l) ∧ (heard L sure l).sure ≤ settled ∧ sure ≤ (heard L sure l).sure ∧ c ≤ newC L sure c l ∧
      ((heard L sure l).good = true → (heard L sure l).place ≤ newC L sure c l) ∧ (heard L sure l).place ≤ 2000 + rows.length + c := by
  cases lo with
  | fold to reign h1 h2 =>
    have e1 : heard L sure (.fold to reign Fp (reignOf rows Fp) m) = if sure < Fp then ⟨foldTaken L Fp (reignOf rows Fp) m, Fp, true, Fp⟩ else ⟨L, sure, true, sure⟩ := rfl
    have e2 : newC L sure c (.fold to reign Fp (reignOf rows Fp) m) = if sure < Fp then max c Fp else c := rfl
    rw [e1, e2]
    by_cases z : sure < Fp
    · rw [if_pos z, if_pos z]
      exact ⟨foldTaken_fol h f z (by omega), hF, by show sure ≤ Fp; omega, by omega, fun _ => by show Fp ≤ max c Fp; omega, by show Fp ≤ _; omega⟩
    · rw [if_neg z, if_neg z]
      exact ⟨f, hs, Nat.le_refl _, Nat.le_refl _, fun _ => f.sure_c, by show sure ≤ _; have := f.sure_c; omega⟩
  | rows to reign before n st h1 h2 h3 h4 h5 =>
    have hlen : ((rows.drop before).take n).length = n := by rw [List.length_take, List.length_drop]; omega
    have e1 : heard L sure (.rows to reign before (reignOf rows before) ((rows.drop before).take n) st) = if L.last < before ∨ (reignAt L before ≠ none ∧ reignAt L before ≠ some (reignOf rows before)) then ⟨L, sure, false, min L.last (before - 1)⟩
      else ⟨putFrom L (before + 1) ((rows.drop before).take n), max sure (min st (before + ((rows.drop before).take n).length)), true, before + ((rows.drop before).take n).length⟩ := rfl
    have e2 : newC L sure c (.rows to reign before (reignOf rows before) ((rows.drop before).take n) st) = if L.last < before ∨ (reignAt L before ≠ none ∧ reignAt L before ≠ some (reignOf rows before)) then c else max c (before + ((rows.drop before).take n).length) := rfl
    rw [e1, e2, hlen]
    have iff := accept_iff h f (before := before) (by omega)
    by_cases z : c < before
    · rw [if_pos (iff.mpr z), if_pos (iff.mpr z)]
      exact ⟨f, hs, Nat.le_refl _, Nat.le_refl _, fun q => by simp at q, by show min L.last (before - 1) ≤ _; omega⟩
    · rw [if_neg (fun q => z (iff.mp q)), if_neg (fun q => z (iff.mp q))]
      obtain ⟨q, qf⟩ := putFrom_fol h f n (before + 1) (by omega) (by omega) (by omega)
      have e3 : before + 1 - 1 = before := by omega
      rw [e3] at q qf
      have hsc := f.sure_c
      refine ⟨q.upto (s' := max sure (min st (before + n))) (by omega) (by omega), ?_, ?_, by omega, fun _ => by show before + n ≤ max c (before + n); omega, by show before + n ≤ _; omega⟩
      · show max sure (min st (before + n)) ≤ settled
        omega
      · show sure ≤ max sure (min st (before + n))
        omega
end
end Sh

namespace Sh
/-! ### the world -/
structure Oth where
  log : Log
  sure : Nat
  c : Nat
structure Told where
  one : Nat
  good : Bool
  place : Nat
structure Wd where
  rows : List Row
  fp : Nat
  settled : Nat
  others : List Oth
  reign : Nat
  road : List Letter
  told : List Told
  got : List Nat
  coming : List Nat
namespace Wd
def m (W : Wd) : Nat := W.others.length
def log (W : Wd) : Log := ⟨W.fp, reignOf W.rows W.fp, W.others.length, W.rows.drop W.fp⟩
def put (W : Wd) (d : Nat) : Wd := { W with rows := W.rows ++ [⟨W.reign, d⟩] }
def letterTo (W : Wd) (i : Nat) : Letter :=
  if W.coming.getD (i - 1) 0 ≤ W.fp then .fold i W.reign W.fp (reignOf W.rows W.fp) W.others.length
  else .rows i W.reign (W.coming.getD (i - 1) 0 - 1) (reignOf W.rows (W.coming.getD (i - 1) 0 - 1)) ((W.rows.drop (W.coming.getD (i - 1) 0 - 1)).take 8) W.settled
def send (W : Wd) (i : Nat) : Wd := { W with road := W.road ++ [W.letterTo i] }
def hearOne (o : Oth) (l : Letter) : Oth := ⟨(heard o.log o.sure l).log, (heard o.log o.sure l).sure, newC o.log o.sure o.c l⟩
/-- a letter comes -/
def bring (W : Wd) (l : Letter) : Wd :=
  match W.others[l.to - 1]? with
  | some o => { W with others := W.others.set (l.to - 1) (hearOne o l), told := W.told ++ [⟨l.to, (heard o.log o.sure l).good, (heard o.log o.sure l).place⟩] }
  | none => W
def countG (got : List Nat) (p : Nat) : Nat := (got.filter fun g => p ≤ g).length
def countC (os : List Oth) (p : Nat) : Nat := (os.filter fun o => p ≤ o.c).length
def many (W : Wd) (p : Nat) : Bool := decide ((W.others.length + 1) / 2 + 1 ≤ 1 + countG W.got p)
/-- the greatest place above lo, not above n, with P; else lo -/
def down (P : Nat → Bool) (lo : Nat) : Nat → Nat
  | 0 => lo
  | n + 1 => if n + 1 ≤ lo then lo else if P (n + 1) then n + 1 else down P lo n
def settledPlace (W : Wd) : Nat := down (fun p => decide (reignOf W.rows p = W.reign) && W.many p) W.settled W.rows.length
/-- what the head knows, behind an answer -/
def learnK (W : Wd) (t : Told) : Wd :=
  let g := W.got.getD (t.one - 1) 0
  let n := W.coming.getD (t.one - 1) 0
  if t.good then
    let g' := max g (min t.place W.rows.length)
    { W with got := W.got.set (t.one - 1) g', coming := W.coming.set (t.one - 1) (max n (g' + 1)) }
  else { W with coming := W.coming.set (t.one - 1) (max (min n (t.place + 1)) (g + 1)) }
def learn (W : Wd) (t : Told) : Wd := { W.learnK t with settled := (W.learnK t).settledPlace }
end Wd
open Wd
structure Good (W : Wd) : Prop where
  m1 : 1 ≤ W.others.length
  m4 : W.others.length ≤ 4
  rows : RowsOk W.rows
  len : 1 ≤ W.rows.length
  reign : W.reign % 2 = 0
  reign1 : 2 ≤ W.reign
  reign2 : W.reign ≤ 1000
  fp : W.fp ≤ W.settled
  fpl : W.fp < W.rows.length
  settled : W.settled ≤ W.rows.length
  others : ∀ o ∈ W.others, Fol W.rows W.others.length o.log o.sure o.c ∧ o.sure ≤ W.settled
  road : ∀ l ∈ W.road, LetOk W.rows W.others.length W.fp W.settled l
  told : ∀ t ∈ W.told, 1 ≤ t.one ∧ t.one ≤ W.others.length ∧ t.place ≤ 100000 ∧ (t.good = true → ∀ o, W.others[t.one - 1]? = some o → t.place ≤ o.c)
  gotl : W.got.length = W.others.length
  coml : W.coming.length = W.others.length
  got : ∀ (i : Nat) (g : Nat) (o : Oth), W.got[i]? = some g → W.others[i]? = some o → g ≤ o.c
  coming : ∀ (i : Nat) (g n : Nat), W.got[i]? = some g → W.coming[i]? = some n → g + 1 ≤ n ∧ n ≤ W.rows.length + 1
/-- what `_law_stands` asks of the settled place, ahead the one before -/
def Stands (ahead : Nat) (W : Wd) : Prop := ahead ≤ W.settled ∧ (ahead < W.settled → reignOf W.rows W.settled = W.reign ∧ W.others.length + 1 < 2 * (1 + countC W.others W.settled))
theorem RowsOk.append {rows : List Row} (h : RowsOk rows) {r : Row} (h1 : r.reign % 2 = 0) (h2 : r.reign ≤ 1000) (h3 : r.deed < 3) : RowsOk (rows ++ [r]) := ⟨fun x hx => by
  rcases List.mem_append.mp hx with q | q
  · exact h.ok x q
  · rw [List.mem_singleton.mp q]
    exact ⟨h1, h2, h3⟩⟩
theorem Fol.append {rows : List Row} {m : Nat} {L : Log} {sure c : Nat} (f : Fol rows m L sure c) (xs : List Row) : Fol (rows ++ xs) m L sure c := by
  have := f.c_len
  have := f.fp_c
  obtain ⟨st, e, h1, h2⟩ := f.stray
  refine ⟨by rw [List.length_append]; omega, f.sure_c, f.fp_sure, by rw [reignOf_append _ (by omega)]; exact f.fr, f.m, st, ?_, h1, h2⟩
  rw [List.take_append_of_le_length f.c_len]
  exact e
theorem LetOk.append {rows : List Row} {m Fp settled : Nat} {l : Letter} (h : LetOk rows m Fp settled l) (hF : Fp ≤ rows.length) (xs : List Row) : LetOk (rows ++ xs) m Fp settled l := by
  cases h with
  | fold to reign h1 h2 =>
    have := LetOk.fold (rows := rows ++ xs) (m := m) (Fp := Fp) (settled := settled) to reign h1 h2
    rw [reignOf_append _ hF] at this
    exact this
  | rows to reign before n st h1 h2 h3 h4 h5 =>
    have := LetOk.rows (rows := rows ++ xs) (m := m) (Fp := Fp) (settled := settled) to reign before n st h1 h2 (by rw [List.length_append]; omega) h4 h5
    rw [reignOf_append _ (by omega), List.drop_append_of_le_length (by omega), List.take_append_of_le_length (by rw [List.length_drop]; omega)] at this
    exact this
theorem LetOk.mono {rows : List Row} {m Fp settled s' : Nat} {l : Letter} (h : LetOk rows m Fp settled l) (hs : settled ≤ s') : LetOk rows m Fp s' l := by
  cases h with
  | fold to reign h1 h2 => exact .fold to reign h1 h2
  | rows to reign before n st h1 h2 h3 h4 h5 => exact .rows to reign before n st h1 h2 h3 h4 (Nat.le_trans h5 hs)
theorem LetOk.to1 {rows : List Row} {m Fp settled : Nat} {l : Letter} (h : LetOk rows m Fp settled l) : 1 ≤ l.to ∧ l.to ≤ m := by
  cases h with
  | fold to reign h1 h2 => exact ⟨h1, h2⟩
  | rows to reign before n st h1 h2 h3 h4 h5 => exact ⟨h1, h2⟩
section
variable {W : Wd}
theorem Good.put (G : Good W) {d : Nat} (hd : d < 3) : Good (W.put d) := by
  have hr : RowsOk (W.rows ++ [⟨W.reign, d⟩]) := G.rows.append G.reign G.reign2 hd
  have hlen : (W.rows ++ [(⟨W.reign, d⟩ : Row)]).length = W.rows.length + 1 := by simp
  refine ⟨G.m1, G.m4, hr, by show 1 ≤ (W.rows ++ [_]).length; omega, G.reign, G.reign1, G.reign2, G.fp, ?_, ?_, fun o ho => ⟨(G.others o ho).1.append _, (G.others o ho).2⟩, fun l hl => (G.road l hl).append (Nat.le_of_lt G.fpl) _, G.told, G.gotl, G.coml, G.got, fun i g n h1 h2 => ?_⟩
  · show W.fp < (W.rows ++ [_]).length
    have := G.fpl
    omega
  · show W.settled ≤ (W.rows ++ [_]).length
    have := G.settled
    omega
  · have := G.coming i g n h1 h2
    refine ⟨this.1, ?_⟩
    show n ≤ (W.rows ++ [_]).length + 1
    omega
theorem Good.letOk (G : Good W) {i : Nat} (h1 : 1 ≤ i) (h2 : i ≤ W.others.length) : LetOk W.rows W.others.length W.fp W.settled (W.letterTo i) := by
  unfold Wd.letterTo
  have hg : i - 1 < W.got.length := by rw [G.gotl]; omega
  have hc : i - 1 < W.coming.length := by rw [G.coml]; omega
  have hcm := G.coming (i - 1) _ _ (List.getElem?_eq_getElem hg) (List.getElem?_eq_getElem hc)
  have e : W.coming.getD (i - 1) 0 = W.coming[i - 1] := by simp [hc]
  rw [e]
  split
  · exact .fold i W.reign h1 h2
  · have hl : ((W.rows.drop (W.coming[i - 1] - 1)).take 8) = (W.rows.drop (W.coming[i - 1] - 1)).take (min 8 (W.rows.length - (W.coming[i - 1] - 1))) := by
      rw [← List.take_take]
      congr 1
      exact (List.take_of_length_le (by rw [List.length_drop]; exact Nat.le_refl _)).symm
    rw [hl]
    exact .rows i W.reign _ _ W.settled h1 h2 (by omega) (by omega) (Nat.le_refl _)
theorem Good.send (G : Good W) {i : Nat} (h1 : 1 ≤ i) (h2 : i ≤ W.others.length) : Good (W.send i) := by
  refine ⟨G.m1, G.m4, G.rows, G.len, G.reign, G.reign1, G.reign2, G.fp, G.fpl, G.settled, G.others, fun l hl => ?_, G.told, G.gotl, G.coml, G.got, G.coming⟩
  rcases List.mem_append.mp hl with q | q
  · exact G.road l q
  · rw [List.mem_singleton.mp q]
    exact G.letOk h1 h2
theorem Good.road_erase (G : Good W) (i : Nat) : Good { W with road := W.road.eraseIdx i } :=
  ⟨G.m1, G.m4, G.rows, G.len, G.reign, G.reign1, G.reign2, G.fp, G.fpl, G.settled, G.others, fun l hl => G.road l (List.mem_of_mem_eraseIdx hl), G.told, G.gotl, G.coml, G.got, G.coming⟩
theorem Good.told_sub (G : Good W) {ts : List Told} (h : ∀ t ∈ ts, t ∈ W.told) : Good { W with told := ts } :=
  ⟨G.m1, G.m4, G.rows, G.len, G.reign, G.reign1, G.reign2, G.fp, G.fpl, G.settled, G.others, G.road, fun t ht => G.told t (h t ht), G.gotl, G.coml, G.got, G.coming⟩
theorem bring_some {l : Letter} {o : Oth} (h : W.others[l.to - 1]? = some o) : W.bring l = { W with others := W.others.set (l.to - 1) (hearOne o l), told := W.told ++ [⟨l.to, (heard o.log o.sure l).good, (heard o.log o.sure l).place⟩] } := by
  unfold Wd.bring
  rw [h]
theorem Good.at_let (G : Good W) {l : Letter} (hl : LetOk W.rows W.others.length W.fp W.settled l) : ∃ o, W.others[l.to - 1]? = some o := by
  have := hl.to1
  exact ⟨_, List.getElem?_eq_getElem (show l.to - 1 < W.others.length by omega)⟩
theorem Good.bring (G : Good W) (hn : W.rows.length ≤ 40) {l : Letter} (hl : LetOk W.rows W.others.length W.fp W.settled l) : Good (W.bring l) := by
  obtain ⟨o, ho⟩ := G.at_let hl
  rw [bring_some ho]
  have hmem := List.mem_of_getElem? ho
  obtain ⟨f, hs⟩ := G.others o hmem
  obtain ⟨f', s1, s2, c1, p1, p2⟩ := heard_fol G.rows f G.fp G.settled hs hl
  have hlen : (W.others.set (l.to - 1) (hearOne o l)).length = W.others.length := List.length_set
  have hidx := (List.getElem?_eq_some_iff.mp ho).1
  refine ⟨by show 1 ≤ (W.others.set _ _).length; rw [hlen]; exact G.m1, by show (W.others.set _ _).length ≤ 4; rw [hlen]; exact G.m4, G.rows, G.len, G.reign, G.reign1, G.reign2, G.fp, G.fpl, G.settled, fun x hx => ?_, fun x hx => ?_, fun t ht => ?_, ?_, ?_, fun i g x h1 h2 => ?_, G.coming⟩
  · show Fol W.rows (W.others.set _ _).length x.log x.sure x.c ∧ x.sure ≤ W.settled
    rw [hlen]
    rcases List.mem_or_eq_of_mem_set hx with q | q
    · exact G.others x q
    · rw [q]
      exact ⟨f', s1⟩
  · show LetOk W.rows (W.others.set _ _).length W.fp W.settled x
    rw [hlen]
    exact G.road x hx
  · show 1 ≤ t.one ∧ t.one ≤ (W.others.set _ _).length ∧ t.place ≤ 100000 ∧ (t.good = true → ∀ o', (W.others.set (l.to - 1) (hearOne o l))[t.one - 1]? = some o' → t.place ≤ o'.c)
    rw [hlen]
    have key : ∀ (q : Nat) (o1 o2 : Oth), W.others[q]? = some o1 → (W.others.set (l.to - 1) (hearOne o l))[q]? = some o2 → o1.c ≤ o2.c := fun q o1 o2 h1 h2 => by
      by_cases e : l.to - 1 = q
      · subst e
        rw [List.getElem?_set_self hidx] at h2
        rw [ho] at h1
        cases h1
        cases h2
        exact c1
      · rw [List.getElem?_set_ne e, h1] at h2
        cases h2
        exact Nat.le_refl _
    rcases List.mem_append.mp ht with q | q
    · obtain ⟨t1, t2, t3, t4⟩ := G.told t q
      refine ⟨t1, t2, t3, fun hg o' ho' => ?_⟩
      have hq : t.one - 1 < W.others.length := by omega
      have := t4 hg _ (List.getElem?_eq_getElem hq)
      exact Nat.le_trans this (key _ _ _ (List.getElem?_eq_getElem hq) ho')
    · rw [List.mem_singleton.mp q]
      have := hl.to1
      have hcl := f.c_len
      refine ⟨this.1, this.2, by show (heard o.log o.sure l).place ≤ 100000; omega, fun hg o' ho' => ?_⟩
      rw [List.getElem?_set_self hidx] at ho'
      cases ho'
      exact p1 hg
  · show W.got.length = (W.others.set _ _).length
    rw [hlen]
    exact G.gotl
  · show W.coming.length = (W.others.set _ _).length
    rw [hlen]
    exact G.coml
  · by_cases e : l.to - 1 = i
    · subst e
      have h2 : (W.others.set (l.to - 1) (hearOne o l))[l.to - 1]? = some x := h2
      rw [List.getElem?_set_self hidx] at h2
      cases h2
      exact Nat.le_trans (G.got _ _ _ h1 ho) c1
    · have h2 : (W.others.set (l.to - 1) (hearOne o l))[i]? = some x := h2
      rw [List.getElem?_set_ne e] at h2
      exact G.got _ _ _ h1 h2
theorem countC_set {os : List Oth} {i : Nat} {o o' : Oth} (h : os[i]? = some o) (hc : o.c ≤ o'.c) (p : Nat) : countC os p ≤ countC (os.set i o') p := by
  induction os generalizing i with
  | nil => simp at h
  | cons x xs ih =>
    unfold countC
    cases i with
    | zero =>
      have h := Option.some.inj h
      subst h
      rw [List.set_cons_zero, List.filter_cons, List.filter_cons]
      by_cases q : p ≤ x.c
      · rw [if_pos (by simpa using q), if_pos (by simpa using Nat.le_trans q hc)]
        exact Nat.le_refl _
      · rw [if_neg (by simpa using q)]
        split
        · rw [List.length_cons]; omega
        · exact Nat.le_refl _
    | succ i =>
      have := ih (i := i) (by simpa using h)
      unfold countC at this
      rw [List.set_cons_succ, List.filter_cons, List.filter_cons]
      split
      · rw [List.length_cons, List.length_cons]; omega
      · exact this
theorem Stands.bring (G : Good W) {ahead : Nat} (S : Stands ahead W) {l : Letter} (hl : LetOk W.rows W.others.length W.fp W.settled l) : Stands ahead (W.bring l) := by
  obtain ⟨o, ho⟩ := G.at_let hl
  rw [bring_some ho]
  have hmem := List.mem_of_getElem? ho
  obtain ⟨f, hs⟩ := G.others o hmem
  obtain ⟨f', s1, s2, c1, p1, p2⟩ := heard_fol G.rows f G.fp G.settled hs hl
  refine ⟨S.1, fun h => ⟨(S.2 h).1, ?_⟩⟩
  show (W.others.set _ _).length + 1 < 2 * (1 + countC (W.others.set _ _) W.settled)
  rw [List.length_set]
  have := countC_set (o' := hearOne o l) ho c1 W.settled
  have := (S.2 h).2
  omega
theorem down_spec (P : Nat → Bool) (lo : Nat) : ∀ n, lo ≤ down P lo n ∧ (down P lo n ≤ n ∨ down P lo n = lo) ∧ (lo < down P lo n → P (down P lo n) = true)
  | 0 => ⟨Nat.le_refl _, .inr rfl, fun h => absurd h (Nat.lt_irrefl _)⟩
  | n + 1 => by
    unfold down
    split
    · exact ⟨Nat.le_refl _, .inr rfl, fun h => absurd h (Nat.lt_irrefl _)⟩
    · split
      · rename_i h1 h2
        exact ⟨by omega, .inl (Nat.le_refl _), fun _ => h2⟩
      · obtain ⟨a, b, c⟩ := down_spec P lo n
        exact ⟨a, b.imp (fun z => by omega) id, c⟩
theorem countG_le : ∀ {got : List Nat} {os : List Oth} {p : Nat}, got.length = os.length → (∀ (i : Nat) (g : Nat) (o : Oth), got[i]? = some g → os[i]? = some o → g ≤ o.c) → countG got p ≤ countC os p
  | [], os, p, _, _ => Nat.zero_le _
  | g :: gs, [], p, hl, _ => by simp at hl
  | g :: gs, o :: os, p, hl, h => by
    have h0 := h 0 g o rfl rfl
    have ih := countG_le (got := gs) (os := os) (p := p) (by simpa using hl) fun i g' o' h1 h2 => h (i + 1) g' o' (by simpa using h1) (by simpa using h2)
    unfold countG countC at ih ⊢
    rw [List.filter_cons, List.filter_cons]
    by_cases q : p ≤ g
    · rw [if_pos (by simpa using q), if_pos (by simpa using Nat.le_trans q h0), List.length_cons, List.length_cons]
      omega
    · rw [if_neg (by simpa using q)]
      split
      · rw [List.length_cons]; omega
      · exact ih
theorem learnK_same (t : Told) : (W.learnK t).rows = W.rows ∧ (W.learnK t).fp = W.fp ∧ (W.learnK t).settled = W.settled ∧ (W.learnK t).others = W.others ∧ (W.learnK t).reign = W.reign ∧ (W.learnK t).road = W.road ∧ (W.learnK t).told = W.told := by
  unfold Wd.learnK
  split <;> exact ⟨rfl, rfl, rfl, rfl, rfl, rfl, rfl⟩
theorem Good.learnK (G : Good W) {t : Told} (ht : 1 ≤ t.one ∧ t.one ≤ W.others.length ∧ t.place ≤ 100000 ∧ (t.good = true → ∀ o, W.others[t.one - 1]? = some o → t.place ≤ o.c)) : Good (W.learnK t) := by
  obtain ⟨t1, t2, t3, t4⟩ := ht
  have hg : t.one - 1 < W.got.length := by rw [G.gotl]; omega
  have hc : t.one - 1 < W.coming.length := by rw [G.coml]; omega
  have ho : t.one - 1 < W.others.length := by omega
  have eg : W.got.getD (t.one - 1) 0 = W.got[t.one - 1] := by simp [hg]
  have ec : W.coming.getD (t.one - 1) 0 = W.coming[t.one - 1] := by simp [hc]
  have hcm := G.coming _ _ _ (List.getElem?_eq_getElem hg) (List.getElem?_eq_getElem hc)
  have hgo := G.got _ _ _ (List.getElem?_eq_getElem hg) (List.getElem?_eq_getElem ho)
  have hcl := (G.others _ (List.getElem_mem ho)).1.c_len
  unfold Wd.learnK
  rw [eg, ec]
  split
  · rename_i hgood
    have hp := t4 hgood _ (List.getElem?_eq_getElem ho)
    refine ⟨G.m1, G.m4, G.rows, G.len, G.reign, G.reign1, G.reign2, G.fp, G.fpl, G.settled, G.others, G.road, G.told, by show (W.got.set _ _).length = _; rw [List.length_set]; exact G.gotl, by show (W.coming.set _ _).length = _; rw [List.length_set]; exact G.coml, fun i g o h1 h2 => ?_, fun i g n h1 h2 => ?_⟩
    · have h1 : (W.got.set (t.one - 1) _)[i]? = some g := h1
      by_cases e : t.one - 1 = i
      · subst e
        rw [List.getElem?_set_self hg] at h1
        rw [List.getElem?_eq_getElem ho] at h2
        cases h1
        cases h2
        omega
      · rw [List.getElem?_set_ne e] at h1
        exact G.got _ _ _ h1 h2
    · have h1 : (W.got.set (t.one - 1) _)[i]? = some g := h1
      have h2 : (W.coming.set (t.one - 1) _)[i]? = some n := h2
      show g + 1 ≤ n ∧ n ≤ W.rows.length + 1
      by_cases e : t.one - 1 = i
      · subst e
        rw [List.getElem?_set_self hg] at h1
        rw [List.getElem?_set_self hc] at h2
        cases h1
        cases h2
        omega
      · rw [List.getElem?_set_ne e] at h1
        rw [List.getElem?_set_ne e] at h2
        exact G.coming _ _ _ h1 h2
  · refine ⟨G.m1, G.m4, G.rows, G.len, G.reign, G.reign1, G.reign2, G.fp, G.fpl, G.settled, G.others, G.road, G.told, G.gotl, by show (W.coming.set _ _).length = _; rw [List.length_set]; exact G.coml, G.got, fun i g n h1 h2 => ?_⟩
    have h2 : (W.coming.set (t.one - 1) _)[i]? = some n := h2
    have h1 : W.got[i]? = some g := h1
    show g + 1 ≤ n ∧ n ≤ W.rows.length + 1
    by_cases e : t.one - 1 = i
    · subst e
      rw [List.getElem?_set_self hc] at h2
      rw [List.getElem?_eq_getElem hg] at h1
      cases h1
      cases h2
      omega
    · rw [List.getElem?_set_ne e] at h2
      exact G.coming _ _ _ h1 h2
theorem settledPlace_spec (G : Good W) : W.settled ≤ W.settledPlace ∧ W.settledPlace ≤ W.rows.length ∧ (W.settled < W.settledPlace → reignOf W.rows W.settledPlace = W.reign ∧ W.others.length + 1 < 2 * (1 + countC W.others W.settledPlace)) := by
  unfold Wd.settledPlace
  obtain ⟨a, b, c⟩ := down_spec (fun p => decide (reignOf W.rows p = W.reign) && W.many p) W.settled W.rows.length
  have := G.settled
  refine ⟨a, by omega, fun h => ?_⟩
  have h := c h
  rw [Bool.and_eq_true] at h
  obtain ⟨h1, h2⟩ := h
  refine ⟨of_decide_eq_true h1, ?_⟩
  have h2 : (W.others.length + 1) / 2 + 1 ≤ 1 + countG W.got _ := of_decide_eq_true h2
  have := countG_le (p := down (fun p => decide (reignOf W.rows p = W.reign) && W.many p) W.settled W.rows.length) G.gotl G.got
  omega
theorem Good.settle (G : Good W) {s : Nat} (h1 : W.settled ≤ s) (h2 : s ≤ W.rows.length) : Good { W with settled := s } :=
  ⟨G.m1, G.m4, G.rows, G.len, G.reign, G.reign1, G.reign2, Nat.le_trans G.fp h1, G.fpl, h2, fun o ho => ⟨(G.others o ho).1, Nat.le_trans (G.others o ho).2 h1⟩, fun l hl => (G.road l hl).mono h1, G.told, G.gotl, G.coml, G.got, G.coming⟩
theorem Good.learn (G : Good W) {t : Told} (ht : 1 ≤ t.one ∧ t.one ≤ W.others.length ∧ t.place ≤ 100000 ∧ (t.good = true → ∀ o, W.others[t.one - 1]? = some o → t.place ≤ o.c)) : Good (W.learn t) :=
  let K := G.learnK ht
  K.settle (settledPlace_spec K).1 (settledPlace_spec K).2.1
theorem Stands.learn (G : Good W) {ahead : Nat} (S : Stands ahead W) {t : Told} (ht : 1 ≤ t.one ∧ t.one ≤ W.others.length ∧ t.place ≤ 100000 ∧ (t.good = true → ∀ o, W.others[t.one - 1]? = some o → t.place ≤ o.c)) : Stands ahead (W.learn t) := by
  have K := G.learnK ht
  obtain ⟨a, b, c⟩ := settledPlace_spec K
  obtain ⟨e1, e2, e3, e4, e5, e6, e7⟩ := learnK_same (W := W) t
  rw [e3] at a c
  rw [e1, e4, e5] at c
  refine ⟨Nat.le_trans S.1 a, fun h => ?_⟩
  show reignOf (W.learnK t).rows (W.learnK t).settledPlace = (W.learnK t).reign ∧ (W.learnK t).others.length + 1 < 2 * (1 + countC (W.learnK t).others (W.learnK t).settledPlace)
  rw [e1, e4, e5]
  by_cases q : W.settled < (W.learnK t).settledPlace
  · exact c q
  · have e : (W.learnK t).settledPlace = W.settled := by omega
    rw [e]
    exact S.2 (by have h : ahead < (W.learnK t).settledPlace := h; omega)
theorem Stands.start (W : Wd) : Stands W.settled W := ⟨Nat.le_refl _, fun h => absurd h (Nat.lt_irrefl _)⟩
end
end Sh

namespace Sh
open Wd
/-! ### letters come through -/
namespace Wd
def answer (W : Wd) (l : Letter) : Told :=
  match W.others[l.to - 1]? with
  | some o => ⟨l.to, (heard o.log o.sure l).good, (heard o.log o.sure l).place⟩
  | none => ⟨0, false, 0⟩
/-- a letter to one, its answer -/
def round1 (W : Wd) (i : Nat) : Wd := learn { W.bring (W.letterTo i) with told := W.told } (W.answer (W.letterTo i))
end Wd
def phi (L fp c e n : Nat) : Nat :=
  if n ≤ c + 1 then (if n ≤ fp then 1 + (L - fp + 7) / 8 else (L + 8 - n) / 8)
  else (if e < n - 1 then 1 + (e - c) else n - 1 - c) + 1 + (L + 7) / 8
def psiN (L fp c e n g : Nat) : Nat := if g = L then 0 else max 1 (phi L fp c e n)
theorem psi_fold {L fp c e n g c' e' g' : Nat} (h1 : g ≤ c) (h2 : c ≤ L) (h3 : g + 1 ≤ n) (h4 : n ≤ L + 1) (h5 : fp < L) (hn : n ≤ fp) (hg : fp ≤ g') (hc : g' ≤ c') (hL : c' ≤ L) : psiN L fp c' e' (g' + 1) g' ≤ psiN L fp c e n g - 1 := by
  unfold psiN phi
  rw [if_neg (by omega : ¬ g = L)]
  by_cases a : g' = L
  · rw [if_pos a]; omega
  · rw [if_neg a, if_pos (by omega), if_neg (by omega)]
    by_cases b : n ≤ c + 1
    · rw [if_pos b, if_pos hn]; omega
    · rw [if_neg b]; omega
theorem psi_take {L fp c e n g c' e' g' : Nat} (h1 : g ≤ c) (h2 : c ≤ L) (h3 : g + 1 ≤ n) (h4 : n ≤ L + 1) (hn : fp < n) (hac : n - 1 ≤ c) (hg : g' = max g (n - 1 + min 8 (L + 1 - n))) (hc : g' ≤ c') : psiN L fp c' e' (g' + 1) g' ≤ psiN L fp c e n g - 1 := by
  unfold psiN phi
  by_cases a : g' = L
  · rw [if_pos a]; omega
  · rw [if_neg a, if_neg (by omega : ¬ g = L), if_pos (by omega : g' + 1 ≤ c' + 1), if_neg (by omega : ¬ g' + 1 ≤ fp), if_pos (by omega : n ≤ c + 1), if_neg (by omega : ¬ n ≤ fp)]
    omega
theorem psi_miss {L fp c e n g : Nat} (h1 : g ≤ c) (h2 : c ≤ L) (h3 : g + 1 ≤ n) (h4 : n ≤ L + 1) (h5 : fp < L) (he : c ≤ e) (hac : c < n - 1) : psiN L fp c e (if e < n - 1 then e + 1 else n - 1) g ≤ psiN L fp c e n g - 1 := by
  unfold psiN phi
  rw [if_neg (by omega : ¬ g = L)]
  rw [if_neg (by omega : ¬ g = L), if_neg (by omega : ¬ n ≤ c + 1)]
  by_cases b : e < n - 1
  · rw [if_pos b]
    rw [if_pos b]
    by_cases d : e + 1 ≤ c + 1
    · rw [if_pos d]
      split <;> omega
    · rw [if_neg d, if_neg (by omega)]
      omega
  · rw [if_neg b, if_neg b]
    by_cases d : n - 1 ≤ c + 1
    · rw [if_pos d]
      split <;> omega
    · rw [if_neg d, if_neg (by omega)]
      omega
theorem psi_le {L fp c e n g : Nat} (h1 : g ≤ c) (h3 : g + 1 ≤ n) (h4 : n ≤ L + 1) (h5 : fp < L) (he : e ≤ c + 5) : psiN L fp c e n g ≤ 7 + (L + 7) / 8 := by
  unfold psiN phi
  split
  · omega
  · split
    · split <;> omega
    · split <;> omega
theorem set_self {α : Type} {l : List α} {j : Nat} {x : α} (h : l[j]? = some x) : l.set j x = l := by
  apply List.ext_getElem?
  intro k
  by_cases e : j = k
  · subst e
    rw [List.getElem?_set_self (List.getElem?_eq_some_iff.mp h).1, h]
  · rw [List.getElem?_set_ne e]
def psi (W : Wd) (j : Nat) : Nat :=
  match W.others[j]?, W.coming[j]?, W.got[j]? with
  | some o, some n, some g => psiN W.rows.length W.fp o.c o.log.last n g
  | _, _, _ => 0
section
variable {W : Wd}
theorem answer_ok (G : Good W) (hn : W.rows.length ≤ 40) {i : Nat} (h1 : 1 ≤ i) (h2 : i ≤ W.others.length) :
    let W1 : Wd := { W.bring (W.letterTo i) with told := W.told }
    Good W1 ∧ 1 ≤ (W.answer (W.letterTo i)).one ∧ (W.answer (W.letterTo i)).one ≤ W1.others.length ∧ (W.answer (W.letterTo i)).place ≤ 100000 ∧ ((W.answer (W.letterTo i)).good = true → ∀ o, W1.others[(W.answer (W.letterTo i)).one - 1]? = some o → (W.answer (W.letterTo i)).place ≤ o.c) := by
  have hl := G.letOk h1 h2
  have GB := G.bring hn hl
  obtain ⟨o, ho⟩ := G.at_let hl
  have e := bring_some ho
  have ea : W.answer (W.letterTo i) = ⟨(W.letterTo i).to, (heard o.log o.sure (W.letterTo i)).good, (heard o.log o.sure (W.letterTo i)).place⟩ := by
    unfold Wd.answer
    rw [ho]
  intro W1
  have sub : ∀ t ∈ W.told, t ∈ (W.bring (W.letterTo i)).told := fun t ht => by
    rw [e]
    exact List.mem_append_left _ ht
  refine ⟨GB.told_sub sub, ?_⟩
  have mem : W.answer (W.letterTo i) ∈ (W.bring (W.letterTo i)).told := by
    rw [e, ea]
    exact List.mem_append_right _ (List.mem_singleton.mpr rfl)
  exact GB.told _ mem
theorem Good.round1 (G : Good W) (hn : W.rows.length ≤ 40) {i : Nat} (h1 : 1 ≤ i) (h2 : i ≤ W.others.length) : Good (W.round1 i) :=
  let ⟨a, b⟩ := answer_ok G hn h1 h2
  a.learn b
theorem Stands.round1 (G : Good W) (hn : W.rows.length ≤ 40) {ahead : Nat} (S : Stands ahead W) {i : Nat} (h1 : 1 ≤ i) (h2 : i ≤ W.others.length) : Stands ahead (W.round1 i) := by
  obtain ⟨a, b⟩ := answer_ok G hn h1 h2
  have S2 := S.bring G (G.letOk h1 h2)
  exact Stands.learn a (ahead := ahead) (show Stands ahead { W.bring (W.letterTo i) with told := W.told } from S2) b
theorem letterTo_to (i : Nat) : (W.letterTo i).to = i := by
  unfold Wd.letterTo
  split <;> rfl
/-- what one letter and its answer do -/
theorem round1_facts (G : Good W) {j : Nat} {o : Oth} {n g : Nat} (ho : W.others[j]? = some o) (hc : W.coming[j]? = some n) (hg : W.got[j]? = some g) :
    ∃ (o' : Oth) (n' g' : Nat), (W.round1 (j + 1)).others = W.others.set j o' ∧ (W.round1 (j + 1)).coming = W.coming.set j n' ∧ (W.round1 (j + 1)).got = W.got.set j g' ∧ (W.round1 (j + 1)).rows = W.rows ∧ (W.round1 (j + 1)).fp = W.fp ∧ (W.round1 (j + 1)).reign = W.reign ∧
      (W.round1 (j + 1)).road = W.road ∧ (W.round1 (j + 1)).told = W.told ∧
      psiN W.rows.length W.fp o'.c o'.log.last n' g' ≤ psiN W.rows.length W.fp o.c o.log.last n g - 1 ∧ (W.settled = W.rows.length → g = W.rows.length → o'.sure = W.rows.length) := by
  have hj := (List.getElem?_eq_some_iff.mp ho).1
  have h1 : 1 ≤ j + 1 := by omega
  have h2 : j + 1 ≤ W.others.length := by omega
  have hl := G.letOk h1 h2
  have eto : (W.letterTo (j + 1)).to = j + 1 := letterTo_to _
  have ho' : W.others[(W.letterTo (j + 1)).to - 1]? = some o := by rw [eto]; exact ho
  have eb := bring_some ho'
  have ea : W.answer (W.letterTo (j + 1)) = ⟨j + 1, (heard o.log o.sure (W.letterTo (j + 1))).good, (heard o.log o.sure (W.letterTo (j + 1))).place⟩ := by
    unfold Wd.answer
    rw [ho', eto]
  have er : W.round1 (j + 1) = Wd.learn { W with others := W.others.set j (hearOne o (W.letterTo (j + 1))) } ⟨j + 1, (heard o.log o.sure (W.letterTo (j + 1))).good, (heard o.log o.sure (W.letterTo (j + 1))).place⟩ := by
    unfold Wd.round1
    rw [ea, eb, eto]
    rfl
  have gj : W.got.getD j 0 = g := by rw [List.getD_eq_getElem?_getD, hg]; rfl
  have cj : W.coming.getD j 0 = n := by rw [List.getD_eq_getElem?_getD, hc]; rfl
  obtain ⟨f, hs⟩ := G.others o (List.mem_of_getElem? ho)
  obtain ⟨f', s1, s2, c1, p1, p2⟩ := heard_fol G.rows f G.fp G.settled hs hl
  have hgc := G.got j g o hg ho
  have hcm := G.coming j g n hg hc
  have hcl := f.c_len
  have hcl' := f'.c_len
  have hla := f.last_ge
  have hfp := G.fpl
  -- the letter
  have elet : W.letterTo (j + 1) = if n ≤ W.fp then .fold (j + 1) W.reign W.fp (reignOf W.rows W.fp) W.others.length else .rows (j + 1) W.reign (n - 1) (reignOf W.rows (n - 1)) ((W.rows.drop (n - 1)).take 8) W.settled := by
    unfold Wd.letterTo
    rw [Nat.add_sub_cancel, cj]
  rw [er]
  by_cases hn : n ≤ W.fp
  · rw [if_pos hn] at elet
    have eh : heard o.log o.sure (W.letterTo (j + 1)) = if o.sure < W.fp then ⟨foldTaken o.log W.fp (reignOf W.rows W.fp) W.others.length, W.fp, true, W.fp⟩ else ⟨o.log, o.sure, true, o.sure⟩ := by rw [elet]; rfl
    have hgood : (heard o.log o.sure (W.letterTo (j + 1))).good = true := by rw [eh]; split <;> rfl
    have hpl : W.fp ≤ (heard o.log o.sure (W.letterTo (j + 1))).place := by
      rw [eh]
      split
      · exact Nat.le_refl _
      · show W.fp ≤ o.sure
        omega
    have hpc := p1 hgood
    generalize hpp : (heard o.log o.sure (W.letterTo (j + 1))).place = pl at hpl hpc ⊢
    refine ⟨hearOne o (W.letterTo (j + 1)), max n (max g (min pl W.rows.length) + 1), max g (min pl W.rows.length), ?_, ?_, ?_, ?_, ?_, ?_, ?_, ?_, ?_, ?_⟩
    · unfold Wd.learn Wd.learnK; rw [if_pos hgood]
    · unfold Wd.learn Wd.learnK; rw [if_pos hgood]; simp only [Nat.add_sub_cancel, gj, cj]
    · unfold Wd.learn Wd.learnK; rw [if_pos hgood]; simp only [Nat.add_sub_cancel, gj, cj]
    · unfold Wd.learn Wd.learnK; rw [if_pos hgood]
    · unfold Wd.learn Wd.learnK; rw [if_pos hgood]
    · unfold Wd.learn Wd.learnK; rw [if_pos hgood]
    · unfold Wd.learn Wd.learnK; rw [if_pos hgood]
    · unfold Wd.learn Wd.learnK; rw [if_pos hgood]
    · have e1 : max n (max g (min pl W.rows.length) + 1) = max g (min pl W.rows.length) + 1 := by omega
      rw [e1]
      exact psi_fold hgc hcl hcm.1 hcm.2 hfp hn (by omega) (show max g (min pl W.rows.length) ≤ (hearOne o (W.letterTo (j + 1))).c from by show _ ≤ newC o.log o.sure o.c _; omega) hcl'
    · intro hS hG
      omega
  · rw [if_neg hn] at elet
    have hk : ((W.rows.drop (n - 1)).take 8).length = min 8 (W.rows.length + 1 - n) := by rw [List.length_take, List.length_drop]; omega
    have iff := accept_iff G.rows f (before := n - 1) (by omega)
    have eh : heard o.log o.sure (W.letterTo (j + 1)) = if o.log.last < n - 1 ∨ (reignAt o.log (n - 1) ≠ none ∧ reignAt o.log (n - 1) ≠ some (reignOf W.rows (n - 1))) then ⟨o.log, o.sure, false, min o.log.last (n - 1 - 1)⟩
      else ⟨putFrom o.log (n - 1 + 1) ((W.rows.drop (n - 1)).take 8), max o.sure (min W.settled (n - 1 + ((W.rows.drop (n - 1)).take 8).length)), true, n - 1 + ((W.rows.drop (n - 1)).take 8).length⟩ := by rw [elet]; rfl
    have en : newC o.log o.sure o.c (W.letterTo (j + 1)) = if o.log.last < n - 1 ∨ (reignAt o.log (n - 1) ≠ none ∧ reignAt o.log (n - 1) ≠ some (reignOf W.rows (n - 1))) then o.c else max o.c (n - 1 + ((W.rows.drop (n - 1)).take 8).length) := by rw [elet]; rfl
    by_cases hac : o.c < n - 1
    · rw [if_pos (iff.mpr hac)] at eh en
      have hgood : ¬ (heard o.log o.sure (W.letterTo (j + 1))).good = true := by rw [eh]; simp
      have ho1 : hearOne o (W.letterTo (j + 1)) = o := by
        unfold Wd.hearOne
        rw [eh, en]
      have hpl : (heard o.log o.sure (W.letterTo (j + 1))).place = min o.log.last (n - 1 - 1) := by rw [eh]
      rw [ho1, hpl]
      refine ⟨o, max (min n (min o.log.last (n - 1 - 1) + 1)) (g + 1), g, ?_, ?_, ?_, ?_, ?_, ?_, ?_, ?_, ?_, ?_⟩
      · unfold Wd.learn Wd.learnK; rw [if_neg hgood]
      · unfold Wd.learn Wd.learnK; rw [if_neg hgood]; simp only [Nat.add_sub_cancel, gj, cj]
      · unfold Wd.learn Wd.learnK; rw [if_neg hgood]
        show W.got = W.got.set j g
        exact (set_self hg).symm
      · unfold Wd.learn Wd.learnK; rw [if_neg hgood]
      · unfold Wd.learn Wd.learnK; rw [if_neg hgood]
      · unfold Wd.learn Wd.learnK; rw [if_neg hgood]
      · unfold Wd.learn Wd.learnK; rw [if_neg hgood]
      · unfold Wd.learn Wd.learnK; rw [if_neg hgood]
      · have e1 : max (min n (min o.log.last (n - 1 - 1) + 1)) (g + 1) = if o.log.last < n - 1 then o.log.last + 1 else n - 1 := by split <;> omega
        rw [e1]
        exact psi_miss hgc hcl hcm.1 hcm.2 hfp hla hac
      · intro hS hG
        omega
    · rw [if_neg (fun z => hac (iff.mp z))] at eh en
      have hgood : (heard o.log o.sure (W.letterTo (j + 1))).good = true := by rw [eh]
      have hpl : (heard o.log o.sure (W.letterTo (j + 1))).place = n - 1 + min 8 (W.rows.length + 1 - n) := by rw [eh, ← hk]
      have hc1 : (hearOne o (W.letterTo (j + 1))).c = max o.c (n - 1 + min 8 (W.rows.length + 1 - n)) := by rw [← hk]; exact en
      have hs1 : (hearOne o (W.letterTo (j + 1))).sure = max o.sure (min W.settled (n - 1 + min 8 (W.rows.length + 1 - n))) := by
        show (heard o.log o.sure (W.letterTo (j + 1))).sure = _
        rw [eh, hk]
      rw [hpl]
      generalize hpp : n - 1 + min 8 (W.rows.length + 1 - n) = pl at hc1 hs1 ⊢
      refine ⟨hearOne o (W.letterTo (j + 1)), max n (max g (min pl W.rows.length) + 1), max g (min pl W.rows.length), ?_, ?_, ?_, ?_, ?_, ?_, ?_, ?_, ?_, ?_⟩
      · unfold Wd.learn Wd.learnK; rw [if_pos hgood]
      · unfold Wd.learn Wd.learnK; rw [if_pos hgood]; simp only [Nat.add_sub_cancel, gj, cj]
      · unfold Wd.learn Wd.learnK; rw [if_pos hgood]; simp only [Nat.add_sub_cancel, gj, cj]
      · unfold Wd.learn Wd.learnK; rw [if_pos hgood]
      · unfold Wd.learn Wd.learnK; rw [if_pos hgood]
      · unfold Wd.learn Wd.learnK; rw [if_pos hgood]
      · unfold Wd.learn Wd.learnK; rw [if_pos hgood]
      · unfold Wd.learn Wd.learnK; rw [if_pos hgood]
      · have e1 : max n (max g (min pl W.rows.length) + 1) = max g (min pl W.rows.length) + 1 := by omega
        rw [e1]
        exact psi_take hgc hcl hcm.1 hcm.2 (by omega) (by omega) (by omega) (by omega)
      · intro hS hG
        rw [hs1]
        omega
structure Thru (L X i : Nat) (W : Wd) : Prop where
  good : Good W
  len : W.rows.length = L
  l40 : L ≤ 40
  last : reignOf W.rows L = W.reign
  bound : ∀ j, j < W.others.length → psi W j ≤ (if j < i then X - 1 else X)
  set : (X = 0 ∨ 1 ≤ i) → (∀ j, j < W.others.length → psi W j = 0) → W.settled = L
  sure : X = 0 → ∀ j o, j < i → W.others[j]? = some o → o.sure = L
theorem psi_at (G : Good W) {j : Nat} (hj : j < W.others.length) : ∃ o n g, W.others[j]? = some o ∧ W.coming[j]? = some n ∧ W.got[j]? = some g ∧ psi W j = psiN W.rows.length W.fp o.c o.log.last n g := by
  have h1 : j < W.coming.length := by rw [G.coml]; exact hj
  have h2 : j < W.got.length := by rw [G.gotl]; exact hj
  refine ⟨_, _, _, List.getElem?_eq_getElem hj, List.getElem?_eq_getElem h1, List.getElem?_eq_getElem h2, ?_⟩
  unfold psi
  rw [List.getElem?_eq_getElem hj, List.getElem?_eq_getElem h1, List.getElem?_eq_getElem h2]
theorem psi_zero {L fp c e n g : Nat} (h : psiN L fp c e n g = 0) : g = L := by
  unfold psiN at h
  split at h
  · assumption
  · omega
theorem down_top {P : Nat → Bool} {lo n : Nat} (h : P n = true) (hl : lo ≤ n) : down P lo n = n := by
  cases n with
  | zero => show lo = 0; omega
  | succ n =>
    unfold down
    split
    · omega
    · simp [h]
theorem many_all (G : Good W) (h : ∀ g ∈ W.got, g = W.rows.length) : W.many W.rows.length = true := by
  unfold Wd.many countG
  have e : W.got.filter (fun g => W.rows.length ≤ g) = W.got := List.filter_eq_self.mpr fun g hg => by simp [h g hg]
  rw [e, G.gotl]
  have := G.m1
  exact decide_eq_true (by omega)
theorem Thru.step {L X i : Nat} (T : Thru L X i W) (hi : i < W.others.length) : Thru L X (i + 1) (Wd.round1 W (i + 1)) ∧ (Wd.round1 W (i + 1)).others.length = W.others.length := by
  obtain ⟨o, n, g, ho, hc, hg, hp⟩ := psi_at T.good hi
  have hn : W.rows.length ≤ 40 := by rw [T.len]; exact T.l40
  have G' := T.good.round1 hn (i := i + 1) (by omega) (by omega)
  obtain ⟨o', n', g', e1, e2, e3, e4, e5, e6, e7, e8, hps, hsu⟩ := round1_facts T.good ho hc hg
  have hci : i < W.coming.length := by rw [T.good.coml]; exact hi
  have hgi : i < W.got.length := by rw [T.good.gotl]; exact hi
  have hlen : (W.round1 (i + 1)).others.length = W.others.length := by rw [e1, List.length_set]
  have pi : psi (W.round1 (i + 1)) i = psiN W.rows.length W.fp o'.c o'.log.last n' g' := by
    unfold psi
    rw [e1, e2, e3, e4, e5, List.getElem?_set_self hi, List.getElem?_set_self hci, List.getElem?_set_self hgi]
  have pj : ∀ j, j ≠ i → psi (W.round1 (i + 1)) j = psi W j := fun j hj => by
    unfold psi
    rw [e1, e2, e3, e4, e5, List.getElem?_set_ne (Ne.symm hj), List.getElem?_set_ne (Ne.symm hj), List.getElem?_set_ne (Ne.symm hj)]
  refine ⟨⟨G', by rw [e4]; exact T.len, T.l40, by rw [e4, e6]; exact T.last, fun j hj => ?_, fun _ h => ?_, fun hX j x hj hx => ?_⟩, hlen⟩
  · rw [hlen] at hj
    by_cases q : j = i
    · subst q
      rw [if_pos (by omega), pi]
      have := T.bound j hj
      rw [if_neg (by omega), hp] at this
      omega
    · rw [pj j q]
      have := T.bound j hj
      by_cases z : j < i
      · rw [if_pos z] at this
        rw [if_pos (by omega)]
        exact this
      · rw [if_neg z] at this
        rw [if_neg (by omega)]
        exact this
  · -- all have heard all: settled
    have hall : ∀ x ∈ (W.round1 (i + 1)).got, x = (W.round1 (i + 1)).rows.length := fun x hx => by
      obtain ⟨j, hj, ex⟩ := List.mem_iff_getElem.mp hx
      have hjo : j < (W.round1 (i + 1)).others.length := by rw [← G'.gotl]; exact hj
      obtain ⟨a, b, c, q1, q2, q3, q4⟩ := psi_at G' hjo
      rw [h j hjo] at q4
      rw [List.getElem?_eq_getElem hj, ex] at q3
      have q3 := Option.some.inj q3
      rw [q3]
      exact psi_zero q4.symm
    -- the settled place is reckoned last
    obtain ⟨GA, b⟩ := answer_ok T.good hn (i := i + 1) (by omega) (by omega)
    have K := GA.learnK b
    let W2 : Wd := Wd.learnK { W.bring (W.letterTo (i + 1)) with told := W.told } (W.answer (W.letterTo (i + 1)))
    have hW2 : W.round1 (i + 1) = { W2 with settled := W2.settledPlace } := rfl
    have e4' : W2.rows = W.rows := by rw [hW2] at e4; exact e4
    have e6' : W2.reign = W.reign := by rw [hW2] at e6; exact e6
    rw [hW2] at hall
    have hall : ∀ x ∈ W2.got, x = W2.rows.length := hall
    show W2.settledPlace = L
    unfold Wd.settledPlace
    rw [down_top ?_ K.settled, e4', T.len]
    rw [Bool.and_eq_true]
    exact ⟨decide_eq_true (by rw [e4', e6', T.len]; exact T.last), many_all K hall⟩
  · by_cases q : j = i
    · subst q
      rw [e1, List.getElem?_set_self hi] at hx
      have hx := Option.some.inj hx
      rw [← hx]
      have h0 : ∀ j, j < W.others.length → psi W j = 0 := fun j hj => by
        have := T.bound j hj
        rw [hX] at this
        split at this <;> omega
      have hs := T.set (.inl hX) h0
      have hz := h0 j hi
      rw [hp] at hz
      have := hsu (by rw [T.len]; exact hs) (psi_zero hz)
      rw [T.len] at this
      exact this
    · rw [e1, List.getElem?_set_ne (Ne.symm q)] at hx
      exact T.sure hX j x (by omega) hx
theorem Thru.turn {L X : Nat} (T : Thru L X W.others.length W) : Thru L (X - 1) 0 W :=
  ⟨T.good, T.len, T.l40, T.last, fun j hj => by have := T.bound j hj; rw [if_pos hj] at this; rw [if_neg (by omega)]; exact this, fun _ h => T.set (.inr T.good.m1) h, fun _ _ _ h => by omega⟩
theorem Thru.start (G : Good W) (hn : W.rows.length ≤ 40) (hl : reignOf W.rows W.rows.length = W.reign) : Thru W.rows.length (7 + (W.rows.length + 7) / 8) 0 W :=
  ⟨G, rfl, hn, hl, fun j hj => by
    obtain ⟨o, n, g, ho, hc, hg, hp⟩ := psi_at G hj
    rw [if_neg (by omega), hp]
    have hgc := G.got j g o hg ho
    have hcm := G.coming j g n hg hc
    exact psi_le hgc hcm.1 hcm.2 G.fpl (G.others o (List.mem_of_getElem? ho)).1.last_le, fun h => by omega, fun h => by omega⟩
/-- behind all turns -/
theorem Thru.fin {L : Nat} (T : Thru L 0 W.others.length W) : W.settled = L ∧ ∀ o ∈ W.others, o.sure = L ∧ o.c = L := by
  have h0 : ∀ j, j < W.others.length → psi W j = 0 := fun j hj => by
    have := T.bound j hj
    split at this <;> omega
  refine ⟨T.set (.inl rfl) h0, fun o ho => ?_⟩
  obtain ⟨j, hj, ex⟩ := List.mem_iff_getElem.mp ho
  have e : W.others[j]? = some o := by rw [List.getElem?_eq_getElem hj, ex]
  have hs := T.sure rfl j o hj e
  refine ⟨hs, ?_⟩
  have f := (T.good.others o ho).1
  have := f.sure_c
  have := f.c_len
  rw [T.len] at this
  omega
end
end Sh

namespace Sh
open PySem L2
/-! ### data -/
inductive D where
  | non | bl (b : Bool) | int (i : Int) | str (s : Str) | ref (a : Addr) | tup (xs : List D) | lst (xs : List D)
mutual
inductive Rp (K : PySem.W.Frag) (H : Hp) : V → D → Prop
  | non : Rp K H .non .non
  | bl (b : Bool) : Rp K H (.bl b) (.bl b)
  | int (i : Int) : Rp K H (.int i) (.int i)
  | str (s : Str) : Rp K H (.str s) (.str s)
  | ref (a : Addr) : Rp K H (.ref a) (.ref a)
  | tup {a : Addr} {xs : List V} {ds : List D} : SqT K H a xs → RpL K H xs ds → Rp K H (.ref a) (.tup ds)
  | lst {a : Addr} {xs : List V} {ds : List D} : SqL K H a xs → RpL K H xs ds → Rp K H (.ref a) (.lst ds)
inductive RpL (K : PySem.W.Frag) (H : Hp) : List V → List D → Prop
  | nil : RpL K H [] []
  | cons {v : V} {vs : List V} {d : D} {ds : List D} : Rp K H v d → RpL K H vs ds → RpL K H (v :: vs) (d :: ds)
end
mutual
def noL : D → Bool
  | .lst _ => false
  | .tup xs => noLs xs
  | _ => true
def noLs : List D → Bool
  | [] => true
  | d :: ds => noL d && noLs ds
end
/-- every tuple that is to be read stays so -/
def TLe (K : PySem.W.Frag) (H H' : Hp) : Prop := ∀ a xs, SqT K H a xs → SqT K H' a xs
section
variable {K : PySem.W.Frag} {H H' H'' : Hp}
theorem Same.sqT (S : Same H H') {a : Addr} {xs : List V} (h : SqT K H a xs) : SqT K H' a xs := by
  rcases h with (h | ⟨o, h⟩) | h
  · exact .inl (.inl (S _ _ h))
  · exact .inl (.inr ⟨o, S _ _ h⟩)
  · exact .inr h
theorem Same.new {p : Addr} {o : HO} (hp : H p = none) : Same H (upd H p o) := fun b u e => by
  rw [upd_ne (ne_of_none e hp)]
  exact e
theorem TLe.of (S : Same H H') : TLe K H H' := fun _ _ h => Same.sqT S h
theorem TLe.trans (a : TLe K H H') (b : TLe K H' H'') : TLe K H H'' := fun _ _ h => b _ _ (a _ _ h)
theorem TLe.upd {a : Addr} {o u : HO} (e : H a = some u) (h1 : ∀ xs, u ≠ .tup xs) (h2 : ∀ ob xs, u ≠ .frz ob (.tup xs)) : TLe K H (L2.upd H a o) := fun b xs h => by
  rcases h with (h | ⟨ob, h⟩) | h
  · have n : b ≠ a := fun z => by
      rw [z, e] at h
      exact h1 xs (Option.some.inj h)
    exact .inl (.inl (by rw [upd_ne n]; exact h))
  · have n : b ≠ a := fun z => by
      rw [z, e] at h
      exact h2 ob xs (Option.some.inj h)
    exact .inl (.inr ⟨ob, by rw [upd_ne n]; exact h⟩)
  · exact .inr h
theorem TLe.lst {a : Addr} {ys : List V} {o : HO} (e : H a = some (.lst ys)) : TLe K H (L2.upd H a o) := TLe.upd e (fun _ z => by cases z) (fun _ _ z => by cases z)
theorem TLe.dK {a : Addr} {ys : List (Key × V)} {o : HO} (e : H a = some (.dK ys)) : TLe K H (L2.upd H a o) := TLe.upd e (fun _ z => by cases z) (fun _ _ z => by cases z)
theorem TLe.ins {a C dx : Addr} {fs : List (Str × V)} {o : HO} (e : H a = some (.ins C dx fs)) : TLe K H (L2.upd H a o) := TLe.upd e (fun _ z => by cases z) (fun _ _ z => by cases z)
mutual
theorem Rp.same (S : Same H H') : ∀ (d : D) (v : V), Rp K H v d → Rp K H' v d
  | .non, _, h => by cases h; exact .non
  | .bl _, _, h => by cases h; exact .bl _
  | .int _, _, h => by cases h; exact .int _
  | .str _, _, h => by cases h; exact .str _
  | .ref _, _, h => by cases h; exact .ref _
  | .tup ds, _, h => by
    cases h with
    | tup hs ha => exact .tup (Same.sqT S hs) (RpL.same S ds _ ha)
  | .lst ds, _, h => by
    cases h with
    | lst hs ha => exact .lst (S.seq hs) (RpL.same S ds _ ha)
theorem RpL.same (S : Same H H') : ∀ (ds : List D) (vs : List V), RpL K H vs ds → RpL K H' vs ds
  | [], _, h => by cases h; exact .nil
  | d :: ds, _, h => by
    cases h with
    | cons h1 h2 => exact .cons (Rp.same S d _ h1) (RpL.same S ds _ h2)
end
mutual
theorem Rp.tle (T : TLe K H H') : ∀ (d : D) (v : V), noL d = true → Rp K H v d → Rp K H' v d
  | .non, _, _, h => by cases h; exact .non
  | .bl _, _, _, h => by cases h; exact .bl _
  | .int _, _, _, h => by cases h; exact .int _
  | .str _, _, _, h => by cases h; exact .str _
  | .ref _, _, _, h => by cases h; exact .ref _
  | .tup ds, _, n, h => by
    cases h with
    | tup hs ha => exact .tup (T _ _ hs) (RpL.tle T ds _ (by simpa [noL] using n) ha)
  | .lst ds, _, n, h => by simp [noL] at n
theorem RpL.tle (T : TLe K H H') : ∀ (ds : List D) (vs : List V), noLs ds = true → RpL K H vs ds → RpL K H' vs ds
  | [], _, _, h => by cases h; exact .nil
  | d :: ds, _, n, h => by
    have n' : noL d = true ∧ noLs ds = true := by simpa [noLs] using n
    cases h with
    | cons h1 h2 => exact .cons (Rp.tle T d _ n'.1 h1) (RpL.tle T ds _ n'.2 h2)
end
theorem RpL.length : ∀ {vs : List V} {ds : List D}, RpL K H vs ds → vs.length = ds.length
  | _, _, .nil => rfl
  | _, _, .cons _ h => by rw [List.length_cons, List.length_cons, RpL.length h]
theorem RpL.get : ∀ {vs : List V} {ds : List D} {i : Nat} {d : D}, RpL K H vs ds → ds[i]? = some d → ∃ v, vs[i]? = some v ∧ Rp K H v d
  | _, _, _, _, .nil, e => by simp at e
  | _, _, 0, _, .cons h _, e => by
    have e := Option.some.inj e
    subst e
    exact ⟨_, rfl, h⟩
  | _, _, i + 1, _, .cons _ h, e => RpL.get (i := i) h (by simpa using e)
theorem RpL.getV : ∀ {vs : List V} {ds : List D} {i : Nat} {v : V}, RpL K H vs ds → vs[i]? = some v → ∃ d, ds[i]? = some d ∧ Rp K H v d
  | _, _, _, _, .nil, e => by simp at e
  | _, _, 0, _, .cons h _, e => by
    have e := Option.some.inj e
    subst e
    exact ⟨_, rfl, h⟩
  | _, _, i + 1, _, .cons _ h, e => RpL.getV (i := i) h (by simpa using e)
theorem RpL.append : ∀ {vs ws : List V} {ds es : List D}, RpL K H vs ds → RpL K H ws es → RpL K H (vs ++ ws) (ds ++ es)
  | _, _, _, _, .nil, h => h
  | _, _, _, _, .cons h1 h2, h => .cons h1 (RpL.append h2 h)
theorem RpL.take : ∀ {vs : List V} {ds : List D} (n : Nat), RpL K H vs ds → RpL K H (vs.take n) (ds.take n)
  | _, _, 0, _ => .nil
  | _, _, _ + 1, .nil => .nil
  | _, _, n + 1, .cons h1 h2 => .cons h1 (RpL.take n h2)
theorem RpL.drop : ∀ {vs : List V} {ds : List D} (n : Nat), RpL K H vs ds → RpL K H (vs.drop n) (ds.drop n)
  | _, _, 0, h => h
  | _, _, _ + 1, .nil => .nil
  | _, _, n + 1, .cons _ h2 => RpL.drop n h2
theorem RpL.set {v : V} {d : D} (r : Rp K H v d) : ∀ {vs : List V} {ds : List D} (i : Nat), RpL K H vs ds → RpL K H (vs.set i v) (ds.set i d)
  | _, _, _, .nil => .nil
  | _, _, 0, .cons _ h => .cons r h
  | _, _, i + 1, .cons h1 h => .cons h1 (RpL.set r i h)
theorem RpL.eraseIdx : ∀ {vs : List V} {ds : List D} (i : Nat), RpL K H vs ds → RpL K H (vs.eraseIdx i) (ds.eraseIdx i)
  | _, _, _, .nil => .nil
  | _, _, 0, .cons _ h => h
  | _, _, i + 1, .cons h1 h => .cons h1 (RpL.eraseIdx i h)
theorem RpL.dropLast {vs : List V} {ds : List D} (h : RpL K H vs ds) : RpL K H vs.dropLast ds.dropLast := by
  rw [List.dropLast_eq_take, List.dropLast_eq_take, h.length]
  exact h.take _
theorem Rp.int_eq {v : V} {i : Int} (h : Rp K H v (.int i)) : v = .int i := by cases h; rfl
theorem Rp.bl_eq {v : V} {i : Bool} (h : Rp K H v (.bl i)) : v = .bl i := by cases h; rfl
theorem Rp.str_eq {v : V} {i : Str} (h : Rp K H v (.str i)) : v = .str i := by cases h; rfl
theorem Rp.non_eq {v : V} (h : Rp K H v .non) : v = .non := by cases h; rfl
theorem Rp.ref_eq {v : V} {a : Addr} (h : Rp K H v (.ref a)) : v = .ref a := by cases h; rfl
theorem Rp.tup_of {v : V} {ds : List D} (h : Rp K H v (.tup ds)) : ∃ a xs, v = .ref a ∧ SqT K H a xs ∧ RpL K H xs ds := by
  cases h with
  | tup hs ha => exact ⟨_, _, rfl, hs, ha⟩
theorem Rp.lst_of {v : V} {ds : List D} (h : Rp K H v (.lst ds)) : ∃ a xs, v = .ref a ∧ SqL K H a xs ∧ RpL K H xs ds := by
  cases h with
  | lst hs ha => exact ⟨_, _, rfl, hs, ha⟩
theorem RpL.nil_of {vs : List V} (h : RpL K H vs []) : vs = [] := by cases h; rfl
theorem RpL.cons_of {vs : List V} {d : D} {ds : List D} (h : RpL K H vs (d :: ds)) : ∃ v r, vs = v :: r ∧ Rp K H v d ∧ RpL K H r ds := by
  cases h with
  | cons h1 h2 => exact ⟨_, _, rfl, h1, h2⟩
theorem RpL.one {vs : List V} {d : D} (h : RpL K H vs [d]) : ∃ v, vs = [v] ∧ Rp K H v d := by
  obtain ⟨v, r, rfl, h1, h2⟩ := h.cons_of
  rw [h2.nil_of]
  exact ⟨v, rfl, h1⟩
theorem RpL.two {vs : List V} {d e : D} (h : RpL K H vs [d, e]) : ∃ v w, vs = [v, w] ∧ Rp K H v d ∧ Rp K H w e := by
  obtain ⟨v, r, rfl, h1, h2⟩ := h.cons_of
  obtain ⟨w, rfl, h3⟩ := h2.one
  exact ⟨v, w, rfl, h1, h3⟩
theorem RpL.three {vs : List V} {d e f : D} (h : RpL K H vs [d, e, f]) : ∃ v w x, vs = [v, w, x] ∧ Rp K H v d ∧ Rp K H w e ∧ Rp K H x f := by
  obtain ⟨v, r, rfl, h1, h2⟩ := h.cons_of
  obtain ⟨w, x, rfl, h3, h4⟩ := h2.two
  exact ⟨v, w, x, rfl, h1, h3, h4⟩
theorem RpL.ints : ∀ {ns : List Int} {vs : List V}, RpL K H vs (ns.map D.int) → vs = ns.map V.int
  | [], _, h => h.nil_of
  | n :: ns, _, h => by
    obtain ⟨v, r, rfl, h1, h2⟩ := RpL.cons_of h
    rw [h1.int_eq, RpL.ints h2]
    rfl
theorem RpL.of_ints : ∀ (ns : List Int), RpL K H (ns.map V.int) (ns.map D.int)
  | [] => .nil
  | n :: ns => .cons (.int n) (RpL.of_ints ns)
theorem RpL.bls : ∀ {ns : List Bool} {vs : List V}, RpL K H vs (ns.map D.bl) → vs = ns.map V.bl
  | [], _, h => h.nil_of
  | n :: ns, _, h => by
    obtain ⟨v, r, rfl, h1, h2⟩ := RpL.cons_of h
    rw [h1.bl_eq, RpL.bls h2]
    rfl
theorem RpL.refs : ∀ {ns : List Addr} {vs : List V}, RpL K H vs (ns.map D.ref) → vs = ns.map V.ref
  | [], _, h => h.nil_of
  | n :: ns, _, h => by
    obtain ⟨v, r, rfl, h1, h2⟩ := RpL.cons_of h
    rw [h1.ref_eq, RpL.refs h2]
    rfl
end
/-! ### the slots as data -/
abbrev Es := List (Option D)
structure Env (K : PySem.W.Frag) (H : Hp) (σ : L2.St) (es : Es) : Prop where
  len : σ.length = es.length
  at_ : ∀ (i : Nat) (d : D), es[i]? = some (some d) → ∃ v, σ[i]? = some (some v) ∧ Rp K H v d
section
variable {K : PySem.W.Frag} {H H' : Hp} {σ : L2.St} {es : Es}
theorem Env.same (S : Same H H') (e : Env K H σ es) : Env K H' σ es := ⟨e.len, fun i d q => let ⟨v, h1, h2⟩ := e.at_ i d q; ⟨v, h1, h2.same S⟩⟩
theorem Env.set {i : Nat} {v : V} {d : D} (e : Env K H σ es) (r : Rp K H v d) : Env K H (σ.set i (some v)) (es.set i (some d)) := by
  refine ⟨by rw [List.length_set, List.length_set]; exact e.len, fun j x q => ?_⟩
  by_cases h : i = j
  · subst h
    by_cases hl : i < es.length
    · rw [List.getElem?_set_self hl] at q
      have q := Option.some.inj (Option.some.inj q)
      subst q
      exact ⟨v, List.getElem?_set_self (by rw [e.len]; exact hl), r⟩
    · rw [List.getElem?_eq_none (by simpa using hl)] at q
      cases q
  · rw [List.getElem?_set_ne h] at q
    obtain ⟨w, h1, h2⟩ := e.at_ j x q
    exact ⟨w, by rw [List.getElem?_set_ne h]; exact h1, h2⟩
theorem Env.wipe1 {i : Nat} (e : Env K H σ es) : Env K H (σ.set i none) (es.set i none) := by
  refine ⟨by rw [List.length_set, List.length_set]; exact e.len, fun j x q => ?_⟩
  by_cases h : i = j
  · subst h
    by_cases hl : i < es.length
    · rw [List.getElem?_set_self hl] at q
      cases q
    · rw [List.getElem?_eq_none (by simpa using hl)] at q
      cases q
  · rw [List.getElem?_set_ne h] at q
    obtain ⟨w, h1, h2⟩ := e.at_ j x q
    exact ⟨w, by rw [List.getElem?_set_ne h]; exact h1, h2⟩
theorem Env.nil : Env K H [] [] := ⟨rfl, fun i d q => by simp at q⟩
theorem Env.cons {v : V} {d : D} (r : Rp K H v d) (e : Env K H σ es) : Env K H (some v :: σ) (some d :: es) := by
  refine ⟨by simp [e.len], fun i x q => ?_⟩
  cases i with
  | zero =>
    have q := Option.some.inj (Option.some.inj q)
    subst q
    exact ⟨v, rfl, r⟩
  | succ i => exact e.at_ i x (by simpa using q)
theorem Env.skip {o : Option V} (e : Env K H σ es) : Env K H (o :: σ) (none :: es) := by
  refine ⟨by simp [e.len], fun i x q => ?_⟩
  cases i with
  | zero => cases (Option.some.inj q)
  | succ i => exact e.at_ i x (by simpa using q)
theorem Env.none : ∀ (n : Nat), Env K H (List.replicate n none) (List.replicate n none)
  | 0 => Env.nil
  | n + 1 => by
    rw [List.replicate_succ, List.replicate_succ]
    exact Env.skip (Env.none n)
theorem Env.app {vs : List V} {ds : List D} (r : RpL K H vs ds) (e : Env K H σ es) : Env K H (vs.map some ++ σ) (ds.map some ++ es) := by
  induction ds generalizing vs with
  | nil =>
    rw [r.nil_of]
    exact e
  | cons d ds ih =>
    obtain ⟨v, w, rfl, h1, h2⟩ := r.cons_of
    exact Env.cons h1 (ih h2)
/-- a def's slots at its start -/
def begun (N : List Str) (ds : List D) : Es := ds.map some ++ List.replicate (N.length - ds.length) none
theorem Env.start {N : List Str} {vs : List V} {ds : List D} (r : RpL K H vs ds) : Env K H (L2.start N vs) (begun N ds) := by
  unfold L2.start begun
  rw [r.length]
  exact Env.app r (Env.none _)
end
end Sh

namespace Sh
open PySem L2
/-! ### readings by names -/
def rNotN : R2 := fun x y H Q => y = .non ∧ Q (.bl (!decide (x = .non))) H
theorem op_notN' {X : Cx} : OpR X (compareOp .IsNot) rNotN := op_notN
def rLenS (K : PySem.W.Frag) : List V → Hp → VK → Prop := fun xs H Q => ∃ p ys, xs = [.ref p] ∧ (SqL K H p ys ∨ SqT K H p ys) ∧ Q (.int ys.length) H
theorem call_lenS {X : Cx} : CallR X (.builtin "len") (rLenS X.K) := call_len_seq
def rMax2 : List V → Hp → VK → Prop := fun xs H Q => ∃ i j, xs = [.int i, .int j] ∧ Q (.int (if j > i then j else i)) H
def rMin2 : List V → Hp → VK → Prop := fun xs H Q => ∃ i j, xs = [.int i, .int j] ∧ Q (.int (if j < i then j else i)) H
theorem call_max2' {X : Cx} (hc : X.calm = true) : CallR X (.builtin "max") rMax2 := call_max2 hc
theorem call_min2' {X : Cx} (hc : X.calm = true) : CallR X (.builtin "min") rMin2 := call_min2 hc
def rInt1 : List V → Hp → VK → Prop := fun xs H Q => (∃ i, xs = [.int i] ∧ Q (.int i) H) ∨ ∃ k, xs = [.bl k] ∧ Q (.int (if k then 1 else 0)) H
theorem call_int1' {X : Cx} : CallR X (.type "int") rInt1 := call_int1
def rTup (K : PySem.W.Frag) : List V → Hp → VK → Prop := fun xs H Q => ∃ p ys, xs = [.ref p] ∧ ((SqL K H p ys ∧ ∀ l, H l = none → Q (.ref l) (upd H l (.tup ys))) ∨ (SqT K H p ys ∧ Q (.ref p) H))
theorem call_tup {X : Cx} : CallR X (.type "tuple") (rTup X.K) := call_tuple_of
def rNotInS : R2 := fun x y H Q => ∃ i j, x = .str i ∧ y = .str j ∧ Q (.bl (!(!(Builtin.Str.occurrences j i 0 j.length 1).isEmpty))) H
theorem op_notInS {X : Cx} : OpR X (compareOp .NotIn) rNotInS := L2.op_notin_str

/-! ### evaluation, at data -/
section
variable (K : PySem.W.Frag) (H0 : Hp)
def ED (te : TE) (es : Es) (d : D) : Prop := ∀ σ H, Same H0 H → Env K H σ es → ∀ Q : VK, (∀ v H', Same H H' → Rp K H' v d → Q v H') → te σ H Q
def EB (tt : TT) (es : Es) (b : Bool) : Prop := ∀ σ H, Same H0 H → Env K H σ es → ∀ Q : Bool → Hp → Prop, (∀ H', Same H H' → Q b H') → tt σ H Q
def EA (ta : TA) (es : Es) (ds : List D) : Prop := ∀ σ H, Same H0 H → Env K H σ es → ∀ Q : List V → Hp → Prop, (∀ vs H', Same H H' → RpL K H' vs ds → Q vs H') → ta σ H Q
def EO (to : TO) (es : Es) (o : Option Int) : Prop := ∀ σ H, Same H0 H → Env K H σ es → ∀ Q : Option Int → Hp → Prop, (∀ H', Same H H' → Q o H') → to σ H Q
def EI (wi : TI) (es : Es) (ys : List D) : Prop := ∀ σ H, Same H0 H → Env K H σ es → ∀ R : It → Hp → Prop,
  (∀ (J : It) (H1 : Hp) (G : Hp → Prop) (Y : Nat → Hp → V → Hp → Prop), Same H H1 → Walk J ys.length G Y → G H1 → (∀ H2 H3, Same H2 H3 → G H2 → G H3) → (∀ i H2 x H3, G H2 → Y i H2 x H3 → Same H2 H3 ∧ ∃ d, ys[i]? = some d ∧ Rp K H3 x d) → R J H1) → wi σ H R
/-- a target takes a datum -/
def EG (g : TG) (es : Es) (d : D) (es' : Es) : Prop := ∀ σ H v, Env K H σ es → Rp K H v d → ∀ k : L2.St → Hp → Prop, (∀ σ', Env K H σ' es' → k σ' H) → g v σ H k
def So (ts : TS) (es : Es) (N : Es → Prop) (R : D → Prop) : Prop := ∀ σ H (E : Ends), Same H0 H → Env K H σ es →
  (∀ σ' H' es', Same H H' → Env K H' σ' es' → N es' → E.nx σ' H') → (∀ v H' d, Same H H' → Rp K H' v d → R d → E.rt v H') → ts E σ H
end
section
variable {K : PySem.W.Frag} {H0 : Hp} {es : Es} {ta tb te tc : TE} {t u tt : TT}
theorem ed_var {i : Nat} {d : D} (h : es[i]? = some (some d)) : ED K H0 (tVar i) es d := fun σ H _ e Q q => by
  obtain ⟨v, h1, h2⟩ := e.at_ i d h
  exact ⟨v, h1, q v H (Same.refl H) h2⟩
theorem ed_int {i : Int} : ED K H0 (tC (.int i)) es (.int i) := fun σ H _ e Q q => q _ H (Same.refl H) (.int i)
theorem ed_str {i : Str} : ED K H0 (tC (.str i)) es (.str i) := fun σ H _ e Q q => q _ H (Same.refl H) (.str i)
theorem ed_bl {i : Bool} : ED K H0 (tC (.bl i)) es (.bl i) := fun σ H _ e Q q => q _ H (Same.refl H) (.bl i)
theorem ed_non : ED K H0 (tC .non) es .non := fun σ H _ e Q q => q _ H (Same.refl H) .non
theorem ED.to {d e : D} (h : ED K H0 te es d) (q : d = e) : ED K H0 te es e := q ▸ h
theorem EB.to {d e : Bool} (h : EB K H0 t es d) (q : d = e) : EB K H0 t es e := q ▸ h
theorem ea_nil : EA K H0 tNil es [] := fun σ H _ e Q q => q [] H (Same.refl H) .nil
theorem ea_cons {ts : TA} {d : D} {ds : List D} (h : ED K H0 te es d) (hr : EA K H0 ts es ds) : EA K H0 (tCons te ts) es (d :: ds) := fun σ H s e Q q =>
  h σ H s e _ fun v H1 s1 r1 => hr σ H1 (s.trans s1) (e.same s1) _ fun vs H2 s2 r2 => q _ H2 (s1.trans s2) (.cons (r1.same s2) r2)
theorem ed_op2 {r : R2} {a b d : D} (ha : ED K H0 ta es a) (hb : ED K H0 tb es b)
    (hr : ∀ x y H (Q : VK), Rp K H x a → Rp K H y b → (∀ v H', Same H H' → Rp K H' v d → Q v H') → r x y H Q) : ED K H0 (tOp r ta tb) es d := fun σ H s e Q q =>
  ha σ H s e _ fun x H1 s1 r1 => hb σ H1 (s.trans s1) (e.same s1) _ fun y H2 s2 r2 => hr x y H2 Q (r1.same s2) r2 fun v H3 s3 r3 => q v H3 ((s1.trans s2).trans s3) r3
theorem ed_i2 {f : Int → Int → Int} {i j : Int} (ha : ED K H0 ta es (.int i)) (hb : ED K H0 tb es (.int j)) : ED K H0 (tOp (rI0 fun i j => .int (f i j)) ta tb) es (.int (f i j)) :=
  ed_op2 ha hb fun x y H Q rx ry q => ⟨i, j, rx.int_eq, ry.int_eq, q _ H (Same.refl H) (.int _)⟩
theorem ed_i2c {C : Int → Int → Prop} {f : Int → Int → Int} {i j : Int} (ha : ED K H0 ta es (.int i)) (hb : ED K H0 tb es (.int j)) (hc : C i j) : ED K H0 (tOp (rI C fun i j => .int (f i j)) ta tb) es (.int (f i j)) :=
  ed_op2 ha hb fun x y H Q rx ry q => ⟨i, j, rx.int_eq, ry.int_eq, hc, q _ H (Same.refl H) (.int _)⟩
theorem ed_b2 {f : Int → Int → Bool} {i j : Int} (ha : ED K H0 ta es (.int i)) (hb : ED K H0 tb es (.int j)) : ED K H0 (tOp (rI0 fun i j => .bl (f i j)) ta tb) es (.bl (f i j)) :=
  ed_op2 ha hb fun x y H Q rx ry q => ⟨i, j, rx.int_eq, ry.int_eq, q _ H (Same.refl H) (.bl _)⟩
theorem ed_eqI {i j : Int} (ha : ED K H0 ta es (.int i)) (hb : ED K H0 tb es (.int j)) : ED K H0 (tOp rEq ta tb) es (.bl (decide (i = j))) :=
  ed_op2 ha hb fun x y H Q rx ry q => by
    rw [rx.int_eq, ry.int_eq]
    refine ⟨rfl, ?_⟩
    rw [show decide (V.int i = V.int j) = decide (i = j) by rw [dec_int]; rfl]
    exact q _ H (Same.refl H) (.bl _)
theorem ed_eqS {i j : Str} (ha : ED K H0 ta es (.str i)) (hb : ED K H0 tb es (.str j)) : ED K H0 (tOp rEq ta tb) es (.bl (decide (i = j))) :=
  ed_op2 ha hb fun x y H Q rx ry q => by
    rw [rx.str_eq, ry.str_eq]
    refine ⟨rfl, ?_⟩
    rw [show decide (V.str i = V.str j) = decide (i = j) by simp]
    exact q _ H (Same.refl H) (.bl _)
theorem ed_neI {i j : Int} (ha : ED K H0 ta es (.int i)) (hb : ED K H0 tb es (.int j)) : ED K H0 (tOp rNe ta tb) es (.bl (!decide (i = j))) :=
  ed_op2 ha hb fun x y H Q rx ry q => by
    rw [rx.int_eq, ry.int_eq]
    refine ⟨rfl, ?_⟩
    rw [show decide (V.int i = V.int j) = decide (i = j) by rw [dec_int]; rfl]
    exact q _ H (Same.refl H) (.bl _)
/-- a number or None -/
def optD : Option Nat → D
  | some n => .int n
  | none => .non
theorem ed_eqO {i : Option Nat} {j : Nat} (ha : ED K H0 ta es (optD i)) (hb : ED K H0 tb es (.int j)) : ED K H0 (tOp rEq ta tb) es (.bl (decide (i = some j))) :=
  ed_op2 ha hb fun x y H Q rx ry q => by
    rw [ry.int_eq]
    cases i with
    | none =>
      rw [Rp.non_eq rx]
      exact ⟨rfl, q _ H (Same.refl H) (.bl _)⟩
    | some n =>
      rw [Rp.int_eq rx]
      refine ⟨rfl, ?_⟩
      rw [show decide (V.int (n : Int) = V.int (j : Int)) = decide (some n = some j) by simp [Int.ofNat_inj]]
      exact q _ H (Same.refl H) (.bl _)
theorem ed_neO {i : Option Nat} {j : Nat} (ha : ED K H0 ta es (optD i)) (hb : ED K H0 tb es (.int j)) : ED K H0 (tOp rNe ta tb) es (.bl (!decide (i = some j))) :=
  ed_op2 ha hb fun x y H Q rx ry q => by
    rw [ry.int_eq]
    cases i with
    | none =>
      rw [Rp.non_eq rx]
      exact ⟨rfl, q _ H (Same.refl H) (.bl _)⟩
    | some n =>
      rw [Rp.int_eq rx]
      refine ⟨rfl, ?_⟩
      rw [show decide (V.int (n : Int) = V.int (j : Int)) = decide (some n = some j) by simp [Int.ofNat_inj]]
      exact q _ H (Same.refl H) (.bl _)
theorem ed_notN {i : Option Nat} (ha : ED K H0 ta es (optD i)) (hb : ED K H0 tb es .non) : ED K H0 (tOp rNotN ta tb) es (.bl (!decide (i = none))) :=
  ed_op2 ha hb fun x y H Q rx ry q => by
    rw [ry.non_eq]
    cases i with
    | none =>
      rw [Rp.non_eq rx]
      exact ⟨rfl, q _ H (Same.refl H) (.bl _)⟩
    | some n =>
      rw [Rp.int_eq rx]
      exact ⟨rfl, q _ H (Same.refl H) (.bl _)⟩
theorem ed_notInS {i j : Str} (ha : ED K H0 ta es (.str i)) (hb : ED K H0 tb es (.str j)) : ED K H0 (tOp rNotInS ta tb) es (.bl (!(!(Builtin.Str.occurrences j i 0 j.length 1).isEmpty))) :=
  ed_op2 ha hb fun x y H Q rx ry q => ⟨i, j, rx.str_eq, ry.str_eq, q _ H (Same.refl H) (.bl _)⟩
/-! sequences -/
theorem atI_some {α : Type} {xs : List α} {i : Int} {d : α} (h : atI xs i = some d) : ∃ j, ixN xs.length i = some j ∧ xs[j]? = some d := by
  unfold atI at h
  cases e : ixN xs.length i with
  | none => rw [e] at h; cases h
  | some j => rw [e] at h; exact ⟨j, rfl, h⟩
theorem RpL.atI {H : Hp} {vs : List V} {ds : List D} {i : Int} {d : D} (r : RpL K H vs ds) (h : L2.atI ds i = some d) : ∃ v, L2.atI vs i = some v ∧ Rp K H v d := by
  obtain ⟨j, h1, h2⟩ := atI_some h
  obtain ⟨v, h3, h4⟩ := r.get h2
  refine ⟨v, ?_, h4⟩
  unfold L2.atI
  rw [r.length, h1]
  exact h3
theorem ed_ixT {ds : List D} {i : Int} {d : D} (ha : ED K H0 ta es (.tup ds)) (hb : ED K H0 tb es (.int i)) (h : atI ds i = some d) : ED K H0 (tOp (rIxT K) ta tb) es d :=
  ed_op2 ha hb fun x y H Q rx ry q => by
    obtain ⟨a, xs, rfl, hs, hr⟩ := rx.tup_of
    obtain ⟨v, h1, h2⟩ := hr.atI h
    exact ⟨a, xs, i, v, rfl, ry.int_eq, hs, h1, q v H (Same.refl H) h2⟩
theorem ed_ixL {ds : List D} {i : Int} {d : D} (ha : ED K H0 ta es (.lst ds)) (hb : ED K H0 tb es (.int i)) (h : atI ds i = some d) : ED K H0 (tOp (rIxL K) ta tb) es d :=
  ed_op2 ha hb fun x y H Q rx ry q => by
    obtain ⟨a, xs, rfl, hs, hr⟩ := rx.lst_of
    obtain ⟨v, h1, h2⟩ := hr.atI h
    exact ⟨a, xs, i, v, rfl, ry.int_eq, hs, h1, q v H (Same.refl H) h2⟩
theorem ed_tup {ts : TA} {ds : List D} (h : EA K H0 ts es ds) (hl : ds.length ≤ 1000 := by exact Nat.le_of_ble_eq_true rfl) : ED K H0 (tTup ts) es (.tup ds) := fun σ H s e Q q =>
  h σ H s e _ fun vs H1 s1 r1 => ⟨Nat.le_of_lt (small1000 (by rw [r1.length]; exact hl)), fun p hp => q _ _ (s1.trans (Same.new hp)) (.tup (SqT.of upd_same) (RpL.same (Same.new hp) _ _ r1))⟩
theorem ed_lst {ts : TA} {ds : List D} (h : EA K H0 ts es ds) (hl : ds.length ≤ 1000 := by exact Nat.le_of_ble_eq_true rfl) : ED K H0 (tLst ts) es (.lst ds) := fun σ H s e Q q =>
  h σ H s e _ fun vs H1 s1 r1 => ⟨Nat.le_of_lt (small1000 (by rw [r1.length]; exact hl)), fun p hp => q _ _ (s1.trans (Same.new hp)) (.lst (SqL.of upd_same) (RpL.same (Same.new hp) _ _ r1))⟩
theorem eo_none : EO K H0 tNoPart es none := fun σ H s e Q q => q H (Same.refl H)
theorem eo_some {i : Int} (h : ED K H0 te es (.int i)) : EO K H0 (tPart te) es (some i) := fun σ H s e Q q =>
  h σ H s e _ fun v H1 s1 r1 => ⟨i, r1.int_eq, q H1 s1⟩
def cut {α : Type} (xs : List α) (lo hi : Option Int) : List α := (xs.drop (HT.sIx xs.length 0 lo)).take (HT.sIx xs.length xs.length hi - HT.sIx xs.length 0 lo)
theorem RpL.cut {H : Hp} {vs : List V} {ds : List D} (r : RpL K H vs ds) (lo hi : Option Int) : RpL K H (cutV vs lo hi) (cut ds lo hi) := by
  unfold cutV Sh.cut
  rw [r.length]
  exact (r.drop _).take _
theorem cut_all {α : Type} {xs : List α} {lo hi : Option Int} (h : HT.sIx xs.length 0 lo = 0 ∧ HT.sIx xs.length xs.length hi = xs.length) : cut xs lo hi = xs := by
  unfold cut
  rw [h.1, h.2, List.drop_zero, Nat.sub_zero, List.take_length]
theorem ed_slT {tl th : TO} {ds : List D} {lo hi : Option Int} (h : ED K H0 te es (.tup ds)) (hl : EO K H0 tl es lo) (hh : EO K H0 th es hi) : ED K H0 (tSl (rSlA K) te tl th) es (.tup (cut ds lo hi)) := fun σ H s e Q q =>
  h σ H s e _ fun v H1 s1 r1 => hl σ H1 (s.trans s1) (e.same s1) _ fun H2 s2 => hh σ H2 ((s.trans s1).trans s2) ((e.same s1).same s2) _ fun H3 s3 => by
    have s13 := s2.trans s3
    have s03 := s1.trans s13
    obtain ⟨a, xs, rfl, hs, hr⟩ := (r1.same s13).tup_of
    refine ⟨a, xs, rfl, hs, fun z => ?_, fun _ p hp => ?_⟩
    · refine q _ H3 s03 (.tup hs ?_)
      rw [cut_all (by rw [← hr.length]; exact z)]
      exact hr
    · exact q _ _ (s03.trans (Same.new hp)) (.tup (SqT.of upd_same) (RpL.same (Same.new hp) _ _ (hr.cut lo hi)))
theorem ed_slL {tl th : TO} {ds : List D} {lo hi : Option Int} (h : ED K H0 te es (.lst ds)) (hl : EO K H0 tl es lo) (hh : EO K H0 th es hi) : ED K H0 (tSl (rSlL K) te tl th) es (.lst (cut ds lo hi)) := fun σ H s e Q q =>
  h σ H s e _ fun v H1 s1 r1 => hl σ H1 (s.trans s1) (e.same s1) _ fun H2 s2 => hh σ H2 ((s.trans s1).trans s2) ((e.same s1).same s2) _ fun H3 s3 => by
    have s13 := s2.trans s3
    have s03 := s1.trans s13
    obtain ⟨a, xs, rfl, hs, hr⟩ := (r1.same s13).lst_of
    exact ⟨a, xs, rfl, hs, fun p hp => q _ _ (s03.trans (Same.new hp)) (.lst (SqL.of upd_same) (RpL.same (Same.new hp) _ _ (hr.cut lo hi)))⟩
theorem ed_cat {xs ys : List D} (ha : ED K H0 ta es (.tup xs)) (hb : ED K H0 tb es (.tup ys)) (hl : xs.length + ys.length ≤ 1000) : ED K H0 (tOp (rCatA K) ta tb) es (.tup (xs ++ ys)) :=
  ed_op2 ha hb fun x y H Q rx ry q => by
    obtain ⟨a, us, rfl, hs, hr⟩ := rx.tup_of
    obtain ⟨b, ws, rfl, hs2, hr2⟩ := ry.tup_of
    refine ⟨a, b, us, ws, rfl, rfl, hs, hs2, Nat.le_of_lt (small1000 (by rw [hr.length, hr2.length]; exact hl)), fun z => ?_, fun _ z => ?_, fun _ _ p hp => ?_⟩
    · subst z
      have e : xs = [] := List.length_eq_zero_iff.mp hr.length.symm
      subst e
      exact q _ H (Same.refl H) (.tup hs2 hr2)
    · subst z
      have e : ys = [] := List.length_eq_zero_iff.mp hr2.length.symm
      subst e
      rw [List.append_nil] at q
      exact q _ H (Same.refl H) (.tup hs hr)
    · exact q _ _ (Same.new hp) (.tup (SqT.of upd_same) (RpL.same (Same.new hp) _ _ (hr.append hr2)))
/-! calls of built-ins -/
theorem ed_cb {r : List V → Hp → VK → Prop} {ts : TA} {ds : List D} {d : D} (h : EA K H0 ts es ds) (hr : ∀ vs H (Q : VK), RpL K H vs ds → (∀ v H', Same H H' → Rp K H' v d → Q v H') → r vs H Q) : ED K H0 (tCB r ts) es d := fun σ H s e Q q =>
  h σ H s e _ fun vs H1 s1 r1 => hr vs H1 Q r1 fun v H2 s2 r2 => q v H2 (s1.trans s2) r2
theorem ed_lenT {ds : List D} (h : ED K H0 te es (.tup ds)) : ED K H0 (tCB (rLenS K) (tCons te tNil)) es (.int ds.length) :=
  ed_cb (ea_cons h ea_nil) fun vs H Q r q => by
    obtain ⟨v, rfl, rv⟩ := r.one
    obtain ⟨a, xs, rfl, hs, hr⟩ := rv.tup_of
    refine ⟨a, xs, rfl, .inr hs, ?_⟩
    rw [hr.length]
    exact q _ H (Same.refl H) (.int _)
theorem ed_lenL {ds : List D} (h : ED K H0 te es (.lst ds)) : ED K H0 (tCB (rLenS K) (tCons te tNil)) es (.int ds.length) :=
  ed_cb (ea_cons h ea_nil) fun vs H Q r q => by
    obtain ⟨v, rfl, rv⟩ := r.one
    obtain ⟨a, xs, rfl, hs, hr⟩ := rv.lst_of
    refine ⟨a, xs, rfl, .inl hs, ?_⟩
    rw [hr.length]
    exact q _ H (Same.refl H) (.int _)
theorem ed_max {i j : Int} (ha : ED K H0 ta es (.int i)) (hb : ED K H0 tb es (.int j)) : ED K H0 (tCB rMax2 (tCons ta (tCons tb tNil))) es (.int (max i j)) :=
  ed_cb (ea_cons ha (ea_cons hb ea_nil)) fun vs H Q r q => by
    obtain ⟨v, w, rfl, rv, rw'⟩ := r.two
    rw [rv.int_eq, rw'.int_eq]
    refine ⟨i, j, rfl, ?_⟩
    have e : (if j > i then j else i) = max i j := by split <;> omega
    rw [e]
    exact q _ H (Same.refl H) (.int _)
theorem ed_min {i j : Int} (ha : ED K H0 ta es (.int i)) (hb : ED K H0 tb es (.int j)) : ED K H0 (tCB rMin2 (tCons ta (tCons tb tNil))) es (.int (min i j)) :=
  ed_cb (ea_cons ha (ea_cons hb ea_nil)) fun vs H Q r q => by
    obtain ⟨v, w, rfl, rv, rw'⟩ := r.two
    rw [rv.int_eq, rw'.int_eq]
    refine ⟨i, j, rfl, ?_⟩
    have e : (if j < i then j else i) = min i j := by split <;> omega
    rw [e]
    exact q _ H (Same.refl H) (.int _)
theorem ed_intB {b : Bool} (ha : ED K H0 ta es (.bl b)) : ED K H0 (tCB rInt1 (tCons ta tNil)) es (.int (if b then 1 else 0)) :=
  ed_cb (ea_cons ha ea_nil) fun vs H Q r q => by
    obtain ⟨v, rfl, rv⟩ := r.one
    rw [rv.bl_eq]
    exact .inr ⟨b, rfl, q _ H (Same.refl H) (.int _)⟩
theorem ed_tupL {ds : List D} (h : ED K H0 te es (.lst ds)) : ED K H0 (tCB (rTup K) (tCons te tNil)) es (.tup ds) :=
  ed_cb (ea_cons h ea_nil) fun vs H Q r q => by
    obtain ⟨v, rfl, rv⟩ := r.one
    obtain ⟨a, xs, rfl, hs, hr⟩ := rv.lst_of
    exact ⟨a, xs, rfl, .inl ⟨hs, fun p hp => q _ _ (Same.new hp) (.tup (SqT.of upd_same) (RpL.same (Same.new hp) _ _ hr))⟩⟩
theorem ed_all {bs : List Bool} (h : ED K H0 te es (.lst (bs.map D.bl))) : ED K H0 (tCB (rAll K) (tCons te tNil)) es (.bl (bs.all id)) :=
  ed_cb (ea_cons h ea_nil) fun vs H Q r q => by
    obtain ⟨v, rfl, rv⟩ := r.one
    obtain ⟨a, xs, rfl, hs, hr⟩ := rv.lst_of
    rw [hr.bls] at hs
    exact ⟨a, bs, rfl, hs, q _ H (Same.refl H) (.bl _)⟩
theorem ed_tupRg {n : Int} (h : ED K H0 te es (.int n)) (h0 : 0 ≤ n) (h1 : n ≤ 1000) : ED K H0 (tTupRg (tRg1 te)) es (.tup ((List.range n.toNat).map fun i => .int (i : Nat))) := fun σ H s e Q q =>
  h σ H s e _ fun v H1 s1 r1 => by
    refine ⟨n, r1.int_eq, RgOk.of_le (by omega) (by omega) (by omega) (by omega), fun p hp => q _ _ (s1.trans (Same.new hp)) (.tup (SqT.of upd_same) ?_)⟩
    unfold rgV
    have e2 : (List.range (n - 0).toNat).map (fun i => V.int (0 + ((i : Nat) : Int))) = ((List.range n.toNat).map fun i => ((i : Nat) : Int)).map V.int := by
      rw [List.map_map]
      simp
    rw [e2]
    have e3 : (List.range n.toNat).map (fun i => D.int ((i : Nat) : Int)) = ((List.range n.toNat).map fun i => ((i : Nat) : Int)).map D.int := by
      rw [List.map_map]
      rfl
    rw [e3]
    exact RpL.of_ints _
/-! tests, and, or, if -/
theorem eb_tB {b : Bool} (h : ED K H0 te es (.bl b)) : EB K H0 (tB te) es b := fun σ H s e Q q => h σ H s e _ fun v H1 s1 r1 => ⟨b, r1.bl_eq, q H1 s1⟩
theorem eb_tTest {b : Bool} (h : ED K H0 te es (.bl b)) : EB K H0 (tTest te) es b := fun σ H s e Q q => h σ H s e _ fun v H1 s1 r1 => ⟨b, r1.bl_eq, q H1 s1⟩
theorem eb_not {b : Bool} (h : EB K H0 t es b) : EB K H0 (tNot t) es (!b) := fun σ H s e Q q => h σ H s e _ fun H1 s1 => q H1 s1
theorem eb_and {a b : Bool} (h1 : EB K H0 t es a) (h2 : a = true → EB K H0 u es b) : EB K H0 (tAnd t u) es (a && b) := fun σ H s e Q q => h1 σ H s e _ fun H1 s1 => by
  cases a with
  | true => exact h2 rfl σ H1 (s.trans s1) (e.same s1) Q fun H2 s2 => q H2 (s1.trans s2)
  | false => exact q H1 s1
theorem eb_or {a b : Bool} (h1 : EB K H0 t es a) (h2 : a = false → EB K H0 u es b) : EB K H0 (tOr t u) es (a || b) := fun σ H s e Q q => h1 σ H s e _ fun H1 s1 => by
  cases a with
  | true => exact q H1 s1
  | false => exact h2 rfl σ H1 (s.trans s1) (e.same s1) Q fun H2 s2 => q H2 (s1.trans s2)
theorem ed_and {a b : Bool} (h1 : ED K H0 ta es (.bl a)) (h2 : a = true → ED K H0 tb es (.bl b)) : ED K H0 (tAndV ta tb) es (.bl (a && b)) := fun σ H s e Q q => h1 σ H s e _ fun v H1 s1 r1 => by
  refine ⟨a, r1.bl_eq, ?_⟩
  cases a with
  | true => exact h2 rfl σ H1 (s.trans s1) (e.same s1) Q fun v H2 s2 r2 => q v H2 (s1.trans s2) r2
  | false => exact q _ H1 s1 (.bl false)
theorem ed_or {a b : Bool} (h1 : ED K H0 ta es (.bl a)) (h2 : a = false → ED K H0 tb es (.bl b)) : ED K H0 (tOrV ta tb) es (.bl (a || b)) := fun σ H s e Q q => h1 σ H s e _ fun v H1 s1 r1 => by
  refine ⟨a, r1.bl_eq, ?_⟩
  cases a with
  | true => exact q _ H1 s1 (.bl true)
  | false => exact h2 rfl σ H1 (s.trans s1) (e.same s1) Q fun v H2 s2 r2 => q v H2 (s1.trans s2) r2
theorem ed_not {a : Bool} (h1 : ED K H0 ta es (.bl a)) : ED K H0 (tNotV ta) es (.bl (!a)) := fun σ H s e Q q => h1 σ H s e _ fun v H1 s1 r1 => ⟨a, r1.bl_eq, q _ H1 s1 (.bl _)⟩
theorem ed_if {b : Bool} {d : D} (h : EB K H0 t es b) (h1 : b = true → ED K H0 ta es d) (h2 : b = false → ED K H0 tb es d) : ED K H0 (tIf t ta tb) es d := fun σ H s e Q q => h σ H s e _ fun H1 s1 => by
  cases b with
  | true => exact h1 rfl σ H1 (s.trans s1) (e.same s1) Q fun v H2 s2 r2 => q v H2 (s1.trans s2) r2
  | false => exact h2 rfl σ H1 (s.trans s1) (e.same s1) Q fun v H2 s2 r2 => q v H2 (s1.trans s2) r2
theorem ed_chain {f g : Int → Int → Bool} {i j k : Int} (ha : ED K H0 ta es (.int i)) (hb : ED K H0 tb es (.int j)) (hc : ED K H0 tc es (.int k)) :
    ED K H0 (tChain (rI0 fun i j => .bl (f i j)) (rI0 fun i j => .bl (g i j)) ta tb tc) es (.bl (f i j && g j k)) := fun σ H s e Q q =>
  ha σ H s e _ fun x H1 s1 r1 => hb σ H1 (s.trans s1) (e.same s1) _ fun y H2 s2 r2 => by
    refine ⟨i, j, r1.int_eq, r2.int_eq, f i j, rfl, ?_⟩
    cases hf : f i j with
    | true =>
      rw [if_pos rfl]
      refine hc σ H2 ((s.trans s1).trans s2) ((e.same s1).same s2) _ fun z H3 s3 r3 => ⟨j, k, r2.int_eq, r3.int_eq, ?_⟩
      rw [hf, Bool.true_and] at q
      exact q _ H3 ((s1.trans s2).trans s3) (.bl _)
    | false =>
      rw [if_neg Bool.false_ne_true]
      rw [hf, Bool.false_and] at q
      exact q _ H2 (s1.trans s2) (.bl _)
/-! the text's own defs -/
/-- the arguments are data, the answer is the datum that rel tells, all else stays -/
def spF (K : PySem.W.Frag) (rel : Hp → List D → D → Prop) : Sp := fun vs H Q _ => ∃ ds d, RpL K H vs ds ∧ rel H ds d ∧ ∀ v H', Same H H' → Rp K H' v d → Q v H'
theorem spF_len {rel : Hp → List D → D → Prop} {n : Nat} (h : ∀ H ds d, rel H ds d → ds.length = n) (vs : List V) (H : Hp) (Q : VK) (E : XK) (q : spF K rel vs H Q E) : vs.length = n := by
  obtain ⟨ds, d, r, hr, _⟩ := q
  rw [r.length]
  exact h H ds d hr
theorem spF_run {rel : Hp → List D → D → Prop} {ts : TS} {N : List Str} {vs : List V} {H : Hp} {Q : VK} {E : XK} (q : spF K rel vs H Q E) (h : ∀ ds d, rel H ds d → So K H ts (begun N ds) (fun _ => False) (fun x => x = d)) :
    ts { nx := fun _ H' => Q .non H', rt := Q } (start N vs) H := by
  obtain ⟨ds, d, r, hr, k⟩ := q
  exact h ds d hr _ H _ (Same.refl H) (Env.start r) (fun _ _ _ _ _ z => z.elim) fun v H' x s rv e => k v H' s (e ▸ rv)
theorem ed_call {rel : Hp → List D → D → Prop} {ts : TA} {ds : List D} {d : D} {E : XK} (h : EA K H0 ts es ds) (hr : ∀ H, Same H0 H → rel H ds d) : ED K H0 (tCall (spF K rel) [] E ts) es d := fun σ H s e Q q =>
  h σ H s e _ fun vs H1 s1 r1 => ⟨ds, d, by rw [List.append_nil]; exact r1, hr H1 (s.trans s1), fun v H2 s2 r2 => q v H2 (s1.trans s2) r2⟩
/-! ### statements -/
variable {N : Es → Prop} {R : D → Prop} {t1 t2 ts : TS}
theorem so_next (h : N es) : So K H0 tNext es N R := fun σ H E s e kn kr => kn σ H es (Same.refl H) e h
theorem so_never (h : False) : So K H0 ts es N R := h.elim
theorem so_ret {d : D} (h : ED K H0 te es d) (hR : R d) : So K H0 (tRet te) es N R := fun σ H E s e kn kr => h σ H s e _ fun v H1 s1 r1 => kr v H1 d s1 r1 hR
theorem so_seq {N1 : Es → Prop} (h1 : So K H0 t1 es N1 R) (h2 : ∀ es1, N1 es1 → So K H0 t2 es1 N R) : So K H0 (tSeq t1 t2) es N R := fun σ H E s e kn kr =>
  h1 σ H { E with nx := t2 E } s e (fun σ1 H1 es1 s1 e1 n1 => h2 es1 n1 σ1 H1 E (s.trans s1) e1 (fun σ2 H2 es2 s2 e2 n2 => kn σ2 H2 es2 (s1.trans s2) e2 n2) fun v H2 d s2 r2 hd => kr v H2 d (s1.trans s2) r2 hd) kr
theorem so_set {i : Nat} {d : D} (h : ED K H0 te es d) (hN : N (es.set i (some d))) : So K H0 (tAsg te (gName i)) es N R := fun σ H E s e kn kr =>
  h σ H s e _ fun v H1 s1 r1 => kn _ H1 _ s1 ((e.same s1).set r1) hN
theorem so_seqset {i : Nat} {d : D} (h : ED K H0 te es d) (h2 : So K H0 t2 (es.set i (some d)) N R) : So K H0 (tSeq (tAsg te (gName i)) t2) es N R :=
  so_seq (N1 := fun x => x = es.set i (some d)) (so_set h rfl) fun _ e => e ▸ h2
theorem so_if {b : Bool} (h : EB K H0 t es b) (h1 : b = true → So K H0 t1 es N R) (h2 : b = false → So K H0 t2 es N R) : So K H0 (tIfS t t1 t2) es N R := fun σ H E s e kn kr => h σ H s e _ fun H1 s1 => by
  cases b with
  | true => exact h1 rfl σ H1 E (s.trans s1) (e.same s1) (fun σ2 H2 es2 s2 e2 n2 => kn σ2 H2 es2 (s1.trans s2) e2 n2) fun v H2 d s2 r2 hd => kr v H2 d (s1.trans s2) r2 hd
  | false => exact h2 rfl σ H1 E (s.trans s1) (e.same s1) (fun σ2 H2 es2 s2 e2 n2 => kn σ2 H2 es2 (s1.trans s2) e2 n2) fun v H2 d s2 r2 hd => kr v H2 d (s1.trans s2) r2 hd
/-- if t: (returns, or is never come to); the rest -/
theorem so_exit {b : Bool} (h : EB K H0 t es b) (h1 : b = true → So K H0 t1 es (fun _ => False) R) (h2 : b = false → So K H0 t2 es N R) : So K H0 (tSeq (tIfS t t1 tNext) t2) es N R :=
  so_seq (N1 := fun x => b = false ∧ x = es) (so_if h (fun e => fun σ H E s e' kn kr => h1 e σ H E s e' (fun _ _ _ _ _ z => z.elim) kr) fun e => so_next ⟨e, rfl⟩) fun _ e => e.2 ▸ h2 e.1
/-! ### what is walked -/
theorem ei_tup {tl : TE} {ys : List D} (h : ED K H0 tl es (.tup ys)) : EI K H0 (iTup K tl) es ys := fun σ H s e R q =>
  h σ H s e _ fun v H1 s1 r1 => by
    obtain ⟨a, xs, rfl, hs, hr⟩ := r1.tup_of
    refine ⟨a, rfl, ⟨xs, hs⟩, ?_⟩
    refine q _ H1 (fun H => SqT K H a xs ∧ RpL K H xs ys) (YAt xs) s1 (hr.length ▸ (walk_tup.mono (fun _ z => z.1) fun _ _ _ _ _ _ y => y)) ⟨hs, hr⟩ (fun H2 H3 s2 g => ⟨Same.sqT s2 g.1, RpL.same s2 _ _ g.2⟩) fun i H2 x H3 g y => ?_
    obtain ⟨rfl, y⟩ := y
    exact ⟨Same.refl _, g.2.getV y⟩
theorem ei_list {tl : TE} {ys : List D} (h : ED K H0 tl es (.lst ys)) : EI K H0 (iList K tl) es ys := fun σ H s e R q =>
  h σ H s e _ fun v H1 s1 r1 => by
    obtain ⟨a, xs, rfl, hs, hr⟩ := r1.lst_of
    refine ⟨a, rfl, ⟨xs, hs⟩, ?_⟩
    refine q _ H1 (fun H => SqL K H a xs ∧ RpL K H xs ys) (YAt xs) s1 (hr.length ▸ (walk_list.mono (fun _ z => z.1) fun _ _ _ _ _ _ y => y)) ⟨hs, hr⟩ (fun H2 H3 s2 g => ⟨s2.seq g.1, RpL.same s2 _ _ g.2⟩) fun i H2 x H3 g y => ?_
    obtain ⟨rfl, y⟩ := y
    exact ⟨Same.refl _, g.2.getV y⟩
/-- a, a + 1, .. (n of them) -/
def rgD (a : Int) (n : Nat) : List D := (List.range n).map fun i => .int (a + (i : Nat))
theorem rgD_length (a : Int) (n : Nat) : (rgD a n).length = n := by unfold rgD; rw [List.length_map, List.length_range]
theorem rgD_get {a : Int} {n i : Nat} (h : i < n) : (rgD a n)[i]? = some (.int (a + (i : Nat))) := by
  unfold rgD
  rw [List.getElem?_map, List.getElem?_range h]
  rfl
theorem ei_rgK {J : It} {n : Nat} {a c : Int} {f : Nat → D} (hf : ∀ i, f i = .int (a + (i : Nat) * c)) (hJ : J = Itc a c n) {H H1 : Hp} (s1 : Same H H1) {R : It → Hp → Prop}
    (q : ∀ (J : It) (H1 : Hp) (G : Hp → Prop) (Y : Nat → Hp → V → Hp → Prop), Same H H1 → Walk J ((List.range n).map f).length G Y → G H1 → (∀ H2 H3, Same H2 H3 → G H2 → G H3) → (∀ i H2 x H3, G H2 → Y i H2 x H3 → Same H2 H3 ∧ ∃ d, ((List.range n).map f)[i]? = some d ∧ Rp K H3 x d) → R J H1) : R J H1 := by
  subst hJ
  refine q _ H1 (fun _ => True) (fun i H x H' => i < n ∧ H' = H ∧ x = .int (a + (i : Nat) * c)) s1 ?_ True.intro (fun _ _ _ _ => True.intro) fun i H2 x H3 _ y => ?_
  · rw [List.length_map, List.length_range]
    exact walk_rangeC.mono (fun _ z => z) fun i H2 x H3 hi _ y => ⟨hi, y⟩
  · obtain ⟨hi, rfl, rfl⟩ := y
    exact ⟨Same.refl _, _, by rw [List.getElem?_map, List.getElem?_range hi]; rfl, by rw [hf]; exact .int _⟩
theorem itr_itc (a : Int) (n : Nat) : Itr a n = Itc a 1 n := by
  unfold Itr Itc
  congr 1
  funext i H x H'
  rw [Int.mul_one]
theorem ei_range1 {n : Int} (h : ED K H0 te es (.int n)) (h0 : -(2 ^ 62) ≤ n) (h1 : n < 2 ^ 62) : EI K H0 (iRng1 (tCons te tNil)) es (rgD 0 n.toNat) := fun σ H s e R q =>
  h σ H s e _ fun v H1 s1 r1 => by
    refine ⟨n, by rw [r1.int_eq], h0, h1, ?_⟩
    exact ei_rgK (f := fun i => .int (0 + (i : Nat))) (c := 1) (fun i => by rw [Int.mul_one]) (itr_itc 0 n.toNat) s1 q
theorem ei_range2 {m n : Int} (ha : ED K H0 ta es (.int m)) (h : ED K H0 te es (.int n)) (hb : -(2 ^ 62) ≤ m ∧ m < 2 ^ 62 ∧ -(2 ^ 62) ≤ n ∧ n < 2 ^ 62) : EI K H0 (iRng2 (tCons ta (tCons te tNil))) es (rgD m (n - m).toNat) := fun σ H s e R q =>
  ha σ H s e _ fun v H1 s1 r1 => h σ H1 (s.trans s1) (e.same s1) _ fun w H2 s2 r2 => by
    refine ⟨m, n, by rw [r1.int_eq, r2.int_eq], hb, ?_⟩
    exact ei_rgK (f := fun i => .int (m + (i : Nat))) (c := 1) (fun i => by rw [Int.mul_one]) (itr_itc m (n - m).toNat) (s1.trans s2) q
/-- a, a - 1, .. down to above b -/
theorem ei_rangeD {m n : Int} (ha : ED K H0 ta es (.int m)) (h : ED K H0 te es (.int n)) (hc : ED K H0 tc es (.int (-1))) (hb : -(2 ^ 62) ≤ m ∧ m < 2 ^ 62 ∧ -(2 ^ 62) ≤ n ∧ n < 2 ^ 62) :
    EI K H0 (iRng3 (tCons ta (tCons te (tCons tc tNil)))) es ((List.range (m - n).toNat).map fun i => .int (m - (i : Nat))) := fun σ H s e R q =>
  ha σ H s e _ fun v H1 s1 r1 => h σ H1 (s.trans s1) (e.same s1) _ fun w H2 s2 r2 => hc σ H2 ((s.trans s1).trans s2) ((e.same s1).same s2) _ fun z H3 s3 r3 => by
    refine ⟨m, n, -1, (m - n).toNat, by rw [r1.int_eq, r2.int_eq, r3.int_eq], RgC.neg hb.1 hb.2.1 hb.2.2.1 hb.2.2.2, ?_⟩
    exact ei_rgK (f := fun i => .int (m - (i : Nat))) (c := -1) (fun i => by congr 1; omega) rfl ((s1.trans s2).trans s3) q
theorem eg_name {i : Nat} {d : D} : EG K (gName i) es d (es.set i (some d)) := fun σ H v e r k q => q _ (e.set r)
theorem eg_two {i j : Nat} {a b : D} : EG K (gTup K 2 (gCons (gName i) (gCons (gName j) gNil))) es (.tup [a, b]) ((es.set i (some a)).set j (some b)) := fun σ H v e r k q => by
  obtain ⟨p, xs, rfl, hs, hr⟩ := r.tup_of
  obtain ⟨x, y, rfl, r1, r2⟩ := hr.two
  exact ⟨p, _, rfl, hs, rfl, x, [y], rfl, y, [], rfl, rfl, q _ ((e.set r1).set r2)⟩
/-- for: I the slots at each turn -/
theorem so_for {wi : TI} {g : TG} {ys : List D} (hi : EI K H0 wi es ys) (I : Nat → Es → Prop) (h0 : I 0 es)
    (hs : ∀ i es1 d, i < ys.length → ys[i]? = some d → I i es1 → ∃ es2, EG K g es1 d es2 ∧ So K H0 ts es2 (I (i + 1)) R) (hd : ∀ es1, I ys.length es1 → N es1) : So K H0 (tFor wi g ts) es N R := fun σ H E s e kn kr =>
  hi σ H s e _ fun J H1 G Y s1 w hG hst hY => by
    refine for_it w (fun i σ' H' => G H' ∧ Same H1 H' ∧ ∃ es1, Env K H' σ' es1 ∧ I i es1) ⟨hG, Same.refl _, es, e.same s1, h0⟩ (fun _ _ _ _ p => p.1) (fun i x σ' H' H'' hi ⟨g', s', es1, e1, p⟩ y => ?_) fun σ' H' ⟨_, s', es1, e1, p⟩ => kn σ' H' es1 (s1.trans s') e1 (hd es1 p)
    obtain ⟨s2, d, hd', r⟩ := hY i H' x H'' g' y
    obtain ⟨es2, eg, so⟩ := hs i es1 d hi hd' p
    refine eg σ' H'' x (e1.same s2) r _ fun σ2 e2 => ?_
    have s3 : Same H0 H'' := ((s.trans s1).trans s').trans s2
    exact so σ2 H'' _ s3 e2 (fun σ3 H3 es3 s4 e3 n3 => ⟨hst _ _ (s2.trans s4) g', (s'.trans s2).trans s4, es3, e3, n3⟩) fun v H3 dd s4 r4 hR => kr v H3 dd (((s1.trans s').trans s2).trans s4) r4 hR
/-! ### comprehensions -/
theorem wipe_one (σ : L2.St) (i : Nat) : wipe σ [i] = σ.set i none := rfl
theorem noLs_append : ∀ (xs ys : List D), noLs (xs ++ ys) = (noLs xs && noLs ys)
  | [], ys => by simp [noLs]
  | x :: xs, ys => by simp [noLs, noLs_append xs ys, Bool.and_assoc]
theorem noLs_of {xs : List D} (h : ∀ d ∈ xs, noL d = true) : noLs xs = true := by
  induction xs with
  | nil => rfl
  | cons x xs ih => simp [noLs, h x (by simp), ih fun d hd => h d (by simp [hd])]
/-- a new list of these -/
def EL (K : PySem.W.Frag) (H0 : Hp) (te : TE) (es : Es) (ds : List D) : Prop := ∀ σ H, Same H0 H → Env K H σ es → ∀ Q : VK, (∀ A ws H', Same H H' → H A = none → H' A = some (.lst ws) → RpL K H' ws ds → Q (.ref A) H') → te σ H Q
theorem EL.ed {ds : List D} (h : EL K H0 te es ds) : ED K H0 te es (.lst ds) := fun σ H s e Q q => h σ H s e Q fun A ws H' s' _ hA r => q _ H' s' (.lst (SqL.of hA) r)
/-- [te for target in .. if tt]: the turns zs as data by g -/
theorem el_lcG {α : Type} {wi : TI} {g : TG} {vs : List Nat} {zs : List α} {c : α → D} (p : α → Bool) (f : α → D) (hi : EI K H0 wi es (zs.map c)) (hl : zs.length ≤ 1000) (hf : ∀ z ∈ zs, p z = true → noL (f z) = true) (esw : Es)
    (hw : ∀ σ H, Env K H σ es → Env K H (wipe σ vs) esw)
    (hg : ∀ z ∈ zs, ∃ es2, (∀ σ H v, Env K H σ es → Rp K H v (c z) → ∀ k : L2.St → Hp → Prop, (∀ σ', Env K H σ' es2 → wipe σ' vs = wipe σ vs → k σ' H) → g v (wipe σ vs) H k) ∧
      EB K H0 tt es2 (p z) ∧ (p z = true → ED K H0 te es2 (f z))) : EL K H0 (tLc wi g tt te vs) es ((zs.filter p).map f) := fun σ H s e Q q =>
  hi σ H s e _ fun J H1 G Y s1 w hG hst hY => by
    intro A hA
    rw [List.length_map] at w
    have s01 := s.trans s1
    refine lc_it (Qd := Q (.ref A)) w (fun i H' => Same H1 H' ∧ ∃ vs, H' A = some (.lst vs) ∧ RpL K H' vs (((zs.take i).filter p).map f)) ?_ (fun i H' _ h => hst _ _ h.1 hG) ?_ ?_
    · exact ⟨Same.new hA, [], upd_same, by rw [List.take_zero]; exact .nil⟩
    · rintro i x H2 H3 hi' ⟨s2, ws, hA2, hr⟩ y
      obtain ⟨s3, d, hd, r⟩ := hY i H2 x H3 (hst _ _ s2 hG) y
      rw [List.getElem?_map] at hd
      have hz : zs[i]? = some zs[i] := List.getElem?_eq_getElem hi'
      rw [hz] at hd
      have hd := Option.some.inj hd
      subst hd
      obtain ⟨es2, h1, h2, h3⟩ := hg zs[i] (List.getElem_mem hi')
      have s13 := s2.trans s3
      refine h1 σ H3 x ((e.same s1).same s13) r _ fun σ' e' hw' => ⟨hw', ?_⟩
      have ht : zs.take (i + 1) = zs.take i ++ [zs[i]] := by rw [List.take_succ, hz]; rfl
      refine h2 σ' H3 (s01.trans s13) e' _ fun H4 s4 => ?_
      cases hp : p zs[i] with
      | true =>
        rw [if_pos rfl]
        refine h3 hp σ' H4 ((s01.trans s13).trans s4) (e'.same s4) _ fun v H5 s5 r5 => ?_
        have s25 := (s3.trans s4).trans s5
        have hA5 := s25 _ _ hA2
        have hlen : ws.length < sizeLine := by
          rw [hr.length, List.length_map]
          refine small1000 (Nat.le_trans (List.length_filter_le _ _) ?_)
          rw [List.length_take]
          omega
        refine ⟨ws, hA5, hlen, fun b o hb => ?_, _, upd_same, ?_⟩
        · rw [upd_ne (ne_of_none hb hA)]
          exact s25 _ _ (s2 _ _ hb)
        · rw [ht, List.filter_append, List.map_append]
          have e1 : [zs[i]].filter p = [zs[i]] := by simp [hp]
          rw [e1]
          have T : TLe K H5 (upd H5 A (.lst (ws ++ [v]))) := TLe.lst hA5
          have n1 : noLs (((zs.take i).filter p).map f) = true := noLs_of fun d hd => by
            obtain ⟨z, hz1, rfl⟩ := List.mem_map.mp hd
            obtain ⟨hz2, hz3⟩ := List.mem_filter.mp hz1
            exact hf z (List.mem_of_mem_take hz2) hz3
          exact RpL.append (RpL.tle T _ _ n1 (RpL.same s25 _ _ hr)) (.cons (Rp.tle T _ _ (hf _ (List.getElem_mem hi') hp) r5) .nil)
      | false =>
        rw [if_neg Bool.false_ne_true]
        refine ⟨s13.trans s4, ws, (s3.trans s4) _ _ hA2, ?_⟩
        rw [ht, List.filter_append]
        have e1 : [zs[i]].filter p = [] := by simp [hp]
        rw [e1, List.append_nil]
        exact RpL.same (s3.trans s4) _ _ hr
    · rintro H' ⟨s2, ws, hA2, hr⟩
      rw [List.take_length] at hr
      exact q A ws H' (s1.trans s2) (s1.free hA) hA2 hr
theorem ed_lcG {α : Type} {wi : TI} {g : TG} {vs : List Nat} {zs : List α} {c : α → D} (p : α → Bool) (f : α → D) (hi : EI K H0 wi es (zs.map c)) (hl : zs.length ≤ 1000) (hf : ∀ z ∈ zs, p z = true → noL (f z) = true) (esw : Es)
    (hw : ∀ σ H, Env K H σ es → Env K H (wipe σ vs) esw)
    (hg : ∀ z ∈ zs, ∃ es2, (∀ σ H v, Env K H σ es → Rp K H v (c z) → ∀ k : L2.St → Hp → Prop, (∀ σ', Env K H σ' es2 → wipe σ' vs = wipe σ vs → k σ' H) → g v (wipe σ vs) H k) ∧
      EB K H0 tt es2 (p z) ∧ (p z = true → ED K H0 te es2 (f z))) : ED K H0 (tLc wi g tt te vs) es (.lst ((zs.filter p).map f)) := (el_lcG p f hi hl hf esw hw hg).ed
/-- [te for x in .. if tt], x in slot i -/
theorem el_lc {α : Type} {wi : TI} {i : Nat} {zs : List α} {c : α → D} (p : α → Bool) (f : α → D) (hi : EI K H0 wi es (zs.map c)) (hl : zs.length ≤ 1000) (hf : ∀ z ∈ zs, p z = true → noL (f z) = true)
    (hg : ∀ z ∈ zs, EB K H0 tt (es.set i (some (c z))) (p z) ∧ (p z = true → ED K H0 te (es.set i (some (c z))) (f z))) : EL K H0 (tLc wi (gName i) tt te [i]) es ((zs.filter p).map f) := by
  refine el_lcG p f hi hl hf (es.set i none) (fun σ H e => e.wipe1) fun z hz => ⟨es.set i (some (c z)), fun σ H v e r k q => ?_, hg z hz⟩
  refine q _ ?_ ?_
  · have := (e.wipe1 (i := i)).set r (i := i)
    rw [List.set_set, List.set_set] at this
    show Env K H ((σ.set i none).set i (some v)) _
    rw [List.set_set]
    exact this
  · show ((σ.set i none).set i (some v)).set i none = σ.set i none
    rw [List.set_set, List.set_set]
theorem ed_lc {α : Type} {wi : TI} {i : Nat} {zs : List α} {c : α → D} (p : α → Bool) (f : α → D) (hi : EI K H0 wi es (zs.map c)) (hl : zs.length ≤ 1000) (hf : ∀ z ∈ zs, p z = true → noL (f z) = true)
    (hg : ∀ z ∈ zs, EB K H0 tt (es.set i (some (c z))) (p z) ∧ (p z = true → ED K H0 te (es.set i (some (c z))) (f z))) : ED K H0 (tLc wi (gName i) tt te [i]) es (.lst ((zs.filter p).map f)) := (el_lc p f hi hl hf hg).ed
theorem set_four {α : Type} {l : List α} {i j : Nat} (hij : i ≠ j) {m n x y : α} : (((l.set j n).set i m).set i x).set j y = (l.set i x).set j y := by
  rw [List.set_set, List.set_comm _ _ (Ne.symm hij), List.set_set]
/-- .. for (x, y) in .., x in slot i, y in slot j -/
theorem ed_lc2 {α : Type} {wi : TI} {i j : Nat} (hij : i ≠ j) {zs : List α} {a b : α → D} (p : α → Bool) (f : α → D) (hi : EI K H0 wi es (zs.map fun z => .tup [a z, b z])) (hl : zs.length ≤ 1000) (hf : ∀ z ∈ zs, p z = true → noL (f z) = true)
    (hg : ∀ z ∈ zs, EB K H0 tt ((es.set i (some (a z))).set j (some (b z))) (p z) ∧ (p z = true → ED K H0 te ((es.set i (some (a z))).set j (some (b z))) (f z))) :
    ED K H0 (tLc wi (gTup K 2 (gCons (gName i) (gCons (gName j) gNil))) tt te [i, j]) es (.lst ((zs.filter p).map f)) := by
  refine ed_lcG p f hi hl hf ((es.set j none).set i none) (fun σ H e => e.wipe1.wipe1) fun z hz => ⟨(es.set i (some (a z))).set j (some (b z)), fun σ H v e r k q => ?_, hg z hz⟩
  obtain ⟨p, xs, rfl, hs, hr⟩ := r.tup_of
  obtain ⟨x, y, rfl, r1, r2⟩ := hr.two
  refine ⟨p, _, rfl, hs, rfl, x, [y], rfl, y, [], rfl, rfl, q _ ?_ ?_⟩
  · have h := ((e.wipe1 (i := j)).wipe1 (i := i)).set r1 (i := i)
    have h := h.set r2 (i := j)
    rw [set_four hij, set_four hij] at h
    show Env K H ((((σ.set j none).set i none).set i (some x)).set j (some y)) _
    rw [set_four hij]
    exact h
  · show ((((((σ.set j none).set i none).set i (some x)).set j (some y)).set j none).set i none) = (σ.set j none).set i none
    rw [set_four hij, List.set_set, List.set_comm _ _ hij, List.set_set]
end
end Sh

namespace Sh
open PySem L2
/-! ### the text by places -/
def top (i : Nat) : Stmt := PySem.Challenge.pw_scribehall_k19_whole_settled_by_many.main.body.getD i (.Pass ⟨0, 0, 0, 0⟩)
/-! ### a def as the top leaves it; a def with its promise -/
def Gd (K : PySem.W.Frag) (mg : Str → Option Value) (x : Str) (st : Stmt) (ps : List Str) : Prop := ∃ f fd, Fun K x x st f fd ∧ mg x = some (.ref f) ∧ Binds K fd ps []
def Ok (P : Program) (w : World) (K : PySem.W.Frag) (mg : Str → Option Value) (base : Heap) (k : Nat) (x : Str) (ps : List Str) (sp : Sp) : Prop :=
  ∃ f fd, FnOk P w K mg base CX0 k f fd ps sp ∧ mg x = some (.ref f) ∧ PySem.W.keepIn K (.ref f) = true ∧ Binds K fd ps []
section
variable {P : Program} {w : World} {K : PySem.W.Frag} {mg : Str → Option Value} {base : Heap}
theorem Gd.ok {x : Str} {st : Stmt} {ps N : List Str} {k : Nat} {sp : Sp} (g : Gd K mg x st ps) (S : FnScope N ps (defScope st)) (len : ∀ vs H Q E, sp vs H Q E → vs.length = ps.length)
    (h : ∀ (f : Addr) (cdv : Value) (A : Around) (outer : List PySem.Env) (s : Shared) (H : Hp) (vs : List V) (Q : VK) (E : XK), Room k (A.deeper (PyProof.Rows.envOfC x (defScope st) s.heap.objs.size f cdv)) → sp vs H Q E →
      ∃ t, PSs (cxOf CX0 P w K mg base N x (defScope st) f cdv A outer s H E).nox (defBody st) t ∧ t { nx := fun _ H' => Q .non H', rt := Q } (start N vs) H) : Ok P w K mg base (k + 1) x ps sp := by
  obtain ⟨f, fd, F, m, b⟩ := g
  exact ⟨f, fd, F.ok S len fun cdv A outer s H vs Q E hr hs => h f cdv A outer s H vs Q E hr hs, m, F.kp, b⟩
theorem Gd.pure {x : Str} {st : Stmt} {ps N : List Str} {k : Nat} {rel : Hp → List D → D → Prop} (g : Gd K mg x st ps) (S : FnScope N ps (defScope st)) (hl : ∀ H ds d, rel H ds d → ds.length = ps.length)
    (h : ∀ (f : Addr) (cdv : Value) (A : Around) (outer : List PySem.Env) (s : Shared) (H : Hp) (E : XK), Room k (A.deeper (PyProof.Rows.envOfC x (defScope st) s.heap.objs.size f cdv)) →
      ∃ t, PSs (cxOf CX0 P w K mg base N x (defScope st) f cdv A outer s H E).nox (defBody st) t ∧ ∀ ds d, rel H ds d → So K H t (begun N ds) (fun _ => False) (fun y => y = d)) : Ok P w K mg base (k + 1) x ps (spF K rel) :=
  g.ok S (spF_len hl) fun f cdv A outer s H vs Q E hr hs => let ⟨t, h1, h2⟩ := h f cdv A outer s H E hr; ⟨t, h1, spF_run hs h2⟩
end
/-! ### rules in short -/
section
variable {X : Cx} {a b c e o : Expr} {es : List Expr} {ta tb tc te : TE} {t : TA} {pos p : Pos}
theorem pe_fn {k j : Nat} {x : Str} {ps : List Str} {sp : Sp} (F : Ok X.prog X.w X.K X.mg X.base k x ps sp) (hr : Room j X.A) (ha : PA X (e :: es) t) (hk : k ≤ j := by decide) (hg : Gl X x := by rfl) (hdb : (x == ("__debug__" : Str)) = false := by decide)
    (he : starEach (e :: es) X.env = (false, eval e X.env) :: starEach es X.env := by rfl) (hpl : (backTo pos (starEach es X.env)).any (·.1) = false := by rfl) : PE X (.Call (.Name x p) (e :: es) [] pos) (tCall sp [] E0 t) := by
  obtain ⟨f, fd, G, m, kp, bd⟩ := F
  exact pe_call G (hr.mono hk) hg m kp bd .nil pass0 ha hdb he hpl
theorem px (ha : PE X a ta) (hb : PE X b tb) (hs : PlainIx b := by intro _ _; rfl) : PE X (.Subscript a b pos) (tOp (rIxT X.K) ta tb) := pe_ix ix_tup ha hb hs
theorem pxl (ha : PE X a ta) (hb : PE X b tb) (hs : PlainIx b := by intro _ _; rfl) : PE X (.Subscript a b pos) (tOp (rIxL X.K) ta tb) := pe_ix ix_list ha hb hs
abbrev rPlus : R2 := rI0 fun i j => .int (i + j)
abbrev rMinus : R2 := rI0 fun i j => .int (i - j)
abbrev rTimes : R2 := rI CMul fun i j => .int (i * j)
theorem pplus (ha : PE X a ta) (hb : PE X b tb) : PE X (.BinOp a .Add b pos) (tOp rPlus ta tb) := pe_op op_add ha hb
theorem pminus (ha : PE X a ta) (hb : PE X b tb) : PE X (.BinOp a .Sub b pos) (tOp rMinus ta tb) := pe_op op_sub ha hb
theorem ptimes (ha : PE X a ta) (hb : PE X b tb) : PE X (.BinOp a .Mult b pos) (tOp rTimes ta tb) := pe_op op_mul ha hb
theorem plen (hm : X.mg "len" = none) (ha : PE X a ta) (hg : Gl X "len" := by rfl) (he : starEach [a] X.env = (false, eval a X.env) :: starEach [] X.env := by rfl) : PE X (.Call (.Name "len" p) [a] [] pos) (tCB (rLenS X.K) (tCons ta tNil)) :=
  pe_callB call_lenS hg hm PySem.boot_len (pa_cons ha pa_nil he) (he := he)
end
section
variable {X : Cx} {pos : Pos}
/-- a number of the module's -/
theorem pgI {x : Str} {i : Int} {t : Tok} (hm : X.mg x = some (.int i t)) (hg : Gl X x := by rfl) (hd : (x == ("__debug__" : Str)) = false := by decide) : PE X (.Name x pos) (tC (.int i)) := pe_glob hg hm ⟨t, rfl⟩ hd
/-- a local name as a target -/
theorem pgl {x : Str} (i : Nat) (hN : X.N.Nodup) (hl : X.env.scope.names.lookup x = some .local := by rfl) (hi : X.N[i]? = some x := by rfl) : PG X (.Name x pos) (gName i) := pg_name hN hi (.inl hl) (.inr hl)
end
/-! ### rows, folds, logs as data -/
def deedD : Nat → D
  | 0 => .tup [.str "blank"]
  | 1 => .tup [.str "call", .int 1, .int 1, .tup [.str "many"]]
  | _ => .tup [.str "call", .int 2, .int 5, .tup [.str "read", .str "a"]]
def rowD (r : Row) : D := .tup [.int r.reign, deedD r.deed]
def rowsD (rs : List Row) : D := .tup (rs.map rowD)
def memD (m : Nat) : D := .tup ((List.range (m + 1)).map fun i => .int (i : Nat))
def foldD (fp fr m : Nat) : D := .tup [.int fp, .int fr, memD m, .str "book"]
def logD (L : Log) : D := .tup [foldD L.fp L.fr L.m, rowsD L.rows]
theorem noL_row (r : Row) : noL (rowD r) = true := by
  obtain ⟨g, d⟩ := r
  match d with
  | 0 => rfl
  | 1 => rfl
  | _ + 2 => rfl
theorem noL_rows (rs : List Row) : noL (rowsD rs) = true := by
  show noLs (rs.map rowD) = true
  exact noLs_of fun d hd => by
    obtain ⟨r, _, rfl⟩ := List.mem_map.mp hd
    exact noL_row r
theorem noL_mem (m : Nat) : noL (memD m) = true := by
  show noLs _ = true
  exact noLs_of fun d hd => by
    obtain ⟨r, _, rfl⟩ := List.mem_map.mp hd
    rfl
theorem noL_fold (a b c : Nat) : noL (foldD a b c) = true := by
  show noLs [.int a, .int b, memD c, .str "book"] = true
  simp [noLs, noL, noL_mem]
theorem noL_log (L : Log) : noL (logD L) = true := by
  show noLs [foldD L.fp L.fr L.m, rowsD L.rows] = true
  simp [noLs, noL_fold, noL_rows]
/-! ### what the pure defs tell -/
def relWhole : Hp → List D → D → Prop := fun _ ds d => ∃ i : Int, ds = [.int i] ∧ d = .bl true
def relAmong : Hp → List D → D → Prop := fun _ ds d => ∃ i a b : Int, ds = [.int i, .int a, .int b] ∧ d = .bl (decide (a ≤ i) && decide (i ≤ b))
def relMembers : Hp → List D → D → Prop := fun _ ds d => ∃ m : Nat, ds = [memD m] ∧ m ≤ 6 ∧ d = .bl true
def relNeedMem : Hp → List D → D → Prop := fun _ ds d => ∃ m : Nat, ds = [memD m] ∧ m ≤ 6 ∧ d = .non
def relManyOf : Hp → List D → D → Prop := fun _ ds d => ∃ m : Nat, ds = [memD m] ∧ m ≤ 6 ∧ d = .int (((m + 1) / 2 + 1 : Nat) : Int)
def relAreMany : Hp → List D → D → Prop := fun _ ds d => ∃ (m : Nat) (p : Nat → Bool), ds = [memD m, .lst (((List.range (m + 1)).filter p).map fun i => .int (i : Nat))] ∧ m ≤ 6 ∧ d = .bl (decide ((m + 1) / 2 + 1 ≤ ((List.range (m + 1)).filter p).length))
def relTold : Hp → List D → D → Prop := fun _ ds d => ds = [.str "book"] ∧ d = .bl true
def relIsFold : Hp → List D → D → Prop := fun _ ds d => ∃ fp fr m : Nat, ds = [foldD fp fr m] ∧ fp ≤ 1000000 ∧ fr ≤ 1000000 ∧ m ≤ 6 ∧ d = .bl true
def relNeedFold : Hp → List D → D → Prop := fun _ ds d => ∃ fp fr m : Nat, ds = [foldD fp fr m] ∧ fp ≤ 1000000 ∧ fr ≤ 1000000 ∧ m ≤ 6 ∧ d = .non
def relLast : Hp → List D → D → Prop := fun _ ds d => ∃ L : Log, ds = [logD L] ∧ d = .int (L.last : Nat)
def relHas : Hp → List D → D → Prop := fun _ ds d => ∃ (L : Log) (p : Nat), ds = [logD L, .int p] ∧ d = .bl (decide (L.fp < p ∧ p ≤ L.last))
def relReign : Hp → List D → D → Prop := fun _ ds d => ∃ (L : Log) (p : Nat), ds = [logD L, .int p] ∧ d = optD (reignAt L p)
def relRow : Hp → List D → D → Prop := fun _ ds d => ∃ (L : Log) (p : Nat) (r : Row), ds = [logD L, .int p] ∧ L.fp < p ∧ L.rows[p - L.fp - 1]? = some r ∧ d = rowD r
def relFrom : Hp → List D → D → Prop := fun _ ds d => ∃ (L : Log) (p n : Nat), ds = [logD L, .int p, .int n] ∧ L.fp < p ∧ p ≤ L.last + 1 ∧ d = rowsD ((L.rows.drop (p - L.fp - 1)).take n)
def relPut : Hp → List D → D → Prop := fun _ ds d => ∃ (L : Log) (b : Nat) (rs : List Row), ds = [logD L, .int b, rowsD rs] ∧ b ≤ L.last ∧ L.rows.length + rs.length ≤ 900 ∧ d = logD (putFrom L (b + 1) rs)
def relMemAt : Hp → List D → D → Prop := fun _ ds d => ∃ (L : Log), ds = [logD L, .int (L.last : Nat)] ∧ d = memD L.m
def relMemOf : Hp → List D → D → Prop := fun _ ds d => ∃ (L : Log), ds = [logD L] ∧ d = memD L.m
def relTaken : Hp → List D → D → Prop := fun _ ds d => ∃ (L : Log) (fp fr m : Nat), ds = [logD L, foldD fp fr m] ∧ fp ≤ 1000000 ∧ fr ≤ 1000000 ∧ m ≤ 6 ∧ d = logD (foldTaken L fp fr m)
end Sh

namespace Sh
open PySem L2
section
variable {P : Program} {w : World} {K : PySem.W.Frag} {mg : Str → Option Value} {base : Heap}
/-! is_whole, is_among -/
abbrev sWhole : Stmt := top 10
theorem scWhole : FnScope ["thing"] ["thing"] (defScope sWhole) := ⟨rfl, rfl, rfl, by decide +kernel, rfl, by decide +kernel, by decide +kernel⟩
theorem ed_isi {H0 : Hp} {es : Es} {te : TE} {T : String} {d : D} {b : Bool} (h : ED K H0 te es d) (hx : ∀ H v, Rp K H v d → ∃ t, TyX K H v t ∧ PySem.W.kitOne K t (.type T) = some b) : ED K H0 (tCB (rIsi K) (tCons te (tCons (tC (.ty T)) tNil))) es (.bl b) := fun σ H s e Q q =>
  h σ H s e _ fun v H1 s1 r1 => by
    obtain ⟨t, h1, h2⟩ := hx H1 v r1
    exact ⟨v, .ty T, t, .type T, b, rfl, .ty T, h1, h2, q _ H1 s1 (.bl b)⟩
theorem pisi {X : Cx} {a : Expr} {ta : TE} {p q pos : Pos} {T : Str} {n : String} (hm : X.mg "isinstance" = none) (hT : X.mg T = none) (hv : bootBuiltins T = some (.type n)) (ha : PE X a ta) (hn : T ≠ "__name__" := by decide) (hd : (T == ("__debug__" : Str)) = false := by decide) (hg : Gl X "isinstance" := by rfl) (hg2 : Gl X T := by rfl)
    (he : starEach [a, .Name T q] X.env = (false, eval a X.env) :: starEach [.Name T q] X.env := by rfl) (he2 : starEach [.Name T q] X.env = (false, eval (.Name T q) X.env) :: starEach [] X.env := by rfl) (hpl : (backTo pos (starEach [.Name T q] X.env)).any (·.1) = false := by rfl) :
    PE X (.Call (.Name "isinstance" p) [a, .Name T q] [] pos) (tCB (rIsi X.K) (tCons ta (tCons (tC (.ty n)) tNil))) :=
  pe_callB call_isi hg hm PyProof.Rows.boot_isinstance (pa_cons ha (pa_cons (pe_bltn hg2 hT hv rfl hn hd) pa_nil he2) he) (he := he) (hpl := hpl)
theorem isi_int {H : Hp} {i : Int} {v : V} (r : Rp K H v (.int i)) : ∃ t, TyX K H v t ∧ PySem.W.kitOne K t (.type "int") = some true := by
  rw [r.int_eq]
  exact ⟨_, .base (.int i), kit_ty (by decide +kernel)⟩
theorem isi_bool {H : Hp} {i : Int} {v : V} (r : Rp K H v (.int i)) : ∃ t, TyX K H v t ∧ PySem.W.kitOne K t (.type "bool") = some false := by
  rw [r.int_eq]
  exact ⟨_, .base (.int i), kit_ty (by decide +kernel)⟩
theorem ok_whole (g : Gd K mg "is_whole" sWhole ["thing"]) (m1 : mg "isinstance" = none) (m2 : mg "int" = none) (m3 : mg "bool" = none) : Ok P w K mg base 1 "is_whole" ["thing"] (spF K relWhole) := by
  refine g.pure scWhole (fun H ds d ⟨i, h1, h2⟩ => by rw [h1]; rfl) fun f cdv A outer s H E hr => ⟨_, pss_one (ps_ret (pe_and (pisi m1 m2 PyProof.Rows.boot_int (pv 0)) (pe_one (pe_not (pisi m1 m3 PyProof.Rows.boot_bool (pv 0)))))), ?_⟩
  · rintro ds d ⟨i, rfl, rfl⟩
    exact so_ret (ed_and (ed_isi (ed_var rfl) fun H v r => isi_int r) fun _ => ed_not (ed_isi (ed_var rfl) fun H v r => isi_bool r)) rfl
abbrev sAmong : Stmt := top 11
theorem scAmong : FnScope ["thing", "least", "most"] ["thing", "least", "most"] (defScope sAmong) := ⟨rfl, rfl, rfl, by decide +kernel, rfl, by decide +kernel, by decide +kernel⟩
theorem ok_among (g : Gd K mg "is_among" sAmong ["thing", "least", "most"]) (o1 : Ok P w K mg base 1 "is_whole" ["thing"] (spF K relWhole)) : Ok P w K mg base 2 "is_among" ["thing", "least", "most"] (spF K relAmong) := by
  refine g.pure scAmong (fun H ds d ⟨i, a, b, h1, h2⟩ => by rw [h1]; rfl) fun f cdv A outer s H E hr => ⟨_, pss_one (ps_ret (pe_and (pe_fn o1 hr (pa_cons (pv 0) pa_nil)) (pe_one (pe_chain op_le op_le (pv 1) (pv 0) (pv 2))))), ?_⟩
  · rintro ds d ⟨i, a, b, rfl, rfl⟩
    exact so_ret (ed_and (ed_call (ea_cons (ed_var rfl) ea_nil) fun _ _ => ⟨i, rfl, rfl⟩) fun _ => ed_chain (ed_var rfl) (ed_var rfl) (ed_var rfl)) rfl
end
end Sh

namespace Sh
open PySem L2
section
variable {K : PySem.W.Frag} {H0 : Hp} {es : Es} {ta tb te : TE} {tt : TT}
theorem ed_lc0 {α : Type} {wi : TI} {i : Nat} {zs : List α} {c : α → D} (f : α → D) (hi : EI K H0 wi es (zs.map c)) (hl : zs.length ≤ 1000) (hf : ∀ z ∈ zs, noL (f z) = true)
    (hg : ∀ z ∈ zs, ED K H0 te (es.set i (some (c z))) (f z)) : ED K H0 (tLc wi (gName i) tYes te [i]) es (.lst (zs.map f)) := by
  have h := ed_lc (K := K) (H0 := H0) (tt := tYes) (te := te) (i := i) (fun _ => true) f hi hl (fun z hz _ => hf z hz) fun z hz => ⟨fun σ H s e Q q => q H (Same.refl H), fun _ => hg z hz⟩
  have e : zs.filter (fun _ => true) = zs := List.filter_eq_self.mpr fun _ _ => rfl
  rw [e] at h
  exact h
theorem ed_lc20 {α : Type} {wi : TI} {i j : Nat} (hij : i ≠ j) {zs : List α} {a b : α → D} (f : α → D) (hi : EI K H0 wi es (zs.map fun z => .tup [a z, b z])) (hl : zs.length ≤ 1000) (hf : ∀ z ∈ zs, noL (f z) = true)
    (hg : ∀ z ∈ zs, ED K H0 te ((es.set i (some (a z))).set j (some (b z))) (f z)) :
    ED K H0 (tLc wi (gTup K 2 (gCons (gName i) (gCons (gName j) gNil))) tYes te [i, j]) es (.lst (zs.map f)) := by
  have h := ed_lc2 (K := K) (H0 := H0) (tt := tYes) (te := te) hij (fun _ => true) f hi hl (fun z hz _ => hf z hz) fun z hz => ⟨fun σ H s e Q q => q H (Same.refl H), fun _ => hg z hz⟩
  have e : zs.filter (fun _ => true) = zs := List.filter_eq_self.mpr fun _ _ => rfl
  rw [e] at h
  exact h
theorem ed_allM {α : Type} {zs : List α} {q : α → Bool} (h : ED K H0 te es (.lst (zs.map fun z => D.bl (q z)))) : ED K H0 (tCB (rAll K) (tCons te tNil)) es (.bl (zs.all q)) := by
  have e : zs.map (fun z => D.bl (q z)) = (zs.map q).map D.bl := by rw [List.map_map]; rfl
  rw [e] at h
  have h2 := ed_all h
  have e2 : (zs.map q).all id = zs.all q := by rw [List.all_map]; rfl
  rw [e2] at h2
  exact h2
theorem walk_zipT {a b : Addr} {xs ys : List V} {n : Nat} (hn : n = min xs.length ys.length) : Walk (RZ.ItzT K a b) n (fun H => SqT K H a xs ∧ SqT K H b ys) (YPair (fun i => xs[i]?) (fun i => ys[i]?)) := by
  subst hn
  refine ⟨fun i _ hi q => ?_, fun _ q => ⟨xs, ys, q.1, q.2, by omega⟩, fun i H v H' _ q y => ?_⟩
  · have h1 : i < xs.length := by omega
    have h2 : i < ys.length := by omega
    exact ⟨xs, ys, xs[i], ys[i], q.1, q.2, by simp [h1], by simp [h2]⟩
  · obtain ⟨T, x, z, h1, h2, h3, h4, h5⟩ := y
    exact ⟨T, x, z, h1, h2, h3, h4 xs q.1, h5 ys q.2⟩
theorem ei_zipT {xs ys : List D} {n : Nat} {a b : Nat → D} (h1 : ED K H0 ta es (.tup xs)) (h2 : ED K H0 tb es (.tup ys)) (hn : n = min xs.length ys.length) (ha : ∀ i, i < n → xs[i]? = some (a i)) (hb : ∀ i, i < n → ys[i]? = some (b i)) :
    EI K H0 (RZ.iZipA K (tCons ta (tCons tb tNil))) es ((List.range n).map fun i => .tup [a i, b i]) := fun σ H s e R q =>
  h1 σ H s e _ fun v H1 s1 r1 => h2 σ H1 (s.trans s1) (e.same s1) _ fun w H2 s2 r2 => by
    obtain ⟨p, us, rfl, hs1, hr1⟩ := (r1.same s2).tup_of
    obtain ⟨p2, ws, rfl, hs2, hr2⟩ := r2.tup_of
    refine ⟨p, p2, us, ws, rfl, .inr ⟨hs1, hs2, ?_⟩⟩
    refine q _ H2 (fun H => (SqT K H p us ∧ SqT K H p2 ws) ∧ RpL K H us xs ∧ RpL K H ws ys) (fun i H x H' => i < n ∧ YPair (fun i => us[i]?) (fun i => ws[i]?) i H x H') (s1.trans s2) ?_ ⟨⟨hs1, hs2⟩, hr1, hr2⟩
      (fun H3 H4 s g => ⟨⟨Same.sqT s g.1.1, Same.sqT s g.1.2⟩, RpL.same s _ _ g.2.1, RpL.same s _ _ g.2.2⟩) fun i H3 x H4 g y => ?_
    · rw [List.length_map, List.length_range]
      exact (walk_zipT (by rw [hr1.length, hr2.length]; exact hn)).mono (fun _ z => z.1) fun i H x H' hi _ y => ⟨hi, y⟩
    · obtain ⟨hi, T, x', y', rfl, hT, rfl, e1, e2⟩ := y
      have S := Same.new (o := .tup [x', y']) hT
      refine ⟨S, _, by rw [List.getElem?_map, List.getElem?_range hi]; rfl, .tup (SqT.of upd_same) ?_⟩
      obtain ⟨d1, q1, q2⟩ := g.2.1.getV e1
      obtain ⟨d2, q3, q4⟩ := g.2.2.getV e2
      rw [ha i hi] at q1
      rw [hb i hi] at q3
      cases q1
      cases q3
      exact .cons (q2.same S) (.cons (q4.same S) .nil)
theorem ed_inL {i : Int} {ns : List Int} (ha : ED K H0 ta es (.int i)) (hb : ED K H0 tb es (.lst (ns.map D.int))) : ED K H0 (tOp (rIn K false) ta tb) es (.bl (ns.any fun n => n == i)) :=
  ed_op2 ha hb fun x y H Q rx ry q => by
    obtain ⟨a, xs, rfl, hs, hr⟩ := ry.lst_of
    rw [hr.ints] at hs
    rw [rx.int_eq]
    refine ⟨a, _, rfl, .inl hs, rfl, by simp [flatV], ?_⟩
    have e : (if false = true then !inV (V.int i) (ns.map V.int) else inV (V.int i) (ns.map V.int)) = ns.any fun n => n == i := by
      rw [if_neg Bool.false_ne_true]
      unfold inV
      rw [List.any_map]
      rfl
    rw [e]
    exact q _ H (Same.refl H) (.bl _)
theorem isi_tup {H : Hp} {ds : List D} {v : V} (r : Rp K H v (.tup ds)) : ∃ t, TyX K H v t ∧ PySem.W.kitOne K t (.type "tuple") = some true := by
  obtain ⟨a, xs, rfl, hs, _⟩ := r.tup_of
  refine ⟨.type "tuple", ?_, kit_ty (by decide +kernel)⟩
  rcases hs with (h | ⟨o, h⟩) | ⟨o, its, n, h1, h2, _⟩
  · exact .base (.tup h)
  · exact .fTuple h
  · exact .kTuple h1 h2
theorem isi_str {H : Hp} {x : Str} {v : V} (r : Rp K H v (.str x)) : ∃ t, TyX K H v t ∧ PySem.W.kitOne K t (.type "str") = some true := by
  rw [r.str_eq]
  exact ⟨_, .base (.str x), kit_ty (by decide +kernel)⟩
end
section
variable {P : Program} {w : World} {K : PySem.W.Frag} {mg : Str → Option Value} {base : Heap}
theorem mem_len (m : Nat) : ((List.range (m + 1)).map fun i => D.int (i : Nat)).length = m + 1 := by rw [List.length_map, List.length_range]
/-! are_members -/
abbrev sMembers : Stmt := top 14
theorem scMembers : FnScope ["thing", "one", "other"] ["thing"] (defScope sMembers) := ⟨rfl, rfl, rfl, by decide +kernel, rfl, by decide +kernel, by decide +kernel⟩
theorem ok_members (g : Gd K mg "are_members" sMembers ["thing"]) (o1 : Ok P w K mg base 2 "is_among" ["thing", "least", "most"] (spF K relAmong)) (m1 : mg "isinstance" = none) (m2 : mg "tuple" = none) (m3 : mg "len" = none) (m4 : mg "all" = none) (m5 : mg "zip" = none)
    {t6 t7 : Tok} (m6 : mg "MOST_MEMBERS" = some (.int 7 t6)) (m7 : mg "LAST_SCRIBE" = some (.int 8 t7)) : Ok P w K mg base 3 "are_members" ["thing"] (spF K relMembers) := by
  refine g.pure scMembers (fun H ds d ⟨m, h1, h2⟩ => by rw [h1]; rfl) fun f cdv A outer s H E hr => ⟨_,
    pss_cons (ps_if (PW.pt (pw_or (pt_not (pt_val (pisi m1 m2 PyProof.Rows.boot_tuple (pv 0)))) (pw_or1 (pt_not (pt_chain op_le op_le pe_int (plen m3 (pv 0)) (pgI m6)))))) (pss_one (ps_ret pe_bl)) pss_nil)
    (pss_cons (ps_if (pt_not (pt_val (pe_callB (cr_all rfl) (by rfl) m4 PyProof.Rows.boot_all (pa_cons (pe_lc (own := [("one", 1)]) (g := gName 1) (tt := tYes) rfl scMembers.nd (pi_tup (pv 0)) (blkOk_by (N := ["thing", "one", "other"]) (sc := defScope sMembers) (by decide +kernel))
        (fun _ _ _ _ _ => pgl 1 scMembers.nd) (fun _ _ _ _ _ => pts_nil) (fun _ _ _ _ _ => pe_fn o1 hr (pa_cons (pv 1) (pa_cons pe_int (pa_cons (pgI m7) pa_nil))))) pa_nil)))) (pss_one (ps_ret pe_bl)) pss_nil)
    (pss_one (ps_ret (pe_callB (cr_all rfl) (by rfl) m4 PyProof.Rows.boot_all (pa_cons (pe_lc (own := [("one", 1), ("other", 2)]) (g := gTup K 2 (gCons (gName 1) (gCons (gName 2) gNil))) (tt := tYes) rfl scMembers.nd
      (RZ.pi_zipA rfl m5 (pa_cons (pv 0) (pa_cons (pe_slice sl_tupA (pv 0) (po_some pe_int) po_none) pa_nil))) (blkOk_by (N := ["thing", "one", "other"]) (sc := defScope sMembers) (by decide +kernel))
        (fun _ _ _ _ _ => pg_tup rfl (pgs_cons (pgl 1 scMembers.nd) (pgs_cons (pgl 2 scMembers.nd) pgs_nil))) (fun _ _ _ _ _ => pts_nil) (fun _ _ _ _ _ => pe_cmpR op_lt (pv 1) (pv 2) (nomark _))) pa_nil))))), ?_⟩
  rintro ds d ⟨m, rfl, hm, rfl⟩
  have el := mem_len m
  refine so_exit (eb_or (eb_not (eb_tB (ed_isi (ed_var rfl) fun H v r => isi_tup (show Rp K H v (.tup _) from r)))) fun _ => eb_not (eb_tTest (ed_chain ed_int (ed_lenT (ds := (List.range (m + 1)).map fun i => D.int (i : Nat)) (ed_var rfl)) ed_int))) (fun z => ?_) fun _ => ?_
  · refine so_never ?_
    rw [el] at z
    simp at z
    omega
  refine so_exit (eb_not (eb_tB (ed_allM (zs := List.range (m + 1)) (q := fun i => decide ((0 : Int) ≤ (i : Nat)) && decide (((i : Nat) : Int) ≤ 8)) (ed_lc0 (c := fun i => D.int (i : Nat)) _ (ei_tup (ed_var rfl)) (by rw [List.length_range]; omega) (fun _ _ => rfl) fun z hz =>
    ed_call (ea_cons (ed_var rfl) (ea_cons ed_int (ea_cons ed_int ea_nil))) fun _ _ => ⟨_, _, _, rfl, rfl⟩)))) (fun z => ?_) fun _ => ?_
  · refine so_never ?_
    have : (List.range (m + 1)).all (fun i => decide ((0 : Int) ≤ (i : Nat)) && decide (((i : Nat) : Int) ≤ 8)) = true := by
      rw [List.all_eq_true]
      intro i hi
      have := List.mem_range.mp hi
      simp
      omega
    rw [this] at z
    cases z
  have hcut : cut ((List.range (m + 1)).map fun i => D.int (i : Nat)) (some 1) none = ((List.range (m + 1)).map fun i => D.int (i : Nat)).drop 1 := by
    unfold cut
    have e1 : HT.sIx (m + 1) 0 (some 1) = 1 := by rw [show (1 : Int) = ((1 : Nat) : Int) from rfl, HT.sIx_nat]; omega
    have e2 : HT.sIx (m + 1) (m + 1) none = m + 1 := HT.sIx_none _ _
    rw [el, e1, e2]
    exact List.take_of_length_le (by rw [List.length_drop, el]; omega)
  refine so_ret (ed_allM (zs := List.range m) (q := fun i => decide (((i : Nat) : Int) < ((i + 1 : Nat) : Int))) (ed_lc20 (by decide) (a := fun i => D.int (i : Nat)) (b := fun i => D.int ((i + 1 : Nat) : Int)) _
    (ei_zipT (ed_var rfl) (ED.to (ed_slT (ed_var rfl) (eo_some ed_int) eo_none) (congrArg D.tup hcut)) ?_ (fun i hi => ?_) fun i hi => ?_) (by rw [List.length_range]; omega) (fun _ _ => rfl) fun z hz => ed_b2 (ed_var rfl) (ed_var rfl))) ?_
  · rw [List.length_drop, el]; omega
  · rw [List.getElem?_map, List.getElem?_range (by omega)]; rfl
  · rw [List.getElem?_drop, List.getElem?_map, List.getElem?_range (by omega)]
    show some (D.int ((1 + i : Nat) : Int)) = _
    rw [Nat.add_comm]
  · show D.bl _ = D.bl true
    congr 1
    rw [List.all_eq_true]
    intro i hi
    simp
    omega
/-! need_members, many_of, are_many -/
abbrev sNeedMem : Stmt := top 15
theorem scNeedMem : FnScope ["thing"] ["thing"] (defScope sNeedMem) := ⟨rfl, rfl, rfl, by decide +kernel, rfl, by decide +kernel, by decide +kernel⟩
theorem ok_needmem (g : Gd K mg "need_members" sNeedMem ["thing"]) (o1 : Ok P w K mg base 3 "are_members" ["thing"] (spF K relMembers)) : Ok P w K mg base 4 "need_members" ["thing"] (spF K relNeedMem) := by
  refine g.ok scNeedMem (spF_len fun H ds d ⟨m, h1, h2⟩ => by rw [h1]; rfl) fun f cdv A outer s H vs Q E hr hs => ⟨_,
    pss_one (ps_if (pt_not (pt_val (pe_fn o1 hr (pa_cons (pv 0) pa_nil)))) pss_never pss_nil), ?_⟩
  obtain ⟨_, _, r, ⟨m, rfl, hm, rfl⟩, k⟩ := hs
  refine (so_if (K := K) (H0 := H) (N := fun _ => True) (R := fun _ => False) (es := begun ["thing"] [memD m]) (eb_not (eb_tB (ed_call (ea_cons (ed_var rfl) ea_nil) fun _ _ => ⟨m, rfl, hm, rfl⟩))) (fun z => by cases z) fun _ => so_next True.intro) _ _ _ (Same.refl H) (Env.start r) (fun _ H' _ s _ _ => k _ H' s .non) fun _ _ _ _ _ z => z.elim
abbrev sManyOf : Stmt := top 16
theorem scManyOf : FnScope ["members"] ["members"] (defScope sManyOf) := ⟨rfl, rfl, rfl, by decide +kernel, rfl, by decide +kernel, by decide +kernel⟩
theorem so_expr {H0 : Hp} {es : Es} {te : TE} {d : D} {N : Es → Prop} {R : D → Prop} (h : ED K H0 te es d) (hN : N es) : So K H0 (tDrop te) es N R := fun σ H E s e kn kr => h σ H s e _ fun v H1 s1 _ => kn _ H1 _ s1 (e.same s1) hN
theorem so_seqexpr {H0 : Hp} {es : Es} {te : TE} {d : D} {N : Es → Prop} {R : D → Prop} {t2 : TS} (h : ED K H0 te es d) (h2 : So K H0 t2 es N R) : So K H0 (tSeq (tDrop te) t2) es N R :=
  so_seq (N1 := fun x => x = es) (so_expr h rfl) fun _ e => e ▸ h2
theorem ok_manyof (g : Gd K mg "many_of" sManyOf ["members"]) (o1 : Ok P w K mg base 4 "need_members" ["thing"] (spF K relNeedMem)) (m3 : mg "len" = none) : Ok P w K mg base 5 "many_of" ["members"] (spF K relManyOf) := by
  refine g.pure scManyOf (fun H ds d ⟨m, h1, h2⟩ => by rw [h1]; rfl) fun f cdv A outer s H E hr => ⟨_,
    pss_cons (ps_expr (pe_fn o1 hr (pa_cons (pv 0) pa_nil))) (pss_one (ps_ret (pplus (pe_op op_fdiv (plen m3 (pv 0)) pe_int) pe_int))), ?_⟩
  rintro ds d ⟨m, rfl, hm, rfl⟩
  refine so_seqexpr (ed_call (ea_cons (ed_var rfl) ea_nil) fun _ _ => ⟨m, rfl, hm, rfl⟩) (so_ret (ed_i2 (ed_i2c (ed_lenT (ds := (List.range (m + 1)).map fun i => D.int (i : Nat)) (ed_var rfl)) ed_int ⟨by decide, by decide⟩) ed_int) ?_)
  show D.int _ = D.int _
  congr 1
  rw [mem_len]
  omega
abbrev sAreMany : Stmt := top 17
theorem scAreMany : FnScope ["members", "scribes", "one"] ["members", "scribes"] (defScope sAreMany) := ⟨rfl, rfl, rfl, by decide +kernel, rfl, by decide +kernel, by decide +kernel⟩
theorem ok_aremany (g : Gd K mg "are_many" sAreMany ["members", "scribes"]) (o1 : Ok P w K mg base 4 "need_members" ["thing"] (spF K relNeedMem)) (o2 : Ok P w K mg base 5 "many_of" ["members"] (spF K relManyOf)) (m3 : mg "len" = none) :
    Ok P w K mg base 6 "are_many" ["members", "scribes"] (spF K relAreMany) := by
  refine g.pure scAreMany (fun H ds d ⟨m, p, h1, h2⟩ => by rw [h1]; rfl) fun f cdv A outer s H E hr => ⟨_,
    pss_cons (ps_expr (pe_fn o1 hr (pa_cons (pv 0) pa_nil))) (pss_one (ps_ret (pe_cmpR op_ge (plen m3 (pe_lc (own := [("one", 2)]) (g := gName 2) (tt := tTest (tOp (rIn K false) (tVar 2) (tVar 1))) rfl scAreMany.nd (pi_tup (pv 0)) (blkOk_by (N := ["members", "scribes", "one"]) (sc := defScope sAreMany) (by decide +kernel))
        (fun _ _ _ _ _ => pgl 2 scAreMany.nd) (fun _ _ _ _ _ => pts_one (pt_cmpR op_in_seq (pv 2) (pv 1) rfl)) (fun _ _ _ _ _ => pv 2))) (pe_fn o2 hr (pa_cons (pv 0) pa_nil)) (nomark _)))), ?_⟩
  rintro ds d ⟨m, p, rfl, hm, rfl⟩
  have hz : ((List.range (m + 1)).filter fun z : Nat => (((List.range (m + 1)).filter p).map fun i => ((i : Nat) : Int)).any fun n => n == (z : Int)) = (List.range (m + 1)).filter p := by
    refine List.filter_congr fun z hz => ?_
    rw [List.any_map, Bool.eq_iff_iff, List.any_eq_true]
    constructor
    · rintro ⟨x, hx, hxz⟩
      have hxz : ((x : Nat) : Int) = z := by simpa using hxz
      have : x = z := by omega
      subst this
      exact (List.mem_filter.mp hx).2
    · intro h
      exact ⟨z, List.mem_filter.mpr ⟨hz, h⟩, by simp⟩
  refine so_seqexpr (ed_call (ea_cons (ed_var rfl) ea_nil) fun _ _ => ⟨m, rfl, hm, rfl⟩) (so_ret (ed_b2 (ed_lenL (ed_lc (zs := List.range (m + 1)) (c := fun i => D.int (i : Nat)) (fun z : Nat => (((List.range (m + 1)).filter p).map fun i => ((i : Nat) : Int)).any fun n => n == (z : Int)) (fun z => D.int (z : Nat))
    (ei_tup (ed_var rfl)) (by rw [List.length_range]; omega) (fun _ _ _ => rfl) fun z hz' => ⟨eb_tTest (ed_inL (ed_var rfl) (ed_var ?_)), fun _ => ed_var rfl⟩)) (ed_call (ea_cons (ed_var rfl) ea_nil) fun _ _ => ⟨m, rfl, hm, rfl⟩)) ?_)
  · show some (some (D.lst (((List.range (m + 1)).filter p).map fun i => D.int (i : Nat)))) = _
    rw [List.map_map]
    rfl
  · show D.bl _ = D.bl _
    congr 1
    rw [List.length_map, hz, decide_eq_decide]
    omega
end
end Sh

/-! for i, x in enumerate(t), t a tuple -/
namespace Sh
open PySem PySem.Spec PyProof.Rows L2
theorem meets_enumerate_new1 {v : Value} {o : Obj} {H : Heap → Prop} (B : Begins v o H) :
    Meets (Builtin.«enumerate.__new__» ⟨[.type "enumerate", v], []⟩) (fun _ R s => H s.heap ∧
      R (.ok (.ret (.ref (s.heap.push o).objs.size))) { s with heap := (s.heap.push o).push { cls := .type "enumerate", data := .fields #[.none, .bool false, .ref s.heap.objs.size, rawInt 0, .none, .none] } }) :=
  .of_wp fun prog w A R s h => by
    obtain ⟨hp, g, d, tk, os⟩ := s; obtain ⟨h1, h⟩ := h
    have hsub := sub_enumerate
    have q1 : ∀ {A' : Around} {E : Value → Shared → Prop} {Q : Value → Shared → Prop}, Q (.ref hp.objs.size) ⟨hp.push o, g, d, tk, os⟩ → wpAny (model prog w) A' (pyIter v) Q E ⟨hp, g, d, tk, os⟩ :=
      fun q => B.iter prog w _ _ ⟨hp, g, d, tk, os⟩ _ h1 q
    wp_walk using q1
    refine wpAny_stack_any fun st => wpAny_pure ?_
    split
    · rename_i c _ _ _ _ _
      cases (c == Value.type "enumerate")
      · wp_walk using q1
        exact ⟨_, rfl, h⟩
      · wp_walk using q1
        exact ⟨_, rfl, h⟩
    · wp_walk using q1
      exact ⟨_, rfl, h⟩
section
variable {prog : Program} {w : World} {A : Around} {E : Value → Shared → Prop} {s : Shared}
theorem call_enumerate_B {v : Value} {o : Obj} {H : Heap → Prop} {Q : Value → Shared → Prop} (B : Begins v o H) (h1 : H s.heap)
    (h : ∀ h', IsEnum h' (s.heap.objs.size + 1) s.heap.objs.size 0 .none → h'.get? s.heap.objs.size = some o → h'.objs.size = s.heap.objs.size + 2 →
      (∀ b o, s.heap.get? b = some o → h'.get? b = some o) → Q (.ref (s.heap.objs.size + 1)) { s with heap := h' }) :
    wpAny (model prog w) A (call (.type "enumerate") [v]) Q E s := by
  refine callType_new F.called_enumerate (by decide) (F.typeCall_enumerate_1 _) (F.newCall_enumerate_1 _) (fun obj => F.args_object_init_2 obj _) F.entry_enumerate_new
    (meets_enumerate_new1 B) ⟨h1, ?_⟩
  have hz : (s.heap.push o).objs.size = s.heap.objs.size + 1 := Heap.size_push ..
  show _ ∧ _
  rw [hz]
  have he : IsEnum ((s.heap.push o).push { cls := .type "enumerate", data := .fields #[.none, .bool false, .ref s.heap.objs.size, rawInt 0, .none, .none] }) (s.heap.objs.size + 1) s.heap.objs.size 0 .none := by
    have := Heap.get?_push_size (s.heap.push o) (o := { cls := .type "enumerate", data := .fields #[.none, .bool false, .ref s.heap.objs.size, rawInt 0, .none, .none] }) rfl
    rw [hz] at this; exact this
  refine ⟨⟨_, he, rfl⟩, h _ he (Heap.get?_push_of_some _ (Heap.get?_push_size _ B.free)) (by rw [Heap.size_push, hz]) fun b o x => Heap.get?_push_of_some _ (Heap.get?_push_of_some _ x)⟩
theorem wpAny_pyNext_enum_endT {e it l : Addr} {i : Nat} {items : Array Value} {old : Value} {c : Int} {Q : Option Value → Shared → Prop} (hh : A.handled = none)
    (he : IsEnum s.heap e it c old) (hit : s.heap.IsTupleIter it l i) (hl : s.heap.IsTuple l items) (hx : items[i]? = none)
    (hQ : ∀ h', Heap.ExtBut it s.heap h' → Q none { s with heap := h' }) : wpAny (model prog w) A (pyNext (.ref e)) Q E s := by
  have hT : s.TypeIs (.ref e) "enumerate" := ⟨_, he, rfl⟩
  unfold pyNext
  refine wpAny_bind (wpAny_attempt (wpAny_callSpecial?_slot (name := Str.ofString "__next__") hT F.slot_enumerate_next
    (wpAny_call_entry F.slot_enumerate_next hT F.entry_enumerate_next ?_ (F.args_enumerate_next_1 _))))
  show wpAny _ _ (field (.ref e) 2 >>= _) _ _ _
  refine wpAny_bind (wpAny_field he rfl (x := .ref it) rfl ?_)
  refine wpAny_bind (wpAny_nextOf_tuple_end hh hit hl hx fun h' x he' hx' => ?_)
  obtain ⟨o, ho, hc⟩ := hx'
  refine wpAny_bind (wpAny_isInstance (T := "StopIteration") (b := true) ⟨o, ho, hc⟩ isSubtype_stop ?_)
  exact wpAny_pure (hQ _ he')
end
/-- the tuple at a, each item in a new pair -/
def IteT (K : PySem.W.Frag) (a : Addr) : It :=
  ⟨fun i H => ∃ (xs : List V) (x : V), SqT K H a xs ∧ xs[i]? = some x, fun i H v H' => ∃ T x, v = .ref T ∧ H T = none ∧ H' = upd H T (.tup [.int (i : Nat), x]) ∧ ∀ xs, SqT K H a xs → xs[i]? = some x, fun i H => ∃ xs : List V, SqT K H a xs ∧ xs.length ≤ i⟩
theorem turn_enumT {P : Program} {w : World} {K : PySem.W.Frag} {elts : List Expr} {kk : Nat} {tpos : Pos} (a e it : Addr) :
    Turn P w K (.Tuple elts kk tpos) (IteT K a) [e, it] e (fun i h => (∃ old, IsEnum h e it ((i : Nat) : Int) old) ∧ h.IsTupleIter it a i ∧ e ≠ it) where
  mem := by simp
  obj := fun i h st b hb => by
    obtain ⟨⟨old, he⟩, ⟨o, ho, hc, hd⟩, _⟩ := st
    have e' : b = e ∨ b = it := by simpa using hb
    rcases e' with z | z
    · rw [z]; exact ⟨_, he, fun v q => nomatch q⟩
    · rw [z]; exact ⟨o, ho, fun v q => by rw [hd] at q; cases q⟩
  keep := fun i h h' st k => let ⟨⟨old, he⟩, hi, hne⟩ := st; ⟨⟨old, k e (by simp) _ he⟩, hi.at fun o q => k it (by simp) o q, hne⟩
  item := by
    intro X hP hw hK hc i pins s σ H E I hf st hg
    subst hP hw hK
    obtain ⟨⟨old, he⟩, hit, hne⟩ := st
    obtain ⟨xs, x, hq, hx⟩ := hg
    obtain ⟨its, rv, p, hz⟩ := I.tuple hq
    obtain ⟨u, hu, ru⟩ := rv.get hx
    have hel : e < s.heap.objs.size := Heap.lt_size he
    have hil : it < s.heap.objs.size := by obtain ⟨_, q, _⟩ := hit; exact Heap.lt_size q
    have pt : s.heap.IsTuple a its.toArray := p
    have hai : a ≠ it := fun z => by
      obtain ⟨o1, h1, h2, n1, h3⟩ := p
      obtain ⟨o2, h4, h5, h6⟩ := hit
      rw [z, h4] at h1
      have h1 := Option.some.inj h1
      rw [← h1, h5] at h2
      exact absurd (Value.type.inj h2) (by decide)
    have hae : a ≠ e := fun z => by
      obtain ⟨o1, h1, h2, n1, h3⟩ := p
      have he' : s.heap.get? e = some _ := he
      rw [z, he'] at h1
      have h1 := Option.some.inj h1
      rw [← h1] at h2
      exact absurd (Value.type.inj h2) (by decide)
    have hlt : i < its.toArray.size := by
      have := (List.getElem?_eq_some_iff.mp hu).1
      simpa using this
    refine PySem.wpAny_pyNext_enum_itemC (Draws.tuple (prog := X.prog) (w := X.w) (A := X.A.in1) (show X.A.in1.handled = none from I.ok.hd hc) it a hai its.toArray) he ⟨hit, pt⟩ hlt hne (by simp; exact ⟨hne, Ne.symm hae⟩) fun x' h' tk hP ho hst' hT hsz hk => ?_
    obtain ⟨hit', _⟩ := hst'
    have ex : x' = u := by
      have h1 : its.toArray[i]? = some x' := hP
      have h2 : its.toArray[i]? = some u := by simpa using hu
      rw [h1] at h2
      exact Option.some.inj h2
    subst ex
    refine ⟨_, rfl, wpAny_letOwnedTupleGo_enum (s := { s with heap := h', toks := tk + 1 }) ho fun h'' he' sb => ?_⟩
    have hT2 : h''.get? s.heap.objs.size = some { cls := .type "tuple", data := .seq #[.int i tk, x'] } := (sb.2 _ (Nat.ne_of_gt hel)).trans hT
    have new : ObjOk X.prog X.w (upd H s.heap.objs.size (.tup [.int (i : Nat), x])) h'' s.heap.objs.size (.tup [.int (i : Nat), x]) :=
      ⟨by show 2 ≤ sizeLine; decide, [.int i tk, x'], .cons ⟨_, rfl⟩ (.cons ru .nil), ⟨_, hT2, rfl, _, rfl⟩⟩
    have I1 : Inv X pins σ (upd H s.heap.objs.size (.tup [.int (i : Nat), x])) { s with heap := h'', toks := tk + 1 } :=
      I.turnedNew (ch := [e, it]) (fun b ob hb q => (sb.2 b (fun z => hb (by simp [z]))).trans (hk b ob (fun z => hb (by simp [z])) (fun z => hb (by simp [z])) q)) hf (Nat.le_refl _) new
    refine ⟨.ref s.heap.objs.size, _, I1, rfl, ⟨_, x, rfl, I.hok.fresh (Nat.le_refl _), rfl, fun ys hy => by rw [I.tuple_inj hy hq]; exact hx⟩, ⟨⟨x', ?_⟩, hit'.at fun o q => (sb.2 it (Ne.symm hne)).trans q, hne⟩, fun b hb => ?_⟩
    · have e1 : ((i + 1 : Nat) : Int) = (i : Int) + 1 := by omega
      rw [e1]; exact he'
    · have hb' : b < s.heap.objs.size := by
        have e' : b = e ∨ b = it := by simpa using hb
        rcases e' with z | z
        · rw [z]; exact hel
        · rw [z]; exact hil
      rw [upd_ne (Nat.ne_of_lt hb')]
      exact (hf b hb).1
  done := by
    intro X hP hw hK hc i pins s σ H E I hf st hg
    subst hP hw hK
    obtain ⟨⟨old, he⟩, hit, hne⟩ := st
    obtain ⟨xs, hq, hx⟩ := hg
    obtain ⟨its, rv, p, hz⟩ := I.tuple hq
    obtain ⟨f0, f1, f2, f3, f4, f5⟩ := hf it (by simp)
    have hl := rv.length
    have pt : s.heap.IsTuple a its.toArray := p
    have hai : a ≠ it := fun z => by
      obtain ⟨o1, h1, h2, n1, h3⟩ := p
      obtain ⟨o2, h4, h5, h6⟩ := hit
      rw [z, h4] at h1
      have h1 := Option.some.inj h1
      rw [← h1, h5] at h2
      exact absurd (Value.type.inj h2) (by decide)
    obtain ⟨i', hi'⟩ : ∃ k, i = its.length + k := ⟨i - its.length, by omega⟩
    refine wpAny_pyNext_enum_endT (I.ok.hd hc) he hit pt (by simp; omega) fun h' eb => ⟨rfl, I.turned (t' := s.toks) (fun b o hb q => eb b o hb q) f0 f1 f3 f4 f5⟩
  self := fun A i s Q E st h => let ⟨⟨_, he⟩, _⟩ := st; wpAny_pyIter_enum he h
def iEnumT (K : PySem.W.Frag) (ta : TA) : TI := fun σ H R => ta σ H fun vs H1 => ∃ a xs, vs = [.ref a] ∧ SqT K H1 a xs ∧ R (IteT K a) H1
theorem pi_enumT {X : Cx} {e : Expr} {ta : TA} {p pos tpos : Pos} {elts : List Expr} {kk : Nat} (hm : X.mg "enumerate" = none) (ha : PA X [e] ta) (hg : Gl X "enumerate" := by rfl) (hs : starEach [e] X.env = [(false, eval e X.env)] := by rfl) :
    PI X (.Tuple elts kk tpos) (.Call (.Name "enumerate" p) [e] [] pos) (iEnumT X.K ta) := by
  refine ⟨fun pins s σ H R I h => ?_⟩
  refine Call_ (ld_blt I hg hm boot_enumerate (PyProof.Rows.callWith_type1 (thn (ha.run pos pins s σ H _ I h) fun us s1 ⟨vs, H1, I1, r1, q1⟩ => ?_) hs rfl))
  obtain ⟨a, xs, ex, hq, q⟩ := q1
  subst ex
  cases r1 with
  | cons r rr =>
    cases rr
    cases r
    obtain ⟨its, rv, p', hz⟩ := I1.tuple hq
    have pt : s1.heap.IsTuple a its.toArray := p'
    refine call_enumerate_B (begins_tuple a its.toArray) pt fun h' he hit hsz hk => wpAny_pyIter_enum he ?_
    have I2 : Inv X pins σ H1 { s1 with heap := h' } := I1.kept (t' := s1.toks) hk
    refine ⟨s1.heap.objs.size + 1, [s1.heap.objs.size + 1, s1.heap.objs.size], _, _, H1, rfl, I2, turn_enumT a (s1.heap.objs.size + 1) s1.heap.objs.size, ⟨⟨.none, he⟩, ⟨_, hit, rfl, rfl⟩, Nat.succ_ne_self _⟩, fun b hb => ?_, q⟩
    have e' : b = s1.heap.objs.size + 1 ∨ b = s1.heap.objs.size := by simpa using hb
    have hle : s1.heap.objs.size ≤ b := by
      rcases e' with z | z
      · rw [z]; exact Nat.le_add_right _ _
      · rw [z]; exact Nat.le_refl _
    exact I1.fpOk hle (I1.hok.fresh hle)
theorem walk_enumT {K : PySem.W.Frag} {a : Addr} {xs : List V} : Walk (IteT K a) xs.length (fun H => SqT K H a xs) (YPair (fun i => some (.int (i : Nat))) (fun i => xs[i]?)) := by
  refine ⟨fun i _ hi q => ⟨xs, xs[i], q, by simp [hi]⟩, fun _ q => ⟨xs, q, Nat.le_refl _⟩, fun i H v H' _ q y => ?_⟩
  obtain ⟨T, x, h1, h2, h3, h4⟩ := y
  exact ⟨T, .int (i : Nat), x, h1, h2, h3, rfl, h4 xs q⟩
/-- the pairs (i, the i-th) -/
theorem ei_enumT {K : PySem.W.Frag} {H0 : Hp} {es : Es} {te : TE} {ys : List D} {f : Nat → D} (h : ED K H0 te es (.tup ys)) (hf : ∀ i, i < ys.length → ys[i]? = some (f i)) :
    EI K H0 (iEnumT K (tCons te tNil)) es ((List.range ys.length).map fun i => .tup [.int (i : Nat), f i]) := fun σ H s e R q =>
  h σ H s e _ fun v H1 s1 r1 => by
    obtain ⟨a, xs, rfl, hs, hr⟩ := r1.tup_of
    refine ⟨a, xs, rfl, hs, ?_⟩
    refine q _ H1 (fun H => SqT K H a xs ∧ RpL K H xs ys) (fun i H x H' => i < ys.length ∧ YPair (fun i => some (.int (i : Nat))) (fun i => xs[i]?) i H x H') s1 ?_ ⟨hs, hr⟩
      (fun H2 H3 s2 g => ⟨Same.sqT s2 g.1, RpL.same s2 _ _ g.2⟩) fun i H2 x H3 g y => ?_
    · rw [List.length_map, List.length_range, ← hr.length]
      exact walk_enumT.mono (fun _ z => z.1) fun i H x H' hi _ y => ⟨hi, y⟩
    · obtain ⟨hi, T, x', y', rfl, hT, rfl, e1, e2⟩ := y
      have S := Same.new (o := .tup [x', y']) hT
      refine ⟨S, _, by rw [List.getElem?_map, List.getElem?_range hi]; rfl, .tup (SqT.of upd_same) ?_⟩
      have e1 := Option.some.inj e1
      subst e1
      obtain ⟨d2, q3, q4⟩ := g.2.getV e2
      rw [hf i hi] at q3
      cases q3
      exact .cons (.int _) (.cons (q4.same S) .nil)
end Sh

namespace Sh
open PySem L2
theorem atI_of {α : Type} {xs : List α} {z : Int} {j : Nat} {v : α} (e : z = (j : Int)) (h : xs[j]? = some v) : atI xs z = some v := by
  rw [e]
  exact atI_nat h
theorem cut_nn {α : Type} (xs : List α) {x y : Int} (a b : Nat) (ea : x = (a : Int)) (eb : y = (b : Int)) : cut xs (some x) (some y) = (xs.drop a).take (b - a) := by
  subst ea eb
  unfold cut
  rw [HT.sIx_nat, HT.sIx_nat]
  by_cases h : a ≤ xs.length
  · rw [Nat.min_eq_left h]
    by_cases h2 : b ≤ xs.length
    · rw [Nat.min_eq_left h2]
    · rw [Nat.min_eq_right (by omega), List.take_of_length_le (by rw [List.length_drop]; omega), List.take_of_length_le (by rw [List.length_drop]; omega)]
  · rw [List.drop_of_length_le (show xs.length ≤ min a xs.length by omega), List.drop_of_length_le (show xs.length ≤ a by omega), List.take_nil, List.take_nil]
theorem cut_n0 {α : Type} (xs : List α) {x : Int} (a : Nat) (ea : x = (a : Int)) : cut xs (some x) none = xs.drop a := by
  subst ea
  unfold cut
  rw [HT.sIx_nat, HT.sIx_none]
  by_cases h : a ≤ xs.length
  · rw [Nat.min_eq_left h]
    exact List.take_of_length_le (by rw [List.length_drop]; omega)
  · rw [List.drop_of_length_le (show xs.length ≤ min a xs.length by omega), List.drop_of_length_le (show xs.length ≤ a by omega), List.take_nil]
theorem cut_0n {α : Type} (xs : List α) {y : Int} (b : Nat) (eb : y = (b : Int)) : cut xs none (some y) = xs.take b := by
  subst eb
  unfold cut
  rw [HT.sIx_nat, HT.sIx_none, List.drop_zero]
  by_cases h : b ≤ xs.length
  · rw [Nat.min_eq_left h]; rfl
  · rw [Nat.min_eq_right (by omega)]
    show xs.take (xs.length - 0) = _
    rw [List.take_of_length_le (by omega), List.take_of_length_le (by omega)]
section
variable {P : Program} {w : World} {K : PySem.W.Frag} {mg : Str → Option Value} {base : Heap}
/-! is_told, is_fold, need_fold -/
abbrev sTold : Stmt := top 19
theorem scTold : FnScope ["thing"] ["thing"] (defScope sTold) := ⟨rfl, rfl, rfl, by decide +kernel, rfl, by decide +kernel, by decide +kernel⟩
theorem ok_told (g : Gd K mg "is_told" sTold ["thing"]) (m1 : mg "isinstance" = none) (m2 : mg "str" = none) : Ok P w K mg base 1 "is_told" ["thing"] (spF K relTold) := by
  refine g.pure scTold (fun H ds d ⟨h1, h2⟩ => by rw [h1]; rfl) fun f cdv A outer s H E hr => ⟨_, pss_one (ps_ret (pe_and (pisi m1 m2 PyProof.Rows.boot_str (pv 0)) (pe_one (pe_cmpR op_notInS pe_str (pv 0) rfl)))), ?_⟩
  rintro ds d ⟨rfl, rfl⟩
  refine so_ret (ed_and (ed_isi (ed_var rfl) fun H v r => isi_str r) fun _ => ed_notInS ed_str (ed_var rfl)) ?_
  show D.bl _ = D.bl true
  congr 1
  decide +kernel
abbrev sIsFold : Stmt := top 20
theorem scIsFold : FnScope ["thing"] ["thing"] (defScope sIsFold) := ⟨rfl, rfl, rfl, by decide +kernel, rfl, by decide +kernel, by decide +kernel⟩
theorem ok_isfold (g : Gd K mg "is_fold" sIsFold ["thing"]) (o1 : Ok P w K mg base 2 "is_among" ["thing", "least", "most"] (spF K relAmong)) (o2 : Ok P w K mg base 3 "are_members" ["thing"] (spF K relMembers)) (o3 : Ok P w K mg base 1 "is_told" ["thing"] (spF K relTold))
    (m1 : mg "isinstance" = none) (m2 : mg "tuple" = none) (m3 : mg "len" = none) {t4 : Tok} (m4 : mg "MOST" = some (.int 1000000 t4)) : Ok P w K mg base 4 "is_fold" ["thing"] (spF K relIsFold) := by
  refine g.pure scIsFold (fun H ds d ⟨fp, fr, m, h1, h2⟩ => by rw [h1]; rfl) fun f cdv A outer s H E hr => ⟨_,
    pss_cons (ps_if (PW.pt (pw_or (pt_not (pt_val (pisi m1 m2 PyProof.Rows.boot_tuple (pv 0)))) (pw_or1 (pt_cmpR op_ne (plen m3 (pv 0)) pe_int (nomark _))))) (pss_one (ps_ret pe_bl)) pss_nil)
    (pss_cons (ps_if (PW.pt (pw_or (pt_not (pt_val (pe_fn o1 hr (pa_cons (px (pv 0) pe_int) (pa_cons pe_int (pa_cons (pgI m4) pa_nil)))))) (pw_or1 (pt_not (pt_val (pe_fn o1 hr (pa_cons (px (pv 0) pe_int) (pa_cons pe_int (pa_cons (pgI m4) pa_nil))))))))) (pss_one (ps_ret pe_bl)) pss_nil)
    (pss_one (ps_ret (pe_and (pe_fn o2 hr (pa_cons (px (pv 0) pe_int) pa_nil)) (pe_one (pe_fn o3 hr (pa_cons (px (pv 0) pe_int) pa_nil))))))), ?_⟩
  rintro ds d ⟨fp, fr, m, rfl, h1, h2, h3, rfl⟩
  have among : ∀ {es : Es} {te : TE} {n : Nat}, ED K H te es (.int n) → n ≤ 1000000 → EB K H (tNot (tB (tCall (spF K relAmong) [] E0 (tCons te (tCons (tC (.int 0)) (tCons (tC (.int 1000000)) tNil)))))) es false := fun h hn =>
    EB.to (eb_not (eb_tB (ed_call (ea_cons h (ea_cons ed_int (ea_cons ed_int ea_nil))) fun _ _ => ⟨_, _, _, rfl, rfl⟩))) (by simp; omega)
  refine so_exit (eb_or (eb_not (eb_tB (ed_isi (ed_var rfl) fun H v r => isi_tup (show Rp K H v (.tup _) from r)))) fun _ => eb_tTest (ed_neI (ed_lenT (ds := [.int fp, .int fr, memD m, .str "book"]) (ed_var rfl)) ed_int)) (fun z => so_never (by simp at z)) fun _ => ?_
  refine so_exit (eb_or (among (ed_ixT (ed_var rfl) ed_int rfl) h1) fun _ => among (ed_ixT (ed_var rfl) ed_int rfl) h2) (fun z => so_never (by simp at z)) fun _ => ?_
  exact so_ret (ed_and (ed_call (ea_cons (ed_ixT (ed_var rfl) ed_int rfl) ea_nil) fun _ _ => ⟨m, rfl, h3, rfl⟩) fun _ => ed_call (ea_cons (ed_ixT (ed_var rfl) ed_int rfl) ea_nil) fun _ _ => ⟨rfl, rfl⟩) rfl
abbrev sNeedFold : Stmt := top 21
theorem scNeedFold : FnScope ["thing"] ["thing"] (defScope sNeedFold) := ⟨rfl, rfl, rfl, by decide +kernel, rfl, by decide +kernel, by decide +kernel⟩
theorem ok_needfold (g : Gd K mg "need_fold" sNeedFold ["thing"]) (o1 : Ok P w K mg base 4 "is_fold" ["thing"] (spF K relIsFold)) : Ok P w K mg base 5 "need_fold" ["thing"] (spF K relNeedFold) := by
  refine g.ok scNeedFold (spF_len fun H ds d ⟨fp, fr, m, h1, h2⟩ => by rw [h1]; rfl) fun f cdv A outer s H vs Q E hr hs => ⟨_,
    pss_one (ps_if (pt_not (pt_val (pe_fn o1 hr (pa_cons (pv 0) pa_nil)))) pss_never pss_nil), ?_⟩
  obtain ⟨_, _, r, ⟨fp, fr, m, rfl, h1, h2, h3, rfl⟩, k⟩ := hs
  refine (so_if (K := K) (H0 := H) (N := fun _ => True) (R := fun _ => False) (es := begun ["thing"] [foldD fp fr m]) (eb_not (eb_tB (ed_call (ea_cons (ed_var rfl) ea_nil) fun _ _ => ⟨fp, fr, m, rfl, h1, h2, h3, rfl⟩))) (fun z => by cases z) fun _ => so_next True.intro) _ _ _ (Same.refl H) (Env.start r) (fun _ H' _ s _ _ => k _ H' s .non) fun _ _ _ _ _ z => z.elim
/-! last, has_row, reign_at, row_at, rows_from -/
abbrev sLast : Stmt := top 24
theorem scLast : FnScope ["log"] ["log"] (defScope sLast) := ⟨rfl, rfl, rfl, by decide +kernel, rfl, by decide +kernel, by decide +kernel⟩
theorem ok_last (g : Gd K mg "last" sLast ["log"]) (m3 : mg "len" = none) : Ok P w K mg base 1 "last" ["log"] (spF K relLast) := by
  refine g.pure scLast (fun H ds d ⟨L, h1, h2⟩ => by rw [h1]; rfl) fun f cdv A outer s H E hr => ⟨_, pss_one (ps_ret (pplus (px (px (pv 0) pe_int) pe_int) (plen m3 (px (pv 0) pe_int)))), ?_⟩
  rintro ds d ⟨L, rfl, rfl⟩
  refine so_ret (ed_i2 (ed_ixT (ed_ixT (ed_var rfl) ed_int rfl) ed_int rfl) (ed_lenT (ds := L.rows.map rowD) (ed_ixT (ed_var rfl) ed_int rfl))) ?_
  show D.int _ = D.int _
  congr 1
  rw [List.length_map]
  unfold Log.last
  omega
abbrev sHas : Stmt := top 25
theorem scHas : FnScope ["log", "place"] ["log", "place"] (defScope sHas) := ⟨rfl, rfl, rfl, by decide +kernel, rfl, by decide +kernel, by decide +kernel⟩
theorem ok_has (g : Gd K mg "has_row" sHas ["log", "place"]) (o1 : Ok P w K mg base 2 "is_among" ["thing", "least", "most"] (spF K relAmong)) (o2 : Ok P w K mg base 1 "last" ["log"] (spF K relLast)) : Ok P w K mg base 3 "has_row" ["log", "place"] (spF K relHas) := by
  refine g.pure scHas (fun H ds d ⟨L, p, h1, h2⟩ => by rw [h1]; rfl) fun f cdv A outer s H E hr => ⟨_, pss_one (ps_ret (pe_fn o1 hr (pa_cons (pv 1) (pa_cons (pplus (px (px (pv 0) pe_int) pe_int) pe_int) (pa_cons (pe_fn o2 hr (pa_cons (pv 0) pa_nil)) pa_nil))))), ?_⟩
  rintro ds d ⟨L, p, rfl, rfl⟩
  refine so_ret (ed_call (ea_cons (ed_var rfl) (ea_cons (ed_i2 (ed_ixT (ed_ixT (ed_var rfl) ed_int rfl) ed_int rfl) ed_int) (ea_cons (ed_call (ea_cons (ed_var rfl) ea_nil) fun _ _ => ⟨L, rfl, rfl⟩) ea_nil))) fun _ _ => ⟨_, _, _, rfl, rfl⟩) ?_
  show D.bl _ = D.bl _
  congr 1
  rw [Bool.eq_iff_iff]
  simp
  omega
abbrev sReign : Stmt := top 26
theorem scReign : FnScope ["log", "place"] ["log", "place"] (defScope sReign) := ⟨rfl, rfl, rfl, by decide +kernel, rfl, by decide +kernel, by decide +kernel⟩
theorem ok_reign (g : Gd K mg "reign_at" sReign ["log", "place"]) (o1 : Ok P w K mg base 3 "has_row" ["log", "place"] (spF K relHas)) (o2 : Ok P w K mg base 1 "is_whole" ["thing"] (spF K relWhole)) : Ok P w K mg base 4 "reign_at" ["log", "place"] (spF K relReign) := by
  refine g.pure scReign (fun H ds d ⟨L, p, h1, h2⟩ => by rw [h1]; rfl) fun f cdv A outer s H E hr => ⟨_,
    pss_cons (ps_if (pt_val (pe_fn o1 hr (pa_cons (pv 0) (pa_cons (pv 1) pa_nil)))) (pss_one (ps_ret (px (px (px (pv 0) pe_int) (pminus (pminus (pv 1) (px (px (pv 0) pe_int) pe_int)) pe_int)) pe_int))) pss_nil)
    (pss_one (ps_ret (pe_ifExp (PW.pt (pw_and (pt_val (pe_fn o2 hr (pa_cons (pv 1) pa_nil))) (pw_and1 (pt_cmpR op_eq (pv 1) (px (px (pv 0) pe_int) pe_int) (nomark _))))) (px (px (pv 0) pe_int) pe_int) pe_non))), ?_⟩
  rintro ds d ⟨L, p, rfl, rfl⟩
  refine so_exit (eb_tB (ed_call (ea_cons (ed_var rfl) (ea_cons (ed_var rfl) ea_nil)) fun _ _ => ⟨L, p, rfl, rfl⟩)) (fun z => ?_) fun z => ?_
  · have z := of_decide_eq_true z
    have hl : p - L.fp - 1 < L.rows.length := by have := z.2; unfold Log.last at this; omega
    have hg : L.rows[p - L.fp - 1]? = some L.rows[p - L.fp - 1] := List.getElem?_eq_getElem hl
    refine so_ret (ed_ixT (ds := [.int L.rows[p - L.fp - 1].reign, deedD L.rows[p - L.fp - 1].deed]) (ed_ixT (ds := L.rows.map rowD) (ed_ixT (ed_var rfl) ed_int rfl) (ed_i2 (ed_i2 (ed_var rfl) (ed_ixT (ed_ixT (ed_var rfl) ed_int rfl) ed_int rfl)) ed_int) (atI_of (j := p - L.fp - 1) (by omega) (by rw [List.getElem?_map, hg]; rfl))) ed_int rfl) ?_
    show D.int _ = optD (reignAt L p)
    unfold reignAt
    rw [if_pos z, hg]
    rfl
  · have z := of_decide_eq_false z
    refine so_ret (d := optD (reignAt L p)) (ed_if (eb_and (eb_tB (ed_call (ea_cons (ed_var rfl) ea_nil) fun _ _ => ⟨_, rfl, rfl⟩)) fun _ => eb_tTest (ed_eqI (ed_var rfl) (ed_ixT (ed_ixT (ed_var rfl) ed_int rfl) ed_int rfl))) (fun y => ED.to (ed_ixT (ed_ixT (ed_var rfl) ed_int rfl) ed_int rfl) ?_) fun y => ED.to ed_non ?_) rfl
    · have y : (p : Int) = (L.fp : Int) := by simpa using y
      show D.int _ = optD (reignAt L p)
      unfold reignAt
      rw [if_neg z, if_pos (by omega)]
      rfl
    · have y : ¬ (p : Int) = (L.fp : Int) := by simpa using y
      show D.non = optD (reignAt L p)
      unfold reignAt
      rw [if_neg z, if_neg (by omega)]
      rfl
abbrev sRow : Stmt := top 27
theorem scRow : FnScope ["log", "place"] ["log", "place"] (defScope sRow) := ⟨rfl, rfl, rfl, by decide +kernel, rfl, by decide +kernel, by decide +kernel⟩
theorem ok_row (g : Gd K mg "row_at" sRow ["log", "place"]) (o1 : Ok P w K mg base 3 "has_row" ["log", "place"] (spF K relHas)) : Ok P w K mg base 4 "row_at" ["log", "place"] (spF K relRow) := by
  refine g.pure scRow (fun H ds d ⟨L, p, r, h1, h2⟩ => by rw [h1]; rfl) fun f cdv A outer s H E hr => ⟨_,
    pss_cons (ps_if (pt_not (pt_val (pe_fn o1 hr (pa_cons (pv 0) (pa_cons (pv 1) pa_nil))))) pss_never pss_nil)
    (pss_one (ps_ret (px (px (pv 0) pe_int) (pminus (pminus (pv 1) (px (px (pv 0) pe_int) pe_int)) pe_int)))), ?_⟩
  rintro ds d ⟨L, p, r, rfl, h1, h2, rfl⟩
  have hl := (List.getElem?_eq_some_iff.mp h2).1
  refine so_exit (eb_not (eb_tB (ed_call (ea_cons (ed_var rfl) (ea_cons (ed_var rfl) ea_nil)) fun _ _ => ⟨L, p, rfl, rfl⟩))) (fun z => so_never ?_) fun z => ?_
  · have z : ¬ (L.fp < p ∧ p ≤ L.last) := fun q => by rw [decide_eq_true q] at z; cases z
    unfold Log.last at z
    omega
  · exact so_ret (ed_ixT (ds := L.rows.map rowD) (ed_ixT (ed_var rfl) ed_int rfl) (ed_i2 (ed_i2 (ed_var rfl) (ed_ixT (ed_ixT (ed_var rfl) ed_int rfl) ed_int rfl)) ed_int) (atI_of (j := p - L.fp - 1) (by omega) (by rw [List.getElem?_map, h2]; rfl))) rfl
abbrev sFrom : Stmt := top 28
theorem scFrom : FnScope ["log", "place", "many", "begin"] ["log", "place", "many"] (defScope sFrom) := ⟨rfl, rfl, rfl, by decide +kernel, rfl, by decide +kernel, by decide +kernel⟩
theorem ok_from (g : Gd K mg "rows_from" sFrom ["log", "place", "many"]) (o1 : Ok P w K mg base 2 "is_among" ["thing", "least", "most"] (spF K relAmong)) (o2 : Ok P w K mg base 1 "last" ["log"] (spF K relLast)) : Ok P w K mg base 3 "rows_from" ["log", "place", "many"] (spF K relFrom) := by
  refine g.pure scFrom (fun H ds d ⟨L, p, n, h1, h2⟩ => by rw [h1]; rfl) fun f cdv A outer s H E hr => ⟨_,
    pss_cons (ps_if (pt_not (pt_val (pe_fn o1 hr (pa_cons (pv 1) (pa_cons (pplus (px (px (pv 0) pe_int) pe_int) pe_int) (pa_cons (pplus (pe_fn o2 hr (pa_cons (pv 0) pa_nil)) pe_int) pa_nil)))))) pss_never pss_nil)
    (pss_cons (ps_set (i := 3) scFrom.nd rfl (Or.inl rfl) (pminus (pminus (pv 1) (px (px (pv 0) pe_int) pe_int)) pe_int))
    (pss_one (ps_ret (pe_slice sl_tupA (px (pv 0) pe_int) (po_some (pv 3)) (po_some (pplus (pv 3) (pv 2))))))), ?_⟩
  rintro ds d ⟨L, p, n, rfl, h1, h2, rfl⟩
  refine so_exit (eb_not (eb_tB (ed_call (ea_cons (ed_var rfl) (ea_cons (ed_i2 (ed_ixT (ed_ixT (ed_var rfl) ed_int rfl) ed_int rfl) ed_int) (ea_cons (ed_i2 (ed_call (ea_cons (ed_var rfl) ea_nil) fun _ _ => ⟨L, rfl, rfl⟩) ed_int) ea_nil))) fun _ _ => ⟨_, _, _, rfl, rfl⟩))) (fun z => so_never ?_) fun z => ?_
  · simp at z
    omega
  refine so_seqset (ed_i2 (ed_i2 (ed_var rfl) (ed_ixT (ed_ixT (ed_var rfl) ed_int rfl) ed_int rfl)) ed_int) (so_ret (ed_slT (ds := L.rows.map rowD) (ed_ixT (ed_var rfl) ed_int rfl) (eo_some (ed_var rfl)) (eo_some (ed_i2 (ed_var rfl) (ed_var rfl)))) ?_)
  show D.tup _ = D.tup _
  congr 1
  rw [cut_nn _ (p - L.fp - 1) (p - L.fp - 1 + n) (by omega) (by omega), Nat.add_sub_cancel_left, List.map_take, List.map_drop]
end
end Sh

namespace Sh
open PySem L2
section
variable {P : Program} {w : World} {K : PySem.W.Frag} {mg : Str → Option Value} {base : Heap}
/-! members_at, members_of, fold_taken, put_rows -/
abbrev sMemAt : Stmt := top 30
theorem scMemAt : FnScope ["log", "place", "found", "row"] ["log", "place"] (defScope sMemAt) := ⟨rfl, rfl, rfl, by decide +kernel, rfl, by decide +kernel, by decide +kernel⟩
theorem deed_word (n : Nat) : ∃ (x : Str) (r : List D), deedD n = .tup (.str x :: r) ∧ ¬ x = "members" := by
  match n with
  | 0 => exact ⟨_, _, rfl, by decide +kernel⟩
  | 1 => exact ⟨_, _, rfl, by decide +kernel⟩
  | _ + 2 => exact ⟨_, _, rfl, by decide +kernel⟩
theorem ok_memat (g : Gd K mg "members_at" sMemAt ["log", "place"]) (o1 : Ok P w K mg base 2 "is_among" ["thing", "least", "most"] (spF K relAmong)) (o2 : Ok P w K mg base 1 "last" ["log"] (spF K relLast)) : Ok P w K mg base 3 "members_at" ["log", "place"] (spF K relMemAt) := by
  refine g.pure scMemAt (fun H ds d ⟨L, h1, h2⟩ => by rw [h1]; rfl) fun f cdv A outer s H E hr => ⟨_,
    pss_cons (ps_if (pt_not (pt_val (pe_fn o1 hr (pa_cons (pv 1) (pa_cons (px (px (pv 0) pe_int) pe_int) (pa_cons (pe_fn o2 hr (pa_cons (pv 0) pa_nil)) pa_nil)))))) pss_never pss_nil)
    (pss_cons (ps_set (i := 2) scMemAt.nd rfl (Or.inl rfl) (px (px (pv 0) pe_int) pe_int))
    (pss_cons (ps_for PassesOwn.never rfl (pi_tup (pe_slice sl_tupA (px (pv 0) pe_int) po_none (po_some (pminus (pv 1) (px (px (pv 0) pe_int) pe_int))))) (pgl 3 scMemAt.nd)
      (pss_one (ps_if (pt_cmpR op_eq (px (px (pv 3) pe_int) pe_int) pe_str (nomark _)) (pss_one (ps_set (i := 2) scMemAt.nd rfl (Or.inl rfl) (px (px (pv 3) pe_int) pe_int))) pss_nil)))
    (pss_one (ps_ret (pv 2))))), ?_⟩
  rintro ds d ⟨L, rfl, rfl⟩
  refine so_exit (eb_not (eb_tB (ed_call (ea_cons (ed_var rfl) (ea_cons (ed_ixT (ed_ixT (ed_var rfl) ed_int rfl) ed_int rfl) (ea_cons (ed_call (ea_cons (ed_var rfl) ea_nil) fun _ _ => ⟨L, rfl, rfl⟩) ea_nil))) fun _ _ => ⟨_, _, _, rfl, rfl⟩))) (fun z => so_never ?_) fun z => ?_
  · simp at z
    unfold Log.last at z
    omega
  refine so_seqset (ed_ixT (ed_ixT (ed_var rfl) ed_int rfl) ed_int rfl) ?_
  refine so_seq (N1 := fun x => ∃ o, x = [some (logD L), some (.int (L.last : Nat)), some (memD L.m), o]) (so_for (ei_tup (ED.to (ed_slT (ds := L.rows.map rowD) (ed_ixT (ed_var rfl) ed_int rfl) eo_none (eo_some (ed_i2 (ed_var rfl) (ed_ixT (ed_ixT (ed_var rfl) ed_int rfl) ed_int rfl))))
    (congrArg D.tup ((cut_0n _ L.rows.length (by unfold Log.last; omega)).trans (List.take_of_length_le (by rw [List.length_map]; exact Nat.le_refl _))))))
    (fun _ x => ∃ o, x = [some (logD L), some (.int (L.last : Nat)), some (memD L.m), o]) ⟨none, rfl⟩ ?_ fun es1 h => h) ?_
  · rintro i es1 d hi hd ⟨o, rfl⟩
    rw [List.getElem?_map] at hd
    obtain ⟨r, hr', rfl⟩ := Option.map_eq_some_iff.mp hd
    obtain ⟨x, rest, e1, e2⟩ := deed_word r.deed
    refine ⟨_, eg_name, so_if (eb_tTest (ed_eqS (ed_ixT (ds := .str x :: rest) (ED.to (ed_ixT (ds := [.int r.reign, deedD r.deed]) (ed_var rfl) ed_int rfl) e1) ed_int (atI_of (j := 0) rfl rfl)) ed_str)) (fun z => ?_) fun _ => so_next ⟨_, rfl⟩⟩
    exact absurd (of_decide_eq_true z) e2
  · rintro es1 ⟨o, rfl⟩
    exact so_ret (ed_var rfl) rfl
abbrev sMemOf : Stmt := top 31
theorem scMemOf : FnScope ["log"] ["log"] (defScope sMemOf) := ⟨rfl, rfl, rfl, by decide +kernel, rfl, by decide +kernel, by decide +kernel⟩
theorem ok_memof (g : Gd K mg "members_of" sMemOf ["log"]) (o1 : Ok P w K mg base 3 "members_at" ["log", "place"] (spF K relMemAt)) (o2 : Ok P w K mg base 1 "last" ["log"] (spF K relLast)) : Ok P w K mg base 4 "members_of" ["log"] (spF K relMemOf) := by
  refine g.pure scMemOf (fun H ds d ⟨L, h1, h2⟩ => by rw [h1]; rfl) fun f cdv A outer s H E hr => ⟨_, pss_one (ps_ret (pe_fn o1 hr (pa_cons (pv 0) (pa_cons (pe_fn o2 hr (pa_cons (pv 0) pa_nil)) pa_nil)))), ?_⟩
  rintro ds d ⟨L, rfl, rfl⟩
  exact so_ret (ed_call (ea_cons (ed_var rfl) (ea_cons (ed_call (ea_cons (ed_var rfl) ea_nil) fun _ _ => ⟨L, rfl, rfl⟩) ea_nil)) fun _ _ => ⟨L, rfl, rfl⟩) rfl
abbrev sTaken : Stmt := top 32
theorem scTaken : FnScope ["log", "fold"] ["log", "fold"] (defScope sTaken) := ⟨rfl, rfl, rfl, by decide +kernel, rfl, by decide +kernel, by decide +kernel⟩
theorem ok_taken (g : Gd K mg "fold_taken" sTaken ["log", "fold"]) (o1 : Ok P w K mg base 5 "need_fold" ["thing"] (spF K relNeedFold)) (o2 : Ok P w K mg base 4 "reign_at" ["log", "place"] (spF K relReign)) : Ok P w K mg base 6 "fold_taken" ["log", "fold"] (spF K relTaken) := by
  refine g.pure scTaken (fun H ds d ⟨L, fp, fr, m, h1, h2⟩ => by rw [h1]; rfl) fun f cdv A outer s H E hr => ⟨_,
    pss_cons (ps_expr (pe_fn o1 hr (pa_cons (pv 1) pa_nil)))
    (pss_cons (ps_if (pt_cmpR op_lt (px (pv 1) pe_int) (px (px (pv 0) pe_int) pe_int) (nomark _)) (pss_one (ps_ret (pv 0))) pss_nil)
    (pss_cons (ps_if (pt_cmpR op_eq (pe_fn o2 hr (pa_cons (pv 0) (pa_cons (px (pv 1) pe_int) pa_nil))) (px (pv 1) pe_int) (nomark _))
      (pss_one (ps_ret (pe_tup (pa_cons (pv 1) (pa_cons (pe_slice sl_tupA (px (pv 0) pe_int) (po_some (pminus (px (pv 1) pe_int) (px (px (pv 0) pe_int) pe_int))) po_none) pa_nil))))) pss_nil)
    (pss_one (ps_ret (pe_tup (pa_cons (pv 1) (pa_cons (pe_tup pa_nil) pa_nil))))))), ?_⟩
  rintro ds d ⟨L, fp, fr, m, rfl, h1, h2, h3, rfl⟩
  refine so_seqexpr (ed_call (ea_cons (ed_var rfl) ea_nil) fun _ _ => ⟨fp, fr, m, rfl, h1, h2, h3, rfl⟩) ?_
  refine so_exit (eb_tTest (ed_b2 (ed_ixT (ds := [.int fp, .int fr, memD m, .str "book"]) (ed_var rfl) ed_int rfl) (ed_ixT (ed_ixT (ed_var rfl) ed_int rfl) ed_int rfl))) (fun z => so_ret (ed_var rfl) ?_) fun z => ?_
  · have z := of_decide_eq_true z
    show logD L = logD (foldTaken L fp fr m)
    unfold foldTaken
    rw [if_pos (by omega)]
  have z := of_decide_eq_false z
  refine so_exit (eb_tTest (ed_eqO (i := reignAt L fp) (j := fr) (ed_call (ea_cons (ed_var rfl) (ea_cons (ed_ixT (ds := [.int fp, .int fr, memD m, .str "book"]) (ed_var rfl) ed_int rfl) ea_nil)) fun _ _ => ⟨L, fp, rfl, rfl⟩) (ed_ixT (ds := [.int fp, .int fr, memD m, .str "book"]) (ed_var rfl) ed_int rfl))) (fun y => ?_) fun y => ?_
  · have y := of_decide_eq_true y
    refine so_ret (ed_tup (ea_cons (ed_var rfl) (ea_cons (ed_slT (ds := L.rows.map rowD) (ed_ixT (ed_var rfl) ed_int rfl) (eo_some (ed_i2 (ed_ixT (ds := [.int fp, .int fr, memD m, .str "book"]) (ed_var rfl) ed_int rfl) (ed_ixT (ed_ixT (ed_var rfl) ed_int rfl) ed_int rfl))) eo_none) ea_nil))) ?_
    unfold foldTaken
    rw [if_neg (by omega), if_pos y, cut_n0 _ (fp - L.fp) (by omega)]
    show D.tup [foldD fp fr m, .tup ((L.rows.map rowD).drop (fp - L.fp))] = D.tup [foldD fp fr m, .tup ((L.rows.drop (fp - L.fp)).map rowD)]
    rw [List.map_drop]
  · have y := of_decide_eq_false y
    refine so_ret (ed_tup (ea_cons (ed_var rfl) (ea_cons (ed_tup ea_nil) ea_nil))) ?_
    unfold foldTaken
    rw [if_neg (by omega), if_neg y]
    rfl
abbrev sPut : Stmt := top 29
theorem scPut : FnScope ["log", "before", "rows", "at", "row", "place"] ["log", "before", "rows"] (defScope sPut) := ⟨rfl, rfl, rfl, by decide +kernel, rfl, by decide +kernel, by decide +kernel⟩
theorem ok_put (g : Gd K mg "put_rows" sPut ["log", "before", "rows"]) (o1 : Ok P w K mg base 1 "last" ["log"] (spF K relLast)) (o2 : Ok P w K mg base 4 "reign_at" ["log", "place"] (spF K relReign)) (m1 : mg "enumerate" = none) : Ok P w K mg base 5 "put_rows" ["log", "before", "rows"] (spF K relPut) := by
  refine g.pure scPut (fun H ds d ⟨L, b, rs, h1, h2⟩ => by rw [h1]; rfl) fun f cdv A outer s H E hr => ⟨_,
    pss_cons (ps_if (pt_cmpR op_gt (pv 1) (pe_fn o1 hr (pa_cons (pv 0) pa_nil)) (nomark _)) (pss_one (ps_ret pe_non)) pss_nil)
    (pss_cons (ps_for PassesOwn.never rfl (pi_enumT m1 (pa_cons (pv 2) pa_nil)) (pg_tup rfl (pgs_cons (pgl 3 scPut.nd) (pgs_cons (pgl 4 scPut.nd) pgs_nil)))
      (pss_cons (ps_set (i := 5) scPut.nd rfl (Or.inl rfl) (pplus (pplus (pv 1) pe_int) (pv 3)))
      (pss_one (ps_if (PW.pt (pw_and (pt_cmpR op_gt (pv 5) (px (px (pv 0) pe_int) pe_int) (nomark _)) (pw_and1 (pt_cmpR op_ne (pe_fn o2 hr (pa_cons (pv 0) (pa_cons (pv 5) pa_nil))) (px (pv 4) pe_int) (nomark _)))))
        (pss_one (ps_ret (pe_tup (pa_cons (px (pv 0) pe_int) (pa_cons (pe_op op_catA (pe_slice sl_tupA (px (pv 0) pe_int) po_none (po_some (pminus (pminus (pv 5) (px (px (pv 0) pe_int) pe_int)) pe_int))) (pe_slice sl_tupA (pv 2) (po_some (pv 3)) po_none)) pa_nil))))) pss_nil))))
    (pss_one (ps_ret (pv 0)))), ?_⟩
  rintro ds d ⟨L, b, rs, rfl, h1, h2, rfl⟩
  refine so_exit (eb_tTest (ed_b2 (ed_var rfl) (ed_call (ea_cons (ed_var rfl) ea_nil) fun _ _ => ⟨L, rfl, rfl⟩))) (fun z => so_never ?_) fun _ => ?_
  · have z := of_decide_eq_true z
    omega
  have hrs : ∀ i, i < (rs.map rowD).length → (rs.map rowD)[i]? = some (rowD (rs.getD i ⟨0, 0⟩)) := fun i hi => by
    have hi : i < rs.length := by simpa using hi
    rw [List.getElem?_map, List.getElem?_eq_getElem hi]
    simp [hi]
  refine so_seq (N1 := fun x => ∃ o3 o4 o5, x = [some (logD L), some (.int b), some (rowsD rs), o3, o4, o5] ∧ putFrom L (b + 1) rs = L)
    (so_for (ei_enumT (ed_var rfl) hrs) (fun i x => ∃ o3 o4 o5, x = [some (logD L), some (.int b), some (rowsD rs), o3, o4, o5] ∧ putFrom L (b + 1) rs = putFrom L (b + 1 + i) (rs.drop i)) ⟨none, none, none, rfl, rfl⟩ ?_ ?_) ?_
  · rintro i es1 d hi hd ⟨o3, o4, o5, rfl, hp⟩
    rw [List.length_map, List.length_range, List.length_map] at hi
    rw [List.getElem?_map, List.getElem?_range (by rw [List.length_map]; exact hi)] at hd
    have hd := Option.some.inj hd
    subst hd
    have e0 : rs.getD i ⟨0, 0⟩ = rs[i] := by simp [hi]
    have e1 : rs.drop i = rs[i] :: rs.drop (i + 1) := List.drop_eq_getElem_cons hi
    rw [e1] at hp
    refine ⟨_, eg_two, so_seqset (ed_i2 (ed_i2 (ed_var rfl) ed_int) (ed_var rfl)) ?_⟩
    have hpl : ((b : Int) + 1 + (i : Nat)) = ((b + 1 + i : Nat) : Int) := by omega
    refine so_if (eb_and (eb_tTest (ed_b2 (ed_var rfl) (ed_ixT (ed_ixT (ed_var rfl) ed_int rfl) ed_int rfl))) fun _ => eb_tTest (ed_neO (i := reignAt L (b + 1 + i)) (j := rs[i].reign)
      (ed_call (ea_cons (ed_var rfl) (ea_cons (ED.to (ed_var rfl) (congrArg D.int hpl)) ea_nil)) fun _ _ => (⟨L, b + 1 + i, rfl, rfl⟩ : relReign _ _ _)) (ed_ixT (ds := [.int rs[i].reign, deedD rs[i].deed]) (ED.to (d := rowD (rs.getD i ⟨0, 0⟩)) (ed_var rfl) (by rw [e0]; rfl)) ed_int rfl))) (fun z => ?_) fun z => ?_
    · rw [Bool.and_eq_true] at z
      obtain ⟨z1, z2⟩ := z
      have z1 := of_decide_eq_true z1
      have z2 : ¬ reignAt L (b + 1 + i) = some rs[i].reign := by simpa using z2
      refine so_ret (ed_tup (ea_cons (ed_ixT (ds := [foldD L.fp L.fr L.m, rowsD L.rows]) (ed_var rfl) ed_int rfl) (ea_cons (ed_cat (xs := (L.rows.map rowD).take (b + 1 + i - L.fp - 1)) (ys := (rs.map rowD).drop i)
        (ED.to (ed_slT (ds := L.rows.map rowD) (ed_ixT (ed_var rfl) ed_int rfl) eo_none (eo_some (ed_i2 (ed_i2 (ed_var rfl) (ed_ixT (ed_ixT (ed_var rfl) ed_int rfl) ed_int rfl)) ed_int))) (congrArg D.tup (cut_0n _ (b + 1 + i - L.fp - 1) (by omega))))
        (ED.to (ed_slT (ds := rs.map rowD) (ed_var rfl) (eo_some (ed_var rfl)) eo_none) (congrArg D.tup (cut_n0 _ i rfl))) ?_) ea_nil))) ?_
      · rw [List.length_take, List.length_drop, List.length_map, List.length_map]
        omega
      · rw [hp]
        unfold putFrom
        rw [if_pos ⟨by omega, z2⟩]
        show D.tup [foldD L.fp L.fr L.m, .tup ((L.rows.map rowD).take (b + 1 + i - L.fp - 1) ++ (rs.map rowD).drop i)] = D.tup [foldD L.fp L.fr L.m, .tup ((L.rows.take (b + 1 + i - L.fp - 1) ++ rs[i] :: rs.drop (i + 1)).map rowD)]
        rw [List.map_append, ← e1, List.map_take, List.map_drop]
    · refine so_next ⟨_, _, _, rfl, ?_⟩
      rw [hp, ← Nat.add_assoc]
      conv => lhs; unfold putFrom
      rw [if_neg]
      rintro ⟨y1, y2⟩
      have : (decide ((L.fp : Int) < (b : Int) + 1 + (i : Nat)) && !decide (reignAt L (b + 1 + i) = some rs[i].reign)) = true := by
        rw [Bool.and_eq_true]
        exact ⟨decide_eq_true (by omega), by simpa using y2⟩
      rw [this] at z
      cases z
  · rintro es1 ⟨o3, o4, o5, rfl, hp⟩
    refine ⟨o3, o4, o5, rfl, ?_⟩
    rw [hp, List.length_map, List.length_range, List.length_map, List.drop_length]
    rfl
  · rintro es1 ⟨o3, o4, o5, rfl, hp⟩
    exact so_ret (ed_var rfl) (by rw [hp])
end
end Sh

/-! == and != of data -/
namespace Sh
open PySem L2
mutual
def py : D → PyData
  | .non => .none
  | .bl b => .bool b
  | .int i => .int i
  | .str x => .str x
  | .ref _ => .none
  | .tup ds => .tuple (pys ds)
  | .lst ds => .list (pys ds)
def pys : List D → List PyData
  | [] => []
  | d :: ds => py d :: pys ds
end
mutual
def nr : D → Bool
  | .ref _ => false
  | .tup ds => nrs ds
  | .lst ds => nrs ds
  | _ => true
def nrs : List D → Bool
  | [] => true
  | d :: ds => nr d && nrs ds
end
section
variable {K : PySem.W.Frag} {H : Hp}
mutual
theorem Rp.dp : ∀ (d : D) (v : V), nr d = true → Rp K H v d → Dp K H v (py d)
  | .non, _, _, h => by cases h; rw [py]; exact .non
  | .bl _, _, _, h => by cases h; rw [py]; exact .bl _
  | .int _, _, _, h => by cases h; rw [py]; exact .int _
  | .str _, _, _, h => by cases h; rw [py]; exact .str _
  | .ref _, _, n, h => by simp [nr] at n
  | .tup ds, _, n, h => by
    cases h with
    | tup hs ha => rw [py]; exact .tup hs (RpL.dp ds _ (by simpa [nr] using n) ha)
  | .lst ds, _, n, h => by
    cases h with
    | lst hs ha => rw [py]; exact .lst hs (RpL.dp ds _ (by simpa [nr] using n) ha)
theorem RpL.dp : ∀ (ds : List D) (vs : List V), nrs ds = true → RpL K H vs ds → DpAll K H vs (pys ds)
  | [], _, _, h => by cases h; rw [pys]; exact .nil
  | d :: ds, _, n, h => by
    have n' : nr d = true ∧ nrs ds = true := by simpa [nrs] using n
    cases h with
    | cons h1 h2 => rw [pys]; exact .cons (Rp.dp d _ n'.1 h1) (RpL.dp ds _ n'.2 h2)
end
end
theorem nrs_of {xs : List D} (h : ∀ d ∈ xs, nr d = true) : nrs xs = true := by
  induction xs with
  | nil => rfl
  | cons x xs ih => simp [nrs, h x (by simp), ih fun d hd => h d (by simp [hd])]
/-- it can be laid, and is no deeper than n -/
def Shp (n : Nat) (d : D) : Prop := (py d).canLay0 = true ∧ (py d).depth ≤ n
theorem Shp.shaped {n : Nat} {d : D} (h : Shp n d) (hn : n ≤ 64 := by decide) : SeqAt.shaped (py d) = true := by
  unfold SeqAt.shaped
  rw [h.1, Bool.true_and]
  exact decide_eq_true (Nat.le_trans h.2 hn)
theorem shp_all {n : Nat} : ∀ {ds : List D}, (∀ d ∈ ds, Shp n d) → PyData.canLayAll0 (pys ds) = true ∧ PyData.depthAll (pys ds) ≤ n
  | [], _ => by rw [pys]; exact ⟨by simp [PyData.canLayAll0], by simp [PyData.depthAll]⟩
  | d :: ds, h => by
    obtain ⟨h1, h2⟩ := h d (by simp)
    obtain ⟨h3, h4⟩ := shp_all (n := n) (ds := ds) fun x hx => h x (by simp [hx])
    rw [pys]
    simp only [PyData.canLayAll0, PyData.depthAll]
    exact ⟨by rw [h1, h3]; rfl, by omega⟩
theorem Shp.tup {n : Nat} {ds : List D} (h : ∀ d ∈ ds, Shp n d) : Shp (n + 1) (.tup ds) := by
  obtain ⟨h1, h2⟩ := shp_all h
  unfold Shp
  rw [py]
  simp only [PyData.canLay0, PyData.depth]
  exact ⟨h1, by omega⟩
theorem Shp.lst {n : Nat} {ds : List D} (h : ∀ d ∈ ds, Shp n d) : Shp (n + 1) (.lst ds) := by
  obtain ⟨h1, h2⟩ := shp_all h
  unfold Shp
  rw [py]
  simp only [PyData.canLay0, PyData.depth]
  exact ⟨h1, by omega⟩
theorem Shp.mono {n m : Nat} {d : D} (h : Shp n d) (hm : n ≤ m) : Shp m d := ⟨h.1, Nat.le_trans h.2 hm⟩
theorem shp_int (i : Int) : Shp 1 (.int i) := ⟨by rw [py]; simp only [PyData.canLay0], by rw [py]; simp [PyData.depth]⟩
theorem shp_bl (i : Bool) : Shp 1 (.bl i) := ⟨by rw [py]; simp only [PyData.canLay0], by rw [py]; simp [PyData.depth]⟩
theorem shp_str {i : Str} (h : PyData.strOk i = true) : Shp 1 (.str i) := ⟨by rw [py]; simp only [PyData.canLay0]; exact h, by rw [py]; simp [PyData.depth]⟩
theorem shp_deed (n : Nat) : Shp 3 (deedD n) := by
  match n with
  | 0 => exact Shp.mono (Shp.tup (n := 1) fun d hd => by simp at hd; subst hd; exact shp_str (by decide +kernel)) (by decide)
  | 1 =>
    refine Shp.tup (n := 2) fun d hd => ?_
    simp only [List.mem_cons, List.not_mem_nil, or_false] at hd
    rcases hd with rfl | rfl | rfl | rfl
    · exact (shp_str (by decide +kernel)).mono (by decide)
    · exact (shp_int _).mono (by decide)
    · exact (shp_int _).mono (by decide)
    · exact Shp.tup (n := 1) fun d hd => by simp at hd; subst hd; exact shp_str (by decide +kernel)
  | _ + 2 =>
    refine Shp.tup (n := 2) fun d hd => ?_
    simp only [List.mem_cons, List.not_mem_nil, or_false] at hd
    rcases hd with rfl | rfl | rfl | rfl
    · exact (shp_str (by decide +kernel)).mono (by decide)
    · exact (shp_int _).mono (by decide)
    · exact (shp_int _).mono (by decide)
    · refine Shp.tup (n := 1) fun d hd => ?_
      simp only [List.mem_cons, List.not_mem_nil, or_false] at hd
      rcases hd with rfl | rfl
      · exact shp_str (by decide +kernel)
      · exact shp_str (by decide +kernel)
theorem shp_row (r : Row) : Shp 4 (rowD r) := Shp.tup (n := 3) fun d hd => by
  simp only [List.mem_cons, List.not_mem_nil, or_false] at hd
  rcases hd with rfl | rfl
  · exact (shp_int _).mono (by decide)
  · exact shp_deed _
theorem shp_rows (rs : List Row) : Shp 5 (rowsD rs) := Shp.tup (n := 4) fun d hd => by
  obtain ⟨r, _, rfl⟩ := List.mem_map.mp hd
  exact shp_row r
theorem shp_mem (m : Nat) : Shp 2 (memD m) := Shp.tup (n := 1) fun d hd => by
  obtain ⟨r, _, rfl⟩ := List.mem_map.mp hd
  exact shp_int _
theorem shp_fold (a b c : Nat) : Shp 3 (foldD a b c) := Shp.tup (n := 2) fun d hd => by
  simp only [List.mem_cons, List.not_mem_nil, or_false] at hd
  rcases hd with rfl | rfl | rfl | rfl
  · exact (shp_int _).mono (by decide)
  · exact (shp_int _).mono (by decide)
  · exact shp_mem _
  · exact (shp_str (by decide +kernel)).mono (by decide)
theorem nr_deed (n : Nat) : nr (deedD n) = true := by
  match n with
  | 0 => rfl
  | 1 => rfl
  | _ + 2 => rfl
theorem nr_row (r : Row) : nr (rowD r) = true := by
  show nrs [.int r.reign, deedD r.deed] = true
  simp [nrs, nr, nr_deed]
theorem nr_rows (rs : List Row) : nr (rowsD rs) = true := nrs_of fun d hd => by
  obtain ⟨r, _, rfl⟩ := List.mem_map.mp hd
  exact nr_row r
theorem nr_mem (m : Nat) : nr (memD m) = true := nrs_of fun d hd => by
  obtain ⟨r, _, rfl⟩ := List.mem_map.mp hd
  rfl
theorem nr_fold (a b c : Nat) : nr (foldD a b c) = true := by
  show nrs [.int a, .int b, memD c, .str "book"] = true
  simp [nrs, nr, nr_mem]
theorem eqv_row_self (r : Row) : PyData.eqv (py (rowD r)) (py (rowD r)) = true := SeqAt.eqv_refl _ (shp_row r).1
theorem eqv_row_ne {r q : Row} (h : r.reign ≠ q.reign) : PyData.eqv (py (rowD r)) (py (rowD q)) = false := by
  unfold rowD
  rw [py, py, pys, pys, pys, pys, py, py]
  simp only [PyData.eqv, PyData.eqvAll]
  have : ((r.reign : Int) == (q.reign : Int)) = false := by simp; omega
  rw [this, Bool.false_and]
theorem eqv_tup_nil (ds : List D) : PyData.eqv (py (.tup ds)) (py (.tup [])) = ds.isEmpty := by
  rw [py, py, pys]
  cases ds with
  | nil => rw [pys]; simp [PyData.eqv, PyData.eqvAll]
  | cons d ds => rw [pys]; simp [PyData.eqv, PyData.eqvAll]
theorem eqv_lst_nil (ds : List D) : PyData.eqv (py (.lst ds)) (py (.lst [])) = ds.isEmpty := by
  rw [py, py, pys]
  cases ds with
  | nil => rw [pys]; simp [PyData.eqv, PyData.eqvAll]
  | cons d ds => rw [pys]; simp [PyData.eqv, PyData.eqvAll]
section
variable {K : PySem.W.Frag} {H0 : Hp} {es : Es} {ta tb : TE}
theorem ed_neD {d e : D} {n m : Nat} (ha : ED K H0 ta es d) (hb : ED K H0 tb es e) (h1 : nr d = true) (h2 : nr e = true) (h3 : Shp n d) (h4 : Shp m e) (hn : n ≤ 64 := by decide) (hm : m ≤ 64 := by decide) :
    ED K H0 (tOp (rNeD K) ta tb) es (.bl (!PyData.eqv (py d) (py e))) :=
  ed_op2 ha hb fun x y H Q rx ry q => ⟨py d, py e, rx.dp d x h1, ry.dp e y h2, h3.shaped hn, h4.shaped hm, q _ H (Same.refl H) (.bl _)⟩
theorem ed_eqD {d e : D} {n m : Nat} (ha : ED K H0 ta es d) (hb : ED K H0 tb es e) (h1 : nr d = true) (h2 : nr e = true) (h3 : Shp n d) (h4 : Shp m e) (hn : n ≤ 64 := by decide) (hm : m ≤ 64 := by decide) :
    ED K H0 (tOp (rEqD K) ta tb) es (.bl (PyData.eqv (py d) (py e))) :=
  ed_op2 ha hb fun x y H Q rx ry q => ⟨py d, py e, rx.dp d x h1, ry.dp e y h2, h3.shaped hn, h4.shaped hm, q _ H (Same.refl H) (.bl _)⟩
end
end Sh

namespace Sh
open PySem L2
def letD : Letter → D
  | .fold to reign fp fr m => .tup [.str "fold", .int 0, .int to, .int reign, foldD fp fr m]
  | .rows to reign before brn rs st => .tup [.str "rows", .int 0, .int to, .int reign, .int before, .int brn, rowsD rs, .int st]
def heardD (h : Heard) : D := .tup [logD h.log, .int h.sure, .bl h.good, .int h.place]
theorem noL_let (l : Letter) : noL (letD l) = true := by
  cases l with
  | fold to reign fp fr m =>
    show noLs [.str "fold", .int 0, .int to, .int reign, foldD fp fr m] = true
    simp [noLs, noL, noL_fold]
  | rows to reign before brn rs st =>
    show noLs [.str "rows", .int 0, .int to, .int reign, .int before, .int brn, rowsD rs, .int st] = true
    simp [noLs, noL, noL_rows]
theorem nr_let (l : Letter) : nr (letD l) = true := by
  cases l with
  | fold to reign fp fr m =>
    show nrs [.str "fold", .int 0, .int to, .int reign, foldD fp fr m] = true
    simp [nrs, nr, nr_fold]
  | rows to reign before brn rs st =>
    show nrs [.str "rows", .int 0, .int to, .int reign, .int before, .int brn, rowsD rs, .int st] = true
    simp [nrs, nr, nr_rows]
theorem shp_let (l : Letter) : Shp 6 (letD l) := by
  cases l with
  | fold to reign fp fr m =>
    refine Shp.tup (n := 5) fun d hd => ?_
    simp only [List.mem_cons, List.not_mem_nil, or_false] at hd
    rcases hd with rfl | rfl | rfl | rfl | rfl
    · exact (shp_str (by decide +kernel)).mono (by decide)
    · exact (shp_int _).mono (by decide)
    · exact (shp_int _).mono (by decide)
    · exact (shp_int _).mono (by decide)
    · exact (shp_fold _ _ _).mono (by decide)
  | rows to reign before brn rs st =>
    refine Shp.tup (n := 5) fun d hd => ?_
    simp only [List.mem_cons, List.not_mem_nil, or_false] at hd
    rcases hd with rfl | rfl | rfl | rfl | rfl | rfl | rfl | rfl
    · exact (shp_str (by decide +kernel)).mono (by decide)
    · exact (shp_int _).mono (by decide)
    · exact (shp_int _).mono (by decide)
    · exact (shp_int _).mono (by decide)
    · exact (shp_int _).mono (by decide)
    · exact (shp_int _).mono (by decide)
    · exact shp_rows _
    · exact (shp_int _).mono (by decide)
/-- what a letter may tell to a log -/
def LetPre (L : Log) : Letter → Prop
  | .fold _ _ fp fr m => fp ≤ 1000000 ∧ fr ≤ 1000000 ∧ m ≤ 6
  | .rows _ _ _ _ rs _ => L.rows.length + rs.length ≤ 900
def relHeard : Hp → List D → D → Prop := fun _ ds d => ∃ (L : Log) (sure : Nat) (l : Letter), ds = [logD L, .int sure, letD l] ∧ LetPre L l ∧ d = heardD (heard L sure l)
def relAlike : Hp → List D → D → Prop := fun _ ds d => ∃ (rows : List Row) (L : Log) (sure c m p : Nat), ds = [logD L, .lst (rows.map rowD), .int p] ∧ RowsOk rows ∧ Fol rows m L sure c ∧ p ≤ rows.length ∧ rows.length ≤ 900 ∧ d = .bl (decide (p ≤ c))
section
variable {K : PySem.W.Frag} {H0 : Hp} {es : Es} {N : Es → Prop} {R : D → Prop}
theorem so_par {i j : Nat} {ts : TA} {a b : D} (h : EA K H0 ts es [a, b]) (hN : N ((es.set i (some a)).set j (some b))) : So K H0 (tPar i j ts) es N R := fun σ H E s e kn kr =>
  h σ H s e _ fun vs H1 s1 r1 => by
    obtain ⟨v, w, rfl, r2, r3⟩ := r1.two
    exact ⟨v, w, rfl, kn _ H1 _ s1 (((e.same s1).set r2).set r3) hN⟩
theorem so_asg {te : TE} {g : TG} {d : D} {es' : Es} (h : ED K H0 te es d) (hg : EG K g es d es') (hN : N es') : So K H0 (tAsg te g) es N R := fun σ H E s e kn kr =>
  h σ H s e _ fun v H1 s1 r1 => hg σ H1 v (e.same s1) r1 _ fun σ' e' => kn σ' H1 es' s1 e' hN
theorem so_seqasg {te : TE} {g : TG} {d : D} {es' : Es} {t2 : TS} (h : ED K H0 te es d) (hg : EG K g es d es') (h2 : So K H0 t2 es' N R) : So K H0 (tSeq (tAsg te g) t2) es N R :=
  so_seq (N1 := fun x => x = es') (so_asg h hg rfl) fun _ e => e ▸ h2
theorem eg_three {i j k : Nat} {a b c : D} : EG K (gTup K 3 (gCons (gName i) (gCons (gName j) (gCons (gName k) gNil)))) es (.tup [a, b, c]) (((es.set i (some a)).set j (some b)).set k (some c)) := fun σ H v e r kk q => by
  obtain ⟨p, xs, rfl, hs, hr⟩ := r.tup_of
  obtain ⟨x, y, z, rfl, r1, r2, r3⟩ := hr.three
  exact ⟨p, _, rfl, hs, rfl, x, [y, z], rfl, y, [z], rfl, z, [], rfl, rfl, q _ (((e.set r1).set r2).set r3)⟩
end
section
variable {P : Program} {w : World} {K : PySem.W.Frag} {mg : Str → Option Value} {base : Heap}
abbrev sHeard : Stmt := top 42
theorem scHeard : FnScope ["_law_log", "_law_settled", "_law_letter", "_law_end", "_law_before", "_law_ahead", "_law_rows"] ["_law_log", "_law_settled", "_law_letter"] (defScope sHeard) := ⟨rfl, rfl, rfl, by decide +kernel, rfl, by decide +kernel, by decide +kernel⟩
theorem ok_heard (g : Gd K mg "_law_heard" sHeard ["_law_log", "_law_settled", "_law_letter"]) (o_fold_taken : Ok P w K mg base 6 "fold_taken" ["log", "fold"] (spF K relTaken)) (o_reign_at : Ok P w K mg base 4 "reign_at" ["log", "place"] (spF K relReign)) (o_put_rows : Ok P w K mg base 5 "put_rows" ["log", "before", "rows"] (spF K relPut))
    (m_len : mg "len" = none) (m_max : mg "max" = none) (m_min : mg "min" = none) : Ok P w K mg base 7 "_law_heard" ["_law_log", "_law_settled", "_law_letter"] (spF K relHeard) := by
  refine g.pure scHeard (fun H ds d ⟨L, sure, l, h1, h2⟩ => by rw [h1]; rfl) fun f cdv A outer s H E hr => ⟨_,
    (pss_cons (ps_set (i := 3) scHeard.nd rfl (Or.inl rfl) (pplus (px (px (pv 0) pe_int) pe_int) (plen m_len (px (pv 0) pe_int))))
    (pss_cons (ps_if (pt_cmpR op_eq (px (pv 2) pe_int) pe_str (nomark _))
      (pss_cons (ps_if (pt_cmpR op_gt (px (px (pv 2) pe_int) pe_int) (pv 1) (nomark _))
        (pss_one (ps_par (i := 0) (j := 1) rfl scHeard.nd rfl rfl (by decide) rfl rfl (pa_cons (pe_fn o_fold_taken hr (pa_cons (pv 0) (pa_cons (px (pv 2) pe_int) pa_nil))) (pa_cons (px (px (pv 2) pe_int) pe_int) pa_nil)) (by rfl)))
        pss_nil)
      (pss_one (ps_ret (pe_tup (pa_cons (pv 0) (pa_cons (pv 1) (pa_cons pe_bl (pa_cons (pv 1) pa_nil))))))))
      pss_nil)
    (pss_cons (ps_asg (pe_slice sl_tupA (pv 2) (po_some pe_int) (po_some pe_int)) (pg_tup rfl (pgs_cons (pgl 4 scHeard.nd) (pgs_cons (pgl 5 scHeard.nd) (pgs_cons (pgl 6 scHeard.nd) pgs_nil)))))
    (pss_cons (ps_if (PW.pt (pw_or (pt_cmpR op_gt (pv 4) (pv 3) (nomark _)) (pw_or1 (PW.pt (pw_and (pt_cmpR op_notN' (pe_fn o_reign_at hr (pa_cons (pv 0) (pa_cons (pv 4) pa_nil))) pe_non (nomark _)) (pw_and1 (pt_cmpR op_ne (pe_fn o_reign_at hr (pa_cons (pv 0) (pa_cons (pv 4) pa_nil))) (pv 5) (nomark _))))))))
      (pss_one (ps_ret (pe_tup (pa_cons (pv 0) (pa_cons (pv 1) (pa_cons pe_bl (pa_cons (pe_callB (call_max2' rfl) (by rfl) m_max PyProof.Rows.boot_max (pa_cons pe_int (pa_cons (pe_callB (call_min2' rfl) (by rfl) m_min PyProof.Rows.boot_min (pa_cons (pv 3) (pa_cons (pminus (pv 4) pe_int) pa_nil))) pa_nil))) pa_nil)))))))
      pss_nil)
    (pss_cons (ps_set (i := 0) scHeard.nd rfl (Or.inl rfl) (pe_fn o_put_rows hr (pa_cons (pv 0) (pa_cons (pv 4) (pa_cons (pv 6) pa_nil)))))
    (pss_one (ps_ret (pe_tup (pa_cons (pv 0) (pa_cons (pe_callB (call_max2' rfl) (by rfl) m_max PyProof.Rows.boot_max (pa_cons (pv 1) (pa_cons (pe_callB (call_min2' rfl) (by rfl) m_min PyProof.Rows.boot_min (pa_cons (px (pv 2) pe_int) (pa_cons (pplus (pv 4) (plen m_len (pv 6))) pa_nil))) pa_nil))) (pa_cons pe_bl (pa_cons (pplus (pv 4) (plen m_len (pv 6))) pa_nil)))))))))))), ?_⟩
  rintro ds d ⟨L, sure, l, rfl, hp, rfl⟩
  refine so_seqset (d := .int (L.last : Nat)) (ED.to (ed_i2 (ed_ixT (ed_ixT (ed_var rfl) ed_int rfl) ed_int rfl) (ed_lenT (ds := L.rows.map rowD) (ed_ixT (ed_var rfl) ed_int rfl))) (by rw [List.length_map]; unfold Log.last; congr 1)) ?_
  cases l with
  | fold to reign fp fr m =>
    have hl : ∀ {es : Es}, es[2]? = some (some (letD (.fold to reign fp fr m))) → ED K H (tVar 2) es (.tup [.str "fold", .int 0, .int to, .int reign, foldD fp fr m]) := fun h => ed_var h
    refine so_exit (eb_tTest (ed_eqS (ed_ixT (hl rfl) ed_int rfl) ed_str)) (fun _ => ?_) (fun z => absurd rfl (of_decide_eq_false z))
    have e1 : heard L sure (.fold to reign fp fr m) = if sure < fp then ⟨foldTaken L fp fr m, fp, true, fp⟩ else ⟨L, sure, true, sure⟩ := rfl
    refine so_seq (N1 := fun x => ∃ e', x = [some (logD (heard L sure (.fold to reign fp fr m)).log), some (.int (heard L sure (.fold to reign fp fr m)).sure), e', some (.int (L.last : Nat)), none, none, none] ∧ (heard L sure (.fold to reign fp fr m)).good = true ∧ (heard L sure (.fold to reign fp fr m)).place = (heard L sure (.fold to reign fp fr m)).sure)
      (so_if (eb_tTest (ed_b2 (ed_ixT (ds := [.int fp, .int fr, memD m, .str "book"]) (ed_ixT (hl rfl) ed_int rfl) ed_int rfl) (ed_var rfl))) (fun z => ?_) fun z => ?_) ?_
    · have z := of_decide_eq_true z
      refine so_par (ea_cons (ed_call (ea_cons (ed_var rfl) (ea_cons (ed_ixT (hl rfl) ed_int rfl) ea_nil)) fun _ _ => ⟨L, fp, fr, m, rfl, hp.1, hp.2.1, hp.2.2, rfl⟩) (ea_cons (ed_ixT (ds := [.int fp, .int fr, memD m, .str "book"]) (ed_ixT (hl rfl) ed_int rfl) ed_int rfl) ea_nil)) ?_
      rw [e1, if_pos (by omega)]
      exact ⟨_, rfl, rfl, rfl⟩
    · have z := of_decide_eq_false z
      refine so_next ?_
      rw [e1, if_neg (by omega)]
      exact ⟨_, rfl, rfl, rfl⟩
    · rintro es1 ⟨e', rfl, h1, h2⟩
      refine so_ret (ed_tup (ea_cons (ed_var rfl) (ea_cons (ed_var rfl) (ea_cons ed_bl (ea_cons (ed_var rfl) ea_nil))))) ?_
      unfold heardD
      rw [h1, h2]
  | rows to reign before brn rs st =>
    have hl : ∀ {es : Es}, es[2]? = some (some (letD (.rows to reign before brn rs st))) → ED K H (tVar 2) es (.tup [.str "rows", .int 0, .int to, .int reign, .int before, .int brn, rowsD rs, .int st]) := fun h => ed_var h
    refine so_exit (eb_tTest (ed_eqS (ed_ixT (hl rfl) ed_int rfl) ed_str)) (fun z => absurd (of_decide_eq_true z) (by decide +kernel)) fun _ => ?_
    refine so_seqasg (ED.to (ed_slT (hl rfl) (eo_some ed_int) (eo_some ed_int)) (congrArg D.tup (cut_nn _ 4 7 rfl rfl))) eg_three ?_
    have hc : heard L sure (.rows to reign before brn rs st) = if L.last < before ∨ (reignAt L before ≠ none ∧ reignAt L before ≠ some brn) then ⟨L, sure, false, min L.last (before - 1)⟩
      else ⟨putFrom L (before + 1) rs, max sure (min st (before + rs.length)), true, before + rs.length⟩ := rfl
    have rr : ∀ H', relReign H' [logD L, .int before] (optD (reignAt L before)) := fun _ => ⟨L, before, rfl, rfl⟩
    refine so_exit (eb_or (eb_tTest (ed_b2 (ed_var rfl) (ed_var rfl))) fun _ => eb_and (eb_tTest (ed_notN (i := reignAt L before) (ed_call (ea_cons (ed_var rfl) (ea_cons (ed_var rfl) ea_nil)) fun H' _ => rr H') ed_non)) fun _ =>
      eb_tTest (ed_neO (i := reignAt L before) (j := brn) (ed_call (ea_cons (ed_var rfl) (ea_cons (ed_var rfl) ea_nil)) fun H' _ => rr H') (ed_var rfl))) (fun z => ?_) fun z => ?_
    · refine so_ret (ed_tup (ea_cons (ed_var rfl) (ea_cons (ed_var rfl) (ea_cons ed_bl (ea_cons (ed_max ed_int (ed_min (ed_var rfl) (ed_i2 (ed_var rfl) ed_int))) ea_nil))))) ?_
      have z : L.last < before ∨ (reignAt L before ≠ none ∧ reignAt L before ≠ some brn) := by simpa using z
      rw [hc, if_pos z]
      show D.tup [_, _, _, .int _] = D.tup [_, _, _, .int _]
      have : max (0 : Int) (min (L.last : Nat) ((before : Int) - 1)) = ((min L.last (before - 1) : Nat) : Int) := by omega
      rw [this]
    · have z : ¬ (L.last < before ∨ (reignAt L before ≠ none ∧ reignAt L before ≠ some brn)) := fun q => by
        have : (decide (((L.last : Nat) : Int) < (before : Int)) || !decide (reignAt L before = none) && !decide (reignAt L before = some brn)) = true := by simpa using q
        rw [this] at z
        cases z
      rw [hc, if_neg z]
      refine so_seqset (ed_call (ea_cons (ed_var rfl) (ea_cons (ed_var rfl) (ea_cons (ed_var rfl) ea_nil))) fun _ _ => ⟨L, before, rs, rfl, by omega, hp, rfl⟩) ?_
      refine so_ret (ed_tup (ea_cons (ed_var rfl) (ea_cons (ed_max (ed_var rfl) (ed_min (ed_ixT (hl rfl) ed_int rfl) (ed_i2 (ed_var rfl) (ed_lenT (ds := rs.map rowD) (ed_var rfl))))) (ea_cons ed_bl (ea_cons (ed_i2 (ed_var rfl) (ed_lenT (ds := rs.map rowD) (ed_var rfl))) ea_nil))))) ?_
      show D.tup [_, .int _, _, .int _] = D.tup [_, .int _, _, .int _]
      rw [List.length_map]
      have e1 : max (sure : Int) (min (st : Int) ((before : Int) + (rs.length : Nat))) = ((max sure (min st (before + rs.length)) : Nat) : Int) := by omega
      have e2 : (before : Int) + (rs.length : Nat) = ((before + rs.length : Nat) : Int) := by omega
      rw [e1, e2]
abbrev sAlike : Stmt := top 44
theorem scAlike : FnScope ["_law_log", "_law_rows", "_law_place", "_law_at"] ["_law_log", "_law_rows", "_law_place"] (defScope sAlike) := ⟨rfl, rfl, rfl, by decide +kernel, rfl, by decide +kernel, by decide +kernel⟩
theorem ok_alike (g : Gd K mg "_law_alike" sAlike ["_law_log", "_law_rows", "_law_place"]) (o_row_at : Ok P w K mg base 4 "row_at" ["log", "place"] (spF K relRow)) (m_len : mg "len" = none) (m_range : mg "range" = none) : Ok P w K mg base 5 "_law_alike" ["_law_log", "_law_rows", "_law_place"] (spF K relAlike) := by
  refine g.pure scAlike (fun H ds d ⟨rows, L, sure, c, m, p, h1, h2⟩ => by rw [h1]; rfl) fun f cdv A outer s H E hr => ⟨_,
    (pss_cons (ps_if (pt_cmpR op_lt (pplus (px (px (pv 0) pe_int) pe_int) (plen m_len (px (pv 0) pe_int))) (pv 2) (nomark _))
      (pss_one (ps_ret pe_bl))
      pss_nil)
    (pss_one (ps_ret (pe_cmpR (op_eqD hr.units) (pe_lc (own := [("_law_at", 3)]) (g := gName 3) (tt := tTest (tOp (rNeD K) (tCall (spF K relRow) [] E0 (tCons (tVar 0) (tCons (tVar 3) tNil))) (tOp (rIxL K) (tVar 1) (tOp rMinus (tVar 3) (tC (.int 1)))))) rfl scAlike.nd (pi_range2 (by rfl) m_range (pa_cons (pplus (px (px (pv 0) pe_int) pe_int) pe_int) (pa_cons (pplus (pv 2) pe_int) pa_nil))) (blkOk_by (N := ["_law_log", "_law_rows", "_law_place", "_law_at"]) (sc := defScope sAlike) (by decide +kernel)) (fun _ _ _ _ _ => pgl 3 scAlike.nd) (fun _ _ _ _ _ => pts_one (pt_cmpR (op_neD hr.units) (pe_fn o_row_at hr (pa_cons (pv 0) (pa_cons (pv 3) pa_nil))) (pxl (pv 1) (pminus (pv 3) pe_int)) (nomark _))) (fun _ _ _ _ _ => (pv 3))) (pe_lst pa_nil) (nomark _))))), ?_⟩
  rintro ds d ⟨rows, L, sure, c, m, p, rfl, hro, hf, hp, h900, rfl⟩
  have hlast : ((L.fp : Nat) : Int) + ((L.rows.map rowD).length : Nat) = ((L.last : Nat) : Int) := by rw [List.length_map]; unfold Log.last; omega
  refine so_exit (eb_tTest (ed_b2 (ed_i2 (ed_ixT (ed_ixT (ed_var rfl) ed_int rfl) ed_int rfl) (ed_lenT (ds := L.rows.map rowD) (ed_ixT (ed_var rfl) ed_int rfl))) (ed_var rfl))) (fun z => so_ret ed_bl ?_) fun z => ?_
  · have z := of_decide_eq_true z
    rw [hlast] at z
    have := hf.last_ge
    show D.bl _ = D.bl _
    congr 1
    exact (decide_eq_false (by omega)).symm
  have z := of_decide_eq_false z
  rw [hlast] at z
  have hpl : p ≤ L.last := by omega
  have hfc := hf.fp_c
  have hcl := hf.c_len
  -- the row of the log at a place, the head's there
  let lr : Nat → Row := fun i => L.rows.getD i ⟨0, 0⟩
  let hr' : Nat → Row := fun i => rows.getD (L.fp + i) ⟨0, 0⟩
  have elr : ∀ i, i < p - L.fp → L.rows[i]? = some (lr i) := fun i hi => by
    have : i < L.rows.length := by unfold Log.last at hpl; omega
    show _ = some (L.rows.getD i ⟨0, 0⟩)
    rw [List.getElem?_eq_getElem this]
    simp [this]
  have ehr : ∀ i, i < p - L.fp → rows[L.fp + i]? = some (hr' i) := fun i hi => by
    have : L.fp + i < rows.length := by omega
    show _ = some (rows.getD (L.fp + i) ⟨0, 0⟩)
    rw [List.getElem?_eq_getElem this]
    simp [this]
  have eqr : ∀ i, i < p - L.fp → ((!PyData.eqv (py (rowD (lr i))) (py (rowD (hr' i)))) = true ↔ c ≤ L.fp + i) := fun i hi => by
    constructor
    · intro q
      by_cases y : L.fp + i + 1 ≤ c
      · have h1 := hf.get (p := L.fp + i + 1) (by omega) y
        have a1 : L.fp + i + 1 - L.fp - 1 = i := by omega
        have a2 : L.fp + i + 1 - 1 = L.fp + i := by omega
        rw [a1, a2, elr i hi, ehr i hi] at h1
        have h1 := Option.some.inj h1
        rw [h1, eqv_row_self] at q
        cases q
      · omega
    · intro y
      obtain ⟨r, h1, h2⟩ := hf.odd (p := L.fp + i + 1) (by omega) (by omega)
      have a1 : L.fp + i + 1 - L.fp - 1 = i := by omega
      rw [a1, elr i hi] at h1
      have h1 := Option.some.inj h1
      have h3 := (hro.ok _ (List.mem_of_getElem? (ehr i hi))).1
      rw [eqv_row_ne]
      · rfl
      · rw [h1]
        omega
  refine so_ret (ed_eqD (n := 5) (m := 1) (ed_lc (zs := List.range (p - L.fp)) (c := fun i => D.int (((L.fp : Nat) : Int) + 1 + (i : Nat))) (fun i => !PyData.eqv (py (rowD (lr i))) (py (rowD (hr' i)))) (fun i => D.int (((L.fp : Nat) : Int) + 1 + (i : Nat)))
    ?_ (by rw [List.length_range]; omega) (fun _ _ _ => rfl) fun i hi => ?_) (ed_lst ea_nil) ?_ rfl ?_ (Shp.lst (n := 0) fun d hd => by simp at hd)) ?_
  · have h := ei_range2 (K := K) (H0 := H) (ta := tOp rPlus (tOp (rIxT K) (tOp (rIxT K) (tVar 0) (tC (.int 0))) (tC (.int 0))) (tC (.int 1))) (te := tOp rPlus (tVar 2) (tC (.int 1))) (es := begun ["_law_log", "_law_rows", "_law_place", "_law_at"] [logD L, .lst (rows.map rowD), .int p])
      (ed_i2 (ed_ixT (ed_ixT (ed_var rfl) ed_int rfl) ed_int rfl) ed_int) (ed_i2 (ed_var rfl) ed_int) (by omega)
    unfold rgD at h
    have e : ((p : Int) + 1 - (((L.fp : Nat) : Int) + 1)).toNat = p - L.fp := by omega
    rw [e] at h
    exact h
  · have hi := List.mem_range.mp hi
    refine ⟨eb_tTest (ed_neD (n := 4) (m := 4) (ed_call (ea_cons (ed_var rfl) (ea_cons (ED.to (ed_var rfl) (show D.int (((L.fp : Nat) : Int) + 1 + (i : Nat)) = D.int ((L.fp + 1 + i : Nat) : Int) by congr 1)) ea_nil)) fun _ _ => ⟨L, L.fp + 1 + i, lr i, rfl, by omega, ?_, rfl⟩)
      (ed_ixL (ds := rows.map rowD) (ed_var rfl) (ed_i2 (ed_var rfl) ed_int) (atI_of (j := L.fp + i) (by omega) (by rw [List.getElem?_map, ehr i hi]; rfl))) (nr_row _) (nr_row _) (shp_row _) (shp_row _)), fun _ => ed_var rfl⟩
    have a1 : L.fp + 1 + i - L.fp - 1 = i := by omega
    rw [a1]
    exact elr i hi
  · exact nrs_of fun d hd => by
      obtain ⟨r, _, rfl⟩ := List.mem_map.mp hd
      rfl
  · exact Shp.mono (Shp.lst (n := 1) fun d hd => by
      obtain ⟨r, _, rfl⟩ := List.mem_map.mp hd
      exact shp_int _) (by decide)
  · show D.bl _ = D.bl _
    congr 1
    rw [eqv_lst_nil, Bool.eq_iff_iff, decide_eq_true_iff, List.isEmpty_iff, List.map_eq_nil_iff, List.filter_eq_nil_iff]
    constructor
    · intro h
      by_cases y : p ≤ c
      · exact y
      · have hx : c - L.fp < p - L.fp := by omega
        exact absurd ((eqr (c - L.fp) hx).mpr (by omega)) (h _ (List.mem_range.mpr hx))
    · intro h i hi q
      have hi := List.mem_range.mp hi
      have := (eqr i hi).mp q
      omega
end
end Sh

/-! ### code that changes objects -/
namespace Sh
open PySem L2
/-- all but the objects at xs is kept, every tuple too -/
structure Kp (K : PySem.W.Frag) (xs : List Addr) (H H' : Hp) : Prop where
  tle : TLe K H H'
  keep : ∀ b o, H b = some o → b ∉ xs → H' b = some o
section
variable {K : PySem.W.Frag} {xs ys : List Addr} {H H' H'' : Hp}
theorem Kp.of (S : Same H H') : Kp K xs H H' := ⟨TLe.of S, fun b o h _ => S b o h⟩
theorem Kp.trans (a : Kp K xs H H') (b : Kp K xs H' H'') : Kp K xs H H'' := ⟨a.tle.trans b.tle, fun c o h n => b.keep c o (a.keep c o h n) n⟩
theorem Kp.mono (a : Kp K xs H H') (h : ∀ b ∈ xs, b ∈ ys) : Kp K ys H H' := ⟨a.tle, fun b o q n => a.keep b o q fun z => n (h b z)⟩
theorem Kp.lst {a : Addr} {vs : List V} {o : HO} (e : H a = some (.lst vs)) (h : a ∈ xs) : Kp K xs H (upd H a o) := ⟨TLe.lst e, fun b u q n => by
  rw [upd_ne (fun z : b = a => n (by rw [z]; exact h))]
  exact q⟩
theorem Kp.dK {a : Addr} {vs : List (Key × V)} {o : HO} (e : H a = some (.dK vs)) (h : a ∈ xs) : Kp K xs H (upd H a o) := ⟨TLe.dK e, fun b u q n => by
  rw [upd_ne (fun z : b = a => n (by rw [z]; exact h))]
  exact q⟩
theorem Kp.ins {a C dx : Addr} {fs : List (Str × V)} {o : HO} (e : H a = some (.ins C dx fs)) (h : a ∈ xs) : Kp K xs H (upd H a o) := ⟨TLe.ins e, fun b u q n => by
  rw [upd_ne (fun z : b = a => n (by rw [z]; exact h))]
  exact q⟩
/-- an object that was not there yet at H may change -/
theorem Kp.fresh (a : Kp K xs H H') {p : Addr} (hp : H p = none) (b : Kp K (p :: xs) H' H'') : Kp K xs H H'' := ⟨a.tle.trans b.tle, fun c o h n => b.keep c o (a.keep c o h n) fun z => by
  rcases List.mem_cons.mp z with q | q
  · rw [q, hp] at h
    cases h
  · exact n q⟩
end
def nls (es : Es) : Prop := ∀ d, some d ∈ es → noL d = true
theorem nls_nil : nls [] := fun d h => by simp at h
theorem nls_cons {d : D} {es : Es} (h : noL d = true) (n : nls es) : nls (some d :: es) := fun x hx => by
  rcases List.mem_cons.mp hx with q | q
  · cases q
    exact h
  · exact n x q
theorem nls_none {es : Es} (n : nls es) : nls (none :: es) := fun x hx => by
  rcases List.mem_cons.mp hx with q | q
  · cases q
  · exact n x q
theorem nls_set {d : D} {es : Es} {i : Nat} (h : noL d = true) (n : nls es) : nls (es.set i (some d)) := fun x hx => by
  rcases List.mem_or_eq_of_mem_set hx with q | q
  · exact n x q
  · cases q
    exact h
theorem Env.tle {K : PySem.W.Frag} {H H' : Hp} {σ : L2.St} {es : Es} (T : TLe K H H') (n : nls es) (e : Env K H σ es) : Env K H' σ es :=
  ⟨e.len, fun i d q => let ⟨v, h1, h2⟩ := e.at_ i d q; ⟨v, h1, h2.tle T d v (n d (List.mem_of_getElem? q))⟩⟩
section
variable (K : PySem.W.Frag) (H : Hp)
def IE (te : TE) (es : Es) (P : D → Hp → Prop) : Prop := ∀ σ (Q : VK), Env K H σ es → nls es → (∀ v H' d, Rp K H' v d → TLe K H H' → P d H' → Q v H') → te σ H Q
def IA (ta : TA) (es : Es) (P : List D → Hp → Prop) : Prop := ∀ σ (Q : List V → Hp → Prop), Env K H σ es → nls es → (∀ vs H' ds, RpL K H' vs ds → TLe K H H' → P ds H' → Q vs H') → ta σ H Q
def Im (ts : TS) (es : Es) (N : Hp → Es → Prop) (R : D → Hp → Prop) : Prop := ∀ σ (E : Ends), Env K H σ es → nls es → (∀ σ' H' es', Env K H' σ' es' → nls es' → N H' es' → E.nx σ' H') → (∀ v H' d, Rp K H' v d → R d H' → E.rt v H') → ts E σ H
/-- an operation on values -/
def OpI (r : R2) (x y : D) (P : D → Hp → Prop) : Prop := ∀ v w (Q : VK), Rp K H v x → Rp K H w y → (∀ u H' d, Rp K H' u d → TLe K H H' → P d H' → Q u H') → r v w H Q
end
section
variable {K : PySem.W.Frag} {H : Hp} {es : Es} {ta tb te : TE} {t : TT} {P : D → Hp → Prop} {N : Hp → Es → Prop} {R : D → Hp → Prop} {t1 t2 ts : TS}
theorem IE.mono {P' : D → Hp → Prop} (h : IE K H te es P) (q : ∀ d H', P d H' → P' d H') : IE K H te es P' := fun σ Q e n k => h σ Q e n fun v H' d r T p => k v H' d r T (q d H' p)
theorem ie_ed {d : D} (h : ED K H te es d) (q : ∀ H', Same H H' → P d H') : IE K H te es P := fun σ Q e n k => h σ H (Same.refl H) e _ fun v H' s r => k v H' d r (TLe.of s) (q H' s)
theorem ie_op {r : R2} (h : IE K H ta es fun x H1 => noL x = true ∧ IE K H1 tb es fun y H2 => OpI K H2 r x y P) : IE K H (tOp r ta tb) es P := fun σ Q e n k =>
  h σ _ e n fun v H1 x rv T1 ⟨nx, h2⟩ => h2 σ _ (e.tle T1 n) n fun w H2 y rw' T2 h3 => h3 v w Q (rv.tle T2 x v nx) rw' fun u H3 d ru T3 p => k u H3 d ru ((T1.trans T2).trans T3) p
theorem opi_i2 {f : Int → Int → Int} {i j : Int} (h : P (.int (f i j)) H) : OpI K H (rI0 fun i j => .int (f i j)) (.int i) (.int j) P := fun v w Q r1 r2 k => ⟨i, j, r1.int_eq, r2.int_eq, k _ H _ (.int _) (fun _ _ z => z) h⟩
theorem opi_i2c {C : Int → Int → Prop} {f : Int → Int → Int} {i j : Int} (hc : C i j) (h : P (.int (f i j)) H) : OpI K H (rI C fun i j => .int (f i j)) (.int i) (.int j) P := fun v w Q r1 r2 k => ⟨i, j, r1.int_eq, r2.int_eq, hc, k _ H _ (.int _) (fun _ _ z => z) h⟩
theorem opi_ixT {ds : List D} {i : Int} {d : D} (ha : atI ds i = some d) (h : P d H) : OpI K H (rIxT K) (.tup ds) (.int i) P := fun v w Q r1 r2 k => by
  obtain ⟨a, xs, rfl, hs, hr⟩ := r1.tup_of
  obtain ⟨u, h1, h2⟩ := hr.atI ha
  exact ⟨a, xs, i, u, rfl, r2.int_eq, hs, h1, k u H d h2 (fun _ _ z => z) h⟩
theorem opi_ixL {ds : List D} {i : Int} {d : D} (ha : atI ds i = some d) (h : P d H) : OpI K H (rIxL K) (.lst ds) (.int i) P := fun v w Q r1 r2 k => by
  obtain ⟨a, xs, rfl, hs, hr⟩ := r1.lst_of
  obtain ⟨u, h1, h2⟩ := hr.atI ha
  exact ⟨a, xs, i, u, rfl, r2.int_eq, hs, h1, k u H d h2 (fun _ _ z => z) h⟩
theorem ia_nil {PA : List D → Hp → Prop} (h : PA [] H) : IA K H tNil es PA := fun σ Q e n k => k [] H [] .nil (fun _ _ z => z) h
theorem ia_cons {ts : TA} {PA : List D → Hp → Prop} (h : IE K H te es fun d H1 => noL d = true ∧ IA K H1 ts es fun ds H2 => PA (d :: ds) H2) : IA K H (tCons te ts) es PA := fun σ Q e n k =>
  h σ _ e n fun v H1 d r T1 ⟨nd, h2⟩ => h2 σ _ (e.tle T1 n) n fun vs H2 ds rs T2 p => k _ H2 _ (.cons (r.tle T2 d v nd) rs) (T1.trans T2) p
theorem ia_ea {ts : TA} {ds : List D} {PA : List D → Hp → Prop} (h : EA K H ts es ds) (q : ∀ H', Same H H' → PA ds H') : IA K H ts es PA := fun σ Q e n k => h σ H (Same.refl H) e _ fun vs H' s r => k vs H' ds r (TLe.of s) (q H' s)
theorem ie_tup {ts : TA} (h : IA K H ts es fun ds H1 => ds.length ≤ 1000 ∧ ∀ H2, Same H1 H2 → P (.tup ds) H2) : IE K H (tTup ts) es P := fun σ Q e n k =>
  h σ _ e n fun vs H1 ds r T1 ⟨hl, q⟩ => ⟨Nat.le_of_lt (small1000 (by rw [r.length]; exact hl)), fun p hp => k _ _ (.tup ds) (.tup (SqT.of upd_same) (RpL.same (Same.new hp) _ _ r)) (T1.trans (TLe.of (Same.new hp))) (q _ (Same.new hp))⟩
/-- a new list, by its address -/
theorem ie_lst {ts : TA} (h : IA K H ts es fun ds H1 => ds.length ≤ 1000 ∧ ∀ p vs, H1 p = none → RpL K H1 vs ds → P (.ref p) (upd H1 p (.lst vs))) : IE K H (tLst ts) es P := fun σ Q e n k =>
  h σ _ e n fun vs H1 ds r T1 ⟨hl, q⟩ => ⟨Nat.le_of_lt (small1000 (by rw [r.length]; exact hl)), fun p hp => k _ _ (.ref p) (.ref p) (T1.trans (TLe.of (Same.new hp))) (q p vs hp r)⟩
/-! calls -/
def spI (K : PySem.W.Frag) (rel : Hp → List D → (D → Hp → Prop) → Prop) : Sp := fun vs H Q _ => ∃ ds P, RpL K H vs ds ∧ rel H ds P ∧ ∀ v H' d, Rp K H' v d → TLe K H H' → P d H' → Q v H'
theorem ie_call {rel : Hp → List D → (D → Hp → Prop) → Prop} {ts : TA} {E : XK} (h : IA K H ts es fun ds H1 => ∃ P1, rel H1 ds P1 ∧ ∀ d H2, P1 d H2 → P d H2) : IE K H (tCall (spI K rel) [] E ts) es P := fun σ Q e n k =>
  h σ _ e n fun vs H1 ds r T1 ⟨P1, h1, h2⟩ => ⟨ds, P1, by rw [List.append_nil]; exact r, h1, fun v H2 d rv T2 p => k v H2 d rv (T1.trans T2) (h2 d H2 p)⟩
theorem ie_callF {rel : Hp → List D → D → Prop} {ts : TA} {E : XK} (h : IA K H ts es fun ds H1 => ∃ d, rel H1 ds d ∧ ∀ H2, Same H1 H2 → P d H2) : IE K H (tCall (spF K rel) [] E ts) es P := fun σ Q e n k =>
  h σ _ e n fun vs H1 ds r T1 ⟨d, h1, h2⟩ => ⟨ds, d, by rw [List.append_nil]; exact r, h1, fun v H2 s rv => k v H2 d rv (T1.trans (TLe.of s)) (h2 H2 s)⟩
theorem spI_len {rel : Hp → List D → (D → Hp → Prop) → Prop} {n : Nat} (h : ∀ H ds P, rel H ds P → ds.length = n) (vs : List V) (H : Hp) (Q : VK) (E : XK) (q : spI K rel vs H Q E) : vs.length = n := by
  obtain ⟨ds, P, r, hr, _⟩ := q
  rw [r.length]
  exact h H ds P hr
theorem nls_rep : ∀ n : Nat, nls (List.replicate n none)
  | 0 => nls_nil
  | n + 1 => nls_none (nls_rep n)
theorem nls_begun {N : List Str} {ds : List D} (h : noLs ds = true) : nls (begun N ds) := by
  unfold begun
  induction ds with
  | nil => exact nls_rep _
  | cons d ds ih =>
    have h' : noL d = true ∧ noLs ds = true := by simpa [noLs] using h
    intro x hx
    rcases List.mem_append.mp hx with q | q
    · obtain ⟨y, hy, e⟩ := List.mem_map.mp q
      cases e
      rcases List.mem_cons.mp hy with z | z
      · rw [z]; exact h'.1
      · exact ih h'.2 x (List.mem_append_left _ (List.mem_map.mpr ⟨x, z, rfl⟩))
    · exact nls_rep _ x q
theorem spI_run {rel : Hp → List D → (D → Hp → Prop) → Prop} {NN : List Str} {vs : List V} {Q : VK} {E : XK} (q : spI K rel vs H Q E)
    (h : ∀ ds P, rel H ds P → noLs ds = true ∧ Im K H ts (begun NN ds) (fun H' _ => TLe K H H' ∧ P .non H') (fun d H' => TLe K H H' ∧ P d H')) : ts { nx := fun _ H' => Q .non H', rt := Q } (start NN vs) H := by
  obtain ⟨ds, P, r, hr, k⟩ := q
  obtain ⟨hn, hi⟩ := h ds P hr
  exact hi _ _ (Env.start r) (nls_begun hn) (fun _ H' _ _ _ p => k .non H' .non .non p.1 p.2) fun v H' d rv p => k v H' d rv p.1 p.2
/-! statements -/
theorem Im.mono {N' : Hp → Es → Prop} {R' : D → Hp → Prop} (h : Im K H ts es N R) (q : ∀ H' es', N H' es' → N' H' es') (q2 : ∀ d H', R d H' → R' d H') : Im K H ts es N' R' := fun σ E e n k1 k2 =>
  h σ E e n (fun σ' H' es' e' n' p => k1 σ' H' es' e' n' (q H' es' p)) fun v H' d r p => k2 v H' d r (q2 d H' p)
theorem im_next (h : N H es) : Im K H tNext es N R := fun σ E e n kn kr => kn σ H es e n h
theorem im_never (h : False) : Im K H ts es N R := h.elim
theorem im_seq {N1 : Hp → Es → Prop} (h : Im K H t1 es N1 R) (h2 : ∀ H1 es1, N1 H1 es1 → Im K H1 t2 es1 N R) : Im K H (tSeq t1 t2) es N R := fun σ E e n kn kr =>
  h σ { E with nx := t2 E } e n (fun σ1 H1 es1 e1 n1 p => h2 H1 es1 p σ1 E e1 n1 kn kr) kr
theorem im_ret (h : IE K H te es fun d H' => R d H') : Im K H (tRet te) es N R := fun σ E e n kn kr => h σ _ e n fun v H' d r T p => kr v H' d r p
theorem im_set {i : Nat} (h : IE K H te es fun d H' => noL d = true ∧ N H' (es.set i (some d))) : Im K H (tAsg te (gName i)) es N R := fun σ E e n kn kr =>
  h σ _ e n fun v H' d r T ⟨nd, p⟩ => kn _ H' _ ((e.tle T n).set r) (nls_set nd n) p
theorem im_expr (h : IE K H te es fun _ H' => N H' es) : Im K H (tDrop te) es N R := fun σ E e n kn kr => h σ _ e n fun v H' d r T p => kn σ H' es (e.tle T n) n p
theorem im_if {b : Bool} (h : EB K H t es b) (h1 : b = true → ∀ H', Same H H' → Im K H' t1 es N R) (h2 : b = false → ∀ H', Same H H' → Im K H' t2 es N R) : Im K H (tIfS t t1 t2) es N R := fun σ E e n kn kr => h σ H (Same.refl H) e _ fun H1 s1 => by
  cases b with
  | true => exact h1 rfl H1 s1 σ E (e.same s1) n kn kr
  | false => exact h2 rfl H1 s1 σ E (e.same s1) n kn kr
/-- pure code within -/
theorem im_so {N' : Es → Prop} {R' : D → Prop} (h : So K H ts es N' R') (hn : ∀ H' es', Same H H' → N' es' → nls es' ∧ N H' es') (hr : ∀ d H', Same H H' → R' d → R d H') : Im K H ts es N R := fun σ E e n kn kr =>
  h σ H E (Same.refl H) e (fun σ' H' es' s e' p => kn σ' H' es' e' (hn H' es' s p).1 (hn H' es' s p).2) fun v H' d s r p => kr v H' d r (hr d H' s p)
/-! stores -/
def keyD : Key → D
  | .inl i => .int i
  | .inr x => .str x
theorem Rp.key {v : V} {k : Key} (h : Rp K H v (keyD k)) : v = kV k := by
  cases k with
  | inl i => exact h.int_eq
  | inr x => exact h.str_eq
theorem im_dput {td ty tv : TE} (h : IE K H tv es fun d H1 => ∃ a key kvs, ED K H1 td es (.ref a) ∧ ED K H1 ty es (keyD key) ∧ H1 a = some (.dK kvs) ∧ kvs.length ≤ 1000 ∧ ∀ H2 v, Same H1 H2 → Rp K H2 v d → N (upd H2 a (.dK (putK kvs key v))) es) : Im K H (sDPut td ty tv) es N R := fun σ E e n kn kr =>
  h σ _ e n fun v H1 d r T ⟨a, key, kvs, h1, h2, h3, h4, h5⟩ => h1 σ H1 (Same.refl H1) (e.tle T n) _ fun x H2 s2 r2 => h2 σ H2 s2 ((e.tle T n).same s2) _ fun y H3 s3 r3 => by
    have s13 := s2.trans s3
    have hk := s13 _ _ h3
    refine ⟨a, _, r2.ref_eq, (r3.key ▸ DPut.k (v := v) hk (small1000 h4)), ?_⟩
    have e3 := ((e.tle T n).same s13)
    exact kn σ _ es (e3.tle (TLe.dK hk) n) n (h5 H3 v s13 (r.same s13))
theorem im_append {to : TE} {a : Addr} {ws : List V} (ho : ED K H to es (.ref a)) (hl : H a = some (.lst ws)) (ha : ∀ H1, Same H H1 → IE K H1 te es fun d H2 => ∃ vs, H2 a = some (.lst vs) ∧ vs.length ≤ 1000 ∧ ∀ v, Rp K H2 v d → N (upd H2 a (.lst (vs ++ [v]))) es) :
    Im K H (tDrop (tBM K "list" rAppend to (tCons te tNil))) es N R := fun σ E e n kn kr =>
  ho σ H (Same.refl H) e _ fun x H1 s1 r1 => by
    rw [r1.ref_eq]
    refine ⟨.inl ⟨rfl, _, SqL.of (s1 _ _ hl)⟩, ?_⟩
    refine ha H1 s1 σ _ (e.same s1) n fun v H2 d r T ⟨vs, h1, h2, h3⟩ => ?_
    exact ⟨a, vs, v, rfl, rfl, h1, small1000 h2, kn σ _ es (((e.same s1).tle T n).tle (TLe.lst h1) n) n (h3 v r)⟩
/-- xs.pop() -/
theorem ie_pop {to : TE} {a : Addr} {ws : List V} (ho : ED K H to es (.ref a)) (hl : H a = some (.lst ws)) (h : ∀ H1, Same H H1 → ∃ v d, ws[ws.length - 1]? = some v ∧ Rp K H1 v d ∧ noL d = true ∧ P d (upd H1 a (.lst ws.dropLast))) : IE K H (tBM0 K "list" rPop to) es P := fun σ Q e n k =>
  ho σ H (Same.refl H) e _ fun x H1 s1 r1 => by
    rw [r1.ref_eq]
    have hl1 := s1 _ _ hl
    obtain ⟨v, d, h1, h2, h3, h4⟩ := h H1 s1
    refine ⟨.inl ⟨rfl, _, SqL.of hl1⟩, a, ws, v, rfl, rfl, hl1, h1, ?_⟩
    exact k v _ d (h2.tle (TLe.lst hl1) d v h3) ((TLe.of s1).trans (TLe.lst hl1)) h4
/-- xs.pop(i), what came is dropped -/
theorem im_popAt {to : TE} {a : Addr} {ws : List V} (ho : ED K H to es (.ref a)) (hl : H a = some (.lst ws)) (ha : ∀ H1, Same H H1 → IE K H1 te es fun d H2 => ∃ (vs : List V) (i : Nat), d = .int i ∧ H2 a = some (.lst vs) ∧ i < vs.length ∧ vs.length ≤ 1000 ∧ N (upd H2 a (.lst (vs.eraseIdx i))) es) :
    Im K H (tDrop (tBM K "list" rPopAt to (tCons te tNil))) es N R := fun σ E e n kn kr =>
  ho σ H (Same.refl H) e _ fun x H1 s1 r1 => by
    rw [r1.ref_eq]
    refine ⟨.inl ⟨rfl, _, SqL.of (s1 _ _ hl)⟩, ?_⟩
    refine ha H1 s1 σ _ (e.same s1) n fun v H2 d r T ⟨vs, i, h0, h1, h2, h3, h4⟩ => ?_
    subst h0
    refine ⟨a, vs, i, i, vs[i], rfl, by rw [r.int_eq], h1, by omega, by omega, ?_, by simp [h2], kn σ _ es (((e.same s1).tle T n).tle (TLe.lst h1) n) n h4⟩
    exact PySem.StrLaws.seqIndex_nonneg (by omega) (by omega)
/-! loops -/
/-- for x in range(n), x in slot j -/
theorem im_for1 {j : Nat} (h : IE K H te es fun d H1 => ∃ n : Nat, d = .int n ∧ n ≤ 1000 ∧ ∃ I : Nat → Hp → Es → Prop, I 0 H1 es ∧ (∀ i H2 es2, i < n → I i H2 es2 → Im K H2 ts (es2.set j (some (.int (i : Nat)))) (I (i + 1)) R) ∧ ∀ H2 es2, I n H2 es2 → N H2 es2) : Im K H (tFor (iRng1 (tCons te tNil)) (gName j) ts) es N R := fun σ E e nn kn kr =>
  h σ _ e nn fun v H1 d r T ⟨n, h0, h1, I, hI, hs, hd⟩ => by
    subst h0
    refine ⟨n, by rw [r.int_eq], by omega, by omega, ?_⟩
    rw [Int.toNat_natCast]
    refine for_range (fun i σ' H' => ∃ es', Env K H' σ' es' ∧ nls es' ∧ I i H' es') ⟨es, e.tle T nn, nn, hI⟩ (fun i σ' H' hi ⟨es', e', n', p⟩ => ?_) fun σ' H' ⟨es', e', n', p⟩ => kn σ' H' es' e' n' (hd H' es' p)
    refine hs i H' es' hi p _ _ ?_ (nls_set rfl n') (fun σ3 H3 es3 e3 n3 p3 => ⟨es3, e3, n3, p3⟩) kr
    rw [Int.zero_add]
    exact e'.set (.int _)
/-- for x in range(a, b) -/
theorem im_for2 {j a b : Nat} (ha : ED K H ta es (.int a)) (hb : ED K H tb es (.int b)) (h1 : a ≤ 1000 ∧ b ≤ 1000) (I : Nat → Hp → Es → Prop) (hI : ∀ H', Same H H' → I 0 H' es) (hs : ∀ i H2 es2, i < b - a → I i H2 es2 → Im K H2 ts (es2.set j (some (.int ((a + i : Nat) : Int)))) (I (i + 1)) R) (hd : ∀ H2 es2, I (b - a) H2 es2 → N H2 es2) :
    Im K H (tFor (iRng2 (tCons ta (tCons tb tNil))) (gName j) ts) es N R := fun σ E e nn kn kr =>
  ha σ H (Same.refl H) e _ fun v H1 s1 r1 => hb σ H1 s1 (e.same s1) _ fun w H2 s2 r2 => by
    refine ⟨a, b, by rw [r1.int_eq, r2.int_eq], by omega, ?_⟩
    have eb : ((b : Int) - (a : Int)).toNat = b - a := by omega
    rw [eb]
    refine for_range (fun i σ' H' => ∃ es', Env K H' σ' es' ∧ nls es' ∧ I i H' es') ⟨es, (e.same s1).same s2, nn, hI H2 (s1.trans s2)⟩ (fun i σ' H' hi ⟨es', e', n', p⟩ => ?_) fun σ' H' ⟨es', e', n', p⟩ => kn σ' H' es' e' n' (hd H' es' p)
    refine hs i H' es' hi p _ _ ?_ (nls_set rfl n') (fun σ3 H3 es3 e3 n3 p3 => ⟨es3, e3, n3, p3⟩) kr
    have : (a : Int) + (i : Nat) = ((a + i : Nat) : Int) := by omega
    rw [this]
    exact e'.set (.int _)
/-! reading what may change -/
theorem ed_dget {td ty : TE} {a : Addr} {key : Key} {kvs : List (Key × V)} {v : V} {d : D} (h1 : ED K H td es (.ref a)) (h2 : ED K H ty es (keyD key)) (ha : H a = some (.dK kvs)) (hv : valV kvs key = some v) (r : Rp K H v d) : ED K H (tDGet td ty) es d := fun σ H1 s e Q q =>
  h1 σ H1 s e _ fun x H2 s2 r2 => h2 σ H2 (s.trans s2) (e.same s2) _ fun y H3 s3 r3 => by
    have s03 := (s.trans s2).trans s3
    refine ⟨a, v, r2.ref_eq, ?_, q v H3 (s2.trans s3) (r.same s03)⟩
    rw [r3.key, ← hv]
    exact DGet.k (s03 _ _ ha)
theorem ed_fld {a C dx : Addr} {fs : List (Str × V)} {f : Str} {v : V} {d : D} (h : ED K H te es (.ref a)) (ha : H a = some (.ins C dx fs)) (hc : Cls K C) (hn : NoAttr K C f) (hl : fs.lookup f = some v) (r : Rp K H v d) : ED K H (tFld K te f) es d := fun σ H1 s e Q q =>
  h σ H1 s e _ fun x H2 s2 r2 => ⟨a, C, dx, fs, v, r2.ref_eq, (s.trans s2) _ _ ha, hc, hn, hl, q v H2 s2 (r.same (s.trans s2))⟩
theorem ed_asL {a : Addr} {vs : List V} {ds : List D} (h : ED K H te es (.ref a)) (ha : H a = some (.lst vs)) (r : RpL K H vs ds) : ED K H te es (.lst ds) := fun σ H1 s e Q q =>
  h σ H1 s e _ fun v H2 s2 r2 => q v H2 s2 (by rw [r2.ref_eq]; exact .lst (SqL.of ((s.trans s2) _ _ ha)) (RpL.same (s.trans s2) _ _ r))
theorem ED.up {H' : Hp} {d : D} (S : Same H H') (h : ED K H te es d) : ED K H' te es d := fun σ H1 s => h σ H1 (S.trans s)
end
section
variable {P : Program} {w : World} {K : PySem.W.Frag} {mg : Str → Option Value} {base : Heap}
theorem Gd.imp {x : Str} {st : Stmt} {ps N : List Str} {k : Nat} {rel : Hp → List D → (D → Hp → Prop) → Prop} (g : Gd K mg x st ps) (S : FnScope N ps (defScope st)) (hl : ∀ H ds P, rel H ds P → ds.length = ps.length)
    (h : ∀ (f : Addr) (cdv : Value) (A : Around) (outer : List PySem.Env) (s : Shared) (H : Hp) (E : XK), Room k (A.deeper (PyProof.Rows.envOfC x (defScope st) s.heap.objs.size f cdv)) →
      ∃ t, PSs (cxOf CX0 P w K mg base N x (defScope st) f cdv A outer s H E).nox (defBody st) t ∧ ∀ ds PP, rel H ds PP → noLs ds = true ∧ Im K H t (begun N ds) (fun H' _ => TLe K H H' ∧ PP .non H') (fun d H' => TLe K H H' ∧ PP d H')) : Ok P w K mg base (k + 1) x ps (spI K rel) :=
  g.ok S (spI_len hl) fun f cdv A outer s H vs Q E hr hs => let ⟨t, h1, h2⟩ := h f cdv A outer s H E hr; ⟨t, h1, spI_run hs h2⟩
end
end Sh

/-! ### the draws -/
namespace Sh
open PySem L2
theorem kv_put {kvs : List (Key × V)} {j k : Key} {x y : V} (h : valV kvs j = some x) (n : ¬ j = k) : valV (putK kvs k y) j = some x := by rw [valV_put, if_neg n, h]
theorem kv_same {kvs : List (Key × V)} {k : Key} {y : V} : valV (putK kvs k y) k = some y := by rw [valV_put, if_pos rfl]
theorem kv_len {kvs : List (Key × V)} {k : Key} {x y : V} (h : valV kvs k = some x) : (putK kvs k y).length = kvs.length := by
  unfold putK
  have e : (kvs.any fun kv => decide (kv.1 = k)) = true := by rw [valV_any, h]; rfl
  rw [if_pos e, List.length_map]
theorem kv_pos {κ : Type} [DecidableEq κ] {r : List (κ × V)} {k : κ} {v : V} : valV ((k, v) :: r) k = some v := valV_pos rfl
theorem kv_neg {κ : Type} [DecidableEq κ] {r : List (κ × V)} {k j : κ} {v : V} (h : ¬ k = j) : valV ((k, v) :: r) j = valV r j := valV_neg h
theorem mergeK_app : ∀ (more kvs : List (Key × V)), ((kvs ++ more).map (·.1)).Nodup → mergeK kvs more = kvs ++ more
  | [], kvs, _ => by show kvs = kvs ++ []; rw [List.append_nil]
  | p :: more, kvs, h => by
    show mergeK (putK kvs p.1 p.2) more = _
    have hn : valV kvs p.1 = none := by
      cases e : valV kvs p.1 with
      | none => rfl
      | some v =>
        have h1 := valV_in e
        rw [List.map_append, List.map_cons] at h
        have h2 := (List.nodup_append.mp h).2.2 _ h1 p.1 (List.mem_cons_self)
        exact absurd rfl h2
    rw [putK_new _ hn]
    have e : kvs ++ p :: more = (kvs ++ [(p.1, p.2)]) ++ more := by rw [List.append_assoc]; rfl
    rw [e] at h ⊢
    exact mergeK_app more _ h
theorem mergeK_nd {kvs : List (Key × V)} (h : (kvs.map (·.1)).Nodup) : mergeK [] kvs = kvs := mergeK_app kvs [] h
/-! displays of dicts -/
section
variable {K : PySem.W.Frag} {H : Hp} {es : Es} {P : D → Hp → Prop}
def EPs (K : PySem.W.Frag) (H0 : Hp) (es : Es) : List (TE × TE) → List (Key × D) → Prop
  | [], [] => True
  | (tk, tv) :: r, (k, d) :: kds => ED K H0 tk es (keyD k) ∧ ED K H0 tv es d ∧ EPs K H0 es r kds
  | _, _ => False
theorem eps_run : ∀ {trs : List (TE × TE)} {kds : List (Key × D)}, EPs K H es trs kds → ∀ σ H1, Same H H1 → Env K H1 σ es → ∀ Q : List (V × V) → Hp → Prop,
    (∀ (kvs : List (Key × V)) H2, Same H1 H2 → kvs.map (·.1) = kds.map (·.1) → RpL K H2 (kvs.map (·.2)) (kds.map (·.2)) → Q (kvs.map fun kv => (kV kv.1, kv.2)) H2) → tPairs trs σ H1 Q
  | [], [], _, σ, H1, s, e, Q, k => k [] H1 (Same.refl H1) rfl .nil
  | (tk, tv) :: r, (key, d) :: kds, ⟨h1, h2, h3⟩, σ, H1, s, e, Q, k => h1 σ H1 s e _ fun x H2 s2 r2 => h2 σ H2 (s.trans s2) (e.same s2) _ fun y H3 s3 r3 =>
    eps_run h3 σ H3 ((s.trans s2).trans s3) ((e.same s2).same s3) _ fun kvs H4 s4 e1 r4 => by
      have := k ((key, y) :: kvs) H4 ((s2.trans s3).trans s4) (by simp [e1]) (.cons (r3.same s4) r4)
      rw [r2.key]
      exact this
  | [], _ :: _, h, _, _, _, _, _, _ => h.elim
  | _ :: _, [], h, _, _, _, _, _, _ => h.elim
theorem kv_at : ∀ {kvs : List (Key × V)} {kds : List (Key × D)}, kvs.map (·.1) = kds.map (·.1) → (kds.map (·.1)).Nodup → RpL K H (kvs.map (·.2)) (kds.map (·.2)) → ∀ (i : Nat) (k : Key) (d : D), kds[i]? = some (k, d) → ∃ v, valV kvs k = some v ∧ Rp K H v d
  | [], [], _, _, _, i, k, d, h => by simp at h
  | (k1, v1) :: kvs, (k2, d2) :: kds, e, n, r, 0, k, d, h => by
    have h := Option.some.inj h
    cases h
    have e1 : k1 = k2 := (List.cons.inj e).1
    subst e1
    obtain ⟨x, y, q, r1, r2⟩ := r.cons_of
    cases q
    exact ⟨v1, kv_pos, r1⟩
  | (k1, v1) :: kvs, (k2, d2) :: kds, e, n, r, i + 1, k, d, h => by
    have e1 : k1 = k2 := (List.cons.inj e).1
    obtain ⟨x, y, q, r1, r2⟩ := r.cons_of
    cases q
    have n' := List.nodup_cons.mp (show (k2 :: kds.map (·.1)).Nodup from n)
    have h : kds[i]? = some (k, d) := by simpa using h
    obtain ⟨v, h1, h2⟩ := kv_at (List.cons.inj e).2 n'.2 r2 i k d h
    refine ⟨v, ?_, h2⟩
    rw [kv_neg, h1]
    intro z
    apply n'.1
    rw [← e1, z]
    exact List.mem_map.mpr ⟨(k, d), List.mem_of_getElem? h, rfl⟩
  | [], _ :: _, e, _, _, _, _, _, _ => by simp at e
  | _ :: _, [], e, _, _, _, _, _, _ => by simp at e
theorem ie_disp {trs : List (TE × TE)} (kds : List (Key × D)) (h : EPs K H es trs kds) (hl : kds.length ≤ 15) (hn : (kds.map (·.1)).Nodup)
    (q : ∀ p kvs H2, H p = none → Same H H2 → H2 p = some (.dK []) → kvs.length = kds.length → (∀ (i : Nat) (k : Key) (d : D), kds[i]? = some (k, d) → ∃ v, valV kvs k = some v ∧ Rp K H2 v d) → P (.ref p) (upd H2 p (.dK kvs))) : IE K H (tDisp trs) es P := fun σ Q e n k => by
  intro p hp
  have s1 : Same H (upd H p (.dK [])) := Same.new hp
  refine eps_run h σ _ s1 (e.same s1) _ fun kvs H2 s2 e1 r => ?_
  have hp2 : H2 p = some (.dK []) := s2 _ _ upd_same
  have hlen : kvs.length = kds.length := by have := congrArg List.length e1; simpa using this
  refine ⟨hp2, kvs, rfl, by rw [hlen]; exact hl, ?_⟩
  rw [mergeK_nd (by rw [e1]; exact hn)]
  exact k _ _ (.ref p) (.ref p) ((TLe.of (s1.trans s2)).trans (TLe.dK hp2)) (q p kvs H2 hp (s1.trans s2) hp2 hlen (kv_at e1 hn r))
end
/-- the draws stand at st, so many were taken -/
def StAt (H : Hp) (st : Addr) (n : Nat) : Prop := ∃ kvs c sd, H st = some (.dK kvs) ∧ kvs.length ≤ 20 ∧ (0 : Int) ≤ c ∧ valV kvs (.inr "cell") = some (.int c) ∧ valV kvs (.inr "seed") = some (.int sd) ∧ valV kvs (.inr "at") = some (.int (n : Nat))
theorem StAt.kp {K : PySem.W.Frag} {H H' : Hp} {st : Addr} {n : Nat} {xs : List Addr} (h : StAt H st n) (k : Kp K xs H H') (hx : st ∉ xs) : StAt H' st n := by
  obtain ⟨kvs, c, sd, h1, h2⟩ := h
  exact ⟨kvs, c, sd, k.keep _ _ h1 hx, h2⟩
theorem StAt.same {H H' : Hp} {st : Addr} {n : Nat} (h : StAt H st n) (k : Same H H') : StAt H' st n := by
  obtain ⟨kvs, c, sd, h1, h2⟩ := h
  exact ⟨kvs, c, sd, k _ _ h1, h2⟩
def mix (c k : Int) : Int :=
  let n := (c % 2147483629 + 7919 * k * k + 104729 * k + 17) * 48271 % 2147483647
  n * (n + 2 * k + 5) % 2147483629
def relMixed : Hp → List D → D → Prop := fun _ ds d => ∃ c k : Int, ds = [.int c, .int k] ∧ -(2 ^ 60) < k ∧ k < 2 ^ 60 ∧ d = .int (mix c k)
def relTake (K : PySem.W.Frag) : Hp → List D → (D → Hp → Prop) → Prop := fun H ds P => ∃ st n m, ds = [.ref st, .int (m : Nat)] ∧ StAt H st n ∧ n ≤ 100000 ∧ 1 ≤ m ∧ m ≤ 1000 ∧ P = fun d H' => ∃ x : Nat, x < m ∧ d = .int x ∧ StAt H' st (n + 1) ∧ Kp K [st] H H'
def relBegun (K : PySem.W.Frag) : Hp → List D → (D → Hp → Prop) → Prop := fun H ds P => ∃ (a : Addr) (ns : List Int) (k : Nat), ds = [.ref a, .int (k : Nat)] ∧ SqL K H a (ns.map V.int) ∧ k ≤ 1000 ∧ P = fun d H' => ∃ st, d = .ref st ∧ H st = none ∧ StAt H' st 0 ∧ Kp K [] H H'
section
variable {P : Program} {w : World} {K : PySem.W.Frag} {mg : Str → Option Value} {base : Heap}
abbrev sMixed : Stmt := top 36
theorem scMixed : FnScope ["_law_cell", "_law_k", "_law_number"] ["_law_cell", "_law_k"] (defScope sMixed) := ⟨rfl, rfl, rfl, by decide +kernel, rfl, by decide +kernel, by decide +kernel⟩
theorem ok_mixed (g : Gd K mg "_law_mixed" sMixed ["_law_cell", "_law_k"]) : Ok P w K mg base 1 "_law_mixed" ["_law_cell", "_law_k"] (spF K relMixed) := by
  refine g.pure scMixed (fun H ds d ⟨c, k, h1, h2⟩ => by rw [h1]; rfl) fun f cdv A outer s H E hr => ⟨_,
    (pss_cons (ps_set (i := 2) scMixed.nd rfl (Or.inl rfl) (pe_op op_mod (ptimes (pplus (pplus (pplus (pe_op op_mod (pv 0) pe_int) (ptimes (ptimes pe_int (pv 1)) (pv 1))) (ptimes pe_int (pv 1))) pe_int) pe_int) pe_int))
    (pss_one (ps_ret (pe_op op_mod (ptimes (pv 2) (pplus (pplus (pv 2) (ptimes pe_int (pv 1))) pe_int)) pe_int)))), ?_⟩
  rintro ds d ⟨c, k, rfl, h1, h2, rfl⟩
  have m1 : ∀ i : Int, CMul 7919 i := fun i => .inl ⟨by decide, by decide⟩
  have m2 : ∀ i : Int, CMul i k := fun i => .inr ⟨by omega, by omega⟩
  have m3 : ∀ i : Int, CMul 104729 i := fun i => .inl ⟨by decide, by decide⟩
  have m4 : ∀ i : Int, CMul i 48271 := fun i => .inr ⟨by decide, by decide⟩
  have m5 : ∀ i : Int, CMul 2 i := fun i => .inl ⟨by decide, by decide⟩
  refine so_seqset (ed_i2c (ed_i2c (ed_i2 (ed_i2 (ed_i2 (ed_i2c (ed_var rfl) ed_int (by decide)) (ed_i2c (ed_i2c ed_int (ed_var rfl) (m1 _)) (ed_var rfl) (m2 _))) (ed_i2c ed_int (ed_var rfl) (m3 _))) ed_int) ed_int (m4 _)) ed_int (by decide)) ?_
  have hb := Int.emod_nonneg ((c % 2147483629 + 7919 * k * k + 104729 * k + 17) * 48271) (show (2147483647 : Int) ≠ 0 by decide)
  have hb2 := Int.emod_lt_of_pos ((c % 2147483629 + 7919 * k * k + 104729 * k + 17) * 48271) (show (0 : Int) < 2147483647 by decide)
  exact so_ret (ed_i2c (ed_i2c (ed_var rfl) (ed_i2 (ed_i2 (ed_var rfl) (ed_i2c ed_int (ed_var rfl) (m5 _))) ed_int) (.inl ⟨by omega, by omega⟩)) ed_int (by decide)) rfl
theorem mix_nonneg (c k : Int) : 0 ≤ mix c k := Int.emod_nonneg _ (by decide)
abbrev sTake : Stmt := top 38
theorem scTake : FnScope ["_law_state", "_law_many", "_law_found"] ["_law_state", "_law_many"] (defScope sTake) := ⟨rfl, rfl, rfl, by decide +kernel, rfl, by decide +kernel, by decide +kernel⟩
theorem kne1 : ¬ (Sum.inr ("cell" : Str) : Key) = Sum.inr ("at" : Str) := by decide +kernel
theorem kne2 : ¬ (Sum.inr ("seed" : Str) : Key) = Sum.inr ("at" : Str) := by decide +kernel
theorem kne3 : ¬ (Sum.inr ("at" : Str) : Key) = Sum.inr ("cell" : Str) := by decide +kernel
theorem kne4 : ¬ (Sum.inr ("seed" : Str) : Key) = Sum.inr ("cell" : Str) := by decide +kernel
theorem kne5 : ¬ (Sum.inr ("cell" : Str) : Key) = Sum.inr ("seed" : Str) := by decide +kernel
theorem modNat {i : Int} {m : Nat} (h : 1 ≤ m) : ∃ x : Nat, x < m ∧ i % (m : Int) = x := by
  have h1 := Int.emod_nonneg i (show (m : Int) ≠ 0 by omega)
  have h2 := Int.emod_lt_of_pos i (show (0 : Int) < m by omega)
  exact ⟨(i % (m : Int)).toNat, by omega, by omega⟩
theorem ok_take (g : Gd K mg "_law_take" sTake ["_law_state", "_law_many"]) (o_law_mixed : Ok P w K mg base 1 "_law_mixed" ["_law_cell", "_law_k"] (spF K relMixed)) : Ok P w K mg base 2 "_law_take" ["_law_state", "_law_many"] (spI K (relTake K)) := by
  refine g.imp scTake (fun H ds d ⟨st, n, m, h1, h2⟩ => by rw [h1]; rfl) fun f cdv A outer s H E hr => ?_
  have hu := hu_of hr
  refine ⟨_,
    (pss_cons (ps_dput hu (pv 0) pe_str (pplus (pe_dget hu (pv 0) pe_str (fun _ _ => rfl)) pe_int) rfl)
    (pss_cons (ps_if (PW.pt (pw_and (pt_cmpR op_gt (pe_dget hu (pv 0) pe_str (fun _ _ => rfl)) pe_int (nomark _)) (pw_and1 (pt_cmpR op_lt (pe_dget hu (pv 0) pe_str (fun _ _ => rfl)) pe_int (nomark _)))))
      (pss_cons (ps_set (i := 2) scTake.nd rfl (Or.inl rfl) (pe_op op_mod (pe_dget hu (pv 0) pe_str (fun _ _ => rfl)) (pv 1)))
      (pss_cons (ps_dput hu (pv 0) pe_str (pe_op op_fdiv (pe_dget hu (pv 0) pe_str (fun _ _ => rfl)) (pv 1)) rfl)
      (pss_one (ps_ret (pv 2)))))
      pss_nil)
    (pss_one (ps_ret (pe_op op_mod (pe_fn o_law_mixed hr (pa_cons (pe_dget hu (pv 0) pe_str (fun _ _ => rfl)) (pa_cons (pe_dget hu (pv 0) pe_str (fun _ _ => rfl)) pa_nil))) (pv 1)))))), ?_⟩
  rintro ds PP ⟨st, n, m, rfl, ⟨kvs, c, sd, h1, h2, h3, h4, h5, h6⟩, hn, m1, m2, rfl⟩
  refine ⟨rfl, ?_⟩
  refine im_seq (N1 := fun H1 es1 => Kp K [st] H H1 ∧ es1 = begun ["_law_state", "_law_many", "_law_found"] [.ref st, .int (m : Nat)] ∧ ∃ kvs, H1 st = some (.dK kvs) ∧ kvs.length ≤ 20 ∧ valV kvs (.inr "cell") = some (.int c) ∧ valV kvs (.inr "seed") = some (.int sd) ∧ valV kvs (.inr "at") = some (.int ((n + 1 : Nat) : Int)))
    (im_dput (ie_ed (ed_i2 (ed_dget (key := .inr "at") (d := .int (n : Nat)) (ed_var rfl) ed_str h1 h6 (.int _)) ed_int) fun H1 s1 => ⟨st, .inr "at", kvs, ed_var rfl, ed_str, s1 _ _ h1, by omega, fun H2 v s2 r => ?_⟩)) ?_
  · have h1' := s2 _ _ (s1 _ _ h1)
    refine ⟨(Kp.of (s1.trans s2)).trans (Kp.dK h1' (by simp)), rfl, _, upd_same, by rw [kv_len h6]; exact h2, kv_put h4 kne1, kv_put h5 kne2, ?_⟩
    rw [kv_same, r.int_eq]
    congr 1
  · rintro H1 _ ⟨k1, rfl, kvs1, a1, a2, a4, a5, a6⟩
    refine im_seq (N1 := fun H2 es2 => Kp K [st] H H2 ∧ es2 = begun ["_law_state", "_law_many", "_law_found"] [.ref st, .int (m : Nat)] ∧ ∃ kvs, H2 st = some (.dK kvs) ∧ kvs.length ≤ 20 ∧ valV kvs (.inr "cell") = some (.int c) ∧ valV kvs (.inr "seed") = some (.int sd) ∧ valV kvs (.inr "at") = some (.int ((n + 1 : Nat) : Int)))
      (im_if (eb_and (eb_tTest (ed_b2 (ed_dget (key := .inr "cell") (d := .int c) (ed_var rfl) ed_str a1 a4 (.int _)) ed_int)) fun _ => eb_tTest (ed_b2 (ed_dget (key := .inr "at") (d := .int ((n + 1 : Nat) : Int)) (ed_var rfl) ed_str a1 a6 (.int _)) ed_int)) (fun _ H2 s2 => ?_) fun _ H2 s2 => im_next ⟨k1.trans (Kp.of s2), rfl, kvs1, s2 _ _ a1, a2, a4, a5, a6⟩) ?_
    · have b1 := s2 _ _ a1
      obtain ⟨x, hx, ex⟩ := modNat (i := c) m1
      refine im_seq (N1 := fun H3 es3 => Same H2 H3 ∧ es3 = [some (.ref st), some (.int (m : Nat)), some (.int x)]) (im_set (ie_ed (ED.to (ed_i2c (ed_dget (key := .inr "cell") (d := .int c) (ed_var rfl) ed_str b1 a4 (.int _)) (ed_var rfl) (by show (0 : Int) < _; omega)) (by rw [ex])) fun H3 s3 => ⟨rfl, s3, rfl⟩)) ?_
      rintro H3 _ ⟨s3, rfl⟩
      have c1 := s3 _ _ b1
      refine im_seq (N1 := fun H4 es4 => Kp K [st] H H4 ∧ es4 = [some (.ref st), some (.int (m : Nat)), some (.int x)] ∧ StAt H4 st (n + 1)) (im_dput (ie_ed (ed_i2c (ed_dget (key := .inr "cell") (d := .int c) (ed_var rfl) ed_str c1 a4 (.int _)) (ed_var rfl) ⟨by omega, by omega⟩) fun H4 s4 => ⟨st, .inr "cell", kvs1, ed_var rfl, ed_str, s4 _ _ c1, by omega, fun H5 v s5 r => ?_⟩)) ?_
      · have d1 := s5 _ _ (s4 _ _ c1)
        refine ⟨((k1.trans (Kp.of (s2.trans s3))).trans (Kp.of (s4.trans s5))).trans (Kp.dK d1 (by simp)), rfl, _, c / (m : Int), sd, upd_same, by rw [kv_len a4]; exact a2, Int.ediv_nonneg h3 (by omega), ?_, kv_put a5 kne4, kv_put a6 kne3⟩
        rw [kv_same, r.int_eq]
      · rintro H4 _ ⟨k4, rfl, s4⟩
        exact im_ret (ie_ed (ed_var rfl) fun H5 s5 => ⟨(k4.trans (Kp.of s5)).tle, x, hx, rfl, s4.same s5, k4.trans (Kp.of s5)⟩)
    · rintro H2 _ ⟨k2, rfl, kvs2, b1, b2, b4, b5, b6⟩
      obtain ⟨x, hx, ex⟩ := modNat (i := mix sd ((n + 1 : Nat) : Int)) m1
      refine im_ret (ie_ed (ED.to (ed_i2c (ed_call (ea_cons (ed_dget (key := .inr "seed") (d := .int sd) (ed_var rfl) ed_str b1 b5 (.int _)) (ea_cons (ed_dget (key := .inr "at") (d := .int ((n + 1 : Nat) : Int)) (ed_var rfl) ed_str b1 b6 (.int _)) ea_nil)) fun _ _ => ⟨_, _, rfl, by omega, by omega, rfl⟩) (ed_var rfl) (by show (0 : Int) < _; omega)) (by rw [ex])) fun H3 s3 => ?_)
      exact ⟨(k2.trans (Kp.of s3)).tle, x, hx, rfl, ⟨kvs2, c, sd, s3 _ _ b1, b2, h3, b4, b5, b6⟩, k2.trans (Kp.of s3)⟩
abbrev sBegun : Stmt := top 37
theorem scBegun : FnScope ["_law_script", "_law_k", "_law_cell"] ["_law_script", "_law_k"] (defScope sBegun) := ⟨rfl, rfl, rfl, by decide +kernel, rfl, by decide +kernel, by decide +kernel⟩
theorem ok_begun (g : Gd K mg "_law_begun" sBegun ["_law_script", "_law_k"]) (o_law_mixed : Ok P w K mg base 1 "_law_mixed" ["_law_cell", "_law_k"] (spF K relMixed)) (m_len : mg "len" = none) (m_int : mg "int" = none) : Ok P w K mg base 2 "_law_begun" ["_law_script", "_law_k"] (spI K (relBegun K)) := by
  refine g.imp scBegun (fun H ds d ⟨a, ns, k, h1, h2⟩ => by rw [h1]; rfl) fun f cdv A outer s H E hr => ⟨_,
    (pss_cons (ps_set (i := 2) scBegun.nd rfl (Or.inl rfl) (pe_ifExp (pt_cmpR op_lt (pv 1) (plen m_len (pv 0)) (nomark _)) (pxl (pv 0) (pv 1)) pe_int))
    (pss_one (ps_ret (pe_disp (pps_cons pe_str (ptimes (pv 2) (pe_callTy call_int1' (by rfl) m_int PyProof.Rows.boot_int (pa_cons (pe_cmpR op_ge (pv 2) (pe_op op_pow pe_int pe_int) (nomark _)) pa_nil))) (pps_cons pe_str (pe_fn o_law_mixed hr (pa_cons (pv 2) (pa_cons (pv 1) pa_nil))) (pps_cons pe_str pe_int pps_nil))) (by rfl) (by rfl) (fun z => by cases z) (by decide))))), ?_⟩
  rintro ds PP ⟨a, ns, k, rfl, hs, hk, rfl⟩
  refine ⟨rfl, ?_⟩
  have hL : ∀ {es : Es} {i : Nat}, es[i]? = some (some (.ref a)) → ED K H (tVar i) es (.lst (ns.map D.int)) := fun h σ H1 s e Q q => ed_var (K := K) (H0 := H) h σ H1 s e Q fun v H2 s2 r2 => q v H2 s2 (by rw [r2.ref_eq]; exact .lst ((s.trans s2).seq hs) (RpL.of_ints ns))
  obtain ⟨c, hc⟩ : ∃ c : Int, (if k < ns.length then ns.getD k 0 else 0) = c := ⟨_, rfl⟩
  refine im_seq (N1 := fun H1 es1 => Same H H1 ∧ es1 = [some (.ref a), some (.int (k : Nat)), some (.int c)]) (im_set (ie_ed (ed_if (d := .int c) (eb_tTest (ed_b2 (ed_var rfl) (ed_lenL (hL rfl)))) (fun z => ?_) fun z => ?_) fun H1 s1 => ⟨rfl, s1, rfl⟩)) ?_
  · have z : k < ns.length := by have := of_decide_eq_true z; rw [List.length_map] at this; omega
    refine ed_ixL (hL rfl) (ed_var rfl) (atI_nat (j := k) ?_)
    rw [← hc, if_pos z, List.getElem?_map, List.getElem?_eq_getElem z]
    simp [z]
  · have z : ¬ k < ns.length := by have := of_decide_eq_false z; rw [List.length_map] at this; omega
    refine ED.to ed_int ?_
    rw [← hc, if_neg z]
  · rintro H1 _ ⟨s1, rfl⟩
    refine im_ret (ie_disp [(.inr "cell", .int (c * if decide ((10 : Int) ^ 18 ≤ c) = true then 1 else 0)), (.inr "seed", .int (mix c k)), (.inr "at", .int 0)] ⟨ed_str, ed_i2c (ed_var rfl) (ed_intB (ed_b2 (ed_var rfl) (ed_i2c ed_int ed_int ⟨by decide, by decide, by decide⟩))) (.inr ?_), ed_str, ed_call (ea_cons (ed_var rfl) (ea_cons (ed_var rfl) ea_nil)) (fun _ _ => ⟨_, _, rfl, by omega, by omega, rfl⟩), ed_str, ed_int, True.intro⟩ (Nat.le_of_ble_eq_true rfl) (show ([.inr "cell", .inr "seed", .inr "at"] : List Key).Nodup by decide +kernel)
      fun p kvs H2 hp s2 hp2 e1 r => ?_)
    · split <;> exact ⟨by decide, by decide⟩
    · have T : Kp K [] H (upd H2 p (.dK kvs)) := ⟨(TLe.of (s1.trans s2)).trans (TLe.dK hp2), fun b o hb _ => by
        rw [upd_ne (fun z : b = p => by rw [z] at hb; have := s1 _ _ hb; rw [hp] at this; cases this)]
        exact s2 _ _ (s1 _ _ hb)⟩
      refine ⟨T.tle, p, rfl, s1.free hp, ?_, T⟩
      obtain ⟨v1, a1, a2⟩ := r 0 _ _ rfl
      obtain ⟨v2, b1, b2⟩ := r 1 _ _ rfl
      obtain ⟨v3, c1, c2⟩ := r 2 _ _ rfl
      rw [a2.int_eq] at a1
      rw [b2.int_eq] at b1
      rw [c2.int_eq] at c1
      refine ⟨kvs, _, _, upd_same, by rw [e1]; exact Nat.le_of_ble_eq_true rfl, ?_, a1, b1, c1⟩
      split
      · rename_i z
        have z := of_decide_eq_true z
        rw [Int.mul_one]
        exact Int.le_trans (by decide) z
      · rw [Int.mul_zero]
        exact Int.le_refl _
end
end Sh

/-! ### rows and logs that are drawn -/
namespace Sh
open PySem L2
section
variable {K : PySem.W.Frag} {H : Hp} {es : Es} {ta tb te : TE} {P : D → Hp → Prop}
theorem opi_ixR {a : Addr} {vs : List V} {i : Int} {v : V} {d : D} (hl : H a = some (.lst vs)) (ha : atI vs i = some v) (r : Rp K H v d) (h : P d H) : OpI K H (rIxL K) (.ref a) (.int i) P := fun v' w Q r1 r2 k =>
  ⟨a, vs, i, v, r1.ref_eq, r2.int_eq, SqL.of hl, ha, k v H d r (fun _ _ z => z) h⟩
theorem ed_neg {i : Int} (h : ED K H te es (.int i)) : ED K H (tUn (rU fun i => .int (-i)) te) es (.int (-i)) := fun σ H1 s e Q q => h σ H1 s e _ fun v H2 s2 r2 => ⟨i, r2.int_eq, q _ H2 s2 (.int _)⟩
/-- a draw below m -/
theorem ie_take {ts tm : TE} {st : Addr} {n m : Nat} {E : XK} (h1 : ED K H ts es (.ref st)) (h2 : ED K H tm es (.int (m : Nat))) (hs : StAt H st n) (hn : n ≤ 100000) (m1 : 1 ≤ m) (m2 : m ≤ 1000) (q : ∀ (x : Nat) H', x < m → StAt H' st (n + 1) → Kp K [st] H H' → P (.int x) H') :
    IE K H (tCall (spI K (relTake K)) [] E (tCons ts (tCons tm tNil))) es P :=
  ie_call (ia_ea (ea_cons h1 (ea_cons h2 ea_nil)) fun H1 s1 => ⟨_, ⟨st, n, m, rfl, hs.same s1, hn, m1, m2, rfl⟩, fun d H2 ⟨x, hx, hd, hs2, k⟩ => hd ▸ q x H2 hx hs2 ((Kp.of s1).trans k)⟩)
end
def relDeed (K : PySem.W.Frag) : Hp → List D → (D → Hp → Prop) → Prop := fun H ds P => ∃ st n, ds = [.ref st] ∧ StAt H st n ∧ n ≤ 90000 ∧ P = fun d H' => ∃ x : Nat, x < 3 ∧ d = deedD x ∧ StAt H' st (n + 1) ∧ Kp K [st] H H'
def relHistory (K : PySem.W.Frag) : Hp → List D → (D → Hp → Prop) → Prop := fun H ds P => ∃ st n m, ds = [.ref st, .int (m : Nat)] ∧ StAt H st n ∧ n ≤ 10000 ∧ m ≤ 100 ∧
  P = fun d H' => ∃ (p : Addr) (rows : List Row) (vs : List V), d = .ref p ∧ H p = none ∧ H' p = some (.lst vs) ∧ RpL K H' vs (rows.map rowD) ∧ rows.length = m ∧ (∀ r ∈ rows, r.reign % 2 = 0 ∧ 2 ≤ r.reign ∧ r.reign ≤ 2 + 2 * m ∧ r.deed < 3) ∧ StAt H' st (n + 2 * m) ∧ Kp K [st] H H'
def relLogTo (K : PySem.W.Frag) : Hp → List D → (D → Hp → Prop) → Prop := fun H ds P => ∃ (st pr : Addr) (n a b : Nat) (rows : List Row) (vs : List V), ds = [.ref st, .ref pr, .int (a : Nat), .int (b : Nat)] ∧ StAt H st n ∧ n ≤ 10000 ∧ H pr = some (.lst vs) ∧ RpL K H vs (rows.map rowD) ∧ pr ≠ st ∧ a ≤ b ∧ b ≤ rows.length ∧ rows.length ≤ 100 ∧
  P = fun d H' => ∃ e p : Nat, a ≤ e ∧ e ≤ b ∧ p ≤ a ∧ d = logD ⟨p, reignOf rows p, 1, (rows.take e).drop p⟩ ∧ StAt H' st (n + 2) ∧ Kp K [st] H H'
def lastReign (L : Log) : Nat := match L.rows.getLast? with | some r => r.reign | none => L.fr
def relStrayed (K : PySem.W.Frag) : Hp → List D → (D → Hp → Prop) → Prop := fun H ds P => ∃ (st : Addr) (n : Nat) (L : Log), ds = [.ref st, logD L] ∧ StAt H st n ∧ n ≤ 10000 ∧ L.rows.length ≤ 100 ∧
  P = fun d H' => ∃ (n' : Nat) (rs : List Row), d = logD { L with rows := L.rows ++ rs } ∧ rs.length ≤ 5 ∧ (∀ r ∈ rs, r.reign % 2 = 1 ∧ r.reign ≤ lastReign L + 20 ∧ r.deed < 3) ∧ n' ≤ n + 7 ∧ StAt H' st n' ∧ Kp K [st] H H'
theorem Kp.notin {K : PySem.W.Frag} {xs : List Addr} {H H' : Hp} {a : Addr} {o : HO} (k : Kp K xs H H') (h : H a = some o) (n : a ∉ xs) : H' a = some o := k.keep a o h n
section
variable {P : Program} {w : World} {K : PySem.W.Frag} {mg : Str → Option Value} {base : Heap}
theorem st_ne {H : Hp} {st p : Addr} {n : Nat} (h : StAt H st n) (hp : H p = none) : p ≠ st := fun z => by
  obtain ⟨_, _, _, h1, _⟩ := h
  rw [← z, hp] at h1
  cases h1
abbrev sDeed : Stmt := top 43
theorem scDeed : FnScope ["_law_state"] ["_law_state"] (defScope sDeed) := ⟨rfl, rfl, rfl, by decide +kernel, rfl, by decide +kernel, by decide +kernel⟩
theorem ok_deed (g : Gd K mg "_law_deed" sDeed ["_law_state"]) (o_law_take : Ok P w K mg base 2 "_law_take" ["_law_state", "_law_many"] (spI K (relTake K))) : Ok P w K mg base 3 "_law_deed" ["_law_state"] (spI K (relDeed K)) := by
  refine g.imp scDeed (fun H ds d ⟨st, n, h1, h2⟩ => by rw [h1]; rfl) fun f cdv A outer s H E hr => ⟨_,
    (pss_one (ps_ret (pxl (pe_lst (pa_cons (pe_tup (pa_cons pe_str pa_nil)) (pa_cons (pe_tup (pa_cons pe_str (pa_cons pe_int (pa_cons pe_int (pa_cons (pe_tup (pa_cons pe_str pa_nil)) pa_nil))))) (pa_cons (pe_tup (pa_cons pe_str (pa_cons pe_int (pa_cons pe_int (pa_cons (pe_tup (pa_cons pe_str (pa_cons pe_str pa_nil))) pa_nil))))) pa_nil)))) (pe_fn o_law_take hr (pa_cons (pv 0) (pa_cons pe_int pa_nil)))))), ?_⟩
  rintro ds PP ⟨st, n, rfl, hs, hn, rfl⟩
  refine ⟨rfl, im_ret (ie_op (ie_lst (ia_ea (ds := [deedD 0, deedD 1, deedD 2]) (ea_cons (ed_tup (ea_cons ed_str ea_nil)) (ea_cons (ed_tup (ea_cons ed_str (ea_cons ed_int (ea_cons ed_int (ea_cons (ed_tup (ea_cons ed_str ea_nil)) ea_nil))))) (ea_cons (ed_tup (ea_cons ed_str (ea_cons ed_int (ea_cons ed_int (ea_cons (ed_tup (ea_cons ed_str (ea_cons ed_str ea_nil))) ea_nil))))) ea_nil))) fun H1 s1 => ⟨by decide, fun p vs hp r => ?_⟩)))⟩
  have hs1 := hs.same s1
  have hne := st_ne hs1 hp
  refine ⟨rfl, ie_take (m := 3) (ed_var rfl) ed_int (hs1.same (Same.new hp)) (by omega) (by omega) (by omega) fun x H2 hx hs2 k => ?_⟩
  have hp2 := k.notin upd_same (show p ∉ [st] by simpa using hne)
  have r2 : RpL K H2 vs [deedD 0, deedD 1, deedD 2] := RpL.tle ((TLe.of (Same.new hp)).trans k.tle) _ _ (by decide) r
  have hd : ([deedD 0, deedD 1, deedD 2] : List D)[x]? = some (deedD x) := by
    match x, hx with
    | 0, _ => rfl
    | 1, _ => rfl
    | 2, _ => rfl
  obtain ⟨v, h1, h2⟩ := r2.get hd
  have T : Kp K [st] H H2 := (Kp.of (s1.trans (Same.new hp))).trans k
  exact opi_ixR hp2 (atI_nat h1) h2 ⟨T.tle, x, hx, rfl, hs2, T⟩
/-- a deed drawn -/
theorem ie_deed {H : Hp} {es : Es} {ts : TE} {st : Addr} {n : Nat} {E : XK} {PP : D → Hp → Prop} (h1 : ED K H ts es (.ref st)) (hs : StAt H st n) (hn : n ≤ 90000) (q : ∀ (x : Nat) H', x < 3 → StAt H' st (n + 1) → Kp K [st] H H' → PP (deedD x) H') : IE K H (tCall (spI K (relDeed K)) [] E (tCons ts tNil)) es PP :=
  ie_call (ia_ea (ea_cons h1 ea_nil) fun H1 s1 => ⟨_, ⟨st, n, rfl, hs.same s1, hn, rfl⟩, fun d H2 ⟨x, hx, hd, hs2, k⟩ => hd ▸ q x H2 hx hs2 ((Kp.of s1).trans k)⟩)
theorem noL_deed (n : Nat) : noL (deedD n) = true := by
  match n with
  | 0 => rfl
  | 1 => rfl
  | _ + 2 => rfl
abbrev sHistory : Stmt := top 39
theorem scHistory : FnScope ["_law_state", "_law_many", "_law_found", "_law_reign", "_law_k"] ["_law_state", "_law_many"] (defScope sHistory) := ⟨rfl, rfl, rfl, by decide +kernel, rfl, by decide +kernel, by decide +kernel⟩
theorem ok_history (g : Gd K mg "_law_history" sHistory ["_law_state", "_law_many"]) (o_law_take : Ok P w K mg base 2 "_law_take" ["_law_state", "_law_many"] (spI K (relTake K))) (o_law_deed : Ok P w K mg base 3 "_law_deed" ["_law_state"] (spI K (relDeed K))) (m_range : mg "range" = none) :
    Ok P w K mg base 4 "_law_history" ["_law_state", "_law_many"] (spI K (relHistory K)) := by
  refine g.imp scHistory (fun H ds d ⟨st, n, m, h1, h2⟩ => by rw [h1]; rfl) fun f cdv A outer s H E hr => ⟨_,
    (pss_cons (ps_set (i := 2) scHistory.nd rfl (Or.inl rfl) (pe_lst pa_nil))
    (pss_cons (ps_set (i := 3) scHistory.nd rfl (Or.inl rfl) pe_int)
    (pss_cons (ps_for PassesOwn.never rfl (pi_range1 (by rfl) m_range (pa_cons (pv 1) pa_nil)) (pgl 4 scHistory.nd)
      (pss_cons (ps_set (i := 3) scHistory.nd rfl (Or.inl rfl) (pplus (pv 3) (ptimes pe_int (pe_op op_fdiv (pe_fn o_law_take hr (pa_cons (pv 0) (pa_cons pe_int pa_nil))) pe_int))))
      (pss_one (ps_expr (pe_bm PySem.F.plainAttrs_list PySem.F.slot_list_append PySem.F.type_list_append mt_append (pv 2) (pa_cons (pe_tup (pa_cons (pv 3) (pa_cons (pe_fn o_law_deed hr (pa_cons (pv 0) pa_nil)) pa_nil))) pa_nil))))))
    (pss_one (ps_ret (pv 2)))))), ?_⟩
  rintro ds PP ⟨st, n, m, rfl, hs, hn, hm, rfl⟩
  refine ⟨rfl, ?_⟩
  refine im_seq (N1 := fun H1 es1 => ∃ p, es1 = [some (.ref st), some (.int (m : Nat)), some (.ref p), none, none] ∧ H p = none ∧ H1 = upd H p (.lst [])) (im_set (ie_lst (ia_nil ⟨by decide, fun p vs hp r => ⟨rfl, p, rfl, hp, by rw [r.nil_of]⟩⟩))) ?_
  rintro _ _ ⟨p, rfl, hp, rfl⟩
  have hne := st_ne hs hp
  refine im_seq (N1 := fun H1 es1 => es1 = [some (.ref st), some (.int (m : Nat)), some (.ref p), some (.int (2 : Nat)), none] ∧ Same (upd H p (.lst [])) H1) (im_set (ie_ed ed_int fun H1 s1 => ⟨rfl, rfl, s1⟩)) ?_
  rintro H1 _ ⟨rfl, s1⟩
  refine im_seq (N1 := fun H2 es2 => ∃ (rows : List Row) (vs : List V) (o3 o4 : Option D), es2 = [some (.ref st), some (.int (m : Nat)), some (.ref p), o3, o4] ∧ H2 p = some (.lst vs) ∧ RpL K H2 vs (rows.map rowD) ∧ rows.length = m ∧ (∀ r ∈ rows, r.reign % 2 = 0 ∧ 2 ≤ r.reign ∧ r.reign ≤ 2 + 2 * m ∧ r.deed < 3) ∧ StAt H2 st (n + 2 * m) ∧ Kp K [p, st] (upd H p (.lst [])) H2)
    (im_for1 (ie_ed (ed_var rfl) fun H2 s2 => ⟨m, rfl, by omega, fun i H3 es3 => ∃ (rows : List Row) (vs : List V) (gg : Nat) (o4 : Option D), es3 = [some (.ref st), some (.int (m : Nat)), some (.ref p), some (.int gg), o4] ∧ gg % 2 = 0 ∧ 2 ≤ gg ∧ gg ≤ 2 + 2 * i ∧ H3 p = some (.lst vs) ∧ RpL K H3 vs (rows.map rowD) ∧ rows.length = i ∧
      (∀ r ∈ rows, r.reign % 2 = 0 ∧ 2 ≤ r.reign ∧ r.reign ≤ 2 + 2 * m ∧ r.deed < 3) ∧ StAt H3 st (n + 2 * i) ∧ Kp K [p, st] (upd H p (.lst [])) H3, ?_, ?_, ?_⟩)) ?_
  · have s12 := s1.trans s2
    exact ⟨[], [], 2, none, rfl, rfl, by omega, by omega, s12 _ _ upd_same, .nil, rfl, fun r hr => by simp at hr, (hs.same (Same.new hp)).same s12, Kp.of s12⟩
  · rintro i H3 es3 hi ⟨rows, vs, gg, o4, rfl, g1, g2, g3, hp3, hr3, hlen, hall, hs3, hk3⟩
    refine im_seq (N1 := fun H4 es4 => ∃ g' : Nat, es4 = [some (.ref st), some (.int (m : Nat)), some (.ref p), some (.int g'), some (.int (i : Nat))] ∧ g' % 2 = 0 ∧ 2 ≤ g' ∧ g' ≤ 2 + 2 * (i + 1) ∧ StAt H4 st (n + 2 * i + 1) ∧ Kp K [st] H3 H4)
      (im_set (ie_op (ie_ed (d := .int gg) (ed_var rfl) fun H4 s4 => ⟨rfl, ie_op (ie_ed ed_int fun H5 s5 => ⟨rfl, ie_op (ie_take (m := 5) (ed_var rfl) ed_int ((hs3.same s4).same s5) (by omega) (by omega) (by omega) fun x H6 hx hs6 k6 => ⟨rfl, ie_ed ed_int fun H7 s7 => ?_⟩)⟩)⟩))) ?_
    · refine opi_i2c ⟨by decide, by decide⟩ (opi_i2c (.inl ⟨by decide, by decide⟩) (opi_i2 ⟨rfl, gg + 2 * (x / 4), ?_, by omega, by omega, by omega, hs6.same s7, ((Kp.of (s4.trans s5)).trans k6).trans (Kp.of s7)⟩))
      show ([some (.ref st), some (.int (m : Nat)), some (.ref p), some (.int ((gg : Int) + 2 * ((x : Int) / 4))), some (.int ((i : Nat) : Int))] : Es) = _
      have : (gg : Int) + 2 * ((x : Int) / 4) = ((gg + 2 * (x / 4) : Nat) : Int) := by omega
      rw [this]
    · rintro H4 _ ⟨g', rfl, q1, q2, q3, hs4, k4⟩
      have hp4 := k4.notin hp3 (show p ∉ [st] by simpa using hne)
      have hr4 := RpL.tle k4.tle _ _ (noL_rows rows) hr3
      refine im_append (ed_var rfl) hp4 fun H5 s5 => ie_tup (ia_cons (ie_ed (d := .int g') (ed_var rfl) fun H6 s6 => ⟨rfl, ia_cons (ie_deed (ed_var rfl) ((hs4.same s5).same s6) (by omega) fun x H7 hx hs7 k7 => ⟨noL_deed x, ia_nil ⟨Nat.le_of_ble_eq_true rfl, fun H8 s8 => ?_⟩⟩)⟩))
      have k48 : Kp K [st] H4 H8 := ((Kp.of (s5.trans s6)).trans k7).trans (Kp.of s8)
      have hp8 := k48.notin hp4 (show p ∉ [st] by simpa using hne)
      have hr8 := RpL.tle k48.tle _ _ (noL_rows rows) hr4
      refine ⟨vs, hp8, by rw [hr8.length, List.length_map]; omega, fun v rv => ?_⟩
      have T : TLe K H8 (upd H8 p (.lst (vs ++ [v]))) := TLe.lst hp8
      refine ⟨rows ++ [⟨g', x⟩], vs ++ [v], g', _, rfl, q1, q2, q3, upd_same, ?_, by simp [hlen], ?_, ?_, ?_⟩
      · rw [List.map_append]
        exact RpL.append (RpL.tle T _ _ (noL_rows rows) hr8) (.cons (Rp.tle T _ _ (noL_row ⟨g', x⟩) rv) .nil)
      · intro r hr
        rcases List.mem_append.mp hr with z | z
        · exact hall r z
        · rw [List.mem_singleton.mp z]
          exact ⟨q1, q2, by show g' ≤ _; omega, hx⟩
      · have h8 := hs7.same s8
        have := h8.kp (Kp.lst (K := K) (xs := [p]) (o := .lst (vs ++ [v])) hp8 (by simp)) (by simpa using Ne.symm hne)
        have e : n + 2 * i + 1 + 1 = n + 2 * (i + 1) := by omega
        rw [e] at this
        exact this
      · exact ((hk3.trans (k4.mono (by simp))).trans (k48.mono (by simp))).trans (Kp.lst hp8 (by simp))
  · rintro H3 es3 ⟨rows, vs, gg, o4, rfl, g1, g2, g3, hp3, hr3, hlen, hall, hs3, hk3⟩
    exact ⟨rows, vs, _, _, rfl, hp3, hr3, hlen, hall, hs3, hk3⟩
  · rintro H2 _ ⟨rows, vs, o3, o4, rfl, hp2, hr2, hlen, hall, hs2, k2⟩
    have T : Kp K [st] H H2 := (Kp.of (Same.new hp)).fresh hp k2
    exact im_ret (ie_ed (ed_var rfl) fun H3 s3 => ⟨(T.trans (Kp.of s3)).tle, p, rows, vs, rfl, hp, s3 _ _ hp2, RpL.same s3 _ _ hr2, hlen, hall, hs2.same s3, T.trans (Kp.of s3)⟩)
end
end Sh

namespace Sh
open PySem L2
section
variable {P : Program} {w : World} {K : PySem.W.Frag} {mg : Str → Option Value} {base : Heap}
abbrev sLogTo : Stmt := top 40
theorem scLogTo : FnScope ["_law_state", "_law_rows", "_law_least", "_law_most", "_law_end", "_law_place", "_law_members", "_law_row"] ["_law_state", "_law_rows", "_law_least", "_law_most"] (defScope sLogTo) := ⟨rfl, rfl, rfl, by decide +kernel, rfl, by decide +kernel, by decide +kernel⟩
theorem ok_logto (g : Gd K mg "_law_log_to" sLogTo ["_law_state", "_law_rows", "_law_least", "_law_most"]) (o_law_take : Ok P w K mg base 2 "_law_take" ["_law_state", "_law_many"] (spI K (relTake K))) (m_tuple : mg "tuple" = none) : Ok P w K mg base 3 "_law_log_to" ["_law_state", "_law_rows", "_law_least", "_law_most"] (spI K (relLogTo K)) := by
  refine g.imp scLogTo (fun H ds d ⟨st, pr, n, a, b, rows, vs, h1, h2⟩ => by rw [h1]; rfl) fun f cdv A outer s H E hr => ⟨_,
    (pss_cons (ps_set (i := 4) scLogTo.nd rfl (Or.inl rfl) (pplus (pv 2) (pe_fn o_law_take hr (pa_cons (pv 0) (pa_cons (pplus (pminus (pv 3) (pv 2)) pe_int) pa_nil)))))
    (pss_cons (ps_set (i := 5) scLogTo.nd rfl (Or.inl rfl) (pe_fn o_law_take hr (pa_cons (pv 0) (pa_cons (pplus (pv 2) pe_int) pa_nil))))
    (pss_cons (ps_set (i := 6) scLogTo.nd rfl (Or.inl rfl) (pe_tup (pa_cons pe_int (pa_cons pe_int pa_nil))))
    (pss_cons (ps_for PassesOwn.never rfl (pi_list (pe_slice sl_list (pv 1) po_none (po_some (pv 5)))) (pgl 7 scLogTo.nd)
      (pss_one (ps_if (pt_cmpR op_eq (px (px (pv 7) pe_int) pe_int) pe_str (nomark _))
        (pss_one (ps_set (i := 6) scLogTo.nd rfl (Or.inl rfl) (px (px (pv 7) pe_int) pe_int)))
        pss_nil)))
    (pss_one (ps_ret (pe_tup (pa_cons (pe_tup (pa_cons (pv 5) (pa_cons (pe_ifExp (pt_cmpR op_gt (pv 5) pe_int (nomark _)) (px (pxl (pv 1) (pminus (pv 5) pe_int)) pe_int) pe_int) (pa_cons (pv 6) (pa_cons pe_str pa_nil))))) (pa_cons (pe_callTy call_tup (by rfl) m_tuple PyProof.Rows.boot_tuple (pa_cons (pe_slice sl_list (pv 1) (po_some (pv 5)) (po_some (pv 4))) pa_nil)) pa_nil))))))))), ?_⟩
  rintro ds PP ⟨st, pr, n, a, b, rows, vs, rfl, hs, hn, hp, hr', hne, hab, hbl, h100, rfl⟩
  refine ⟨rfl, ?_⟩
  have hlr : (rows.map rowD).length = rows.length := List.length_map _
  refine im_seq (N1 := fun H1 es1 => ∃ e : Nat, a ≤ e ∧ e ≤ b ∧ es1 = [some (.ref st), some (.ref pr), some (.int (a : Nat)), some (.int (b : Nat)), some (.int (e : Nat)), none, none, none] ∧ StAt H1 st (n + 1) ∧ Kp K [st] H H1)
    (im_set (ie_op (ie_ed (d := .int (a : Nat)) (ed_var rfl) fun H1 s1 => ⟨rfl, ie_take (m := b - a + 1) (ed_var rfl) (ED.to (ed_i2 (ed_i2 (ed_var rfl) (ed_var rfl)) ed_int) (by congr 1; omega)) (hs.same s1) (by omega) (by omega) (by omega) fun x H2 hx hs2 k2 => ?_⟩))) ?_
  · refine opi_i2 ⟨rfl, a + x, by omega, by omega, ?_, hs2, (Kp.of s1).trans k2⟩
    show ([some (.ref st), some (.ref pr), some (.int (a : Nat)), some (.int (b : Nat)), some (.int ((a : Int) + (x : Int))), none, none, none] : Es) = _
    have : (a : Int) + (x : Int) = ((a + x : Nat) : Int) := by omega
    rw [this]
  rintro H1 _ ⟨e, he1, he2, rfl, hs1, k1⟩
  refine im_seq (N1 := fun H2 es2 => ∃ p : Nat, p ≤ a ∧ es2 = [some (.ref st), some (.ref pr), some (.int (a : Nat)), some (.int (b : Nat)), some (.int (e : Nat)), some (.int (p : Nat)), none, none] ∧ StAt H2 st (n + 2) ∧ Kp K [st] H H2)
    (im_set (ie_take (m := a + 1) (ed_var rfl) (ED.to (ed_i2 (ed_var rfl) ed_int) (by congr 1)) hs1 (by omega) (by omega) (by omega) fun x H2 hx hs2 k2 => ⟨rfl, x, by omega, rfl, hs2, k1.trans k2⟩)) ?_
  rintro H2 _ ⟨p, hpa, rfl, hs2, k2⟩
  refine im_seq (N1 := fun H3 es3 => Same H2 H3 ∧ es3 = [some (.ref st), some (.ref pr), some (.int (a : Nat)), some (.int (b : Nat)), some (.int (e : Nat)), some (.int (p : Nat)), some (memD 1), none])
    (im_set (ie_ed (ed_tup (ea_cons ed_int (ea_cons ed_int ea_nil))) fun H3 s3 => ⟨rfl, s3, rfl⟩)) ?_
  rintro H3 _ ⟨s3, rfl⟩
  have k3 : Kp K [st] H H3 := k2.trans (Kp.of s3)
  have hp3 := k3.notin hp (show pr ∉ [st] by simpa using hne)
  have hr3 := RpL.tle k3.tle _ _ (noL_rows rows) hr'
  refine im_seq (N1 := fun H4 es4 => ∃ o, Same H3 H4 ∧ es4 = [some (.ref st), some (.ref pr), some (.int (a : Nat)), some (.int (b : Nat)), some (.int (e : Nat)), some (.int (p : Nat)), some (memD 1), o])
    (im_so (N' := fun es4 => ∃ o : Option D, (∀ d, o = some d → noL d = true) ∧ es4 = [some (.ref st), some (.ref pr), some (.int (a : Nat)), some (.int (b : Nat)), some (.int (e : Nat)), some (.int (p : Nat)), some (memD 1), o]) (R' := fun _ => False)
      (so_for (ei_list (ED.to (ed_slL (ds := rows.map rowD) (ed_asL (ed_var rfl) hp3 hr3) eo_none (eo_some (ed_var rfl))) (congrArg D.lst (cut_0n _ p rfl))))
        (fun _ es4 => ∃ o : Option D, (∀ d, o = some d → noL d = true) ∧ es4 = [some (.ref st), some (.ref pr), some (.int (a : Nat)), some (.int (b : Nat)), some (.int (e : Nat)), some (.int (p : Nat)), some (memD 1), o]) ⟨none, fun d z => (by cases z), rfl⟩ ?_ fun es1 h => h) ?_ fun _ _ _ z => z.elim) ?_
  · rintro i es1 d hi hd ⟨o, ho, rfl⟩
    rw [← List.map_take, List.getElem?_map] at hd
    obtain ⟨r, hr5, rfl⟩ := Option.map_eq_some_iff.mp hd
    obtain ⟨x, rest, e1, e2⟩ := deed_word r.deed
    refine ⟨_, eg_name, so_if (eb_tTest (ed_eqS (ed_ixT (ds := .str x :: rest) (ED.to (ed_ixT (ds := [.int r.reign, deedD r.deed]) (ed_var rfl) ed_int rfl) e1) ed_int (atI_of (j := 0) rfl rfl)) ed_str)) (fun z => ?_) fun _ => so_next ⟨_, fun d z => ?_, rfl⟩⟩
    · exact absurd (of_decide_eq_true z) e2
    · cases z
      exact noL_row r
  · rintro H4 es4 s4 ⟨o, ho, rfl⟩
    refine ⟨?_, o, s4, rfl⟩
    refine nls_cons rfl (nls_cons rfl (nls_cons rfl (nls_cons rfl (nls_cons rfl (nls_cons rfl (nls_cons rfl ?_))))))
    cases o with
    | none => exact nls_none nls_nil
    | some d => exact nls_cons (ho d rfl) nls_nil
  rintro H4 _ ⟨o, s4, rfl⟩
  have hp4 := s4 _ _ hp3
  have hr4 := RpL.same s4 _ _ hr3
  refine im_ret (ie_ed (d := logD ⟨p, reignOf rows p, 1, (rows.take e).drop p⟩) (ed_tup (ea_cons (ed_tup (ea_cons (ed_var rfl) (ea_cons (ed_if (d := .int (reignOf rows p)) (eb_tTest (ed_b2 (ed_var rfl) ed_int)) (fun z => ?_) fun z => ?_) (ea_cons (ed_var rfl) (ea_cons ed_str ea_nil)))))
    (ea_cons (ed_tupL (ds := ((rows.take e).drop p).map rowD) (ED.to (ed_slL (ds := rows.map rowD) (ed_asL (ed_var rfl) hp4 hr4) (eo_some (ed_var rfl)) (eo_some (ed_var rfl))) ?_)) ea_nil))) fun H5 s5 => ?_)
  · have z := of_decide_eq_true z
    have hpl : p - 1 < rows.length := by omega
    refine ED.to (ed_ixT (ds := [.int rows[p - 1].reign, deedD rows[p - 1].deed]) (ed_ixL (ds := rows.map rowD) (ed_asL (ed_var rfl) hp4 hr4) (ed_i2 (ed_var rfl) ed_int) (atI_of (j := p - 1) (by omega) (by rw [List.getElem?_map, List.getElem?_eq_getElem hpl]; rfl))) ed_int rfl) ?_
    congr 1
    unfold reignOf
    rw [if_neg (by omega), List.getElem?_eq_getElem hpl]
  · have z := of_decide_eq_false z
    refine ED.to ed_int ?_
    unfold reignOf
    rw [if_pos (by omega)]
    rfl
  · rw [cut_nn _ p e rfl rfl, ← List.map_drop, ← List.map_take, List.drop_take]
  · have k5 : Kp K [st] H H5 := (k3.trans (Kp.of s4)).trans (Kp.of s5)
    exact ⟨k5.tle, e, p, he1, he2, hpa, rfl, ((hs2.same s3).same s4).same s5, k5⟩
abbrev sStrayed : Stmt := top 41
theorem scStrayed : FnScope ["_law_state", "_law_log", "_law_reign", "_law_found", "_law_k"] ["_law_state", "_law_log"] (defScope sStrayed) := ⟨rfl, rfl, rfl, by decide +kernel, rfl, by decide +kernel, by decide +kernel⟩
theorem ok_strayed (g : Gd K mg "_law_strayed" sStrayed ["_law_state", "_law_log"]) (o_law_take : Ok P w K mg base 2 "_law_take" ["_law_state", "_law_many"] (spI K (relTake K))) (o_law_deed : Ok P w K mg base 3 "_law_deed" ["_law_state"] (spI K (relDeed K))) (m_range : mg "range" = none) (m_tuple : mg "tuple" = none) :
    Ok P w K mg base 4 "_law_strayed" ["_law_state", "_law_log"] (spI K (relStrayed K)) := by
  refine g.imp scStrayed (fun H ds d ⟨st, n, L, h1, h2⟩ => by rw [h1]; rfl) fun f cdv A outer s H E hr => ⟨_,
    (pss_cons (ps_set (i := 2) scStrayed.nd rfl (Or.inl rfl) (pe_ifExp (pt_cmpR (op_neD hr.units) (px (pv 1) pe_int) (pe_tup pa_nil) (nomark _)) (px (px (px (pv 1) pe_int) (pe_un un_neg pe_int)) pe_int) (px (px (pv 1) pe_int) pe_int)))
    (pss_cons (ps_set (i := 3) scStrayed.nd rfl (Or.inl rfl) (pe_lst pa_nil))
    (pss_cons (ps_for PassesOwn.never rfl (pi_range1 (by rfl) m_range (pa_cons (pxl (pe_lst (pa_cons pe_int (pa_cons pe_int (pa_cons (pe_fn o_law_take hr (pa_cons (pv 0) (pa_cons pe_int pa_nil))) pa_nil)))) (pe_fn o_law_take hr (pa_cons (pv 0) (pa_cons pe_int pa_nil)))) pa_nil)) (pgl 4 scStrayed.nd)
      (pss_one (ps_expr (pe_bm PySem.F.plainAttrs_list PySem.F.slot_list_append PySem.F.type_list_append mt_append (pv 3) (pa_cons (pe_tup (pa_cons (pplus (pminus (pplus (pv 2) pe_int) (pe_op op_mod (pv 2) pe_int)) (ptimes pe_int (pv 4))) (pa_cons (pe_fn o_law_deed hr (pa_cons (pv 0) pa_nil)) pa_nil))) pa_nil)))))
    (pss_one (ps_ret (pe_tup (pa_cons (px (pv 1) pe_int) (pa_cons (pe_op op_catA (px (pv 1) pe_int) (pe_callTy call_tup (by rfl) m_tuple PyProof.Rows.boot_tuple (pa_cons (pv 3) pa_nil))) pa_nil)))))))), ?_⟩
  rintro ds PP ⟨st, n, L, rfl, hs, hn, hL, rfl⟩
  refine ⟨by simp [noLs, noL_log, noL], ?_⟩
  refine im_seq (N1 := fun H1 es1 => Same H H1 ∧ es1 = [some (.ref st), some (logD L), some (.int (lastReign L : Nat)), none, none])
    (im_set (ie_ed (d := .int (lastReign L : Nat)) (ed_if (eb_tTest (ed_neD (n := 5) (m := 1) (ed_ixT (ds := [foldD L.fp L.fr L.m, rowsD L.rows]) (ed_var rfl) ed_int rfl) (ed_tup ea_nil) (nr_rows _) rfl (shp_rows _) (Shp.tup (n := 0) fun d hd => by simp at hd))) (fun z => ?_) fun z => ?_) fun H1 s1 => ⟨rfl, s1, rfl⟩)) ?_
  · have z : ¬ L.rows = [] := by
      intro q
      have : PyData.eqv (py (rowsD L.rows)) (py (.tup [])) = true := by
        show PyData.eqv (py (.tup (L.rows.map rowD))) (py (.tup [])) = true
        rw [eqv_tup_nil, q]
        rfl
      rw [this] at z
      cases z
    have e := List.dropLast_concat_getLast z
    have ea : atI (L.rows.map rowD) (-1) = some (rowD (L.rows.getLast z)) := by
      have e2 : L.rows.map rowD = (L.rows.dropLast.map rowD) ++ [rowD (L.rows.getLast z)] := by
        conv => lhs; rw [← e]
        rw [List.map_append]
        rfl
      rw [e2]
      unfold atI ixN
      rw [List.length_append, List.length_singleton, if_neg (by decide), if_pos (by omega)]
      show ((L.rows.dropLast.map rowD) ++ [rowD (L.rows.getLast z)])[((-1 : Int) + ((L.rows.dropLast.map rowD).length + 1 : Nat)).toNat]? = _
      have e3 : ((-1 : Int) + ((L.rows.dropLast.map rowD).length + 1 : Nat)).toNat = (L.rows.dropLast.map rowD).length := by omega
      rw [e3, List.getElem?_append_right (Nat.le_refl _), Nat.sub_self]
      rfl
    refine ED.to (ed_ixT (ds := [.int (L.rows.getLast z).reign, deedD (L.rows.getLast z).deed]) (ed_ixT (ds := L.rows.map rowD) (ed_ixT (ed_var rfl) ed_int rfl) (ed_neg ed_int) ea) ed_int rfl) ?_
    congr 1
    unfold lastReign
    rw [List.getLast?_eq_some_getLast z]
  · have z : L.rows = [] := by
      have : PyData.eqv (py (rowsD L.rows)) (py (.tup [])) = true := by
        cases q : PyData.eqv (py (rowsD L.rows)) (py (.tup [])) with
        | true => rfl
        | false => rw [q] at z; cases z
      have this : PyData.eqv (py (.tup (L.rows.map rowD))) (py (.tup [])) = true := this
      rw [eqv_tup_nil] at this
      exact List.map_eq_nil_iff.mp (List.isEmpty_iff.mp this)
    refine ED.to (ed_ixT (ed_ixT (ds := [foldD L.fp L.fr L.m, rowsD L.rows]) (ed_var rfl) ed_int rfl) ed_int rfl) ?_
    unfold lastReign
    rw [z]
    rfl
  rintro H1 _ ⟨s1, rfl⟩
  have hs1 := hs.same s1
  refine im_seq (N1 := fun H2 es2 => ∃ p, es2 = [some (.ref st), some (logD L), some (.int (lastReign L : Nat)), some (.ref p), none] ∧ H1 p = none ∧ H2 = upd H1 p (.lst [])) (im_set (ie_lst (ia_nil ⟨by decide, fun p vs hp r => ⟨rfl, p, rfl, hp, by rw [r.nil_of]⟩⟩))) ?_
  rintro _ _ ⟨p, rfl, hp, rfl⟩
  have hne := st_ne hs1 hp
  have hs2 := hs1.same (Same.new (o := .lst []) hp)
  refine im_seq (N1 := fun H2 es2 => ∃ (n' : Nat) (rs : List Row) (vs : List V) (o4 : Option D), es2 = [some (.ref st), some (logD L), some (.int (lastReign L : Nat)), some (.ref p), o4] ∧ H2 p = some (.lst vs) ∧ RpL K H2 vs (rs.map rowD) ∧ rs.length ≤ 5 ∧ (∀ r ∈ rs, r.reign % 2 = 1 ∧ r.reign ≤ lastReign L + 20 ∧ r.deed < 3) ∧ n' ≤ n + 7 ∧ StAt H2 st n' ∧ Kp K [p, st] (upd H1 p (.lst [])) H2)
    (im_for1 (ie_op (ie_lst (ia_cons (ie_ed ed_int fun H3 s3 => ⟨rfl, ia_cons (ie_ed ed_int fun H4 s4 => ⟨rfl, ia_cons (ie_take (m := 6) (ed_var rfl) ed_int ((hs2.same s3).same s4) (by omega) (by omega) (by omega) fun x H5 hx hs5 k5 => ⟨rfl, ia_nil ⟨by exact Nat.le_of_ble_eq_true rfl, fun q ws hq rq => ?_⟩⟩)⟩)⟩))))) ?_
  · have hne2 := st_ne hs5 hq
    refine ⟨rfl, ie_take (m := 3) (ed_var rfl) ed_int (hs5.same (Same.new hq)) (by omega) (by omega) (by omega) fun y H6 hy hs6 k6 => ?_⟩
    have hq6 := k6.notin upd_same (show q ∉ [st] by simpa using hne2)
    have r6 : RpL K H6 ws [.int 0, .int 0, .int x] := RpL.tle ((TLe.of (Same.new hq)).trans k6.tle) _ _ rfl rq
    obtain ⟨z, hz, hzd⟩ : ∃ z : Nat, z ≤ 5 ∧ ([.int 0, .int 0, .int x] : List D)[y]? = some (.int z) := by
      match y, hy with
      | 0, _ => exact ⟨0, by omega, rfl⟩
      | 1, _ => exact ⟨0, by omega, rfl⟩
      | 2, _ => exact ⟨x, by omega, rfl⟩
    obtain ⟨v, h1, h2⟩ := r6.get hzd
    refine opi_ixR hq6 (atI_nat h1) h2 ⟨z, rfl, by omega, fun i H7 es7 => ∃ (rs : List Row) (vs : List V) (o4 : Option D), es7 = [some (.ref st), some (logD L), some (.int (lastReign L : Nat)), some (.ref p), o4] ∧ H7 p = some (.lst vs) ∧ RpL K H7 vs (rs.map rowD) ∧ rs.length = i ∧ (∀ r ∈ rs, r.reign % 2 = 1 ∧ r.reign ≤ lastReign L + 20 ∧ r.deed < 3) ∧ StAt H7 st (n + 2 + i) ∧ Kp K [p, st] (upd H1 p (.lst [])) H7, ?_, ?_, ?_⟩
    · have k36 : Kp K [st] (upd H1 p (.lst [])) H6 := (((Kp.of (s3.trans s4)).trans k5).trans (Kp.of (Same.new hq))).trans k6
      exact ⟨[], [], none, rfl, k36.notin upd_same (show p ∉ [st] by simpa using hne), .nil, rfl, fun r hr => by simp at hr, hs6, k36.mono (by simp)⟩
    · rintro i H7 es7 hi ⟨rs, vs, o4, rfl, hp7, hr7, hlen, hall, hs7, k7⟩
      refine im_append (ed_var rfl) hp7 fun H8 s8 => ie_tup (ia_cons (ie_ed (d := .int ((lastReign L + 1 - lastReign L % 2 + 2 * i : Nat) : Int)) (ED.to (ed_i2 (ed_i2 (ed_i2 (ed_var rfl) ed_int) (ed_i2c (ed_var rfl) ed_int (by decide))) (ed_i2c ed_int (ed_var rfl) (.inl ⟨by decide, by decide⟩))) (by congr 1; omega)) fun H9 s9 => ⟨rfl, ia_cons (ie_deed (ed_var rfl) ((hs7.same s8).same s9) (by omega) fun x' H10 hx' hs10 k10 => ⟨noL_deed x', ia_nil ⟨Nat.le_of_ble_eq_true rfl, fun H11 s11 => ?_⟩⟩)⟩))
      have k711 : Kp K [st] H7 H11 := ((Kp.of (s8.trans s9)).trans k10).trans (Kp.of s11)
      have hp11 := k711.notin hp7 (show p ∉ [st] by simpa using hne)
      have hr11 := RpL.tle k711.tle _ _ (noL_rows rs) hr7
      refine ⟨vs, hp11, by rw [hr11.length, List.length_map]; omega, fun v rv => ?_⟩
      have T : TLe K H11 (upd H11 p (.lst (vs ++ [v]))) := TLe.lst hp11
      refine ⟨rs ++ [⟨lastReign L + 1 - lastReign L % 2 + 2 * i, x'⟩], vs ++ [v], _, rfl, upd_same, ?_, by simp [hlen], ?_, ?_, ?_⟩
      · rw [List.map_append]
        exact RpL.append (RpL.tle T _ _ (noL_rows rs) hr11) (.cons (Rp.tle T _ _ (noL_row ⟨_, x'⟩) rv) .nil)
      · intro r hr
        rcases List.mem_append.mp hr with zz | zz
        · exact hall r zz
        · rw [List.mem_singleton.mp zz]
          refine ⟨?_, ?_, hx'⟩
          · show (lastReign L + 1 - lastReign L % 2 + 2 * i) % 2 = 1
            omega
          · show lastReign L + 1 - lastReign L % 2 + 2 * i ≤ _
            omega
      · have h8 := (hs10.same s11).kp (Kp.lst (K := K) (xs := [p]) (o := .lst (vs ++ [v])) hp11 (by simp)) (by simpa using Ne.symm hne)
        have e : n + 2 + i + 1 = n + 2 + (i + 1) := by omega
        have e0 : n + 1 + 1 + i + 1 = n + 2 + (i + 1) := by omega
        first
          | (rw [e] at h8; exact h8)
          | (rw [e0] at h8; exact h8)
      · exact (k7.trans (k711.mono (by simp))).trans (Kp.lst hp11 (by simp))
    · rintro H7 es7 ⟨rs, vs, o4, rfl, hp7, hr7, hlen, hall, hs7, k7⟩
      exact ⟨n + 2 + z, rs, vs, o4, rfl, hp7, hr7, by omega, hall, by omega, hs7, k7⟩
  · rintro H2 _ ⟨n', rs, vs, o4, rfl, hp2, hr2, hlen, hall, hn', hs2', k2⟩
    have T : Kp K [st] H H2 := (Kp.of s1).trans ((Kp.of (Same.new hp)).fresh hp k2)
    refine im_ret (ie_ed (d := logD { L with rows := L.rows ++ rs }) (ed_tup (ea_cons (ed_ixT (ds := [foldD L.fp L.fr L.m, rowsD L.rows]) (ed_var rfl) ed_int rfl) (ea_cons (ED.to (ed_cat (xs := L.rows.map rowD) (ys := rs.map rowD) (ed_ixT (ds := [foldD L.fp L.fr L.m, rowsD L.rows]) (ed_var rfl) ed_int rfl) (ed_tupL (ed_asL (ed_var rfl) hp2 hr2)) (by rw [List.length_map, List.length_map]; omega)) (by rw [← List.map_append]; rfl)) ea_nil))) fun H3 s3 => ?_)
    exact ⟨(T.trans (Kp.of s3)).tle, n', rs, rfl, hlen, hall, hn', hs2'.same s3, T.trans (Kp.of s3)⟩
end
end Sh

/-! ### rules that lack: list(d.values()), d.update(e); methods and makes by promise -/
namespace Sh
open PySem PySem.Spec PyProof.Rows L2
theorem kv_vals : ∀ {kvs : List (Key × V)} {vs : List (Key × Value)}, KV kvs vs → Vals (kvs.map (·.2)) (vs.map (·.2))
  | _, _, .nil => .nil
  | _, _, .cons h t => .cons h.2 (kv_vals t)
/-- list(d.values()): a new list -/
def tLVals (te : TE) : TE := fun σ H Q => te σ H fun x H1 => ∃ d kvs, x = .ref d ∧ H1 d = some (.dK kvs) ∧ ∀ p, H1 p = none → Q (.ref p) (upd H1 p (.lst (kvs.map (·.2))))
section
variable {X : Cx} {e : Expr} {te : TE} {p apos cpos pos : Pos}
theorem plistvals (hm : X.mg "list" = none) (he : PE X e te) (hc : X.calm = true := by rfl) (hg : Gl X "list" := by rfl) (hv : bootBuiltins "list" = some (.type "list") := by exact PyProof.Rows.boot_list) (hbase : attributeBase e "values" X.env (eval e X.env) = eval e X.env := by rfl) (hline : (apos.endLine == cpos.line) = true := by rfl)
    (hs : starEach [.Call (.Attribute e "values" apos) [] [] cpos] X.env = (false, eval (.Call (.Attribute e "values" apos) [] [] cpos) X.env) :: starEach [] X.env := by rfl) :
    PE X (.Call (.Name "list" p) [.Call (.Attribute e "values" apos) [] [] cpos] [] pos) (tLVals te) := by
  constructor
  intro pins s σ H Q I hq
  refine wpAny_Call_Name_kw (ld_blt I hg hm hv ?_)
  refine PyProof.Rows.callWith_type1 ?_ hs rfl
  rw [hs]
  show wpAny _ _ (spliced ((false, eval (.Call (.Attribute e "values" apos) [] [] cpos) X.env) :: backTo pos (starEach [] X.env))) _ _ s
  refine Calls.spliced_cons ?_
  refine wpAny_Call_method (T := "dict") (id := "dict.values") hbase rfl hline F.plainAttrs_dict F.slot_dict_values F.type_dict_values ?_
  refine thn (he.run pins s σ H _ I hq) ?_
  rintro u s1 ⟨x, H1, I1, rx, d, kvs, ex, hd, q⟩
  subst ex
  obtain rfl : u = Value.ref d := rx
  obtain ⟨hz, lo, vs, kv, dd⟩ := dk_of I1.hok hd
  obtain ⟨ep, hat⟩ := dd.dictAt
  have lk : kvs.length = vs.length := Paired.length kv
  have I2 : Inv X pins σ H1 { s1 with heap := s1.heap.push { cls := .type "dict_values", data := .fields #[.ref d] } } := I1.kept (t' := s1.toks) fun b ob z => Heap.get?_push_of_some _ z
  refine ⟨dd.typeIs, dd.mapOf.noDict, ?_⟩
  show wpAny _ _ (callWith cpos (.builtin "dict.values") [.ref d] [] []) _ X.xe s1
  refine method_meetsIn F.slot_dict_values F.entry_dict_values rfl (PySem.evalArgs_none ⟨rfl, dd.typeIs, F.args_dict_values_1 _, _, meets_dict_values (mixKind X.prog X.w) d lo, ⟨vs, dd⟩, ?_⟩)
  refine Calls.spliced_nil ?_
  refine PySem.W.kdl_call (PySem.W.kdl_values (knd := mixKind X.prog X.w) (d := d) (r := s1.heap.objs.size) (kvs := vs) (ep := ep)) (I2.ok.hd hc) ⟨⟨_, Heap.get?_push_size _ rfl, rfl, rfl⟩, hat.push _⟩ (by omega) ?_
  intro h' tk acc c hk hS hacc
  refine ⟨.ref _, _, I2.laid (t' := tk) hk (Nat.le_refl _) ?_, rfl, q _ (I2.hok.fresh (Nat.le_refl _))⟩
  refine ⟨by rw [List.length_map]; exact hz, acc.toList, c, ?_, ?_⟩
  · have el : acc.toList.length = acc.size := by simp
    have kvv := kv_vals kv
    refine vals_of_at (by rw [List.length_map, el, hacc.1, lk]) ?_
    intro j x w h1 h2
    obtain ⟨k, hky⟩ := hacc.2 j w (by rw [← Array.getElem?_toList]; exact h2)
    obtain ⟨u', g1, g2⟩ := kvv.get h1
    rw [List.getElem?_map, hky] at g1
    cases g1
    exact g2
  · rw [Array.toArray_toList]
    exact hS
/-- d.update(e) of two dicts -/
def rUpd : V → List V → Hp → VK → Prop := fun x vs H Q => ∃ d o kvs more, x = .ref d ∧ vs = [.ref o] ∧ H d = some (.dK kvs) ∧ H o = some (.dK more) ∧ d ≠ o ∧ kvs.length + more.length ≤ 1000 ∧ Q .non (upd H d (.dK (mergeK kvs more)))
theorem mergeK_len : ∀ (more kvs : List (Key × V)), (mergeK kvs more).length ≤ kvs.length + more.length
  | [], kvs => Nat.le_refl _
  | p :: more, kvs => by
    show (mergeK (putK kvs p.1 p.2) more).length ≤ _
    have h1 := mergeK_len more (putK kvs p.1 p.2)
    have h2 := length_putK kvs p.1 p.2
    rw [List.length_cons]
    omega
theorem mt_upd : MtM X "dict.update" rUpd := by
  intro pins s σ H x vs v us Q I rx rv h
  obtain ⟨d, o, kvs, more, rfl, rfl, hd, ho, hne, hz, q⟩ := h
  cases rx
  obtain ⟨u, rfl, ru⟩ := rv.one
  cases ru
  obtain ⟨z1, lo1, ks, r1, d1⟩ := dk_of I.hok hd
  obtain ⟨z2, lo2, ms, r2, d2⟩ := dk_of I.hok ho
  have l1 : kvs.length = ks.length := Paired.length r1
  have l2 : more.length = ms.length := Paired.length r2
  have hbig : (1000 : Nat) ≤ sizeLine := by decide
  refine call_meetsIn PySem.F.slot_dict_update d1.typeIs PySem.F.entry_dict_update (PySem.F.args_dict_update_2 _ _) (meets_dict_update (mixKind X.prog X.w) d o hne lo2) ⟨ks, ms, d1, d2, by omega, ?_⟩
  intro h' hm1 hm2 sb
  obtain ⟨ob, hob, _⟩ := Heap.dictOf_iff.mp hm1
  refine ⟨.non, _, d_write (t' := s.toks) I (by rw [hd]; exact True.intro) sb ⟨ob, hob⟩ (dk_new (Nat.le_trans (mergeK_len more kvs) (by omega)) lo1 (KV.merge r2 r1) hm1), rfl, q⟩
theorem pdupdate {o e : Expr} {to : TE} {t2 : TA} (ho : PE X o to) (ha : PA X [e] t2)
    (hbase : attributeBase o "update" X.env (eval o X.env) = eval o X.env := by rfl)
    (hfew : ((backTo cpos (starEach (e :: []) X.env)).all (fun x => !x.1) && (backToKw cpos (keywordEach [] X.env)).all (fun x => x.1.isSome)
      && decide ((e :: ([] : List Expr)).length + ([] : List Keyword).length + (if ([] : List Keyword).isEmpty then 0 else 1) < 30)) = true := by rfl)
    (hline : (apos.endLine == cpos.line) = true := by rfl) (hs : starEach (e :: []) X.env = (false, eval e X.env) :: starEach [] X.env := by rfl) :
    PE X (.Call (.Attribute o "update" apos) (e :: []) [] cpos) (tBM X.K "dict" rUpd to t2) :=
  pe_bm PySem.F.plainAttrs_dict PySem.F.slot_dict_update PySem.F.type_dict_update mt_upd ho ha hbase hfew hline hs
end
/-! dict of pairs, sorted keys -/
def rDictP (K : PySem.W.Frag) : List V → Hp → VK → Prop := fun xs H Q => ∃ (a : Addr) (ps : List Addr) (kvs : List (Key × V)), xs = [.ref a] ∧ SqL K H a (ps.map V.ref) ∧ Paired (fun p kv => SqT K H p [kV kv.1, kv.2]) ps kvs ∧
    ∀ p, H p = none → Q (.ref p) (upd H p (.dK (mergeK [] kvs)))
theorem call_dictP' {X : Cx} (hc : X.calm = true) : CallR X (.type "dict") (rDictP X.K) := call_dictP hc
def rSortD : List V → Hp → VK → Prop := fun xs H Q => ∃ (a : Addr) (kvs : List (Key × V)) (ks : List Int), xs = [.ref a] ∧ Rd H a (.dK kvs) ∧ kvs.map (·.1) = ks.map Sum.inl ∧ ks.length < 64 ∧
    ∀ (ys : List Int) (p : Addr), ys.Perm ks → ys.Pairwise (· ≤ ·) → H p = none → Q (.ref p) (upd H p (.lst (ys.map V.int)))
theorem call_sortedDI' {X : Cx} (hc : X.calm = true) : CallR X (.builtin "sorted") rSortD := call_sortedDI hc
def rLenD : List V → Hp → VK → Prop := fun xs H Q => ∃ a kvs, xs = [V.ref a] ∧ H a = some (.dK kvs) ∧ Q (.int kvs.length) H
theorem call_lenD' {X : Cx} : CallR X (.builtin "len") rLenD := call_lenD
/-! methods -/
def OkM (P : Program) (w : World) (K : PySem.W.Frag) (mg : Str → Option Value) (base : Heap) (C : Addr) (k : Nat) (x : Str) (ps : List Str) (sp : Sp) : Prop :=
  ∃ f fd, FnOk P w K mg base CX0 k f fd ps sp ∧ Meth K C x f ∧ Binds K fd ps []
def OkC (P : Program) (w : World) (K : PySem.W.Frag) (mg : Str → Option Value) (base : Heap) (C : Addr) (k : Nat) (x : Str) (ps : List Str) (sp : Sp) : Prop :=
  ∃ f fd, FnOk P w K mg base CX0 k f fd ps sp ∧ Mk K C f ∧ mg x = some (.ref C) ∧ Binds K fd ps []
def GdM (K : PySem.W.Frag) (C : Addr) (x q : Str) (st : Stmt) (ps : List Str) : Prop := ∃ f fd, Fun K x q st f fd ∧ Meth K C x f ∧ Binds K fd ps []
section
variable {X : Cx} {o e : Expr} {es : List Expr} {te : TE} {t : TA} {m : Str} {pos apos p : Pos}
theorem pe_mt {C : Addr} {k j : Nat} {ps : List Str} {sp : Sp} {pl : Sem Bool} (F : OkM X.prog X.w X.K X.mg X.base C k m ps sp) (c : Cls X.K C) (hr : Room j X.A) (he : PE X o te) (ha : PA X (e :: es) t) (hk : k ≤ j := by decide)
    (hst : starEach (e :: es) X.env = (false, eval e X.env) :: starEach es X.env := by rfl) (hpl : (backTo pos (starEach es X.env)).any (·.1) = false := by rfl)
    (ht : eval (.Call (.Attribute o m apos) (e :: es) [] pos) X.env = (do
      let ov ← eval o X.env
      standAt apos.atName
      let (f, first) ← holding [ov] (getMethod ov m pl)
      callWith pos f first (backTo pos (starEach (e :: es) X.env)) (backToKw pos (keywordEach [] X.env))) := by rfl) : PE X (.Call (.Attribute o m apos) (e :: es) [] pos) (tMeth C m sp [] E0 te t) := by
  obtain ⟨f, fd, G, M, b⟩ := F
  exact pe_meth (pl := pl) he c M G (hr.mono hk) b .nil pass0 ha hst hpl ht
theorem pe_mk {C : Addr} {k j : Nat} {x : Str} {ps : List Str} {sp : Sp} (F : OkC X.prog X.w X.K X.mg X.base C k x ps sp) (hr : Room j X.A) (ha : PA X (e :: es) t) (hk : k + 1 ≤ j := by decide) (hg : Gl X x := by rfl) (hdb : (x == ("__debug__" : Str)) = false := by decide)
    (hst : starEach (e :: es) X.env = (false, eval e X.env) :: starEach es X.env := by rfl) (hpl : (backTo pos (starEach es X.env)).any (·.1) = false := by rfl) : PE X (.Call (.Name x p) (e :: es) [] pos) (tMake C sp [] E0 t) := by
  obtain ⟨f, fd, G, M, hm, b⟩ := F
  exact pe_make M G (hr.mono hk) hg hm b .nil pass0 ha hdb hst hpl
end
section
variable {P : Program} {w : World} {K : PySem.W.Frag} {mg : Str → Option Value} {base : Heap}
theorem GdM.imp {C : Addr} {x q : Str} {st : Stmt} {ps N : List Str} {k : Nat} {rel : Hp → List D → (D → Hp → Prop) → Prop} (g : GdM K C x q st ps) (S : FnScope N ps (defScope st)) (hl : ∀ H ds P, rel H ds P → ds.length = ps.length)
    (h : ∀ (f : Addr) (cdv : Value) (A : Around) (outer : List PySem.Env) (s : Shared) (H : Hp) (E : XK), Room k (A.deeper (PyProof.Rows.envOfC q (defScope st) s.heap.objs.size f cdv)) →
      ∃ t, PSs (cxOf CX0 P w K mg base N q (defScope st) f cdv A outer s H E).nox (defBody st) t ∧ ∀ ds PP, rel H ds PP → noLs ds = true ∧ Im K H t (begun N ds) (fun H' _ => TLe K H H' ∧ PP .non H') (fun d H' => TLe K H H' ∧ PP d H')) : OkM P w K mg base C (k + 1) x ps (spI K rel) := by
  obtain ⟨f, fd, F, m, b⟩ := g
  exact ⟨f, fd, F.ok S (spI_len hl) fun cdv A outer s H vs Q E hr hs => let ⟨t, h1, h2⟩ := h f cdv A outer s H E hr; ⟨t, h1, spI_run hs h2⟩, m, b⟩
theorem GdM.pure {C : Addr} {x q : Str} {st : Stmt} {ps N : List Str} {k : Nat} {rel : Hp → List D → D → Prop} (g : GdM K C x q st ps) (S : FnScope N ps (defScope st)) (hl : ∀ H ds d, rel H ds d → ds.length = ps.length)
    (h : ∀ (f : Addr) (cdv : Value) (A : Around) (outer : List PySem.Env) (s : Shared) (H : Hp) (E : XK), Room k (A.deeper (PyProof.Rows.envOfC q (defScope st) s.heap.objs.size f cdv)) →
      ∃ t, PSs (cxOf CX0 P w K mg base N q (defScope st) f cdv A outer s H E).nox (defBody st) t ∧ ∀ ds d, rel H ds d → So K H t (begun N ds) (fun _ => False) (fun y => y = d)) : OkM P w K mg base C (k + 1) x ps (spF K rel) := by
  obtain ⟨f, fd, F, m, b⟩ := g
  exact ⟨f, fd, F.ok S (spF_len hl) fun cdv A outer s H vs Q E hr hs => let ⟨t, h1, h2⟩ := h f cdv A outer s H E hr; ⟨t, h1, spF_run hs h2⟩, m, b⟩
end
/-! readings of these, at data -/
section
variable {K : PySem.W.Frag} {H : Hp} {es : Es} {te ty tx : TE} {ta : TA} {P : D → Hp → Prop} {N : Hp → Es → Prop} {R : D → Hp → Prop}
theorem ed_lvals {a : Addr} {kvs : List (Key × V)} {ds : List D} (h : ED K H te es (.ref a)) (ha : H a = some (.dK kvs)) (r : RpL K H (kvs.map (·.2)) ds) : ED K H (tLVals te) es (.lst ds) := fun σ H1 s e Q q =>
  h σ H1 s e _ fun v H2 s2 r2 => ⟨a, kvs, r2.ref_eq, (s.trans s2) _ _ ha, fun p hp => q _ _ (s2.trans (Same.new hp)) (.lst (SqL.of upd_same) (RpL.same ((s.trans s2).trans (Same.new hp)) _ _ r))⟩
theorem ed_dget2 {a : Addr} {key : Key} {kvs : List (Key × V)} {dx d : D} (h : ED K H te es (.ref a)) (hy : ED K H ty es (keyD key)) (hx : ED K H tx es dx) (ha : H a = some (.dK kvs)) (hv : (∃ v, valV kvs key = some v ∧ Rp K H v d) ∨ (valV kvs key = none ∧ dx = d)) : ED K H (tDGet2 te ty tx) es d := fun σ H1 s e Q q =>
  h σ H1 s e _ fun v H2 s2 r2 => ⟨a, r2.ref_eq, .inl ⟨kvs, .inl ((s.trans s2) _ _ ha)⟩, hy σ H2 (s.trans s2) (e.same s2) _ fun y H3 s3 r3 => hx σ H3 ((s.trans s2).trans s3) ((e.same s2).same s3) _ fun z H4 s4 r4 => by
    have s04 := ((s.trans s2).trans s3).trans s4
    refine ⟨valV kvs key, by rw [r3.key]; exact DGet.k (s04 _ _ ha), ?_⟩
    rcases hv with ⟨v, e1, e2⟩ | ⟨e1, e2⟩
    · rw [e1]
      exact q _ _ ((s2.trans s3).trans s4) (e2.same s04)
    · rw [e1]
      subst e2
      exact q _ _ ((s2.trans s3).trans s4) r4⟩
theorem eb_din {a : Addr} {key : Key} {kvs : List (Key × V)} {b : Bool} (hy : ED K H ty es (keyD key)) (h : ED K H te es (.ref a)) (ha : H a = some (.dK kvs)) (hb : (valV kvs key).isSome = b) : EB K H (tB (tDIn ty te)) es b := fun σ H1 s e Q q =>
  hy σ H1 s e _ fun y H2 s2 r2 => h σ H2 (s.trans s2) (e.same s2) _ fun v H3 s3 r3 => ⟨a, valV kvs key, r3.ref_eq, by rw [r2.key]; exact DGet.k (((s.trans s2).trans s3) _ _ ha), b, by rw [hb], q _ (s2.trans s3)⟩
theorem eb_dnin {a : Addr} {key : Key} {kvs : List (Key × V)} {b : Bool} (hy : ED K H ty es (keyD key)) (h : ED K H te es (.ref a)) (ha : H a = some (.dK kvs)) (hb : (!(valV kvs key).isSome) = b) : EB K H (tB (tDNotIn ty te)) es b := fun σ H1 s e Q q =>
  hy σ H1 s e _ fun y H2 s2 r2 => h σ H2 (s.trans s2) (e.same s2) _ fun v H3 s3 r3 => ⟨a, valV kvs key, r3.ref_eq, by rw [r2.key]; exact DGet.k (((s.trans s2).trans s3) _ _ ha), b, by rw [hb], q _ (s2.trans s3)⟩
theorem ed_lenD {a : Addr} {kvs : List (Key × V)} (h : ED K H te es (.ref a)) (ha : H a = some (.dK kvs)) : ED K H (tCB rLenD (tCons te tNil)) es (.int (kvs.length : Nat)) := fun σ H1 s e Q q =>
  h σ H1 s e _ fun v H2 s2 r2 => ⟨a, kvs, by rw [r2.ref_eq], (s.trans s2) _ _ ha, q _ _ s2 (.int _)⟩
theorem ed_sortD {a : Addr} {kvs : List (Key × V)} {ks : List Int} (h : ED K H te es (.ref a)) (ha : H a = some (.dK kvs)) (hk : kvs.map (·.1) = ks.map Sum.inl) (hs : ks.Pairwise (· ≤ ·)) (hl : ks.length < 64) : ED K H (tCB rSortD (tCons te tNil)) es (.lst (ks.map D.int)) := fun σ H1 s e Q q =>
  h σ H1 s e _ fun v H2 s2 r2 => ⟨a, kvs, ks, by rw [r2.ref_eq], .inl ((s.trans s2) _ _ ha), hk, hl, fun ys p h1 h2 hp => by
    have : ys = ks := h1.eq_of_pairwise (fun a b _ _ x y => Int.le_antisymm x y) h2 hs
    rw [this]
    exact q _ _ (s2.trans (Same.new hp)) (.lst (SqL.of upd_same) (RpL.of_ints ks))⟩
/-! the call of a method, the make of a class -/
theorem ie_mt {C a dx : Addr} {fs : List (Str × V)} {m : Str} {rel : Hp → List D → (D → Hp → Prop) → Prop} {E : XK} (ho : ED K H te es (.ref a)) (ha : H a = some (.ins C dx fs)) (hm : fs.lookup m = none) (h : ∀ H0, Same H H0 → IA K H0 ta es fun ds H1 => ∃ P1, rel H1 (.ref a :: ds) P1 ∧ ∀ d H2, P1 d H2 → P d H2) : IE K H (tMeth C m (spI K rel) [] E te ta) es P := fun σ Q e n k =>
  ho σ H (Same.refl H) e _ fun x H1 s1 r1 => ⟨a, dx, fs, r1.ref_eq, s1 _ _ ha, hm, h H1 s1 σ _ (e.same s1) n fun vs H2 ds r T ⟨P1, h1, h2⟩ => ⟨.ref a :: ds, P1, by rw [List.append_nil]; exact .cons (by rw [r1.ref_eq]; exact .ref a) r, h1, fun v H3 d rv T2 p => k v H3 d rv ((TLe.of s1).trans (T.trans T2)) (h2 d H3 p)⟩⟩
theorem ed_mt {C a dx : Addr} {fs : List (Str × V)} {m : Str} {rel : Hp → List D → D → Prop} {E : XK} {ds : List D} {d : D} (ho : ED K H te es (.ref a)) (ha : H a = some (.ins C dx fs)) (hm : fs.lookup m = none) (h : EA K H ta es ds) (hr : ∀ H1, Same H H1 → rel H1 (.ref a :: ds) d) : ED K H (tMeth C m (spF K rel) [] E te ta) es d := fun σ H1 s e Q q =>
  ho σ H1 s e _ fun x H2 s2 r2 => ⟨a, dx, fs, r2.ref_eq, (s.trans s2) _ _ ha, hm, h σ H2 (s.trans s2) (e.same s2) _ fun vs H3 s3 r3 => ⟨.ref a :: ds, d, by rw [List.append_nil]; exact .cons (by rw [r2.ref_eq]; exact .ref a) r3, hr H3 ((s.trans s2).trans s3), fun v H4 s4 r4 => q v H4 ((s2.trans s3).trans s4) r4⟩⟩
theorem ie_mk {C : Addr} {rel : Hp → List D → (D → Hp → Prop) → Prop} {E : XK} (h : IA K H ta es fun ds H1 => ∀ x dx, H1 x = none → H1 dx = none → dx ≠ x → ∃ P1, rel (upd (upd H1 dx (.own x)) x (.ins C dx [])) (.ref x :: ds) P1 ∧ ∀ d H2, P1 d H2 → d = .non ∧ P (.ref x) H2) : IE K H (tMake C (spI K rel) [] E ta) es P := fun σ Q e n k =>
  h σ _ e n fun vs H1 ds r T h1 => fun x dx hx hdx hne => by
    obtain ⟨P1, h2, h3⟩ := h1 x dx hx hdx hne
    have s1 : Same H1 (upd H1 dx (.own x)) := Same.new hdx
    have hx1 : upd H1 dx (.own x) x = none := by rw [upd_ne (Ne.symm hne)]; exact hx
    have s2 : Same (upd H1 dx (.own x)) (upd (upd H1 dx (.own x)) x (.ins C dx [])) := Same.new hx1
    refine ⟨.ref x :: ds, P1, by rw [List.append_nil]; exact .cons (.ref x) (RpL.same (s1.trans s2) _ _ r), h2, fun v H2 d rv T2 p => ?_⟩
    obtain ⟨e1, e2⟩ := h3 d H2 p
    subst e1
    exact ⟨rv.non_eq, k (.ref x) H2 (.ref x) (.ref x) ((T.trans (TLe.of (s1.trans s2))).trans T2) e2⟩
/-- self.f = value -/
theorem im_fld {f : Str} {tv : TE} (h : IE K H tv es fun d H1 => ∃ a C dx fs, ED K H1 te es (.ref a) ∧ H1 a = some (.ins C dx fs) ∧ Cls K C ∧ NoAttr K C f ∧ fs.length < 1000 ∧ ∀ H2 v, Same H1 H2 → Rp K H2 v d → N (upd H2 a (.ins C dx (putF f v fs))) es) : Im K H (sFld K te tv f) es N R := fun σ E e n kn kr =>
  h σ _ e n fun v H1 d r T ⟨a, C, dx, fs, h1, h2, h3, h4, h5, h6⟩ => h1 σ H1 (Same.refl H1) (e.tle T n) _ fun x H2 s2 r2 => by
    have hk := s2 _ _ h2
    exact ⟨a, C, dx, fs, r2.ref_eq, hk, h3, h4, h5, kn σ _ es (((e.tle T n).same s2).tle (TLe.ins hk) n) n (h6 H2 v s2 (r.same s2))⟩
theorem im_upd {ts : TE} {a b : Addr} {kvs : List (Key × V)} (ho : ED K H te es (.ref a)) (hl : H a = some (.dK kvs)) (hb : ∀ H1, Same H H1 → IE K H1 ts es fun d H2 => ∃ b more, d = .ref b ∧ H2 a = some (.dK kvs) ∧ H2 b = some (.dK more) ∧ a ≠ b ∧ kvs.length + more.length ≤ 1000 ∧ N (upd H2 a (.dK (mergeK kvs more))) es) :
    Im K H (tDrop (tBM K "dict" rUpd te (tCons ts tNil))) es N R := fun σ E e n kn kr =>
  ho σ H (Same.refl H) e _ fun x H1 s1 r1 => by
    rw [r1.ref_eq]
    refine ⟨.inr (.inr (.inl ⟨rfl, .inl ⟨kvs, s1 _ _ hl⟩⟩)), ?_⟩
    refine hb H1 s1 σ _ (e.same s1) n fun v H2 d r T ⟨b, more, h0, h1, h2, h3, h4, h5⟩ => ?_
    subst h0
    exact ⟨a, b, kvs, more, rfl, by rw [r.ref_eq], h1, h2, h3, h4, kn σ _ es (((e.same s1).tle T n).tle (TLe.dK h1) n) n h5⟩
end
end Sh

/-! ### class Copying -/
namespace Sh
open PySem L2
structure CopTxt (K : PySem.W.Frag) (C : Addr) : Prop where
  cl : Cls K C
  nO : NoAttr K C "own"
  nG : NoAttr K C "got"
  nC : NoAttr K C "coming"
structure FsOk (fs : List (Str × V)) (g c : Addr) : Prop where
  own : fs.lookup ("own" : Str) = some (.int 0)
  got : fs.lookup ("got" : Str) = some (.ref g)
  com : fs.lookup ("coming" : Str) = some (.ref c)
  no : ∀ m : Str, ¬ m = "own" → ¬ m = "got" → ¬ m = "coming" → fs.lookup m = none
  len : fs.length ≤ 5
/-- a dict of numbers under 1, 2, .. -/
def DN (H : Hp) (a : Addr) (ns : List Nat) : Prop := ∃ kvs, H a = some (.dK kvs) ∧ kvs.length ≤ 20 ∧ ∀ z : Nat, valV kvs (.inl (z : Int)) = if z = 0 then none else (ns[z - 1]?).map fun n => V.int (n : Nat)
theorem DN.same {H H' : Hp} {a : Addr} {ns : List Nat} (h : DN H a ns) (s : Same H H') : DN H' a ns := let ⟨kvs, h1, h2⟩ := h; ⟨kvs, s _ _ h1, h2⟩
theorem DN.kp {K : PySem.W.Frag} {xs : List Addr} {H H' : Hp} {a : Addr} {ns : List Nat} (h : DN H a ns) (s : Kp K xs H H') (n : a ∉ xs) : DN H' a ns := let ⟨kvs, h1, h2⟩ := h; ⟨kvs, s.keep _ _ h1 n, h2⟩
theorem DN.put {H : Hp} {a : Addr} {ns : List Nat} {kvs : List (Key × V)} {i n : Nat} (hl : kvs.length ≤ 20) (h : ∀ z : Nat, valV kvs (.inl (z : Int)) = if z = 0 then none else (ns[z - 1]?).map fun n => V.int (n : Nat)) (h1 : 1 ≤ i) (h2 : i ≤ ns.length) : DN (upd H a (.dK (putK kvs (.inl (i : Int)) (.int (n : Nat))))) a (ns.set (i - 1) n) := by
  have hi : valV kvs (.inl (i : Int)) = some (.int (ns[i - 1] : Nat)) := by
    rw [h, if_neg (by omega), List.getElem?_eq_getElem (by omega)]
    rfl
  refine ⟨_, upd_same, by rw [kv_len hi]; exact hl, fun z => ?_⟩
  rw [valV_put]
  by_cases e : z = i
  · subst e
    rw [if_pos rfl, if_neg (by omega), List.getElem?_set_self (by omega)]
    rfl
  · rw [if_neg (fun q => e (by injection q with q; omega)), h]
    by_cases e0 : z = 0
    · rw [if_pos e0, if_pos e0]
    · rw [if_neg e0, if_neg e0, List.getElem?_set_ne (by omega)]
/-- what the head knows of the others -/
structure KnAt (H : Hp) (C k g c : Addr) (got coming : List Nat) : Prop where
  obj : ∃ dx fs, H k = some (.ins C dx fs) ∧ FsOk fs g c
  gd : DN H g got
  cd : DN H c coming
  ne : g ≠ c
  len : got.length = coming.length
  six : got.length ≤ 6
section
variable {H H' : Hp} {C k g c : Addr} {got coming : List Nat}
theorem KnAt.same (h : KnAt H C k g c got coming) (s : Same H H') : KnAt H' C k g c got coming := ⟨let ⟨dx, fs, h1, h2⟩ := h.obj; ⟨dx, fs, s _ _ h1, h2⟩, h.gd.same s, h.cd.same s, h.ne, h.len, h.six⟩
theorem KnAt.kp {K : PySem.W.Frag} {xs : List Addr} (h : KnAt H C k g c got coming) (s : Kp K xs H H') (n1 : k ∉ xs) (n2 : g ∉ xs) (n3 : c ∉ xs) : KnAt H' C k g c got coming := ⟨let ⟨dx, fs, h1, h2⟩ := h.obj; ⟨dx, fs, s.keep _ _ h1 n1, h2⟩, h.gd.kp s n2, h.cd.kp s n3, h.ne, h.len, h.six⟩
theorem KnAt.nkg (h : KnAt H C k g c got coming) : k ≠ g := by
  obtain ⟨dx, fs, h1, h2⟩ := h.obj
  obtain ⟨kvs, h3, h4⟩ := h.gd
  intro e
  rw [e, h3] at h1
  cases h1
theorem KnAt.nkc (h : KnAt H C k g c got coming) : k ≠ c := by
  obtain ⟨dx, fs, h1, h2⟩ := h.obj
  obtain ⟨kvs, h3, h4⟩ := h.cd
  intro e
  rw [e, h3] at h1
  cases h1
end
def headLog (rows : List Row) (fp m : Nat) : Log := ⟨fp, reignOf rows fp, m, rows.drop fp⟩
theorem headLog_last {rows : List Row} {fp m : Nat} (h : fp ≤ rows.length) : (headLog rows fp m).last = rows.length := by
  unfold Log.last headLog
  rw [List.length_drop]
  show fp + (rows.length - fp) = rows.length
  omega
theorem headLog_fol {rows : List Row} {fp m : Nat} (h : fp ≤ rows.length) : Fol rows m (headLog rows fp m) fp rows.length :=
  ⟨Nat.le_refl _, h, Nat.le_refl _, rfl, rfl, [], by rw [List.take_length, List.append_nil]; rfl, Nat.zero_le _, fun r hr => by simp at hr⟩
theorem headLog_at {rows : List Row} {fp m p : Nat} (h : fp ≤ rows.length) (h1 : fp ≤ p) (h2 : p ≤ rows.length) : reignAt (headLog rows fp m) p = some (reignOf rows p) := (headLog_fol (m := m) h).at h1 h2
/-- who has a place, the head among them -/
theorem range_filter {got : List Nat} {p : Nat} : ((List.range (got.length + 1)).filter fun i => decide (i = 0) || decide (p ≤ got.getD (i - 1) 0 ∧ i ≠ 0)).length = 1 + Wd.countG got p := by
  rw [List.range_succ_eq_map, List.filter_cons, if_pos (by rfl), List.length_cons, List.filter_map, List.length_map]
  have e : ∀ (g : List Nat), ((List.range g.length).filter ((fun i => decide (i = 0) || decide (p ≤ g.getD (i - 1) 0 ∧ i ≠ 0)) ∘ Nat.succ)).length = Wd.countG g p := by
    intro g
    unfold Wd.countG
    have e2 : ∀ g : List Nat, g = (List.range g.length).map fun i => g.getD i 0 := fun g => by
      apply List.ext_getElem?
      intro i
      by_cases h : i < g.length
      · rw [List.getElem?_map, List.getElem?_range h, List.getElem?_eq_getElem h]
        simp [h]
      · rw [List.getElem?_eq_none (by omega), List.getElem?_eq_none (by simpa using h)]
    conv => rhs; rw [e2 g]
    rw [List.filter_map, List.length_map]
    congr 1
    refine List.filter_congr fun x hx => ?_
    simp [Function.comp]
  rw [e]
  omega
/-! what the methods tell -/
def relNeedKn (C : Addr) : Hp → List D → D → Prop := fun H ds d => ∃ k g c got coming, ∃ i : Nat, ds = [.ref k, .int i] ∧ KnAt H C k g c got coming ∧ 1 ≤ i ∧ i ≤ got.length ∧ d = .non
def relNext (C : Addr) : Hp → List D → D → Prop := fun H ds d => ∃ k g c got coming, ∃ i : Nat, ds = [.ref k, .int i] ∧ KnAt H C k g c got coming ∧ 1 ≤ i ∧ i ≤ got.length ∧ d = .int (coming.getD (i - 1) 0 : Nat)
def relTook (K : PySem.W.Frag) (C : Addr) : Hp → List D → (D → Hp → Prop) → Prop := fun H ds P => ∃ k g c got coming, ∃ i place fin : Nat, ds = [.ref k, .int i, .int place, .int fin] ∧ KnAt H C k g c got coming ∧ 1 ≤ i ∧ i ≤ got.length ∧
  P = fun d H' => d = .non ∧ Kp K [g, c] H H' ∧ KnAt H' C k g c (got.set (i - 1) (max (got.getD (i - 1) 0) (min place fin))) (coming.set (i - 1) (max (coming.getD (i - 1) 0) (max (got.getD (i - 1) 0) (min place fin) + 1)))
def relMissed (K : PySem.W.Frag) (C : Addr) : Hp → List D → (D → Hp → Prop) → Prop := fun H ds P => ∃ k g c got coming, ∃ i place : Nat, ds = [.ref k, .int i, .int place] ∧ KnAt H C k g c got coming ∧ 1 ≤ i ∧ i ≤ got.length ∧
  P = fun d H' => d = .non ∧ Kp K [g, c] H H' ∧ KnAt H' C k g c got (coming.set (i - 1) (max (min (coming.getD (i - 1) 0) (place + 1)) (got.getD (i - 1) 0 + 1)))
def relManyHave (C : Addr) : Hp → List D → D → Prop := fun H ds d => ∃ k g c got coming, ∃ p : Nat, ds = [.ref k, .int p, memD got.length] ∧ KnAt H C k g c got coming ∧ d = .bl (decide ((got.length + 1) / 2 + 1 ≤ 1 + Wd.countG got p))
def relSettled (C : Addr) : Hp → List D → D → Prop := fun H ds d => ∃ k g c got coming, ∃ (rows : List Row) (fp settled reign : Nat), ds = [.ref k, logD (headLog rows fp got.length), .int settled, .int reign] ∧ KnAt H C k g c got coming ∧ fp ≤ settled ∧ settled ≤ rows.length ∧ rows.length ≤ 900 ∧
  d = .int (Wd.down (fun p => decide (reignOf rows p = reign) && decide ((got.length + 1) / 2 + 1 ≤ 1 + Wd.countG got p)) settled rows.length : Nat)
def relLetterTo (C : Addr) : Hp → List D → D → Prop := fun H ds d => ∃ k g c got coming, ∃ (rows : List Row) (i fp settled reign : Nat), ds = [.ref k, .int i, .int reign, logD (headLog rows fp got.length), .int settled] ∧ KnAt H C k g c got coming ∧ 1 ≤ i ∧ i ≤ got.length ∧ fp ≤ rows.length ∧ coming.getD (i - 1) 0 ≤ rows.length + 1 ∧
  d = letD (if coming.getD (i - 1) 0 ≤ fp then .fold i reign fp (reignOf rows fp) got.length
  else .rows i reign (coming.getD (i - 1) 0 - 1) (reignOf rows (coming.getD (i - 1) 0 - 1)) ((rows.drop (coming.getD (i - 1) 0 - 1)).take 8) settled)
section
variable {P : Program} {w : World} {K : PySem.W.Frag} {mg : Str → Option Value} {base : Heap} {C : Addr}
theorem DN.at_ {ns : List Nat} {kvs : List (Key × V)} {i : Nat} (h : ∀ z : Nat, valV kvs (.inl (z : Int)) = if z = 0 then none else (ns[z - 1]?).map fun n => V.int (n : Nat)) (h1 : 1 ≤ i) (h2 : i ≤ ns.length) : valV kvs (.inl (i : Int)) = some (.int (ns.getD (i - 1) 0 : Nat)) := by
  have hl : i - 1 < ns.length := by omega
  rw [h, if_neg (by omega), List.getElem?_eq_getElem hl]
  simp [hl]
abbrev sTook : Stmt := inClass (top 34) 6
theorem scTook : FnScope ["self", "other", "place", "end"] ["self", "other", "place", "end"] (defScope sTook) := ⟨rfl, rfl, rfl, by decide +kernel, rfl, by decide +kernel, by decide +kernel⟩
theorem ok_took (T : CopTxt K C) (g : GdM K C "took" "Copying.took" sTook ["self", "other", "place", "end"]) (m_max : mg "max" = none) (m_min : mg "min" = none) : OkM P w K mg base C 1 "took" ["self", "other", "place", "end"] (spI K (relTook K C)) := by
  refine g.imp scTook (fun H ds d ⟨k, g, c, got, coming, i, place, fin, h1, h2⟩ => by rw [h1]; rfl) fun f cdv A outer s H E hr => ?_
  have hu := hu_of hr
  refine ⟨_,
    (pss_one (ps_if (pt_cmp (pc_din hu (pv 1) (pe_fld (pv 0) rfl)))
      (pss_cons (ps_dput hu (pe_fld (pv 0) rfl) (pv 1) (pe_callB (call_max2' rfl) (by rfl) m_max PyProof.Rows.boot_max (pa_cons (pe_dget hu (pe_fld (pv 0) rfl) (pv 1) (fun _ _ => rfl)) (pa_cons (pe_callB (call_min2' rfl) (by rfl) m_min PyProof.Rows.boot_min (pa_cons (pv 2) (pa_cons (pv 3) pa_nil))) pa_nil))) rfl)
      (pss_one (ps_dput hu (pe_fld (pv 0) rfl) (pv 1) (pe_callB (call_max2' rfl) (by rfl) m_max PyProof.Rows.boot_max (pa_cons (pe_dget hu (pe_fld (pv 0) rfl) (pv 1) (fun _ _ => rfl)) (pa_cons (pplus (pe_dget hu (pe_fld (pv 0) rfl) (pv 1) (fun _ _ => rfl)) pe_int) pa_nil))) rfl)))
      pss_nil)), ?_⟩
  rintro ds PP ⟨k, g, c, got, coming, i, place, fin, rfl, hk, h1, h2, rfl⟩
  refine ⟨rfl, ?_⟩
  obtain ⟨dx, fs, ho, F⟩ := id hk.obj
  obtain ⟨gk, hg, hgl, hgv⟩ := id hk.gd
  obtain ⟨ck, hc, hcl, hcv⟩ := id hk.cd
  have hi2 : i ≤ coming.length := by rw [← hk.len]; exact h2
  obtain ⟨g', eg⟩ : ∃ g' : Nat, g' = max (got.getD (i - 1) 0) (min place fin) := ⟨_, rfl⟩
  refine im_if (b := true) (eb_din (key := .inl (i : Int)) (ed_var rfl) (ed_fld (ed_var rfl) ho T.cl T.nG F.got (.ref g)) hg (by rw [DN.at_ hgv h1 h2]; rfl)) (fun _ H1 s1 => ?_) (fun z => by cases z)
  have ho1 := s1 _ _ ho
  have hg1 := s1 _ _ hg
  have hc1 := s1 _ _ hc
  refine im_seq (N1 := fun H2 es2 => es2 = begun ["self", "other", "place", "end"] [.ref k, .int i, .int place, .int fin] ∧ Kp K [g, c] H H2 ∧ KnAt H2 C k g c (got.set (i - 1) g') coming)
    (im_dput (ie_ed (d := .int (g' : Nat)) (ED.to (ed_max (ed_dget (key := .inl (i : Int)) (d := .int (got.getD (i - 1) 0 : Nat)) (ed_fld (ed_var rfl) ho1 T.cl T.nG F.got (.ref g)) (ed_var rfl) hg1 (DN.at_ hgv h1 h2) (.int _)) (ed_min (ed_var rfl) (ed_var rfl))) (by congr 1; omega)) fun H2 s2 => ?_)) ?_
  · refine ⟨g, .inl (i : Int), gk, ed_fld (ed_var rfl) (s2 _ _ ho1) T.cl T.nG F.got (.ref g), ed_var rfl, s2 _ _ hg1, by omega, fun H3 v s3 r => ?_⟩
    rw [r.int_eq]
    have s13 : Same H H3 := (s1.trans s2).trans s3
    have hk3 := hk.same s13
    have hg3 := s13 _ _ hg
    have kk : Kp K [g] H3 (upd H3 g (.dK (putK gk (.inl (i : Int)) (.int (g' : Nat))))) := Kp.dK hg3 (by simp)
    refine ⟨rfl, (Kp.of s13).trans (kk.mono (by simp)), ?_⟩
    refine ⟨⟨dx, fs, kk.keep _ _ (s13 _ _ ho) (by simpa using hk.nkg), F⟩, DN.put hgl hgv h1 h2, hk3.cd.kp kk (by simpa using hk.ne.symm), hk.ne, by rw [List.length_set]; exact hk.len, by rw [List.length_set]; exact hk.six⟩
  rintro H2 _ ⟨rfl, k2, hk2⟩
  obtain ⟨dx2, fs2, ho2, F2⟩ := id hk2.obj
  obtain ⟨gk2, hg2, hgl2, hgv2⟩ := id hk2.gd
  obtain ⟨ck2, hc2, hcl2, hcv2⟩ := id hk2.cd
  have hset : (got.set (i - 1) g').getD (i - 1) 0 = g' := by
    have : i - 1 < got.length := by omega
    simp [this]
  refine im_dput (ie_ed (d := .int ((max (coming.getD (i - 1) 0) (g' + 1) : Nat) : Int)) (ED.to (ed_max (ed_dget (key := .inl (i : Int)) (d := .int (coming.getD (i - 1) 0 : Nat)) (ed_fld (ed_var rfl) ho2 T.cl T.nC F2.com (.ref c)) (ed_var rfl) hc2 (DN.at_ hcv2 h1 hi2) (.int _))
    (ed_i2 (ed_dget (key := .inl (i : Int)) (d := .int (g' : Nat)) (ed_fld (ed_var rfl) ho2 T.cl T.nG F2.got (.ref g)) (ed_var rfl) hg2 (by rw [DN.at_ hgv2 h1 (by rw [List.length_set]; exact h2), hset]) (.int _)) ed_int)) (by congr 1; omega)) fun H3 s3 => ?_)
  refine ⟨c, .inl (i : Int), ck2, ed_fld (ed_var rfl) (s3 _ _ ho2) T.cl T.nC F2.com (.ref c), ed_var rfl, s3 _ _ hc2, by omega, fun H4 v s4 r => ?_⟩
  rw [r.int_eq]
  have s24 : Same H2 H4 := s3.trans s4
  have hk4 := hk2.same s24
  have hc4 := s24 _ _ hc2
  have kk : Kp K [c] H4 (upd H4 c (.dK (putK ck2 (.inl (i : Int)) (.int ((max (coming.getD (i - 1) 0) (g' + 1) : Nat) : Int))))) := Kp.dK hc4 (by simp)
  have kall := (k2.trans (Kp.of s24)).trans (kk.mono (ys := [g, c]) (by simp))
  subst eg
  refine ⟨kall.tle, rfl, kall, ?_⟩
  exact ⟨⟨dx2, fs2, kk.keep _ _ (s24 _ _ ho2) (by simpa using hk.nkc), F2⟩, hk4.gd.kp kk (by simpa using hk.ne), DN.put hcl2 hcv2 h1 hi2, hk.ne, by rw [List.length_set, List.length_set]; exact hk.len, by rw [List.length_set]; exact hk.six⟩
abbrev sMissed : Stmt := inClass (top 34) 7
theorem scMissed : FnScope ["self", "other", "place"] ["self", "other", "place"] (defScope sMissed) := ⟨rfl, rfl, rfl, by decide +kernel, rfl, by decide +kernel, by decide +kernel⟩
theorem ok_missed (T : CopTxt K C) (g : GdM K C "missed" "Copying.missed" sMissed ["self", "other", "place"]) (m_max : mg "max" = none) (m_min : mg "min" = none) : OkM P w K mg base C 1 "missed" ["self", "other", "place"] (spI K (relMissed K C)) := by
  refine g.imp scMissed (fun H ds d ⟨k, g, c, got, coming, i, place, h1, h2⟩ => by rw [h1]; rfl) fun f cdv A outer s H E hr => ?_
  have hu := hu_of hr
  refine ⟨_,
    (pss_one (ps_if (pt_cmp (pc_din hu (pv 1) (pe_fld (pv 0) rfl)))
      (pss_one (ps_dput hu (pe_fld (pv 0) rfl) (pv 1) (pe_callB (call_max2' rfl) (by rfl) m_max PyProof.Rows.boot_max (pa_cons (pe_callB (call_min2' rfl) (by rfl) m_min PyProof.Rows.boot_min (pa_cons (pe_dget hu (pe_fld (pv 0) rfl) (pv 1) (fun _ _ => rfl)) (pa_cons (pplus (pv 2) pe_int) pa_nil))) (pa_cons (pplus (pe_dget hu (pe_fld (pv 0) rfl) (pv 1) (fun _ _ => rfl)) pe_int) pa_nil))) rfl))
      pss_nil)), ?_⟩
  rintro ds PP ⟨k, g, c, got, coming, i, place, rfl, hk, h1, h2, rfl⟩
  refine ⟨rfl, ?_⟩
  obtain ⟨dx, fs, ho, F⟩ := id hk.obj
  obtain ⟨gk, hg, hgl, hgv⟩ := id hk.gd
  obtain ⟨ck, hc, hcl, hcv⟩ := id hk.cd
  have hi2 : i ≤ coming.length := by rw [← hk.len]; exact h2
  refine im_if (b := true) (eb_din (key := .inl (i : Int)) (ed_var rfl) (ed_fld (ed_var rfl) ho T.cl T.nG F.got (.ref g)) hg (by rw [DN.at_ hgv h1 h2]; rfl)) (fun _ H1 s1 => ?_) (fun z => by cases z)
  have ho1 := s1 _ _ ho
  have hg1 := s1 _ _ hg
  have hc1 := s1 _ _ hc
  refine im_dput (ie_ed (d := .int ((max (min (coming.getD (i - 1) 0) (place + 1)) (got.getD (i - 1) 0 + 1) : Nat) : Int)) (ED.to (ed_max (ed_min (ed_dget (key := .inl (i : Int)) (d := .int (coming.getD (i - 1) 0 : Nat)) (ed_fld (ed_var rfl) ho1 T.cl T.nC F.com (.ref c)) (ed_var rfl) hc1 (DN.at_ hcv h1 hi2) (.int _)) (ed_i2 (ed_var rfl) ed_int))
    (ed_i2 (ed_dget (key := .inl (i : Int)) (d := .int (got.getD (i - 1) 0 : Nat)) (ed_fld (ed_var rfl) ho1 T.cl T.nG F.got (.ref g)) (ed_var rfl) hg1 (DN.at_ hgv h1 h2) (.int _)) ed_int)) (by congr 1; omega)) fun H3 s3 => ?_)
  refine ⟨c, .inl (i : Int), ck, ed_fld (ed_var rfl) (s3 _ _ ho1) T.cl T.nC F.com (.ref c), ed_var rfl, s3 _ _ hc1, by omega, fun H4 v s4 r => ?_⟩
  rw [r.int_eq]
  have s24 : Same H H4 := (s1.trans s3).trans s4
  have hk4 := hk.same s24
  have hc4 := s24 _ _ hc
  have kk : Kp K [c] H4 (upd H4 c (.dK (putK ck (.inl (i : Int)) (.int ((max (min (coming.getD (i - 1) 0) (place + 1)) (got.getD (i - 1) 0 + 1) : Nat) : Int))))) := Kp.dK hc4 (by simp)
  have kall := (Kp.of s24).trans (kk.mono (ys := [g, c]) (by simp))
  refine ⟨kall.tle, rfl, kall, ?_⟩
  exact ⟨⟨dx, fs, kk.keep _ _ (s24 _ _ ho) (by simpa using hk.nkc), F⟩, hk4.gd.kp kk (by simpa using hk.ne), DN.put hcl hcv h1 hi2, hk.ne, by rw [List.length_set]; exact hk.len, hk.six⟩
end
end Sh

/-! ### class Copying: what only reads -/
namespace Sh
open PySem L2
section
variable {P : Program} {w : World} {K : PySem.W.Frag} {mg : Str → Option Value} {base : Heap} {C : Addr}
theorem GdM.pureN {x q : Str} {st : Stmt} {ps N : List Str} {k : Nat} {rel : Hp → List D → D → Prop} (g : GdM K C x q st ps) (S : FnScope N ps (defScope st)) (hl : ∀ H ds d, rel H ds d → ds.length = ps.length)
    (h : ∀ (f : Addr) (cdv : Value) (A : Around) (outer : List PySem.Env) (s : Shared) (H : Hp) (E : XK), Room k (A.deeper (PyProof.Rows.envOfC q (defScope st) s.heap.objs.size f cdv)) →
      ∃ t, PSs (cxOf CX0 P w K mg base N q (defScope st) f cdv A outer s H E).nox (defBody st) t ∧ ∀ ds d, rel H ds d → So K H t (begun N ds) (fun _ => d = .non) (fun y => y = d)) : OkM P w K mg base C (k + 1) x ps (spF K rel) := by
  obtain ⟨f, fd, F, m, b⟩ := g
  refine ⟨f, fd, F.ok S (spF_len hl) fun cdv A outer s H vs Q E hr hs => ?_, m, b⟩
  obtain ⟨t, h1, h2⟩ := h f cdv A outer s H E hr
  obtain ⟨ds, d, r, hr', kk⟩ := hs
  exact ⟨t, h1, h2 ds d hr' _ H _ (Same.refl H) (Env.start r) (fun _ H' _ s' _ e => kk .non H' s' (by rw [e]; exact .non)) fun v H' x s' rv e => kk v H' s' (e ▸ rv)⟩
abbrev sNeedKn : Stmt := inClass (top 34) 3
theorem scNeedKn : FnScope ["self", "other"] ["self", "other"] (defScope sNeedKn) := ⟨rfl, rfl, rfl, by decide +kernel, rfl, by decide +kernel, by decide +kernel⟩
theorem ok_needkn (T : CopTxt K C) (g : GdM K C "need_known" "Copying.need_known" sNeedKn ["self", "other"]) (m_isinstance : mg "isinstance" = none) (m_int : mg "int" = none) (m_bool : mg "bool" = none) : OkM P w K mg base C 1 "need_known" ["self", "other"] (spF K (relNeedKn C)) := by
  refine g.pureN scNeedKn (fun H ds d ⟨k, g, c, got, coming, i, h1, h2⟩ => by rw [h1]; rfl) fun f cdv A outer s H E hr => ?_
  have hu := hu_of hr
  refine ⟨_,
    (pss_one (ps_if (PW.pt (pw_or (pt_not (pt_val (pisi m_isinstance m_int PyProof.Rows.boot_int (pv 1)))) (pw_or (pt_val (pisi m_isinstance m_bool PyProof.Rows.boot_bool (pv 1))) (pw_or1 (pt_cmp (pc_dnotin hu (pv 1) (pe_fld (pv 0) rfl)))))))
      pss_never
      pss_nil)), ?_⟩
  rintro ds d ⟨k, g, c, got, coming, i, rfl, hk, h1, h2, rfl⟩
  obtain ⟨dx, fs, ho, F⟩ := id hk.obj
  obtain ⟨gk, hg, hgl, hgv⟩ := id hk.gd
  refine so_if (b := false) (eb_or (a := false) (eb_not (b := true) (eb_tTest (ed_isi (ed_var rfl) fun H v r => isi_int r))) fun _ => eb_or (a := false) (eb_tTest (ed_isi (ed_var rfl) fun H v r => isi_bool r)) fun _ => eb_dnin (key := .inl (i : Int)) (b := false) (ed_var rfl) (ed_fld (ed_var rfl) ho T.cl T.nG F.got (.ref g)) hg (by rw [DN.at_ hgv h1 h2]; rfl)) (fun z => by cases z) fun _ => ?_
  exact so_next rfl
abbrev sNext : Stmt := inClass (top 34) 5
theorem scNext : FnScope ["self", "other"] ["self", "other"] (defScope sNext) := ⟨rfl, rfl, rfl, by decide +kernel, rfl, by decide +kernel, by decide +kernel⟩
theorem ok_next (T : CopTxt K C) (g : GdM K C "next_of" "Copying.next_of" sNext ["self", "other"]) (o_need_known : OkM P w K mg base C 1 "need_known" ["self", "other"] (spF K (relNeedKn C))) : OkM P w K mg base C 2 "next_of" ["self", "other"] (spF K (relNext C)) := by
  refine g.pure scNext (fun H ds d ⟨k, g, c, got, coming, i, h1, h2⟩ => by rw [h1]; rfl) fun f cdv A outer s H E hr => ?_
  have hu := hu_of hr
  refine ⟨_,
    (pss_cons (ps_expr (pe_mt o_need_known T.cl hr (pv 0) (pa_cons (pv 1) pa_nil)))
    (pss_one (ps_ret (pe_dget hu (pe_fld (pv 0) rfl) (pv 1) (fun _ _ => rfl))))), ?_⟩
  rintro ds d ⟨k, g, c, got, coming, i, rfl, hk, h1, h2, rfl⟩
  obtain ⟨dx, fs, ho, F⟩ := id hk.obj
  obtain ⟨ck, hc, hcl, hcv⟩ := id hk.cd
  refine so_seqexpr (ed_mt (d := .non) (ds := [.int i]) (ed_var rfl) ho (F.no _ (by decide +kernel) (by decide +kernel) (by decide +kernel)) (ea_cons (ed_var rfl) ea_nil) fun H1 s1 => ⟨k, g, c, got, coming, i, rfl, hk.same s1, h1, h2, rfl⟩) ?_
  exact so_ret (ed_dget (key := .inl (i : Int)) (d := .int (coming.getD (i - 1) 0 : Nat)) (ed_fld (ed_var rfl) ho T.cl T.nC F.com (.ref c)) (ed_var rfl) hc (DN.at_ hcv h1 (by rw [← hk.len]; exact h2)) (.int _)) rfl
abbrev sManyHave : Stmt := inClass (top 34) 8
theorem scManyHave : FnScope ["self", "place", "members", "some", "one"] ["self", "place", "members"] (defScope sManyHave) := ⟨rfl, rfl, rfl, by decide +kernel, rfl, by decide +kernel, by decide +kernel⟩
theorem ok_manyhave (T : CopTxt K C) (g : GdM K C "many_have" "Copying.many_have" sManyHave ["self", "place", "members"]) (o_are_many : Ok P w K mg base 6 "are_many" ["members", "scribes"] (spF K relAreMany)) : OkM P w K mg base C 7 "many_have" ["self", "place", "members"] (spF K (relManyHave C)) := by
  refine g.pure scManyHave (fun H ds d ⟨k, g, c, got, coming, i, h1, h2⟩ => by rw [h1]; rfl) fun f cdv A outer s H E hr => ?_
  have hu := hu_of hr
  refine ⟨_,
    (pss_cons (ps_setLc (i := 3) (own := [("one", 4)]) (g := gName 4) (tt := tOr (tTest (tOp rEq (tVar 4) (tFld K (tVar 0) "own"))) (tTest (tOp (rI0 fun i j => .bl (decide (j ≤ i))) (tDGet2 (tFld K (tVar 0) "got") (tVar 4) (tC (.int 0))) (tVar 1)))) rfl scManyHave.nd rfl rfl (sw_true rfl rfl rfl (by decide +kernel)) (pi_tup (pv 2)) (blkOk_by (N := ["self", "place", "members", "some", "one"]) (sc := defScope sManyHave) (by decide +kernel)) (fun _ _ _ _ _ => pgl 4 scManyHave.nd) (fun _ _ _ _ _ => pts_one (PW.pt (pw_or (pt_cmpR op_eq (pv 4) (pe_fld (pv 0) rfl) (nomark _)) (pw_or1 (pt_cmpR op_ge (pe_dget2 hu (pe_fld (pv 0) rfl) (pv 4) pe_int (⟨rfl, by rfl, rfl, rfl⟩)) (pv 1) (nomark _)))))) (fun _ _ _ _ _ => (pv 4)))
    (pss_one (ps_ret (pe_fn o_are_many hr (pa_cons (pv 2) (pa_cons (pv 3) pa_nil)))))), ?_⟩
  rintro ds d ⟨k, g, c, got, coming, p, rfl, hk, rfl⟩
  obtain ⟨dx, fs, ho, F⟩ := id hk.obj
  obtain ⟨gk, hg, hgl, hgv⟩ := id hk.gd
  have h6 := hk.six
  refine so_seqset (ed_lc (zs := List.range (got.length + 1)) (c := fun i => D.int (i : Nat)) (fun i => decide (i = 0) || decide (p ≤ got.getD (i - 1) 0 ∧ i ≠ 0)) (fun i => D.int (i : Nat)) (ei_tup (ed_var rfl)) (by rw [List.length_range]; omega) (fun _ _ _ => rfl) fun z hz => ⟨?_, fun _ => ed_var rfl⟩) ?_
  · have hz' := List.mem_range.mp hz
    refine eb_or (eb_tTest (ED.to (ed_eqI (j := 0) (ed_var rfl) (ed_fld (ed_var rfl) ho T.cl T.nO F.own (.int 0))) ?_)) fun hz0 => eb_tTest (ED.to (ed_b2 (i := (got.getD (z - 1) 0 : Nat)) (ed_dget2 (key := .inl (z : Int)) (dx := .int 0) (ed_fld (ed_var rfl) ho T.cl T.nG F.got (.ref g)) (ed_var rfl) ed_int hg (.inl ⟨_, DN.at_ hgv ?_ ?_, .int _⟩)) (ed_var rfl)) ?_)
    · congr 1
      rw [decide_eq_decide]
      omega
    · have := of_decide_eq_false hz0
      omega
    · omega
    · have := of_decide_eq_false hz0
      congr 1
      rw [decide_eq_decide]
      omega
  refine so_ret (ed_call (ea_cons (ed_var rfl) (ea_cons (ed_var rfl) ea_nil)) fun H1 s1 => ⟨got.length, fun i => decide (i = 0) || decide (p ≤ got.getD (i - 1) 0 ∧ i ≠ 0), rfl, h6, rfl⟩) ?_
  rw [range_filter]
abbrev sSettled : Stmt := inClass (top 34) 9
theorem scSettled : FnScope ["self", "log", "settled", "reign", "members", "place"] ["self", "log", "settled", "reign"] (defScope sSettled) := ⟨rfl, rfl, rfl, by decide +kernel, rfl, by decide +kernel, by decide +kernel⟩
theorem down_step {P : Nat → Bool} {lo n : Nat} (h : lo < n) (hp : P n = false) : Wd.down P lo n = Wd.down P lo (n - 1) := by
  cases n with
  | zero => omega
  | succ n =>
    conv => lhs; unfold Wd.down
    rw [if_neg (by omega), hp]
    rfl
theorem ok_settled (T : CopTxt K C) (g : GdM K C "settled_place" "Copying.settled_place" sSettled ["self", "log", "settled", "reign"]) (o_members_of : Ok P w K mg base 4 "members_of" ["log"] (spF K relMemOf)) (o_last : Ok P w K mg base 1 "last" ["log"] (spF K relLast)) (o_has_row : Ok P w K mg base 3 "has_row" ["log", "place"] (spF K relHas)) (o_reign_at : Ok P w K mg base 4 "reign_at" ["log", "place"] (spF K relReign))
    (o_many_have : OkM P w K mg base C 7 "many_have" ["self", "place", "members"] (spF K (relManyHave C))) (m_range : mg "range" = none) : OkM P w K mg base C 8 "settled_place" ["self", "log", "settled", "reign"] (spF K (relSettled C)) := by
  refine g.pure scSettled (fun H ds d ⟨k, g, c, got, coming, rows, fp, settled, reign, h1, h2⟩ => by rw [h1]; rfl) fun f cdv A outer s H E hr => ?_
  have hu := hu_of hr
  refine ⟨_,
    (pss_cons (ps_set (i := 4) scSettled.nd rfl (Or.inl rfl) (pe_fn o_members_of hr (pa_cons (pv 1) pa_nil)))
    (pss_cons (ps_for PassesOwn.never rfl (pi_range3 (by rfl) m_range (pa_cons (pe_fn o_last hr (pa_cons (pv 1) pa_nil)) (pa_cons (pv 2) (pa_cons (pe_un un_neg pe_int) pa_nil)))) (pgl 5 scSettled.nd)
      (pss_one (ps_if (PW.pt (pw_and (pt_val (pe_fn o_has_row hr (pa_cons (pv 1) (pa_cons (pv 5) pa_nil)))) (pw_and (pt_cmpR op_eq (pe_fn o_reign_at hr (pa_cons (pv 1) (pa_cons (pv 5) pa_nil))) (pv 3) (nomark _)) (pw_and1 (pt_val (pe_mt o_many_have T.cl hr (pv 0) (pa_cons (pv 5) (pa_cons (pv 4) pa_nil))))))))
        (pss_one (ps_ret (pv 5)))
        pss_nil)))
    (pss_one (ps_ret (pv 2))))), ?_⟩
  rintro ds d ⟨k, g, c, got, coming, rows, fp, settled, reign, rfl, hk, hfs, hsl, h900, rfl⟩
  obtain ⟨dx, fs, ho, F⟩ := id hk.obj
  have hfl : fp ≤ rows.length := by omega
  refine so_seqset (ed_call (d := memD got.length) (ea_cons (ed_var rfl) ea_nil) fun H1 s1 => ⟨headLog rows fp got.length, rfl, rfl⟩) ?_
  let PP : Nat → Bool := fun p => decide (reignOf rows p = reign) && decide ((got.length + 1) / 2 + 1 ≤ 1 + Wd.countG got p)
  refine so_seq (N1 := fun es1 => es1[2]? = some (some (.int (settled : Nat))) ∧ Wd.down PP settled rows.length = settled)
    (so_for (ei_rangeD (m := (rows.length : Nat)) (n := (settled : Nat)) (ed_call (ea_cons (ed_var rfl) ea_nil) fun H1 s1 => ⟨headLog rows fp got.length, rfl, by rw [headLog_last hfl]⟩) (ed_var rfl) (ed_neg ed_int) (by omega))
      (fun i es1 => (∃ o, es1 = [some (.ref k), some (logD (headLog rows fp got.length)), some (.int (settled : Nat)), some (.int (reign : Nat)), some (memD got.length), o]) ∧ Wd.down PP settled rows.length = Wd.down PP settled (rows.length - i)) ⟨⟨none, rfl⟩, rfl⟩ ?_ ?_) ?_
  · rintro i es1 d hi hd ⟨⟨o, rfl⟩, hdn⟩
    rw [List.length_map, List.length_range] at hi
    rw [List.getElem?_map, List.getElem?_range hi] at hd
    have hd : D.int (((rows.length : Nat) : Int) - (i : Nat)) = d := Option.some.inj hd
    have e1 : ((rows.length : Nat) : Int) - (i : Nat) = ((rows.length - i : Nat) : Int) := by omega
    rw [e1] at hd
    subst hd
    refine ⟨_, eg_name, so_if (b := PP (rows.length - i)) ?_ (fun z => so_ret (ed_var rfl) ?_) fun z => so_next ⟨⟨_, rfl⟩, ?_⟩⟩
    · refine EB.to (eb_and (a := true) (eb_tTest (ED.to (ed_call (ea_cons (ed_var rfl) (ea_cons (ed_var rfl) ea_nil)) fun H1 s1 => ⟨headLog rows fp got.length, rows.length - i, rfl, rfl⟩) ?_)) fun _ => eb_and (a := decide (reignOf rows (rows.length - i) = reign)) (eb_tTest (ED.to (ed_eqO (i := some (reignOf rows (rows.length - i))) (j := reign) (ED.to (ed_call (ea_cons (ed_var rfl) (ea_cons (ed_var rfl) ea_nil)) fun H1 s1 => ⟨headLog rows fp got.length, rows.length - i, rfl, rfl⟩) ?_) (ed_var rfl)) ?_)) fun _ =>
        eb_tTest (ed_mt (d := .bl (decide ((got.length + 1) / 2 + 1 ≤ 1 + Wd.countG got (rows.length - i)))) (ds := [.int (rows.length - i : Nat), memD got.length]) (ed_var rfl) ho (F.no _ (by decide +kernel) (by decide +kernel) (by decide +kernel)) (ea_cons (ed_var rfl) (ea_cons (ed_var rfl) ea_nil)) fun H1 s1 => ⟨k, g, c, got, coming, rows.length - i, rfl, hk.same s1, rfl⟩)) ?_
      · congr 1
        rw [headLog_last hfl]
        exact decide_eq_true ⟨by show fp < _; omega, by omega⟩
      · rw [headLog_at hfl (by omega) (by omega)]
      · simp
      · rfl
    · show D.int _ = D.int _
      rw [hdn]
      have : rows.length - i ≠ 0 := by omega
      have e2 : Wd.down PP settled (rows.length - i) = rows.length - i := down_top z (by omega)
      rw [e2]
    · rw [hdn, down_step (by omega) z]
      congr 1
  · rintro es1 ⟨⟨o, rfl⟩, hdn⟩
    refine ⟨rfl, ?_⟩
    rw [hdn, List.length_map, List.length_range]
    have e1 : rows.length - (((rows.length : Nat) : Int) - ((settled : Nat) : Int)).toNat = settled := by omega
    rw [e1]
    unfold Wd.down
    split
    · rfl
    · rw [if_pos (by omega)]
  · rintro es1 ⟨h1, h2⟩
    refine so_ret (ed_var h1) ?_
    rw [h2]
abbrev sLetterTo : Stmt := inClass (top 34) 11
theorem scLetterTo : FnScope ["self", "other", "reign", "log", "settled", "place", "rows"] ["self", "other", "reign", "log", "settled"] (defScope sLetterTo) := ⟨rfl, rfl, rfl, by decide +kernel, rfl, by decide +kernel, by decide +kernel⟩
theorem ok_letterto (T : CopTxt K C) (g : GdM K C "letter_to" "Copying.letter_to" sLetterTo ["self", "other", "reign", "log", "settled"]) (o_next_of : OkM P w K mg base C 2 "next_of" ["self", "other"] (spF K (relNext C))) (o_rows_from : Ok P w K mg base 3 "rows_from" ["log", "place", "many"] (spF K relFrom)) (o_reign_at : Ok P w K mg base 4 "reign_at" ["log", "place"] (spF K relReign))
    (m_MOST_ROWS : ∃ t, mg "MOST_ROWS" = some (.int 8 t)) : OkM P w K mg base C 5 "letter_to" ["self", "other", "reign", "log", "settled"] (spF K (relLetterTo C)) := by
  obtain ⟨tk, m_MOST_ROWS⟩ := m_MOST_ROWS
  refine g.pure scLetterTo (fun H ds d ⟨k, g, c, got, coming, rows, i, fp, settled, reign, h1, h2⟩ => by rw [h1]; rfl) fun f cdv A outer s H E hr => ?_
  have hu := hu_of hr
  refine ⟨_,
    (pss_cons (ps_set (i := 5) scLetterTo.nd rfl (Or.inl rfl) (pe_mt o_next_of T.cl hr (pv 0) (pa_cons (pv 1) pa_nil)))
    (pss_cons (ps_if (pt_cmpR op_le (pv 5) (px (px (pv 3) pe_int) pe_int) (nomark _))
      (pss_one (ps_ret (pe_tup (pa_cons pe_str (pa_cons (pe_fld (pv 0) rfl) (pa_cons (pv 1) (pa_cons (pv 2) (pa_cons (px (pv 3) pe_int) pa_nil))))))))
      pss_nil)
    (pss_cons (ps_set (i := 6) scLetterTo.nd rfl (Or.inl rfl) (pe_fn o_rows_from hr (pa_cons (pv 3) (pa_cons (pv 5) (pa_cons (pgI m_MOST_ROWS) pa_nil)))))
    (pss_one (ps_ret (pe_tup (pa_cons pe_str (pa_cons (pe_fld (pv 0) rfl) (pa_cons (pv 1) (pa_cons (pv 2) (pa_cons (pminus (pv 5) pe_int) (pa_cons (pe_fn o_reign_at hr (pa_cons (pv 3) (pa_cons (pminus (pv 5) pe_int) pa_nil))) (pa_cons (pv 6) (pa_cons (pv 4) pa_nil)))))))))))))), ?_⟩
  rintro ds d ⟨k, g, c, got, coming, rows, i, fp, settled, reign, rfl, hk, h1, h2, hfl, hcl, rfl⟩
  obtain ⟨dx, fs, ho, F⟩ := id hk.obj
  obtain ⟨n, hn⟩ : ∃ n, coming.getD (i - 1) 0 = n := ⟨_, rfl⟩
  rw [hn] at hcl ⊢
  refine so_seqset (d := .int (n : Nat)) (ed_mt (ds := [.int i]) (ed_var rfl) ho (F.no _ (by decide +kernel) (by decide +kernel) (by decide +kernel)) (ea_cons (ed_var rfl) ea_nil) fun H1 s1 => ⟨k, g, c, got, coming, i, rfl, hk.same s1, h1, h2, by rw [hn]⟩) ?_
  have hlg : ∀ {es : Es}, es[3]? = some (some (logD (headLog rows fp got.length))) → ED K H (tVar 3) es (.tup [foldD fp (reignOf rows fp) got.length, rowsD (rows.drop fp)]) := fun h => ed_var h
  refine so_exit (eb_tTest (ed_b2 (ed_var rfl) (ed_ixT (ds := [.int fp, .int (reignOf rows fp), memD got.length, .str "book"]) (ed_ixT (hlg rfl) ed_int rfl) ed_int rfl))) (fun z => ?_) fun z => ?_
  · have z := of_decide_eq_true z
    rw [if_pos (by omega)]
    exact so_ret (ed_tup (ea_cons ed_str (ea_cons (ed_fld (ed_var rfl) ho T.cl T.nO F.own (.int 0)) (ea_cons (ed_var rfl) (ea_cons (ed_var rfl) (ea_cons (ed_ixT (hlg rfl) ed_int rfl) ea_nil)))))) rfl
  · have z := of_decide_eq_false z
    rw [if_neg (by omega)]
    have e1 : ((n : Nat) : Int) - 1 = ((n - 1 : Nat) : Int) := by omega
    have hl := headLog_last (m := got.length) hfl
    refine so_seqset (d := rowsD ((rows.drop (n - 1)).take 8)) (ed_call (ea_cons (ed_var rfl) (ea_cons (ed_var rfl) (ea_cons ed_int ea_nil))) fun H1 s1 => ⟨headLog rows fp got.length, n, 8, rfl, by show fp < n; omega, by rw [hl]; omega, ?_⟩) ?_
    · show _ = rowsD (((rows.drop fp).drop (n - fp - 1)).take 8)
      rw [List.drop_drop]
      congr 3
      omega
    · refine so_ret (ed_tup (ea_cons ed_str (ea_cons (ed_fld (ed_var rfl) ho T.cl T.nO F.own (.int 0)) (ea_cons (ed_var rfl) (ea_cons (ed_var rfl) (ea_cons (ED.to (ed_i2 (ed_var rfl) ed_int) (congrArg D.int e1)) (ea_cons (d := .int (reignOf rows (n - 1) : Nat)) (ed_call (ds := [logD (headLog rows fp got.length), .int (n - 1 : Nat)]) (ea_cons (ed_var rfl) (ea_cons (ED.to (ed_i2 (ed_var rfl) ed_int) (congrArg D.int e1)) ea_nil)) fun H1 s1 => ⟨headLog rows fp got.length, n - 1, rfl, ?_⟩) (ea_cons (ed_var rfl) (ea_cons (ed_var rfl) ea_nil))))))))) rfl
      rw [headLog_at hfl (by omega) (by omega)]
      rfl
end
end Sh

/-! ### class Copying: its make -/
namespace Sh
open PySem L2
section
variable {K : PySem.W.Frag} {H : Hp} {es : Es} {te : TE} {P : D → Hp → Prop}
/-- pairs, as tuples -/
theorem pairs_at : ∀ {kds : List (Key × D)} {ws : List V}, RpL K H ws (kds.map fun q => .tup [keyD q.1, q.2]) → ∃ (ps : List Addr) (kvs : List (Key × V)), ws = ps.map V.ref ∧ Paired (fun p kv => SqT K H p [kV kv.1, kv.2]) ps kvs ∧ kvs.map (·.1) = kds.map (·.1) ∧ RpL K H (kvs.map (·.2)) (kds.map (·.2))
  | [], ws, h => ⟨[], [], h.nil_of, .nil, rfl, .nil⟩
  | (k, d) :: kds, ws, h => by
    obtain ⟨v, r, rfl, h1, h2⟩ := RpL.cons_of h
    obtain ⟨a, xs, rfl, hs, hr⟩ := h1.tup_of
    obtain ⟨x, y, rfl, r1, r2⟩ := hr.two
    obtain ⟨ps, kvs, rfl, e1, e2, e3⟩ := pairs_at h2
    rw [r1.key] at hs
    exact ⟨a :: ps, (k, y) :: kvs, rfl, .cons hs e1, by simp [e2], .cons r2 e3⟩
theorem ie_dictP {kds : List (Key × D)} (h : EL K H te es (kds.map fun q => .tup [keyD q.1, q.2])) (hn : (kds.map (·.1)).Nodup)
    (q : ∀ p kvs H1, Same H H1 → H1 p = none → kvs.map (·.1) = kds.map (·.1) → RpL K H1 (kvs.map (·.2)) (kds.map (·.2)) → P (.ref p) (upd H1 p (.dK kvs))) : IE K H (tCB (rDictP K) (tCons te tNil)) es P := fun σ Q e n k =>
  h σ H (Same.refl H) e _ fun A ws H1 s1 _ hA r => by
    obtain ⟨ps, kvs, rfl, e1, e2, e3⟩ := pairs_at r
    refine ⟨A, ps, kvs, rfl, SqL.of hA, e1, fun p hp => ?_⟩
    rw [mergeK_nd (by rw [e2]; exact hn)]
    exact k _ _ (.ref p) (.ref p) ((TLe.of s1).trans (TLe.of (Same.new hp))) (q p kvs H1 s1 hp e2 e3)
theorem ie_el {ds : List D} (h : EL K H te es ds) (q : ∀ A ws H', Same H H' → H A = none → H' A = some (.lst ws) → RpL K H' ws ds → P (.ref A) H') : IE K H te es P := fun σ Q e n k =>
  h σ H (Same.refl H) e _ fun A ws H' s hA hA' r => k _ H' (.ref A) (.ref A) (TLe.of s) (q A ws H' s hA hA' r)
end
theorem valV_map (f : Nat → V) : ∀ (n b : Nat) (z : Nat), valV ((List.range' b n).map fun i => ((Sum.inl (((i : Nat) : Int)) : Key), f i)) (.inl (z : Int)) = if b ≤ z ∧ z < b + n then some (f z) else none
  | 0, b, z => by
    rw [if_neg (by omega)]
    rfl
  | n + 1, b, z => by
    rw [List.range'_succ, List.map_cons]
    by_cases e : b = z
    · subst e
      rw [kv_pos, if_pos (by omega)]
    · rw [kv_neg (fun q => e (by injection q with q; omega)), valV_map f n (b + 1) z]
      by_cases h : b ≤ z ∧ z < b + (n + 1)
      · rw [if_pos h, if_pos (by omega)]
      · rw [if_neg h, if_neg (by omega)]
theorem EL.to {K : PySem.W.Frag} {H : Hp} {es : Es} {te : TE} {ds ds' : List D} (h : EL K H te es ds) (e : ds = ds') : EL K H te es ds' := e ▸ h
theorem ed_lc0L {K : PySem.W.Frag} {H0 : Hp} {es : Es} {te : TE} {α : Type} {wi : TI} {i : Nat} {zs : List α} {c : α → D} (f : α → D) (hi : EI K H0 wi es (zs.map c)) (hl : zs.length ≤ 1000) (hf : ∀ z ∈ zs, noL (f z) = true)
    (hg : ∀ z ∈ zs, ED K H0 te (es.set i (some (c z))) (f z)) : EL K H0 (tLc wi (gName i) tYes te [i]) es (zs.map f) := by
  have h := el_lc (tt := tYes) (te := te) (fun _ => true) f hi hl (fun z hz _ => hf z hz) fun z hz => ⟨fun σ H s e Q q => q H (Same.refl H), fun _ => hg z hz⟩
  rw [List.filter_eq_self.mpr fun _ _ => rfl] at h
  exact h
def relRenewed (K : PySem.W.Frag) (C : Addr) : Hp → List D → (D → Hp → Prop) → Prop := fun H ds P => ∃ k dx fs g c, ∃ m L : Nat, ds = [.ref k, memD m, .int L] ∧ H k = some (.ins C dx fs) ∧ FsOk fs g c ∧ H g = some (.dK []) ∧ H c = some (.dK []) ∧ m ≤ 6 ∧
  P = fun d H' => d = .non ∧ Kp K [k] H H' ∧ ∃ g' c', KnAt H' C k g' c' (List.replicate m 0) (List.replicate m (L + 1)) ∧ H g' = none ∧ H c' = none
def relInit (K : PySem.W.Frag) (C : Addr) : Hp → List D → (D → Hp → Prop) → Prop := fun H ds P => ∃ k dx, ∃ m L : Nat, ds = [.ref k, memD m, .int 0, .int L] ∧ H k = some (.ins C dx []) ∧ m ≤ 6 ∧
  P = fun d H' => d = .non ∧ Kp K [k] H H' ∧ ∃ g' c', KnAt H' C k g' c' (List.replicate m 0) (List.replicate m (L + 1)) ∧ H g' = none ∧ H c' = none
theorem fne1 : ¬ (("own" : Str) = "got") := by decide +kernel
theorem fne2 : ¬ (("own" : Str) = "coming") := by decide +kernel
theorem fne3 : ¬ (("got" : Str) = "coming") := by decide +kernel
theorem putF_len {f : Str} {v : V} : ∀ {fs : List (Str × V)}, (putF f v fs).length ≤ fs.length + 1
  | [] => by show 1 ≤ _; simp
  | (g, x) :: r => by
    unfold putF
    split
    · simp
    · have := putF_len (f := f) (v := v) (fs := r)
      simp only [List.length_cons]
      omega
theorem putF_len' {f : Str} {v x : V} : ∀ {fs : List (Str × V)}, fs.lookup f = some x → (putF f v fs).length = fs.length
  | [], h => by cases h
  | (g, y) :: r, h => by
    unfold putF
    split
    · rfl
    · rename_i n
      have e : (f == g) = false := by
        cases q : f == g with
        | false => rfl
        | true => exact absurd (beq_iff_eq.mp q).symm n
      rw [List.lookup_cons, e] at h
      rw [List.length_cons, List.length_cons, putF_len' h]
theorem FsOk.setG {fs : List (Str × V)} {g c g' : Addr} (F : FsOk fs g c) : FsOk (putF "got" (.ref g') fs) g' c :=
  ⟨by rw [lookup_putF, if_neg fne1]; exact F.own, by rw [lookup_putF, if_pos rfl], by rw [lookup_putF, if_neg (Ne.symm fne3)]; exact F.com, fun m h1 h2 h3 => by rw [lookup_putF, if_neg h2]; exact F.no m h1 h2 h3, by rw [putF_len' F.got]; exact F.len⟩
theorem FsOk.setC {fs : List (Str × V)} {g c c' : Addr} (F : FsOk fs g c) : FsOk (putF "coming" (.ref c') fs) g c' :=
  ⟨by rw [lookup_putF, if_neg fne2]; exact F.own, by rw [lookup_putF, if_neg fne3]; exact F.got, by rw [lookup_putF, if_pos rfl], fun m h1 h2 h3 => by rw [lookup_putF, if_neg h3]; exact F.no m h1 h2 h3, by rw [putF_len' F.com]; exact F.len⟩
theorem FsOk.mk0 {g c : Addr} : FsOk (putF "coming" (.ref c) (putF "got" (.ref g) (putF "own" (.int 0) []))) g c :=
  ⟨by rw [lookup_putF, if_neg fne2, lookup_putF, if_neg fne1, lookup_putF, if_pos rfl], by rw [lookup_putF, if_neg fne3, lookup_putF, if_pos rfl], by rw [lookup_putF, if_pos rfl],
    fun m h1 h2 h3 => by rw [lookup_putF, if_neg h3, lookup_putF, if_neg h2, lookup_putF, if_neg h1]; rfl, by
      have a := putF_len (f := "coming") (v := V.ref c) (fs := putF "got" (.ref g) (putF "own" (.int 0) []))
      have b := putF_len (f := "got") (v := V.ref g) (fs := putF "own" (.int 0) [])
      have d := putF_len (f := "own") (v := V.int 0) (fs := [])
      simp only [List.length_nil] at d
      omega⟩
/-- numbers under 1, 2, .. m as a dict's entries -/
def kdN (m n : Nat) : List (Key × D) := (List.range' 1 m).map fun i => ((Sum.inl ((i : Nat) : Int) : Key), D.int (n : Nat))
theorem kdN_nd (m n : Nat) : ((kdN m n).map (·.1)).Nodup := by
  unfold kdN
  rw [List.map_map]
  have h : (List.range' 1 m).Nodup := List.nodup_range'
  rw [List.Nodup, List.pairwise_map]
  exact h.imp fun hab e => hab (by injection e with e; omega)
theorem kdN_dn {K : PySem.W.Frag} {H H1 : Hp} {p : Addr} {m n : Nat} {kvs : List (Key × V)} (hm : m ≤ 6) (h1 : kvs.map (·.1) = (kdN m n).map (·.1)) (h2 : RpL K H1 (kvs.map (·.2)) ((kdN m n).map (·.2))) (hp : H p = some (.dK kvs)) : DN H p (List.replicate m n) := by
  have e : kvs = (List.range' 1 m).map fun i => ((Sum.inl ((i : Nat) : Int) : Key), V.int (n : Nat)) := by
    have e2 : (kdN m n).map (·.2) = (List.replicate m (n : Int)).map D.int := by
      unfold kdN
      rw [List.map_map, List.map_replicate, List.eq_replicate_iff]
      refine ⟨by simp, fun b hb => ?_⟩
      obtain ⟨x, _, rfl⟩ := List.mem_map.mp hb
      rfl
    rw [e2] at h2
    have e3 := h2.ints
    have e4 : kvs = (kvs.map (·.1)).zip (kvs.map (·.2)) := by
      rw [← List.unzip_fst, ← List.unzip_snd, List.zip_unzip]
    rw [e4, h1, e3]
    unfold kdN
    rw [List.map_map]
    apply List.ext_getElem?
    intro i
    by_cases hi : i < m
    · simp [hi]
    · rw [List.getElem?_eq_none (by simpa using hi), List.getElem?_eq_none (by simpa using hi)]
  refine ⟨kvs, hp, by rw [e]; simp; omega, fun z => ?_⟩
  rw [e, valV_map (fun _ => V.int (n : Nat))]
  by_cases h : 1 ≤ z ∧ z < 1 + m
  · rw [if_pos h, if_neg (by omega), List.getElem?_replicate, if_pos (by omega)]
    rfl
  · rw [if_neg h]
    by_cases hz : z = 0
    · rw [if_pos hz]
    · rw [if_neg hz, List.getElem?_replicate, if_neg (by omega)]
      rfl
section
variable {P : Program} {w : World} {K : PySem.W.Frag} {mg : Str → Option Value} {base : Heap} {C : Addr}
abbrev sRenewed : Stmt := inClass (top 34) 1
theorem scRenewed : FnScope ["self", "members", "end", "others", "one"] ["self", "members", "end"] (defScope sRenewed) := ⟨rfl, rfl, rfl, by decide +kernel, rfl, by decide +kernel, by decide +kernel⟩
theorem others_eq (m : Nat) : ((List.range (m + 1)).filter fun i => !decide (i = 0)).map (fun i => D.int ((i : Nat) : Int)) = (List.range' 1 m).map fun i => D.int ((i : Nat) : Int) := by
  rw [List.range_eq_range', List.range'_succ, List.filter_cons, if_neg (by simp), List.filter_eq_self.mpr]
  intro a ha
  have := List.mem_range'.mp ha
  simp
  omega
theorem ok_renewed (T : CopTxt K C) (g : GdM K C "renewed" "Copying.renewed" sRenewed ["self", "members", "end"]) (m_dict : mg "dict" = none) : OkM P w K mg base C 1 "renewed" ["self", "members", "end"] (spI K (relRenewed K C)) := by
  refine g.imp scRenewed (fun H ds d ⟨k, dx, fs, g, c, m, L, h1, h2⟩ => by rw [h1]; rfl) fun f cdv A outer s H E hr => ?_
  have hu := hu_of hr
  refine ⟨_,
    (pss_cons (ps_setLc (i := 3) (own := [("one", 4)]) (g := gName 4) (tt := tTest (tOp rNe (tVar 4) (tFld K (tVar 0) "own"))) rfl scRenewed.nd rfl rfl (sw_true rfl rfl rfl (by decide +kernel)) (pi_tup (pv 1)) (blkOk_by (N := ["self", "members", "end", "others", "one"]) (sc := defScope sRenewed) (by decide +kernel)) (fun _ _ _ _ _ => pgl 4 scRenewed.nd) (fun _ _ _ _ _ => pts_one (pt_cmpR op_ne (pv 4) (pe_fld (pv 0) rfl) (nomark _))) (fun _ _ _ _ _ => (pv 4)))
    (pss_cons (ps_fld (pv 0) (pe_callTy (call_dictP' rfl) (by rfl) m_dict PyProof.Rows.boot_dict (pa_cons (pe_lc (own := [("one", 4)]) (g := gName 4) (tt := tYes) (te := tTup (tCons (tVar 4) (tCons (tDGet2 (tFld K (tVar 0) "got") (tVar 4) (tC (.int 0))) tNil))) rfl scRenewed.nd (pi_list (pv 3)) (blkOk_by (N := ["self", "members", "end", "others", "one"]) (sc := defScope sRenewed) (by decide +kernel)) (fun _ _ _ _ _ => pgl 4 scRenewed.nd) (fun _ _ _ _ _ => pts_nil) (fun _ _ _ _ _ => (pe_tup (pa_cons (pv 4) (pa_cons (pe_dget2 hu (pe_fld (pv 0) rfl) (pv 4) pe_int (⟨rfl, by rfl, rfl, rfl⟩)) pa_nil))))) pa_nil)) rfl)
    (pss_one (ps_fld (pv 0) (pe_callTy (call_dictP' rfl) (by rfl) m_dict PyProof.Rows.boot_dict (pa_cons (pe_lc (own := [("one", 4)]) (g := gName 4) (tt := tYes) (te := tTup (tCons (tVar 4) (tCons (tDGet2 (tFld K (tVar 0) "coming") (tVar 4) (tOp rPlus (tVar 2) (tC (.int 1)))) tNil))) rfl scRenewed.nd (pi_list (pv 3)) (blkOk_by (N := ["self", "members", "end", "others", "one"]) (sc := defScope sRenewed) (by decide +kernel)) (fun _ _ _ _ _ => pgl 4 scRenewed.nd) (fun _ _ _ _ _ => pts_nil) (fun _ _ _ _ _ => (pe_tup (pa_cons (pv 4) (pa_cons (pe_dget2 hu (pe_fld (pv 0) rfl) (pv 4) (pplus (pv 2) pe_int) (⟨rfl, by rfl, rfl, rfl⟩)) pa_nil))))) pa_nil)) rfl)))), ?_⟩
  rintro ds PP ⟨k, dx, fs, g, c, m, L, rfl, ho, F, hg, hc, hm, rfl⟩
  refine ⟨by simp [noLs, noL, noL_mem], ?_⟩
  refine im_seq (N1 := fun H1 es1 => ∃ A ws, es1 = [some (.ref k), some (memD m), some (.int (L : Nat)), some (.ref A), none] ∧ Same H H1 ∧ H A = none ∧ H1 A = some (.lst ws) ∧ RpL K H1 ws ((List.range' 1 m).map fun i => D.int ((i : Nat) : Int)))
    (im_set (ie_el (el_lc (zs := List.range (m + 1)) (c := fun i => D.int (i : Nat)) (fun i => !decide (i = 0)) (fun i => D.int (i : Nat)) (ei_tup (ed_var rfl)) (by rw [List.length_range]; omega) (fun _ _ _ => rfl) fun z hz => ⟨eb_tTest (ED.to (ed_neI (j := 0) (ed_var rfl) (ed_fld (ed_var rfl) ho T.cl T.nO F.own (.int 0))) ?_), fun _ => ed_var rfl⟩) fun A ws H1 s1 hA hA1 r => ⟨rfl, A, ws, rfl, s1, hA, hA1, by rw [← others_eq]; exact r⟩)) ?_
  · congr 2
    rw [decide_eq_decide]
    omega
  rintro H1 _ ⟨A, ws, rfl, s1, hA, hA1, r1⟩
  have ho1 := s1 _ _ ho
  have hg1 := s1 _ _ hg
  have hc1 := s1 _ _ hc
  have hne : k ≠ A := fun z => by rw [z, hA] at ho; cases ho
  have hEI : ∀ {H2 : Hp} {es : Es}, H2 A = some (.lst ws) → RpL K H2 ws ((List.range' 1 m).map fun i => D.int ((i : Nat) : Int)) → es[3]? = some (some (.ref A)) → EI K H2 (iList K (tVar 3)) es ((List.range' 1 m).map fun i => D.int ((i : Nat) : Int)) := fun h1 h2 h3 => ei_list (ed_asL (ed_var h3) h1 h2)
  refine im_seq (N1 := fun H2 es2 => ∃ g' fs', es2 = [some (.ref k), some (memD m), some (.int (L : Nat)), some (.ref A), none] ∧ Kp K [k] H H2 ∧ H g' = none ∧ DN H2 g' (List.replicate m 0) ∧ H2 k = some (.ins C dx fs') ∧ FsOk fs' g' c ∧ H2 c = some (.dK []) ∧ H2 A = some (.lst ws) ∧ RpL K H2 ws ((List.range' 1 m).map fun i => D.int ((i : Nat) : Int)))
    (im_fld (ie_dictP (kds := kdN m 0) (EL.to (ed_lc0L (zs := List.range' 1 m) (c := fun i => D.int ((i : Nat) : Int)) (fun i => D.tup [D.int ((i : Nat) : Int), D.int 0]) (hEI hA1 r1 rfl) (by simp; omega) (fun _ _ => rfl) fun z hz => ed_tup (ea_cons (ed_var rfl) (ea_cons (ed_dget2 (key := .inl (z : Int)) (dx := .int 0) (ed_fld (ed_var rfl) ho1 T.cl T.nG F.got (.ref g)) (ed_var rfl) ed_int hg1 (.inr ⟨rfl, rfl⟩)) ea_nil))) (by unfold kdN; rw [List.map_map]; rfl)) (kdN_nd m 0)
      fun p kvs H2 s2 hp e1 e2 => ⟨k, C, dx, fs, ed_var rfl, (s2.trans (Same.new hp)) _ _ ho1, T.cl, T.nG, Nat.lt_of_le_of_lt F.len (by decide), fun H3 v s3 r3 => ?_⟩)) ?_
  · have s03 : Same H H3 := ((s1.trans s2).trans (Same.new hp)).trans s3
    have s13 : Same H1 H3 := (s2.trans (Same.new hp)).trans s3
    have ho3 := s03 _ _ ho
    have kk : Kp K [k] H3 (upd H3 k (.ins C dx (putF "got" v fs))) := Kp.ins ho3 (by simp)
    have hp3 : H3 p = some (.dK kvs) := s3 _ _ upd_same
    have hkp : p ≠ k := fun z => by rw [z] at hp; rw [(s1.trans s2) _ _ ho] at hp; cases hp
    have hck : c ≠ k := fun z => by rw [z, ho] at hc; cases hc
    rw [r3.ref_eq]
    rw [r3.ref_eq] at kk
    refine ⟨p, _, rfl, (Kp.of s03).trans kk, (s1.trans s2).free hp, (kdN_dn hm e1 e2 hp3).kp kk (by simpa using hkp), upd_same, F.setG, kk.keep _ _ (s03 _ _ hc) (by simpa using hck), kk.keep _ _ (s13 _ _ hA1) (by simpa using hne.symm), ?_⟩
    refine RpL.tle kk.tle _ _ (noLs_of fun d hd => ?_) (RpL.same s13 _ _ r1)
    obtain ⟨x, _, rfl⟩ := List.mem_map.mp hd
    rfl
  rintro H2 _ ⟨g', fs', rfl, k2, hg', hd2, ho2, F2, hc2, hA2, r2⟩
  refine im_fld (ie_dictP (kds := kdN m (L + 1)) (EL.to (ed_lc0L (zs := List.range' 1 m) (c := fun i => D.int ((i : Nat) : Int)) (fun i => D.tup [D.int ((i : Nat) : Int), D.int ((L + 1 : Nat) : Int)]) (hEI hA2 r2 rfl) (by simp; omega) (fun _ _ => rfl) fun z hz => ed_tup (ea_cons (ed_var rfl) (ea_cons (ed_dget2 (key := .inl (z : Int)) (dx := .int ((L + 1 : Nat) : Int)) (ed_fld (ed_var rfl) ho2 T.cl T.nC F2.com (.ref c)) (ed_var rfl) (ED.to (ed_i2 (ed_var rfl) ed_int) (congrArg D.int (by omega))) hc2 (.inr ⟨rfl, rfl⟩)) ea_nil))) (by unfold kdN; rw [List.map_map]; rfl)) (kdN_nd m (L + 1))
      fun p kvs H3 s3 hp e1 e2 => ⟨k, C, dx, fs', ed_var rfl, (s3.trans (Same.new hp)) _ _ ho2, T.cl, T.nC, Nat.lt_of_le_of_lt F2.len (by decide), fun H4 v s4 r4 => ?_⟩)
  have s24 : Same H2 H4 := (s3.trans (Same.new hp)).trans s4
  have ho4 := s24 _ _ ho2
  rw [r4.ref_eq]
  have kk : Kp K [k] H4 (upd H4 k (.ins C dx (putF "coming" (.ref p) fs'))) := Kp.ins ho4 (by simp)
  have hp4 : H4 p = some (.dK kvs) := s4 _ _ upd_same
  have hkp : p ≠ k := fun z => by rw [z, s3 _ _ ho2] at hp; cases hp
  have hgk : g' ≠ k := fun z => by rw [z, ho] at hg'; cases hg'
  have hpn : H p = none := by
    have a := s3.free hp
    cases q : H p with
    | none => rfl
    | some o =>
      have := k2.keep p o q (by simpa using hkp)
      rw [a] at this
      cases this
  have hgp : g' ≠ p := fun z => by
    obtain ⟨gk, q, _⟩ := hd2
    rw [z, s3.free hp] at q
    cases q
  have kall := (k2.trans (Kp.of s24)).trans kk
  exact ⟨kall.tle, rfl, kall, g', p, ⟨⟨dx, _, upd_same, F2.setC⟩, (hd2.same s24).kp kk (by simpa using hgk), (kdN_dn hm e1 e2 hp4).kp kk (by simpa using hkp), hgp, by simp, by simpa using hm⟩, hg', hpn⟩
abbrev sInit : Stmt := inClass (top 34) 0
theorem scInit : FnScope ["self", "members", "number", "end"] ["self", "members", "number", "end"] (defScope sInit) := ⟨rfl, rfl, rfl, by decide +kernel, rfl, by decide +kernel, by decide +kernel⟩
theorem ie_dnew {H : Hp} {es : Es} {PP : D → Hp → Prop} (q : ∀ p, H p = none → PP (.ref p) (upd H p (.dK []))) : IE K H tDNewK es PP := fun σ Q e n k => fun p hp => k _ _ (.ref p) (.ref p) (TLe.of (Same.new hp)) (q p hp)
theorem Kp.free {xs : List Addr} {H H' : Hp} {p : Addr} (k : Kp K xs H H') (h : H' p = none) (n : p ∉ xs) : H p = none := by
  cases q : H p with
  | none => rfl
  | some o =>
    have := k.keep p o q n
    rw [h] at this
    cases this
theorem ok_init (T : CopTxt K C) (g : GdM K C "__init__" "Copying.__init__" sInit ["self", "members", "number", "end"]) (o_renewed : OkM P w K mg base C 1 "renewed" ["self", "members", "end"] (spI K (relRenewed K C))) : OkM P w K mg base C 2 "__init__" ["self", "members", "number", "end"] (spI K (relInit K C)) := by
  refine g.imp scInit (fun H ds d ⟨k, dx, m, L, h1, h2⟩ => by rw [h1]; rfl) fun f cdv A outer s H E hr => ?_
  have hu := hu_of hr
  refine ⟨_,
    (pss_cons (ps_fld (pv 0) (pv 2) rfl)
    (pss_cons (ps_fld (pv 0) pe_dnewK rfl)
    (pss_cons (ps_fld (pv 0) pe_dnewK rfl)
    (pss_one (ps_expr (pe_mt o_renewed T.cl hr (pv 0) (pa_cons (pv 1) (pa_cons (pv 3) pa_nil)))))))), ?_⟩
  rintro ds PP ⟨k, dx, m, L, rfl, ho, hm, rfl⟩
  refine ⟨by simp [noLs, noL, noL_mem], ?_⟩
  refine im_seq (N1 := fun H1 es1 => es1 = begun ["self", "members", "number", "end"] [.ref k, memD m, .int 0, .int L] ∧ Kp K [k] H H1 ∧ H1 k = some (.ins C dx (putF "own" (.int 0) [])))
    (im_fld (ie_ed (ed_var rfl) fun H1 s1 => ⟨k, C, dx, [], ed_var rfl, s1 _ _ ho, T.cl, T.nO, by decide, fun H2 v s2 r => ?_⟩)) ?_
  · rw [r.int_eq]
    exact ⟨rfl, (Kp.of (s1.trans s2)).trans (Kp.ins ((s1.trans s2) _ _ ho) (by simp)), upd_same⟩
  rintro H1 _ ⟨rfl, k1, ho1⟩
  refine im_seq (N1 := fun H2 es2 => es2 = begun ["self", "members", "number", "end"] [.ref k, memD m, .int 0, .int L] ∧ ∃ g, Kp K [k] H H2 ∧ H2 k = some (.ins C dx (putF "got" (.ref g) (putF "own" (.int 0) []))) ∧ H2 g = some (.dK []))
    (im_fld (ie_dnew fun p hp => ⟨k, C, dx, _, ed_var rfl, (Same.new hp) _ _ ho1, T.cl, T.nG, Nat.lt_of_le_of_lt (putF_len (fs := [])) (by decide), fun H2 v s2 r => ?_⟩)) ?_
  · rw [r.ref_eq]
    have ho2 := s2 _ _ ((Same.new (o := .dK []) hp) _ _ ho1)
    have hkp : p ≠ k := fun z => by rw [z, ho1] at hp; cases hp
    have kk : Kp K [k] H2 (upd H2 k (.ins C dx (putF "got" (.ref p) (putF "own" (.int 0) [])))) := Kp.ins ho2 (by simp)
    exact ⟨rfl, p, (k1.trans (Kp.of ((Same.new hp).trans s2))).trans kk, upd_same, kk.keep _ _ (s2 _ _ upd_same) (by simpa using hkp)⟩
  rintro H2 _ ⟨rfl, g', k2, ho2, hg2⟩
  refine im_seq (N1 := fun H3 es3 => es3 = begun ["self", "members", "number", "end"] [.ref k, memD m, .int 0, .int L] ∧ ∃ g c fs, Kp K [k] H H3 ∧ H3 k = some (.ins C dx fs) ∧ FsOk fs g c ∧ H3 g = some (.dK []) ∧ H3 c = some (.dK []))
    (im_fld (ie_dnew fun p hp => ⟨k, C, dx, _, ed_var rfl, (Same.new hp) _ _ ho2, T.cl, T.nC, Nat.lt_of_le_of_lt putF_len (Nat.lt_of_le_of_lt (Nat.succ_le_succ (putF_len (fs := []))) (by decide)), fun H3 v s3 r => ?_⟩)) ?_
  · rw [r.ref_eq]
    have ho3 := s3 _ _ ((Same.new (o := .dK []) hp) _ _ ho2)
    have hg3 := s3 _ _ ((Same.new (o := .dK []) hp) _ _ hg2)
    have hkp : p ≠ k := fun z => by rw [z, ho2] at hp; cases hp
    have hgk : g' ≠ k := fun z => by rw [z, ho2] at hg2; cases hg2
    have kk : Kp K [k] H3 (upd H3 k (.ins C dx (putF "coming" (.ref p) (putF "got" (.ref g') (putF "own" (.int 0) []))))) := Kp.ins ho3 (by simp)
    exact ⟨rfl, g', p, _, (k2.trans (Kp.of ((Same.new hp).trans s3))).trans kk, upd_same, FsOk.mk0, kk.keep _ _ hg3 (by simpa using hgk), kk.keep _ _ (s3 _ _ upd_same) (by simpa using hkp)⟩
  rintro H3 _ ⟨rfl, g3, c3, fs3, k3, ho3, F3, hg3, hc3⟩
  refine im_expr (ie_mt (ed_var rfl) ho3 (F3.no _ (by decide +kernel) (by decide +kernel) (by decide +kernel)) fun H4 s4 => ia_cons (ie_ed (ed_var rfl) fun H5 s5 => ⟨noL_mem m, ia_cons (ie_ed (ed_var rfl) fun H6 s6 => ⟨rfl, ia_nil ⟨_, ⟨k, dx, fs3, g3, c3, m, L, rfl, ((s4.trans s5).trans s6) _ _ ho3, F3, ((s4.trans s5).trans s6) _ _ hg3, ((s4.trans s5).trans s6) _ _ hc3, hm, rfl⟩, ?_⟩⟩)⟩))
  rintro d H7 ⟨rfl, k7, g7, c7, kn, hg7, hc7⟩
  have s36 : Same H3 H6 := (s4.trans s5).trans s6
  have hh : ∀ q, H6 q = none → H q = none := fun q hq => (k3.trans (Kp.of s36)).free hq (by
    simp only [List.mem_singleton]
    intro z
    rw [z, s36 _ _ ho3] at hq
    cases hq)
  have kall := (k3.trans (Kp.of s36)).trans k7
  exact ⟨kall.tle, rfl, kall, g7, c7, kn, hh _ hg7, hh _ hc7⟩
end
end Sh

/-! ### the world, as objects -/
namespace Sh
open PySem L2
def toldD (t : Told) : D := .tup [.int t.one, .bl t.good, .int t.place]
theorem noL_told (t : Told) : noL (toldD t) = true := rfl
def tabO : Nat → List Addr → List (Key × V)
  | _, [] => []
  | b, l :: ls => (.inl ((b : Nat) : Int), .ref l) :: tabO (b + 1) ls
theorem tabO_at : ∀ (ls : List Addr) (b i : Nat), valV (tabO b ls) (.inl ((b + i : Nat) : Int)) = (ls[i]?).map V.ref
  | [], b, i => by simp [tabO]; rfl
  | l :: ls, b, 0 => kv_pos
  | l :: ls, b, i + 1 => by
    have h := tabO_at ls (b + 1) i
    have e : b + 1 + i = b + (i + 1) := by omega
    rw [e] at h
    show valV ((.inl ((b : Nat) : Int), .ref l) :: tabO (b + 1) ls) _ = _
    rw [kv_neg (fun q => by injection q with q; omega), h]
    rfl
theorem tabO_keys : ∀ (ls : List Addr) (b : Nat), (tabO b ls).map (·.1) = ((List.range' b ls.length).map fun i => ((i : Nat) : Int)).map Sum.inl
  | [], b => rfl
  | l :: ls, b => by
    rw [List.length_cons, List.range'_succ, List.map_cons, List.map_cons, ← tabO_keys ls (b + 1)]
    rfl
theorem tabO_vals : ∀ (ls : List Addr) (b : Nat), (tabO b ls).map (·.2) = ls.map V.ref
  | [], b => rfl
  | l :: ls, b => by
    rw [List.map_cons, ← tabO_vals ls (b + 1)]
    rfl
theorem tabO_len (ls : List Addr) (b : Nat) : (tabO b ls).length = ls.length := by
  have := congrArg List.length (tabO_vals ls b)
  simpa using this
/-- the world's dict -/
structure WD (K : PySem.W.Frag) (H : Hp) (w r o rd td : Addr) (L : Log) (settled reign : Nat) (kvs : List (Key × V)) (v : V) : Prop where
  at_ : H w = some (.dK kvs)
  len : kvs.length ≤ 20
  rows : valV kvs (.inr ("rows" : Str)) = some (.ref r)
  log : valV kvs (.inr ("log" : Str)) = some v
  logd : Rp K H v (logD L)
  set : valV kvs (.inr ("settled" : Str)) = some (.int (settled : Nat))
  oth : valV kvs (.inr ("others" : Str)) = some (.ref o)
  reign : valV kvs (.inr ("reign" : Str)) = some (.int (reign : Nat))
  road : valV kvs (.inr ("road" : Str)) = some (.ref rd)
  told : valV kvs (.inr ("told" : Str)) = some (.ref td)
section
variable {K : PySem.W.Frag} {H H' : Hp} {w r o rd td : Addr} {L : Log} {settled reign : Nat} {kvs : List (Key × V)} {v : V}
theorem WD.same (h : WD K H w r o rd td L settled reign kvs v) (s : Same H H') : WD K H' w r o rd td L settled reign kvs v := { h with at_ := s _ _ h.at_, logd := h.logd.same s }
theorem WD.kp {xs : List Addr} (h : WD K H w r o rd td L settled reign kvs v) (s : Kp K xs H H') (n : w ∉ xs) : WD K H' w r o rd td L settled reign kvs v := { h with at_ := s.keep _ _ h.at_ n, logd := Rp.tle s.tle _ _ (noL_log _) h.logd }
theorem WD.putRows (h : WD K H w r o rd td L settled reign kvs v) (r' : Addr) : WD K (upd H w (.dK (putK kvs (.inr ("rows" : Str)) (.ref r')))) w r' o rd td L settled reign (putK kvs (.inr ("rows" : Str)) (.ref r')) v :=
  ⟨upd_same, by rw [kv_len h.rows]; exact h.len, kv_same, kv_put h.log (by decide +kernel), Rp.tle (TLe.dK h.at_) _ _ (noL_log _) h.logd, kv_put h.set (by decide +kernel), kv_put h.oth (by decide +kernel), kv_put h.reign (by decide +kernel), kv_put h.road (by decide +kernel), kv_put h.told (by decide +kernel)⟩
theorem WD.putLog (h : WD K H w r o rd td L settled reign kvs v) {L' : Log} {v' : V} (hv : Rp K H v' (logD L')) : WD K (upd H w (.dK (putK kvs (.inr ("log" : Str)) v'))) w r o rd td L' settled reign (putK kvs (.inr ("log" : Str)) v') v' :=
  ⟨upd_same, by rw [kv_len h.log]; exact h.len, kv_put h.rows (by decide +kernel), kv_same, Rp.tle (TLe.dK h.at_) _ _ (noL_log _) hv, kv_put h.set (by decide +kernel), kv_put h.oth (by decide +kernel), kv_put h.reign (by decide +kernel), kv_put h.road (by decide +kernel), kv_put h.told (by decide +kernel)⟩
theorem WD.putSet (h : WD K H w r o rd td L settled reign kvs v) (s' : Nat) : WD K (upd H w (.dK (putK kvs (.inr ("settled" : Str)) (.int (s' : Nat))))) w r o rd td L s' reign (putK kvs (.inr ("settled" : Str)) (.int (s' : Nat))) v :=
  ⟨upd_same, by rw [kv_len h.set]; exact h.len, kv_put h.rows (by decide +kernel), kv_put h.log (by decide +kernel), Rp.tle (TLe.dK h.at_) _ _ (noL_log _) h.logd, kv_same, kv_put h.oth (by decide +kernel), kv_put h.reign (by decide +kernel), kv_put h.road (by decide +kernel), kv_put h.told (by decide +kernel)⟩
end
/-- a list of these stands there -/
def LsAt (K : PySem.W.Frag) (H : Hp) (a : Addr) (ds : List D) : Prop := ∃ vs, H a = some (.lst vs) ∧ RpL K H vs ds
theorem LsAt.same {K : PySem.W.Frag} {H H' : Hp} {a : Addr} {ds : List D} (h : LsAt K H a ds) (s : Same H H') : LsAt K H' a ds := let ⟨vs, h1, h2⟩ := h; ⟨vs, s _ _ h1, RpL.same s _ _ h2⟩
theorem LsAt.kp {K : PySem.W.Frag} {xs : List Addr} {H H' : Hp} {a : Addr} {ds : List D} (h : LsAt K H a ds) (s : Kp K xs H H') (n : a ∉ xs) (hn : noLs ds = true) : LsAt K H' a ds := let ⟨vs, h1, h2⟩ := h; ⟨vs, s.keep _ _ h1 n, RpL.tle s.tle _ _ hn h2⟩
theorem noLs_map {α : Type} {f : α → D} {xs : List α} (h : ∀ x, noL (f x) = true) : noLs (xs.map f) = true := noLs_of fun d hd => by
  obtain ⟨x, _, rfl⟩ := List.mem_map.mp hd
  exact h x
/-- another one's log and what is sure of it -/
def OwnAt (K : PySem.W.Frag) (H : Hp) (l : Addr) (x : Oth) : Prop := ∃ v, H l = some (.lst [v, .int (x.sure : Nat)]) ∧ Rp K H v (logD x.log)
theorem OwnAt.same {K : PySem.W.Frag} {H H' : Hp} {l : Addr} {x : Oth} (h : OwnAt K H l x) (s : Same H H') : OwnAt K H' l x := let ⟨v, h1, h2⟩ := h; ⟨v, s _ _ h1, h2.same s⟩
theorem OwnAt.kp {K : PySem.W.Frag} {xs : List Addr} {H H' : Hp} {l : Addr} {x : Oth} (h : OwnAt K H l x) (s : Kp K xs H H') (n : l ∉ xs) : OwnAt K H' l x := let ⟨v, h1, h2⟩ := h; ⟨v, s.keep _ _ h1 n, Rp.tle s.tle _ _ (noL_log _) h2⟩
structure WAt (K : PySem.W.Frag) (H : Hp) (w r o rd td : Addr) (ls : List Addr) (W : Wd) : Prop where
  wd : ∃ kvs v, WD K H w r o rd td W.log W.settled W.reign kvs v
  rows : LsAt K H r (W.rows.map rowD)
  od : H o = some (.dK (tabO 1 ls))
  len : ls.length = W.others.length
  own : ∀ (i : Nat) (l : Addr) (x : Oth), ls[i]? = some l → W.others[i]? = some x → OwnAt K H l x
  road : LsAt K H rd (W.road.map letD)
  told : LsAt K H td (W.told.map toldD)
  nd : (r :: rd :: td :: ls).Nodup
  wo : w ≠ o
section
variable {K : PySem.W.Frag} {H H' : Hp} {w r o rd td : Addr} {ls : List Addr} {W : Wd}
theorem WAt.same (h : WAt K H w r o rd td ls W) (s : Same H H') : WAt K H' w r o rd td ls W :=
  ⟨let ⟨kvs, v, x⟩ := h.wd; ⟨kvs, v, x.same s⟩, h.rows.same s, s _ _ h.od, h.len, fun i l x h1 h2 => (h.own i l x h1 h2).same s, h.road.same s, h.told.same s, h.nd, h.wo⟩
theorem WAt.kp {xs : List Addr} (h : WAt K H w r o rd td ls W) (s : Kp K xs H H') (n1 : w ∉ xs) (n2 : o ∉ xs) (n3 : r ∉ xs) (n4 : rd ∉ xs) (n5 : td ∉ xs) (n6 : ∀ l ∈ ls, l ∉ xs) : WAt K H' w r o rd td ls W :=
  ⟨let ⟨kvs, v, x⟩ := h.wd; ⟨kvs, v, x.kp s n1⟩, h.rows.kp s n3 (noLs_map noL_row), s.keep _ _ h.od n2, h.len, fun i l x h1 h2 => (h.own i l x h1 h2).kp s (n6 l (List.mem_of_getElem? h1)), h.road.kp s n4 (noLs_map noL_let), h.told.kp s n5 (noLs_map noL_told), h.nd, h.wo⟩
/-- a list's address is no dict's -/
theorem LsAt.ne {a b : Addr} {ds : List D} {kvs : List (Key × V)} (h : LsAt K H a ds) (e : H b = some (.dK kvs)) : a ≠ b := fun z => by
  obtain ⟨vs, h1, _⟩ := h
  rw [z, e] at h1
  cases h1
theorem OwnAt.ne {a b : Addr} {x : Oth} {kvs : List (Key × V)} (h : OwnAt K H a x) (e : H b = some (.dK kvs)) : a ≠ b := fun z => by
  obtain ⟨vs, h1, _⟩ := h
  rw [z, e] at h1
  cases h1
theorem WAt.ownAt (h : WAt K H w r o rd td ls W) {l : Addr} (hl : l ∈ ls) : ∃ x, OwnAt K H l x := by
  obtain ⟨i, hi, e⟩ := List.mem_iff_getElem.mp hl
  have hi2 : i < W.others.length := by rw [← h.len]; exact hi
  exact ⟨_, h.own i l _ (by rw [List.getElem?_eq_getElem hi, e]) (List.getElem?_eq_getElem hi2)⟩
/-- only dicts change, not the world's -/
theorem WAt.kpD {xs : List Addr} (h : WAt K H w r o rd td ls W) (s : Kp K xs H H') (hx : ∀ x ∈ xs, ∃ kvs, H x = some (.dK kvs)) (n1 : w ∉ xs) (n2 : o ∉ xs) : WAt K H' w r o rd td ls W := by
  have key : ∀ {a : Addr} {ds : List D}, LsAt K H a ds → a ∉ xs := fun q z => let ⟨kvs, e⟩ := hx _ z; q.ne e rfl
  exact h.kp s n1 n2 (key h.rows) (key h.road) (key h.told) fun l hl z => let ⟨kvs, e⟩ := hx _ z; let ⟨x, q⟩ := h.ownAt hl; q.ne e rfl
end
/-! put -/
def relWPut (K : PySem.W.Frag) : Hp → List D → (D → Hp → Prop) → Prop := fun H ds P => ∃ w r o rd td ls W d, ds = [.ref w, deedD d] ∧ WAt K H w r o rd td ls W ∧ W.fp ≤ W.rows.length ∧ W.rows.length ≤ 900 ∧
  P = fun x H' => x = .non ∧ Kp K [w] H H' ∧ ∃ r', WAt K H' w r' o rd td ls (W.put d)
section
variable {P : Program} {w : World} {K : PySem.W.Frag} {mg : Str → Option Value} {base : Heap}
theorem upd_upd {H : Hp} {a : Addr} {o o' : HO} : upd (upd H a o) a o' = upd H a o' := by
  funext b
  by_cases h : b = a
  · rw [h, upd_same, upd_same]
  · rw [upd_ne h, upd_ne h, upd_ne h]
theorem noL_deed' (n : Nat) : noL (deedD n) = true := noL_deed n
/-- xs + ys of two lists: a new one -/
theorem opi_cat {H : Hp} {a b : Addr} {xs ys : List V} {P : D → Hp → Prop} (ha : H a = some (.lst xs)) (hb : H b = some (.lst ys)) (hl : xs.length + ys.length ≤ 1000) (h : ∀ p, H p = none → P (.ref p) (upd H p (.lst (xs ++ ys)))) : OpI K H rCat (.ref a) (.ref b) P := fun v w Q r1 r2 k =>
  ⟨a, b, xs, ys, r1.ref_eq, r2.ref_eq, ha, hb, Nat.le_of_lt (small1000 hl), fun p hp => k _ _ (.ref p) (.ref p) (TLe.of (Same.new hp)) (h p hp)⟩
theorem WAt.newRows {H H' : Hp} {w r o rd td q : Addr} {ls : List Addr} {W W' : Wd} (h : WAt K H w r o rd td ls W) (s : Kp K [w] H H') (hq : H q = none) (hwd : ∃ kvs v, WD K H' w q o rd td W'.log W'.settled W'.reign kvs v) (hr : LsAt K H' q (W'.rows.map rowD)) (e1 : W'.others = W.others) (e2 : W'.road = W.road) (e3 : W'.told = W.told) : WAt K H' w q o rd td ls W' := by
  obtain ⟨kvs, v, DW⟩ := h.wd
  have hw := DW.at_
  have nd := (List.nodup_cons.mp h.nd).2
  have hne : ∀ {a : Addr} {ds : List D}, LsAt K H a ds → a ∉ [w] := fun z => by simpa using z.ne hw
  refine ⟨hwd, hr, s.keep _ _ h.od (by simpa using h.wo.symm), by rw [e1]; exact h.len, fun i l x h1 h2 => ?_, by rw [e2]; exact h.road.kp s (hne h.road) (noLs_map noL_let), by rw [e3]; exact h.told.kp s (hne h.told) (noLs_map noL_told), List.nodup_cons.mpr ⟨fun z => ?_, nd⟩, h.wo⟩
  · rw [e1] at h2
    exact (h.own i l x h1 h2).kp s (by simpa using (h.own i l x h1 h2).ne hw)
  · have : ∃ u, H q = some u := by
      rcases List.mem_cons.mp z with z | z
      · obtain ⟨vs, e, _⟩ := h.road
        exact ⟨_, z ▸ e⟩
      · rcases List.mem_cons.mp z with z | z
        · obtain ⟨vs, e, _⟩ := h.told
          exact ⟨_, z ▸ e⟩
        · obtain ⟨x, v, e, _⟩ := h.ownAt z
          exact ⟨_, e⟩
    obtain ⟨u, e⟩ := this
    rw [hq] at e
    cases e
abbrev sWPut : Stmt := top 46
theorem scWPut : FnScope ["_law_world_here", "_law_deed_here"] ["_law_world_here", "_law_deed_here"] (defScope sWPut) := ⟨rfl, rfl, rfl, by decide +kernel, rfl, by decide +kernel, by decide +kernel⟩
theorem ok_wput (g : Gd K mg "_law_put" sWPut ["_law_world_here", "_law_deed_here"]) : Ok P w K mg base 1 "_law_put" ["_law_world_here", "_law_deed_here"] (spI K (relWPut K)) := by
  refine g.imp scWPut (fun H ds d ⟨w, r, o, rd, td, ls, W, d, h1, h2⟩ => by rw [h1]; rfl) fun f cdv A outer s H E hr => ?_
  have hu := hu_of hr
  refine ⟨_,
    (pss_cons (ps_dput hu (pv 0) pe_str (pe_op op_cat (pe_dget hu (pv 0) pe_str (fun _ _ => rfl)) (pe_lst (pa_cons (pe_tup (pa_cons (pe_dget hu (pv 0) pe_str (fun _ _ => rfl)) (pa_cons (pv 1) pa_nil))) pa_nil))) rfl)
    (pss_one (ps_dput hu (pv 0) pe_str (pe_tup (pa_cons (px (pe_dget hu (pv 0) pe_str (fun _ _ => rfl)) pe_int) (pa_cons (pe_op op_catA (px (pe_dget hu (pv 0) pe_str (fun _ _ => rfl)) pe_int) (pe_tup (pa_cons (pe_tup (pa_cons (pe_dget hu (pv 0) pe_str (fun _ _ => rfl)) (pa_cons (pv 1) pa_nil))) pa_nil))) pa_nil))) rfl))), ?_⟩
  rintro ds PP ⟨w, r, o, rd, td, ls, W, d, rfl, hW, hf, h900, rfl⟩
  refine ⟨by simp [noLs, noL, noL_deed], ?_⟩
  obtain ⟨kvs, v, DW⟩ := hW.wd
  have hw := DW.at_
  obtain ⟨vr, hr1, hr2⟩ := hW.rows
  have e1 : W.rows.map rowD ++ [rowD ⟨W.reign, d⟩] = (W.put d).rows.map rowD := by
    show _ = (W.rows ++ [_]).map rowD
    rw [List.map_append]
    rfl
  have hvl : vr.length = W.rows.length := by rw [hr2.length, List.length_map]
  refine im_seq (N1 := fun H1 es1 => es1 = begun ["_law_world_here", "_law_deed_here"] [.ref w, deedD d] ∧ Kp K [w] H H1 ∧ ∃ q kvs v, H q = none ∧ WD K H1 w q o rd td W.log W.settled W.reign kvs v ∧ LsAt K H1 q ((W.put d).rows.map rowD))
    (im_dput (ie_op (ie_ed (d := .ref r) (ed_dget (key := .inr ("rows" : Str)) (ed_var rfl) ed_str hw DW.rows (.ref r)) fun H1 s1 => ⟨rfl, ie_lst (ia_cons (ie_ed (d := rowD ⟨W.reign, d⟩) (ed_tup (ea_cons (ed_dget (key := .inr ("reign" : Str)) (ed_var rfl) ed_str (s1 _ _ hw) DW.reign (.int _)) (ea_cons (ed_var rfl) ea_nil))) fun H2 s2 => ⟨noL_row _, ia_nil ⟨by exact Nat.le_of_ble_eq_true rfl, fun p vs hp rv => ?_⟩⟩))⟩))) ?_
  · have s02 := s1.trans s2
    have s03 : Same H (upd H2 p (.lst vs)) := s02.trans (Same.new hp)
    obtain ⟨x, rfl, rx⟩ := rv.one
    refine opi_cat (s03 _ _ hr1) upd_same (by rw [hvl]; simp; omega) fun q hq => ?_
    refine ⟨w, .inr ("rows" : Str), kvs, ed_var rfl, ed_str, (s03.trans (Same.new hq)) _ _ hw, Nat.le_trans DW.len (by decide), fun H4 v4 s4 r4 => ?_⟩
    have s04 : Same H H4 := (s03.trans (Same.new hq)).trans s4
    rw [r4.ref_eq]
    have D4 := (DW.same s04).putRows q
    have kk : Kp K [w] H4 (upd H4 w (.dK (putK kvs (.inr ("rows" : Str)) (.ref q)))) := Kp.dK (s04 _ _ hw) (by simp)
    have hqn : H q = none := s03.free hq
    have hqw : q ∉ [w] := by
      simp only [List.mem_singleton]
      intro z
      rw [z, hw] at hqn
      cases hqn
    have hl4 : LsAt K H4 q ((W.put d).rows.map rowD) := by
      refine ⟨_, s4 _ _ upd_same, ?_⟩
      rw [← e1]
      exact RpL.same ((Same.new hq).trans s4) _ _ (RpL.append (RpL.same s03 _ _ hr2) (.cons (rx.same (Same.new hp)) .nil))
    exact ⟨rfl, (Kp.of s04).trans kk, q, _, _, hqn, D4, hl4.kp kk hqw (noLs_map noL_row)⟩
  rintro H1 _ ⟨rfl, k1, q, kvs1, v1, hq, D1, hl1⟩
  have hw1 := D1.at_
  have eL : (W.put d).log = ⟨W.fp, reignOf W.rows W.fp, W.others.length, W.rows.drop W.fp ++ [⟨W.reign, d⟩]⟩ := by
    show Log.mk W.fp (reignOf (W.rows ++ [_]) W.fp) W.others.length ((W.rows ++ [_]).drop W.fp) = _
    rw [reignOf_append _ hf, List.drop_append_of_le_length hf]
  have hlg : ED K H1 (tDGet (tVar 0) (tC (.str "log"))) (begun ["_law_world_here", "_law_deed_here"] [.ref w, deedD d]) (.tup [foldD W.fp (reignOf W.rows W.fp) W.others.length, rowsD (W.rows.drop W.fp)]) := ed_dget (key := .inr ("log" : Str)) (ed_var rfl) ed_str hw1 D1.log D1.logd
  refine im_dput (ie_ed (d := logD (W.put d).log) (ED.to (ed_tup (ea_cons (ed_ixT hlg ed_int rfl) (ea_cons (ed_cat (xs := (W.rows.drop W.fp).map rowD) (ys := [rowD ⟨W.reign, d⟩]) (ed_ixT hlg ed_int rfl) (ed_tup (ea_cons (ed_tup (ea_cons (ed_dget (key := .inr ("reign" : Str)) (ed_var rfl) ed_str hw1 D1.reign (.int _)) (ea_cons (ed_var rfl) ea_nil))) ea_nil)) (by simp; omega)) ea_nil))) ?_) fun H2 s2 => ⟨w, .inr ("log" : Str), kvs1, ed_var rfl, ed_str, s2 _ _ hw1, Nat.le_trans D1.len (by decide), fun H3 v3 s3 r3 => ?_⟩)
  · rw [eL]
    have e9 : (W.rows.drop W.fp ++ [Row.mk W.reign d]).map rowD = (W.rows.drop W.fp).map rowD ++ [rowD (Row.mk W.reign d)] := by
      rw [List.map_append]
      rfl
    unfold logD rowsD
    rw [e9]
  · have s13 := s2.trans s3
    have D3 := (D1.same s13).putLog r3
    have kk : Kp K [w] H3 (upd H3 w (.dK (putK kvs1 (.inr ("log" : Str)) v3))) := Kp.dK (s13 _ _ hw1) (by simp)
    have kall := (k1.trans (Kp.of s13)).trans kk
    have hqw : q ∉ [w] := by
      simp only [List.mem_singleton]
      intro z
      rw [z, hw] at hq
      cases hq
    exact ⟨kall.tle, rfl, kall, q, hW.newRows kall hq ⟨_, _, D3⟩ ((hl1.same s13).kp kk hqw (noLs_map noL_row)) rfl rfl rfl⟩
end
end Sh

/-! ### a letter comes; an answer comes -/
namespace Sh
open PySem L2
section
variable {K : PySem.W.Frag} {H : Hp} {w r o rd td : Addr} {ls : List Addr} {W : Wd}
theorem WAt.ndR (h : WAt K H w r o rd td ls W) : r ≠ rd ∧ r ≠ td ∧ r ∉ ls ∧ rd ≠ td ∧ rd ∉ ls ∧ td ∉ ls ∧ ls.Nodup := by
  have a := List.nodup_cons.mp h.nd
  have b := List.nodup_cons.mp a.2
  have c := List.nodup_cons.mp b.2
  simp only [List.mem_cons, not_or] at a b
  exact ⟨a.1.1, a.1.2.1, a.1.2.2, b.1.1, b.1.2, c.1, c.2⟩
/-- a list's address is neither the world's nor the others' -/
theorem WAt.lstNe (h : WAt K H w r o rd td ls W) {a : Addr} {vs : List V} (e : H a = some (.lst vs)) : w ≠ a ∧ o ≠ a := by
  obtain ⟨kvs, v, DW⟩ := h.wd
  refine ⟨fun z => ?_, fun z => ?_⟩
  · have := DW.at_
    rw [z, e] at this
    cases this
  · have := h.od
    rw [z, e] at this
    cases this
theorem WAt.putTold (h : WAt K H w r o rd td ls W) {vs : List V} (e : H td = some (.lst vs)) {ts : List Told} {vs' : List V} (hr : RpL K H vs' (ts.map toldD)) : WAt K (upd H td (.lst vs')) w r o rd td ls { W with told := ts } := by
  obtain ⟨n1, n2, n3, n4, n5, n6, n7⟩ := h.ndR
  obtain ⟨m1, m2⟩ := h.lstNe e
  have kk : Kp K [td] H (upd H td (.lst vs')) := Kp.lst e (by simp)
  obtain ⟨kvs, v, DW⟩ := h.wd
  exact ⟨⟨kvs, v, DW.kp kk (by simpa using m1)⟩, h.rows.kp kk (by simpa using n2) (noLs_map noL_row), kk.keep _ _ h.od (by simpa using m2), h.len, fun i l x h1 h2 => (h.own i l x h1 h2).kp kk (by simp only [List.mem_singleton]; intro z; exact n6 (z ▸ List.mem_of_getElem? h1)),
    h.road.kp kk (by simpa using n4) (noLs_map noL_let), ⟨vs', upd_same, RpL.tle kk.tle _ _ (noLs_map noL_told) hr⟩, h.nd, h.wo⟩
theorem WAt.putRoad (h : WAt K H w r o rd td ls W) {vs : List V} (e : H rd = some (.lst vs)) {ts : List Letter} {vs' : List V} (hr : RpL K H vs' (ts.map letD)) : WAt K (upd H rd (.lst vs')) w r o rd td ls { W with road := ts } := by
  obtain ⟨n1, n2, n3, n4, n5, n6, n7⟩ := h.ndR
  obtain ⟨m1, m2⟩ := h.lstNe e
  have kk : Kp K [rd] H (upd H rd (.lst vs')) := Kp.lst e (by simp)
  obtain ⟨kvs, v, DW⟩ := h.wd
  exact ⟨⟨kvs, v, DW.kp kk (by simpa using m1)⟩, h.rows.kp kk (by simpa using n1) (noLs_map noL_row), kk.keep _ _ h.od (by simpa using m2), h.len, fun i l x h1 h2 => (h.own i l x h1 h2).kp kk (by simp only [List.mem_singleton]; intro z; exact n5 (z ▸ List.mem_of_getElem? h1)),
    ⟨vs', upd_same, RpL.tle kk.tle _ _ (noLs_map noL_let) hr⟩, h.told.kp kk (by simpa using n4.symm) (noLs_map noL_told), h.nd, h.wo⟩
theorem WAt.putOwn (h : WAt K H w r o rd td ls W) {i : Nat} {l : Addr} {x x' : Oth} {va : V} (hl : ls[i]? = some l) (hx : W.others[i]? = some x) (hr : Rp K H va (logD x'.log)) : WAt K (upd H l (.lst [va, .int (x'.sure : Nat)])) w r o rd td ls { W with others := W.others.set i x' } := by
  obtain ⟨n1, n2, n3, n4, n5, n6, n7⟩ := h.ndR
  obtain ⟨v0, e, r0⟩ := h.own i l x hl hx
  obtain ⟨m1, m2⟩ := h.lstNe e
  have hml := List.mem_of_getElem? hl
  have kk : Kp K [l] H (upd H l (.lst [va, .int (x'.sure : Nat)])) := Kp.lst e (by simp)
  obtain ⟨kvs, v, DW⟩ := h.wd
  have eL : ({ W with others := W.others.set i x' } : Wd).log = W.log := by
    show Log.mk W.fp (reignOf W.rows W.fp) (W.others.set i x').length (W.rows.drop W.fp) = _
    rw [List.length_set]
    rfl
  refine ⟨⟨kvs, v, ?_⟩, h.rows.kp kk (by simp only [List.mem_singleton]; intro z; exact n3 (z ▸ hml)) (noLs_map noL_row), kk.keep _ _ h.od (by simpa using m2), by show ls.length = (W.others.set i x').length; rw [List.length_set]; exact h.len, fun j m y h1 h2 => ?_,
    h.road.kp kk (by simp only [List.mem_singleton]; intro z; exact n5 (z ▸ hml)) (noLs_map noL_let), h.told.kp kk (by simp only [List.mem_singleton]; intro z; exact n6 (z ▸ hml)) (noLs_map noL_told), h.nd, h.wo⟩
  · rw [eL]
    exact DW.kp kk (by simpa using m1)
  · have h2 : (W.others.set i x')[j]? = some y := h2
    by_cases ej : i = j
    · subst ej
      rw [hl] at h1
      cases h1
      rw [List.getElem?_set_self (List.getElem?_eq_some_iff.mp hx).1] at h2
      cases h2
      exact ⟨va, upd_same, Rp.tle kk.tle _ _ (noL_log _) hr⟩
    · rw [List.getElem?_set_ne ej] at h2
      refine (h.own j m y h1 h2).kp kk ?_
      simp only [List.mem_singleton]
      intro z
      subst z
      exact ej ((List.getElem?_inj (List.getElem?_eq_some_iff.mp hl).1 n7).mp (hl.trans h1.symm))
end
section
variable {K : PySem.W.Frag} {H : Hp} {es : Es} {te : TE} {N : Hp → Es → Prop} {R : D → Hp → Prop}
/-- own[0], own[1], y, z = four -/
theorem im_own {i j k : Nat} (h : IE K H te es fun x H1 => ∃ da db dc dd own v0 v1, x = .tup [da, db, dc, dd] ∧ noL da = true ∧ noL db = true ∧ noL dc = true ∧ noL dd = true ∧ es[i]? = some (some (.ref own)) ∧ H1 own = some (.lst [v0, v1]) ∧ ∀ va vb, Rp K H1 va da → Rp K H1 vb db → N (upd H1 own (.lst [va, vb])) ((es.set j (some dc)).set k (some dd))) :
    Im K H (tAsg te (gTup K 4 (gCons (gSub (tVar i) (tC (.int 0)) rSetL) (gCons (gSub (tVar i) (tC (.int 1)) rSetL) (gCons (gName j) (gCons (gName k) gNil)))))) es N R := fun σ E e nn kn kr =>
  h σ _ e nn fun v H1 x r T ⟨da, db, dc, dd, own, v0, v1, ex, n1, n2, n3, n4, hi, ho, hN⟩ => by
    subst ex
    obtain ⟨p, xs, rfl, hs, hr⟩ := r.tup_of
    obtain ⟨a, t1, rfl, ra, hr1⟩ := hr.cons_of
    obtain ⟨b, c, d, rfl, rb, rc, rdd⟩ := hr1.three
    have e1 := e.tle T nn
    obtain ⟨vo, ho1, ho2⟩ := e1.at_ i _ hi
    obtain rfl := ho2.ref_eq
    have T2 : TLe K H1 (upd H1 own (.lst [a, b])) := TLe.lst ho
    refine ⟨p, _, rfl, hs, rfl, a, [b, c, d], rfl, .ref own, ho1, own, [v0, v1], 0, 0, rfl, rfl, ho, rfl, ?_⟩
    refine ⟨b, [c, d], rfl, .ref own, ho1, own, [a, v1], 1, 1, rfl, rfl, upd_same, rfl, ?_⟩
    refine ⟨c, [d], rfl, d, [], rfl, rfl, ?_⟩
    rw [upd_upd]
    exact kn _ _ _ (((e1.tle T2 nn).set (Rp.tle T2 _ _ n3 rc)).set (Rp.tle T2 _ _ n4 rdd)) (nls_set n4 (nls_set n3 nn)) (hN a b ra rb)
end
def relBrought (K : PySem.W.Frag) : Hp → List D → (D → Hp → Prop) → Prop := fun H ds P => ∃ w r o rd td ls W l x, ds = [.ref w, letD l] ∧ WAt K H w r o rd td ls W ∧ 1 ≤ l.to ∧ W.others[l.to - 1]? = some x ∧ LetPre x.log l ∧ W.told.length ≤ 900 ∧
  P = fun d H' => d = .non ∧ Kp K (td :: ls) H H' ∧ WAt K H' w r o rd td ls (W.bring l)
section
variable {P : Program} {w : World} {K : PySem.W.Frag} {mg : Str → Option Value} {base : Heap}
abbrev sBrought : Stmt := top 47
theorem scBrought : FnScope ["_law_world_here", "_law_letter", "_law_own", "_law_is_good", "_law_place"] ["_law_world_here", "_law_letter"] (defScope sBrought) := ⟨rfl, rfl, rfl, by decide +kernel, rfl, by decide +kernel, by decide +kernel⟩
theorem ok_brought (g : Gd K mg "_law_brought" sBrought ["_law_world_here", "_law_letter"]) (o_law_heard : Ok P w K mg base 7 "_law_heard" ["_law_log", "_law_settled", "_law_letter"] (spF K relHeard)) : Ok P w K mg base 8 "_law_brought" ["_law_world_here", "_law_letter"] (spI K (relBrought K)) := by
  refine g.imp scBrought (fun H ds d ⟨w, r, o, rd, td, ls, W, l, x, h1, h2⟩ => by rw [h1]; rfl) fun f cdv A outer s H E hr => ?_
  have hu := hu_of hr
  refine ⟨_,
    (pss_cons (ps_set (i := 2) scBrought.nd rfl (Or.inl rfl) (pe_dget hu (pe_dget hu (pv 0) pe_str (fun _ _ => rfl)) (px (pv 1) pe_int) (fun _ _ => rfl)))
    (pss_cons (ps_asg (pe_fn o_law_heard hr (pa_cons (pxl (pv 2) pe_int) (pa_cons (pxl (pv 2) pe_int) (pa_cons (pv 1) pa_nil)))) (pg_tup rfl (pgs_cons (pg_sub (pv 2) pe_int set_list) (pgs_cons (pg_sub (pv 2) pe_int set_list) (pgs_cons (pgl 3 scBrought.nd) (pgs_cons (pgl 4 scBrought.nd) pgs_nil))))))
    (pss_one (ps_expr (pe_bm PySem.F.plainAttrs_list PySem.F.slot_list_append PySem.F.type_list_append mt_append (pe_dget hu (pv 0) pe_str (fun _ _ => rfl)) (pa_cons (pe_tup (pa_cons (px (pv 1) pe_int) (pa_cons (pv 3) (pa_cons (pv 4) pa_nil)))) pa_nil)))))), ?_⟩
  rintro ds PP ⟨w, r, o, rd, td, ls, W, l, x, rfl, hW, hl1, hx, hpre, h900, rfl⟩
  refine ⟨by simp [noLs, noL, noL_let], ?_⟩
  obtain ⟨kvs, v, DW⟩ := hW.wd
  have hw := DW.at_
  have hil : l.to - 1 < ls.length := by rw [hW.len]; exact (List.getElem?_eq_some_iff.mp hx).1
  obtain ⟨a, ha⟩ : ∃ a, ls[l.to - 1]? = some a := ⟨_, List.getElem?_eq_getElem hil⟩
  obtain ⟨v0, hown, hv0⟩ := hW.own _ _ _ ha hx
  have hto : ∀ {H0 : Hp} {es : Es}, es[1]? = some (some (letD l)) → ED K H0 (tOp (rIxT K) (tVar 1) (tC (.int 2))) es (.int (l.to : Nat)) := fun {H0 es} h => by
    cases l with
    | fold to reign fp fr m => exact ed_ixT (ds := [.str "fold", .int 0, .int to, .int reign, foldD fp fr m]) (ed_var h) ed_int rfl
    | rows to reign before brn rs st => exact ed_ixT (ds := [.str "rows", .int 0, .int to, .int reign, .int before, .int brn, rowsD rs, .int st]) (ed_var h) ed_int rfl
  have htab : valV (tabO 1 ls) (.inl ((l.to : Nat) : Int)) = some (.ref a) := by
    have h := tabO_at ls 1 (l.to - 1)
    rw [ha] at h
    have e : 1 + (l.to - 1) = l.to := by omega
    rw [e] at h
    exact h
  refine im_seq (N1 := fun H1 es1 => Same H H1 ∧ es1 = [some (.ref w), some (letD l), some (.ref a), none, none])
    (im_set (ie_ed (d := .ref a) (ed_dget (key := .inl ((l.to : Nat) : Int)) (ed_dget (key := .inr ("others" : Str)) (ed_var rfl) ed_str hw DW.oth (.ref o)) (hto rfl) hW.od htab (.ref a)) fun H1 s1 => ⟨rfl, s1, rfl⟩)) ?_
  rintro H1 _ ⟨s1, rfl⟩
  have hW1 := hW.same s1
  have hown1 := s1 _ _ hown
  have ro : RpL K H1 [v0, .int (x.sure : Nat)] [logD x.log, .int (x.sure : Nat)] := .cons (hv0.same s1) (.cons (.int _) .nil)
  refine im_seq (N1 := fun H2 es2 => Kp K [a] H H2 ∧ es2 = [some (.ref w), some (letD l), some (.ref a), some (.bl (heard x.log x.sure l).good), some (.int ((heard x.log x.sure l).place : Nat))] ∧ WAt K H2 w r o rd td ls { W with others := W.others.set (l.to - 1) (Wd.hearOne x l) })
    (im_own (ie_callF (ia_ea (ds := [logD x.log, .int (x.sure : Nat), letD l]) (ea_cons (ed_ixL (ed_asL (ed_var rfl) hown1 ro) ed_int rfl) (ea_cons (ed_ixL (ed_asL (ed_var rfl) hown1 ro) ed_int rfl) (ea_cons (ed_var rfl) ea_nil))) fun H2 s2 => ⟨heardD (heard x.log x.sure l), ⟨x.log, x.sure, l, rfl, hpre, rfl⟩, fun H3 s3 => ?_⟩))) ?_
  · refine ⟨_, _, _, _, a, v0, .int (x.sure : Nat), rfl, noL_log _, rfl, rfl, rfl, rfl, s3 _ _ (s2 _ _ hown1), fun va vb ra rb => ?_⟩
    have s03 := (s1.trans s2).trans s3
    rw [rb.int_eq]
    exact ⟨(Kp.of s03).trans (Kp.lst (s03 _ _ hown) (by simp)), rfl, (hW.same s03).putOwn (x' := Wd.hearOne x l) ha hx ra⟩
  rintro H2 _ ⟨k2, rfl, hW2⟩
  obtain ⟨kvs2, v2, DW2⟩ := hW2.wd
  obtain ⟨vt, ht2, hrt⟩ := hW2.told
  refine im_append (ed_dget (key := .inr ("told" : Str)) (ed_var rfl) ed_str DW2.at_ DW2.told (.ref td)) ht2 fun H3 s3 => ie_ed (d := toldD ⟨l.to, (heard x.log x.sure l).good, (heard x.log x.sure l).place⟩) (ed_tup (ea_cons (hto rfl) (ea_cons (ed_var rfl) (ea_cons (ed_var rfl) ea_nil)))) fun H4 s4 => ⟨vt, s4 _ _ (s3 _ _ ht2), by rw [hrt.length, List.length_map]; exact Nat.le_trans h900 (by decide), fun vv rv => ?_⟩
  have s24 := s3.trans s4
  have ht4 := s24 _ _ ht2
  have kk : Kp K [td] H4 (upd H4 td (.lst (vt ++ [vv]))) := Kp.lst ht4 (by simp)
  have kall : Kp K (td :: ls) H (upd H4 td (.lst (vt ++ [vv]))) := ((k2.mono (by simpa using .inr (List.mem_of_getElem? ha))).trans (Kp.of s24)).trans (kk.mono (by simp))
  refine ⟨kall.tle, rfl, kall, ?_⟩
  rw [bring_some hx]
  refine (hW2.same s24).putTold ht4 ?_
  rw [List.map_append]
  exact RpL.append (RpL.same s24 _ _ hrt) (.cons rv .nil)
end
end Sh

/-! ### an answer comes -/
namespace Sh
open PySem L2
theorem WAt.putSet {K : PySem.W.Frag} {H : Hp} {w r o rd td : Addr} {ls : List Addr} {W : Wd} (h : WAt K H w r o rd td ls W) {kvs : List (Key × V)} {v : V} (DW : WD K H w r o rd td W.log W.settled W.reign kvs v) (s' : Nat) : WAt K (upd H w (.dK (putK kvs (.inr ("settled" : Str)) (.int (s' : Nat))))) w r o rd td ls { W with settled := s' } := by
  have kk : Kp K [w] H (upd H w (.dK (putK kvs (.inr ("settled" : Str)) (.int (s' : Nat))))) := Kp.dK DW.at_ (by simp)
  have hne : ∀ {a : Addr} {ds : List D}, LsAt K H a ds → a ∉ [w] := fun z => by simpa using z.ne DW.at_
  exact ⟨⟨_, v, DW.putSet s'⟩, h.rows.kp kk (hne h.rows) (noLs_map noL_row), kk.keep _ _ h.od (by simpa using h.wo.symm), h.len, fun i l x h1 h2 => (h.own i l x h1 h2).kp kk (by simpa using (h.own i l x h1 h2).ne DW.at_), h.road.kp kk (hne h.road) (noLs_map noL_let), h.told.kp kk (hne h.told) (noLs_map noL_told), h.nd, h.wo⟩
/-- only what the head knows differs -/
theorem WAt.know {K : PySem.W.Frag} {H : Hp} {w r o rd td : Addr} {ls : List Addr} {W W' : Wd} (h : WAt K H w r o rd td ls W) (e1 : W'.rows = W.rows) (e2 : W'.fp = W.fp) (e3 : W'.settled = W.settled) (e4 : W'.others = W.others) (e5 : W'.reign = W.reign) (e6 : W'.road = W.road) (e7 : W'.told = W.told) : WAt K H w r o rd td ls W' := by
  obtain ⟨rows, fp, settled, others, reign, road, told, got, coming⟩ := W
  obtain ⟨rows', fp', settled', others', reign', road', told', got', coming'⟩ := W'
  cases e1; cases e2; cases e3; cases e4; cases e5; cases e6; cases e7
  exact ⟨h.wd, h.rows, h.od, h.len, h.own, h.road, h.told, h.nd, h.wo⟩
def relLearnt (K : PySem.W.Frag) (C : Addr) : Hp → List D → (D → Hp → Prop) → Prop := fun H ds P => ∃ w r o rd td ls W k g c t, ds = [.ref w, .ref k, toldD t] ∧ WAt K H w r o rd td ls W ∧ KnAt H C k g c W.got W.coming ∧ g ≠ w ∧ g ≠ o ∧ c ≠ w ∧ c ≠ o ∧ 1 ≤ t.one ∧ t.one ≤ W.got.length ∧ W.got.length = W.others.length ∧ W.fp ≤ W.settled ∧ W.settled ≤ W.rows.length ∧ W.rows.length ≤ 900 ∧
  P = fun d H' => d = .non ∧ Kp K [g, c, w] H H' ∧ WAt K H' w r o rd td ls (W.learn t) ∧ KnAt H' C k g c (W.learn t).got (W.learn t).coming
section
variable {P : Program} {w : World} {K : PySem.W.Frag} {mg : Str → Option Value} {base : Heap} {C : Addr}
abbrev sLearnt : Stmt := top 48
theorem scLearnt : FnScope ["_law_world_here", "_law_know", "_law_told", "_law_one", "_law_is_good", "_law_place"] ["_law_world_here", "_law_know", "_law_told"] (defScope sLearnt) := ⟨rfl, rfl, rfl, by decide +kernel, rfl, by decide +kernel, by decide +kernel⟩
theorem ok_learnt (T : CopTxt K C) (g : Gd K mg "_law_learnt" sLearnt ["_law_world_here", "_law_know", "_law_told"]) (m_len : mg "len" = none) (o_took : OkM P w K mg base C 1 "took" ["self", "other", "place", "end"] (spI K (relTook K C))) (o_missed : OkM P w K mg base C 1 "missed" ["self", "other", "place"] (spI K (relMissed K C)))
    (o_settled_place : OkM P w K mg base C 8 "settled_place" ["self", "log", "settled", "reign"] (spF K (relSettled C))) : Ok P w K mg base 9 "_law_learnt" ["_law_world_here", "_law_know", "_law_told"] (spI K (relLearnt K C)) := by
  refine g.imp scLearnt (fun H ds d ⟨w, r, o, rd, td, ls, W, k, g, c, t, h1, h2⟩ => by rw [h1]; rfl) fun f cdv A outer s H E hr => ?_
  have hu := hu_of hr
  refine ⟨_,
    (pss_cons (ps_asg (pv 2) (pg_tup rfl (pgs_cons (pgl 3 scLearnt.nd) (pgs_cons (pgl 4 scLearnt.nd) (pgs_cons (pgl 5 scLearnt.nd) pgs_nil)))))
    (pss_cons (ps_if (pt_val (pv 4))
      (pss_one (ps_expr (pe_mt o_took T.cl hr (pv 1) (pa_cons (pv 3) (pa_cons (pv 5) (pa_cons (plen m_len (pe_dget hu (pv 0) pe_str (fun _ _ => rfl))) pa_nil))))))
      (pss_one (ps_expr (pe_mt o_missed T.cl hr (pv 1) (pa_cons (pv 3) (pa_cons (pv 5) pa_nil))))))
    (pss_one (ps_dput hu (pv 0) pe_str (pe_mt o_settled_place T.cl hr (pv 1) (pa_cons (pe_dget hu (pv 0) pe_str (fun _ _ => rfl)) (pa_cons (pe_dget hu (pv 0) pe_str (fun _ _ => rfl)) (pa_cons (pe_dget hu (pv 0) pe_str (fun _ _ => rfl)) pa_nil)))) rfl)))), ?_⟩
  rintro ds PP ⟨w, r, o, rd, td, ls, W, k, g, c, t, rfl, hW, hK, gw, go, cw, co, h1, h2, hgl, hfs, hsl, h900, rfl⟩
  refine ⟨rfl, ?_⟩
  refine im_seq (N1 := fun H1 es1 => Same H H1 ∧ es1 = [some (.ref w), some (.ref k), some (toldD t), some (.int (t.one : Nat)), some (.bl t.good), some (.int (t.place : Nat))])
    (im_so (so_asg (N := fun es1 => es1 = [some (.ref w), some (.ref k), some (toldD t), some (.int (t.one : Nat)), some (.bl t.good), some (.int (t.place : Nat))]) (R := fun _ => False) (d := toldD t) (ed_var rfl) eg_three rfl) (fun H1 es1 s1 e1 => ?_) fun _ _ _ z => z.elim) ?_
  · subst e1
    exact ⟨nls_cons rfl (nls_cons rfl (nls_cons rfl (nls_cons rfl (nls_cons rfl (nls_cons rfl nls_nil))))), s1, rfl⟩
  rintro H1 _ ⟨s1, rfl⟩
  have hW1 := hW.same s1
  have hK1 := hK.same s1
  obtain ⟨q1, q2, q3, q4, q5, q6, q7⟩ := learnK_same (W := W) t
  refine im_seq (N1 := fun H2 es2 => Kp K [g, c, w] H H2 ∧ es2 = [some (.ref w), some (.ref k), some (toldD t), some (.int (t.one : Nat)), some (.bl t.good), some (.int (t.place : Nat))] ∧ WAt K H2 w r o rd td ls (W.learnK t) ∧ KnAt H2 C k g c (W.learnK t).got (W.learnK t).coming)
    (im_if (b := t.good) (eb_tTest (ed_var rfl)) (fun hg H2 s2 => ?_) fun hg H2 s2 => ?_) ?_
  · have hW2 := hW1.same s2
    have hK2 := hK1.same s2
    obtain ⟨dx, fs, ho, F⟩ := id hK2.obj
    obtain ⟨kvs, v, DW⟩ := hW2.wd
    obtain ⟨vr, hr1, hr2⟩ := hW2.rows
    refine im_expr (ie_mt (ed_var rfl) ho (F.no _ (by decide +kernel) (by decide +kernel) (by decide +kernel)) fun H3 s3 => ia_ea (ds := [.int (t.one : Nat), .int (t.place : Nat), .int (W.rows.length : Nat)]) (ea_cons (ed_var rfl) (ea_cons (ed_var rfl) (ea_cons (ED.to (ed_lenL (ds := W.rows.map rowD) (ed_asL (ed_dget (key := .inr ("rows" : Str)) (ed_var rfl) ed_str (s3 _ _ DW.at_) DW.rows (.ref r)) (s3 _ _ hr1) (RpL.same s3 _ _ hr2))) (by rw [List.length_map])) ea_nil))) fun H4 s4 =>
      ⟨_, ⟨k, g, c, W.got, W.coming, t.one, t.place, W.rows.length, rfl, hK2.same (s3.trans s4), h1, h2, rfl⟩, ?_⟩)
    rintro d H5 ⟨_, k5, kn5⟩
    have s04 : Same H H4 := ((s1.trans s2).trans s3).trans s4
    have hW4 := hW.same s04
    obtain ⟨gk, hgk, _⟩ := (hK.same s04).gd
    obtain ⟨ck, hck, _⟩ := (hK.same s04).cd
    have hW5 := hW4.kpD k5 (fun x hx => by
      simp only [List.mem_cons, List.not_mem_nil, or_false] at hx
      rcases hx with rfl | rfl
      · exact ⟨_, hgk⟩
      · exact ⟨_, hck⟩) (by simp [gw.symm, cw.symm]) (by simp [go.symm, co.symm])
    refine ⟨((Kp.of s04).trans k5).mono (by simp), rfl, hW5.know q1 q2 q3 q4 q5 q6 q7, ?_⟩
    unfold Wd.learnK
    rw [if_pos hg]
    exact kn5
  · have hW2 := hW1.same s2
    have hK2 := hK1.same s2
    obtain ⟨dx, fs, ho, F⟩ := id hK2.obj
    refine im_expr (ie_mt (ed_var rfl) ho (F.no _ (by decide +kernel) (by decide +kernel) (by decide +kernel)) fun H3 s3 => ia_ea (ds := [.int (t.one : Nat), .int (t.place : Nat)]) (ea_cons (ed_var rfl) (ea_cons (ed_var rfl) ea_nil)) fun H4 s4 =>
      ⟨_, ⟨k, g, c, W.got, W.coming, t.one, t.place, rfl, hK2.same (s3.trans s4), h1, h2, rfl⟩, ?_⟩)
    rintro d H5 ⟨_, k5, kn5⟩
    have s04 : Same H H4 := ((s1.trans s2).trans s3).trans s4
    have hW4 := hW.same s04
    obtain ⟨gk, hgk, _⟩ := (hK.same s04).gd
    obtain ⟨ck, hck, _⟩ := (hK.same s04).cd
    have hW5 := hW4.kpD k5 (fun x hx => by
      simp only [List.mem_cons, List.not_mem_nil, or_false] at hx
      rcases hx with rfl | rfl
      · exact ⟨_, hgk⟩
      · exact ⟨_, hck⟩) (by simp [gw.symm, cw.symm]) (by simp [go.symm, co.symm])
    refine ⟨((Kp.of s04).trans k5).mono (by simp), rfl, hW5.know q1 q2 q3 q4 q5 q6 q7, ?_⟩
    unfold Wd.learnK
    rw [if_neg (by rw [hg]; simp)]
    exact kn5
  rintro H2 _ ⟨k2, rfl, hW2, hK2⟩
  obtain ⟨kvs, v, DW⟩ := hW2.wd
  obtain ⟨dx, fs, ho, F⟩ := id hK2.obj
  have hgl2 : (W.learnK t).got.length = (W.learnK t).others.length := by
    rw [q4, ← hgl]
    unfold Wd.learnK
    split
    · exact List.length_set
    · rfl
  have eLog : (W.learnK t).log = headLog (W.learnK t).rows (W.learnK t).fp (W.learnK t).got.length := by
    rw [hgl2]
    rfl
  have eSet : (W.learnK t).settledPlace = Wd.down (fun p => decide (reignOf (W.learnK t).rows p = (W.learnK t).reign) && decide (((W.learnK t).got.length + 1) / 2 + 1 ≤ 1 + Wd.countG (W.learnK t).got p)) (W.learnK t).settled (W.learnK t).rows.length := by
    rw [hgl2]
    rfl
  refine im_dput (ie_ed (d := .int ((W.learnK t).settledPlace : Nat)) (ed_mt (ds := [logD (W.learnK t).log, .int ((W.learnK t).settled : Nat), .int ((W.learnK t).reign : Nat)]) (ed_var rfl) ho (F.no _ (by decide +kernel) (by decide +kernel) (by decide +kernel))
    (ea_cons (ed_dget (key := .inr ("log" : Str)) (ed_var rfl) ed_str DW.at_ DW.log DW.logd) (ea_cons (ed_dget (key := .inr ("settled" : Str)) (ed_var rfl) ed_str DW.at_ DW.set (.int _)) (ea_cons (ed_dget (key := .inr ("reign" : Str)) (ed_var rfl) ed_str DW.at_ DW.reign (.int _)) ea_nil)))
    fun H3 s3 => ⟨k, g, c, (W.learnK t).got, (W.learnK t).coming, (W.learnK t).rows, (W.learnK t).fp, (W.learnK t).settled, (W.learnK t).reign, by rw [eLog], hK2.same s3, by rw [q2, q3]; exact hfs, by rw [q3, q1]; exact hsl, by rw [q1]; exact h900, by rw [eSet]⟩) fun H3 s3 => ⟨w, .inr ("settled" : Str), kvs, ed_var rfl, ed_str, s3 _ _ DW.at_, Nat.le_trans DW.len (by decide), fun H4 v4 s4 r4 => ?_⟩)
  have s24 := s3.trans s4
  rw [r4.int_eq]
  have kk : Kp K [w] H4 (upd H4 w (.dK (putK kvs (.inr ("settled" : Str)) (.int ((W.learnK t).settledPlace : Nat))))) := Kp.dK (s24 _ _ DW.at_) (by simp)
  have kall : Kp K [g, c, w] H (upd H4 w (.dK (putK kvs (.inr ("settled" : Str)) (.int ((W.learnK t).settledPlace : Nat))))) := (k2.trans (Kp.of s24)).trans (kk.mono (by simp))
  refine ⟨kall.tle, rfl, kall, (hW2.same s24).putSet (DW.same s24) _, ?_⟩
  refine (hK2.same s24).kp kk ?_ (by simpa using gw) (by simpa using cw)
  simp only [List.mem_singleton]
  intro z
  have := DW.at_
  rw [← z, ho] at this
  cases this
end
end Sh

/-! ### what is asked at each turn -/
namespace Sh
open PySem L2
def ownD (x : Oth) : D := .lst [logD x.log, .int (x.sure : Nat)]
section
variable {K : PySem.W.Frag} {H : Hp} {w r o rd td : Addr} {ls : List Addr} {W : Wd} {es : Es} {te : TE}
theorem eg_unl2 {i j : Nat} {a b : D} : EG K (gUnl K 2 (gCons (gName i) (gCons (gName j) gNil))) es (.lst [a, b]) ((es.set i (some a)).set j (some b)) := fun σ H v e r k q => by
  obtain ⟨p, xs, rfl, hs, hr⟩ := r.lst_of
  obtain ⟨x, y, rfl, r1, r2⟩ := hr.two
  exact ⟨p, _, rfl, hs, rfl, x, [y], rfl, y, [], rfl, rfl, q _ ((e.set r1).set r2)⟩
theorem WAt.vals (h : WAt K H w r o rd td ls W) : RpL K H ((tabO 1 ls).map (·.2)) (W.others.map ownD) := by
  rw [tabO_vals]
  have key : ∀ (ls : List Addr) (os : List Oth), ls.length = os.length → (∀ (i : Nat) (l : Addr) (x : Oth), ls[i]? = some l → os[i]? = some x → OwnAt K H l x) → RpL K H (ls.map V.ref) (os.map ownD) := by
    intro ls
    induction ls with
    | nil =>
      intro os hl _
      cases os with
      | nil => exact .nil
      | cons x os => cases hl
    | cons l ls ih =>
      intro os hl h
      cases os with
      | nil => cases hl
      | cons x os =>
        obtain ⟨v, e, rv⟩ := h 0 l x rfl rfl
        exact .cons (.lst (SqL.of e) (.cons rv (.cons (.int _) .nil))) (ih os (Nat.succ.inj hl) fun i m y h1 h2 => h (i + 1) m y h1 h2)
  exact key ls W.others h.len h.own
/-- list(world['others'].values()) -/
theorem ed_vals (h : WAt K H w r o rd td ls W) {kvs : List (Key × V)} {v : V} (DW : WD K H w r o rd td W.log W.settled W.reign kvs v) {i : Nat} (hi : es[i]? = some (some (.ref w))) : ED K H (tLVals (tDGet (tVar i) (tC (.str "others")))) es (.lst (W.others.map ownD)) :=
  ed_lvals (ed_dget (key := .inr ("others" : Str)) (ed_var hi) ed_str DW.at_ DW.oth (.ref o)) h.od h.vals
end
def relStands (K : PySem.W.Frag) : Hp → List D → D → Prop := fun H ds d => ∃ w r o rd td ls W, ∃ ahead : Nat, ds = [.ref w, .int ahead] ∧ WAt K H w r o rd td ls W ∧ Good W ∧ Stands ahead W ∧ W.rows.length ≤ 900 ∧ d = .bl true
section
variable {P : Program} {w : World} {K : PySem.W.Frag} {mg : Str → Option Value} {base : Heap} {C : Addr}
theorem ed_rowAt {H : Hp} {es : Es} {te : TE} {rows : List Row} {a : Addr} {vs : List V} {p : Nat} (h : ED K H te es (.ref a)) (ha : H a = some (.lst vs)) (hr : RpL K H vs (rows.map rowD)) {ty : TE} (hy : ED K H ty es (.int ((p : Nat) : Int))) (hp : p < rows.length) : ED K H (tOp (rIxL K) te ty) es (rowD rows[p]) :=
  ed_ixL (ed_asL h ha hr) hy (atI_of (j := p) rfl (by rw [List.getElem?_map, List.getElem?_eq_getElem hp]; rfl))
abbrev sStands : Stmt := top 50
theorem scStands : FnScope ["_law_world_here", "_law_ahead", "_law_settled", "_law_logs", "_law_log", "_law_have", "_law_sure", "_law_own"] ["_law_world_here", "_law_ahead"] (defScope sStands) := ⟨rfl, rfl, rfl, by decide +kernel, rfl, by decide +kernel, by decide +kernel⟩
theorem ok_stands (g : Gd K mg "_law_stands" sStands ["_law_world_here", "_law_ahead"]) (m_len : mg "len" = none) (m_list : mg "list" = none) (o_law_alike : Ok P w K mg base 5 "_law_alike" ["_law_log", "_law_rows", "_law_place"] (spF K relAlike)) : Ok P w K mg base 6 "_law_stands" ["_law_world_here", "_law_ahead"] (spF K (relStands K)) := by
  refine g.pure scStands (fun H ds d ⟨w, r, o, rd, td, ls, W, a, h1, h2⟩ => by rw [h1]; rfl) fun f cdv A outer s H E hr => ?_
  have hu := hu_of hr
  refine ⟨_,
    (pss_cons (ps_set (i := 2) scStands.nd rfl (Or.inr rfl) (pe_dget hu (pv 0) pe_str (fun _ _ => rfl)))
    (pss_cons (ps_setLc (i := 3) (own := [("_law_own", 7)]) (g := gName 7) (tt := tYes) (te := tOp (rIxL K) (tVar 7) (tC (.int 0))) rfl scStands.nd rfl rfl (sw_true rfl rfl rfl (by decide +kernel)) (pi_list (plistvals m_list (pe_dget hu (pv 0) pe_str (fun _ _ => rfl)))) (blkOk_by (N := ["_law_world_here", "_law_ahead", "_law_settled", "_law_logs", "_law_log", "_law_have", "_law_sure", "_law_own"]) (sc := defScope sStands) (by decide +kernel)) (fun _ _ _ _ _ => pgl 7 scStands.nd) (fun _ _ _ _ _ => pts_nil) (fun _ _ _ _ _ => (pxl (pv 7) pe_int)))
    (pss_cons (ps_if (pt_cmpR op_gt (pv 2) (pv 1) (nomark _))
      (pss_cons (ps_set (i := 5) scStands.nd rfl (Or.inl rfl) (pplus pe_int (plen m_len (pe_lc (own := [("_law_log", 4)]) (g := gName 4) (tt := tB (tCall (spF K relAlike) [] E0 (tCons (tVar 4) (tCons (tDGet (tVar 0) (tC (.str "rows"))) (tCons (tVar 2) tNil))))) rfl scStands.nd (pi_list (pv 3)) (blkOk_by (N := ["_law_world_here", "_law_ahead", "_law_settled", "_law_logs", "_law_log", "_law_have", "_law_sure", "_law_own"]) (sc := defScope sStands) (by decide +kernel)) (fun _ _ _ _ _ => pgl 4 scStands.nd) (fun _ _ _ _ _ => pts_one (pt_val (pe_fn o_law_alike hr (pa_cons (pv 4) (pa_cons (pe_dget hu (pv 0) pe_str (fun _ _ => rfl)) (pa_cons (pv 2) pa_nil)))))) (fun _ _ _ _ _ => (pv 4))))))
      (pss_one (ps_if (PW.pt (pw_or (pt_cmpR op_ne (px (pxl (pe_dget hu (pv 0) pe_str (fun _ _ => rfl)) (pminus (pv 2) pe_int)) pe_int) (pe_dget hu (pv 0) pe_str (fun _ _ => rfl)) (nomark _)) (pw_or1 (pt_cmpR op_le (ptimes pe_int (pv 5)) (pplus (plen m_len (pv 3)) pe_int) (nomark _)))))
        (pss_one (ps_ret pe_bl))
        pss_nil)))
      pss_nil)
    (pss_cons (ps_for PassesOwn.never rfl (pi_list (plistvals m_list (pe_dget hu (pv 0) pe_str (fun _ _ => rfl)))) (L2.pg_unl rfl (pgs_cons (pgl 4 scStands.nd) (pgs_cons (pgl 6 scStands.nd) pgs_nil)))
      (pss_one (ps_if (PW.pt (pw_or (pt_cmpR op_gt (pv 6) (pv 2) (nomark _)) (pw_or1 (pt_not (pt_val (pe_fn o_law_alike hr (pa_cons (pv 4) (pa_cons (pe_dget hu (pv 0) pe_str (fun _ _ => rfl)) (pa_cons (pv 6) pa_nil)))))))))
        (pss_one (ps_ret pe_bl))
        pss_nil)))
    (pss_one (ps_ret (pe_cmpR op_ge (pv 2) (pv 1) (nomark _)))))))), ?_⟩
  rintro ds d ⟨w, r, o, rd, td, ls, W, ahead, rfl, hW, G, S, h900, rfl⟩
  obtain ⟨kvs, v, DW⟩ := hW.wd
  obtain ⟨vr, hr1, hr2⟩ := hW.rows
  have hm4 := G.m4
  have hsl := G.settled
  refine so_seqset (d := .int (W.settled : Nat)) (ed_dget (key := .inr ("settled" : Str)) (ed_var rfl) ed_str DW.at_ DW.set (.int _)) ?_
  refine so_seqset (d := .lst (W.others.map fun x : Oth => logD x.log)) (ed_lc0 (i := 7) (te := tOp (rIxL K) (tVar 7) (tC (.int 0))) (zs := W.others) (c := ownD) (fun x : Oth => logD x.log) (ei_list (ed_vals hW DW rfl)) (by omega) (fun x _ => noL_log _) fun z hz => ed_ixL (ds := [logD z.log, .int (z.sure : Nat)]) (ed_var rfl) ed_int rfl) ?_
  refine so_seq (N1 := fun es1 => ∃ o4 o5, es1 = [some (.ref w), some (.int (ahead : Nat)), some (.int (W.settled : Nat)), some (.lst (W.others.map fun x : Oth => logD x.log)), o4, o5, none, none]) (so_if (b := decide (ahead < W.settled)) (eb_tTest (ED.to (ed_b2 (ed_var rfl) (ed_var rfl)) (by congr 1; rw [decide_eq_decide]; omega))) (fun z => ?_) fun _ => so_next ⟨none, none, rfl⟩) ?_
  · have z := of_decide_eq_true z
    obtain ⟨hre, hcnt⟩ := S.2 z
    refine so_seqset (d := .int ((1 + Wd.countC W.others W.settled : Nat) : Int)) (ED.to (ed_i2 ed_int (ed_lenL (ed_lc (i := 4) (zs := W.others) (c := fun x : Oth => logD x.log) (fun x => decide (W.settled ≤ x.c)) (fun x : Oth => logD x.log) (ei_list (ed_var rfl)) (by omega) (fun x _ _ => noL_log _) fun x hx => ⟨eb_tB (ed_call (ds := [logD x.log, .lst (W.rows.map rowD), .int (W.settled : Nat)]) (ea_cons (ed_var rfl) (ea_cons (ed_asL (ed_dget (key := .inr ("rows" : Str)) (ed_var rfl) ed_str DW.at_ DW.rows (.ref r)) hr1 hr2) (ea_cons (ed_var rfl) ea_nil))) fun H1 s1 => ⟨W.rows, x.log, x.sure, x.c, W.others.length, W.settled, rfl, G.rows, (G.others x hx).1, hsl, h900, rfl⟩), fun _ => ed_var rfl⟩))) ?_) ?_
    · congr 1
      rw [List.length_map]
      show (1 : Int) + ((W.others.filter fun x => decide (W.settled ≤ x.c)).length : Nat) = _
      unfold Wd.countC
      omega
    have hp1 : W.settled - 1 < W.rows.length := by omega
    refine so_if (b := false) (eb_or (a := false) (eb_tTest (ED.to (ed_neI (i := (W.reign : Nat)) (j := (W.reign : Nat)) (ED.to (ed_ixT (ds := [.int W.rows[W.settled - 1].reign, deedD W.rows[W.settled - 1].deed]) (ed_rowAt (ed_dget (key := .inr ("rows" : Str)) (ed_var rfl) ed_str DW.at_ DW.rows (.ref r)) hr1 hr2 (ED.to (ed_i2 (ed_var rfl) ed_int) (by congr 1; omega)) hp1) ed_int rfl) ?_) (ed_dget (key := .inr ("reign" : Str)) (ed_var rfl) ed_str DW.at_ DW.reign (.int _))) (by simp))) fun _ =>
      eb_tTest (ED.to (ed_b2 (ed_i2c ed_int (ed_var rfl) (.inl ⟨by decide, by decide⟩)) (ed_i2 (ed_lenL (ds := W.others.map fun x : Oth => logD x.log) (ed_var rfl)) ed_int)) (by congr 1; rw [List.length_map]; exact decide_eq_false (by omega)))) (fun q => by cases q) fun _ => so_next ⟨none, _, rfl⟩
    congr 1
    rw [← hre]
    unfold reignOf
    rw [if_neg (by omega), List.getElem?_eq_getElem hp1]
  · rintro es1 ⟨o4, o5, rfl⟩
    refine so_seq (N1 := fun es2 => ∃ o4 o6, es2 = [some (.ref w), some (.int (ahead : Nat)), some (.int (W.settled : Nat)), some (.lst (W.others.map fun x : Oth => logD x.log)), o4, o5, o6, none])
      (so_for (ei_list (ed_vals hW DW rfl)) (fun _ es2 => ∃ o4 o6, es2 = [some (.ref w), some (.int (ahead : Nat)), some (.int (W.settled : Nat)), some (.lst (W.others.map fun x : Oth => logD x.log)), o4, o5, o6, none]) ⟨o4, none, rfl⟩ ?_ fun es2 h => h) ?_
    · rintro i es2 d hi hd ⟨p4, p6, rfl⟩
      rw [List.getElem?_map] at hd
      obtain ⟨x, hx, rfl⟩ := Option.map_eq_some_iff.mp hd
      have hmem := List.mem_of_getElem? hx
      obtain ⟨fx, sx⟩ := G.others x hmem
      have hcl := fx.c_len
      have hsc := fx.sure_c
      refine ⟨_, eg_unl2, so_if (b := false) (eb_or (a := false) (eb_tTest (ED.to (ed_b2 (ed_var rfl) (ed_var rfl)) (by congr 1; exact decide_eq_false (by omega)))) fun _ => EB.to (eb_not (eb_tB (ed_call (ds := [logD x.log, .lst (W.rows.map rowD), .int (x.sure : Nat)]) (ea_cons (ed_var rfl) (ea_cons (ed_asL (ed_dget (key := .inr ("rows" : Str)) (ed_var rfl) ed_str DW.at_ DW.rows (.ref r)) hr1 hr2) (ea_cons (ed_var rfl) ea_nil))) fun H1 s1 => ⟨W.rows, x.log, x.sure, x.c, W.others.length, x.sure, rfl, G.rows, fx, by omega, h900, rfl⟩))) (by simp; omega)) (fun q => by cases q) fun _ => so_next ⟨_, _, rfl⟩⟩
    · rintro es2 ⟨p4, p6, rfl⟩
      refine so_ret (ed_b2 (ed_var rfl) (ed_var rfl)) ?_
      have := S.1
      congr 1
      exact decide_eq_true (by omega)
end
end Sh

/-! ### one turn of the stage -/
namespace Sh
open PySem L2
/-- the draws, the world and what the head knows -/
structure SAt (K : PySem.W.Frag) (H : Hp) (C st w r o rd td : Addr) (ls : List Addr) (k g c : Addr) (n : Nat) (W : Wd) : Prop where
  sd : StAt H st n
  wd : WAt K H w r o rd td ls W
  kn : KnAt H C k g c W.got W.coming
  ne : st ≠ w ∧ st ≠ o ∧ st ≠ g ∧ st ≠ c ∧ g ≠ w ∧ g ≠ o ∧ c ≠ w ∧ c ≠ o
section
variable {K : PySem.W.Frag} {H H' : Hp} {C st w r r' o rd td : Addr} {ls : List Addr} {k g c : Addr} {n n' : Nat} {W W' : Wd} {xs : List Addr}
theorem SAt.same (S : SAt K H C st w r o rd td ls k g c n W) (s : Same H H') : SAt K H' C st w r o rd td ls k g c n W := ⟨S.sd.same s, S.wd.same s, S.kn.same s, S.ne⟩
theorem StAt.dict {H : Hp} {st : Addr} {n : Nat} (h : StAt H st n) : ∃ kvs, H st = some (.dK kvs) := let ⟨kvs, _, _, h1, _⟩ := h; ⟨kvs, h1⟩
theorem SAt.kd (S : SAt K H C st w r o rd td ls k g c n W) (hx : ∀ x ∈ xs, (∃ kvs, H x = some (.dK kvs)) ∨ ∃ vs, H x = some (.lst vs)) : k ∉ xs := fun z => by
  obtain ⟨dx, fs, e, _⟩ := S.kn.obj
  rcases hx k z with ⟨kvs, q⟩ | ⟨kvs, q⟩ <;> (rw [e] at q; cases q)
theorem SAt.draw (S : SAt K H C st w r o rd td ls k g c n W) (kk : Kp K [st] H H') (hs : StAt H' st n') : SAt K H' C st w r o rd td ls k g c n' W := by
  obtain ⟨n1, n2, n3, n4, n5, n6, n7, n8⟩ := S.ne
  have hx : ∀ x ∈ [st], ∃ kvs, H x = some (.dK kvs) := fun x hx => by rw [List.mem_singleton.mp hx]; exact S.sd.dict
  exact ⟨hs, S.wd.kpD kk hx (by simpa using n1.symm) (by simpa using n2.symm), S.kn.kp kk (S.kd fun x h => .inl (hx x h)) (by simpa using n3.symm) (by simpa using n4.symm), S.ne⟩
/-- lists and the world's dict change -/
theorem SAt.change (S : SAt K H C st w r o rd td ls k g c n W) (kk : Kp K xs H H') (hx : ∀ x ∈ xs, x = w ∨ ∃ vs, H x = some (.lst vs)) (hW : WAt K H' w r' o rd td ls W') (eg : W'.got = W.got) (ec : W'.coming = W.coming) : SAt K H' C st w r' o rd td ls k g c n W' := by
  obtain ⟨n1, n2, n3, n4, n5, n6, n7, n8⟩ := S.ne
  obtain ⟨kvs, v, DW⟩ := S.wd.wd
  have key : ∀ {a : Addr} {kvs : List (Key × V)}, H a = some (.dK kvs) → a ≠ w → a ∉ xs := fun e n z => by
    rcases hx _ z with q | ⟨vs, q⟩
    · exact n q
    · rw [e] at q
      cases q
  obtain ⟨sk, es⟩ := S.sd.dict
  obtain ⟨gk, eg', _⟩ := S.kn.gd
  obtain ⟨ck, ec', _⟩ := S.kn.cd
  refine ⟨S.sd.kp kk (key es n1), hW, ?_, S.ne⟩
  rw [eg, ec]
  refine S.kn.kp kk (S.kd fun x h => ?_) (key eg' n5) (key ec' n7)
  rcases hx x h with q | q
  · exact .inl ⟨kvs, q ▸ DW.at_⟩
  · exact .inr q
/-- what is learnt -/
theorem SAt.learnt (S : SAt K H C st w r o rd td ls k g c n W) (kk : Kp K [g, c, w] H H') (hW : WAt K H' w r o rd td ls W') (hK : KnAt H' C k g c W'.got W'.coming) : SAt K H' C st w r o rd td ls k g c n W' :=
  ⟨S.sd.kp kk (by simpa using ⟨S.ne.2.2.1, S.ne.2.2.2.1, S.ne.1⟩), hW, hK, S.ne⟩
theorem WAt.lists (h : WAt K H w r o rd td ls W) : ∀ x ∈ td :: ls, ∃ vs, H x = some (.lst vs) := fun x hx => by
  rcases List.mem_cons.mp hx with q | q
  · obtain ⟨vs, e, _⟩ := h.told
    exact ⟨vs, q ▸ e⟩
  · obtain ⟨y, v, e, _⟩ := h.ownAt q
    exact ⟨_, e⟩
theorem letPre_of (G : Good W) (hn : W.rows.length ≤ 40) {l : Letter} (hl : LetOk W.rows W.others.length W.fp W.settled l) {x : Oth} (hx : x ∈ W.others) : LetPre x.log l := by
  have h1 := G.fp
  have h2 := G.settled
  have h3 := G.m4
  cases hl with
  | fold to reign a b =>
    refine ⟨by omega, ?_, by omega⟩
    have := reignOf_le G.rows W.fp
    omega
  | rows to reign before m st' a b c' d e =>
    obtain ⟨k, k1, k2⟩ := (G.others x hx).1.len
    have h4 := (G.others x hx).1.c_len
    show x.log.rows.length + ((W.rows.drop before).take m).length ≤ 900
    rw [List.length_take, List.length_drop]
    omega
/-- what one turn does -/
structure Mv (W W' : Wd) : Prop where
  good : Good W'
  st : ∀ a, Stands a W → Stands a W'
  rows : W'.rows.length ≤ 24
  road : W'.road.length ≤ W.road.length + 1
  told : W'.told.length ≤ W.told.length + 1
  rmono : W.rows.length ≤ W'.rows.length
theorem Stands.put {a d : Nat} (S : Stands a W) (h : W.settled ≤ W.rows.length) : Stands a (W.put d) := by
  refine ⟨S.1, fun q => ?_⟩
  obtain ⟨h1, h2⟩ := S.2 q
  refine ⟨?_, h2⟩
  show reignOf (W.rows ++ [_]) W.settled = W.reign
  rw [reignOf_append _ h, h1]
theorem mv_refl (G : Good W) (h : W.rows.length ≤ 24) : Mv W W := ⟨G, fun _ s => s, h, by omega, by omega, by omega⟩
theorem mv_road (G : Good W) (h : W.rows.length ≤ 24) (i : Nat) : Mv W { W with road := W.road.eraseIdx i } := ⟨G.road_erase i, fun _ s => s, h, by show (W.road.eraseIdx i).length ≤ _; rw [List.length_eraseIdx]; split <;> omega, by show W.told.length ≤ _; omega, Nat.le_refl _⟩
theorem mv_send (G : Good W) (h : W.rows.length ≤ 24) {i : Nat} (h1 : 1 ≤ i) (h2 : i ≤ W.others.length) : Mv W (W.send i) := ⟨G.send h1 h2, fun _ s => s, h, by show (W.road ++ [_]).length ≤ _; simp, by show W.told.length ≤ _; omega, Nat.le_refl _⟩
theorem mv_put (G : Good W) (h : W.rows.length < 24) {d : Nat} (hd : d < 3) : Mv W (W.put d) := ⟨G.put hd, fun _ s => s.put G.settled, by show (W.rows ++ [_]).length ≤ 24; simp; omega, by show W.road.length ≤ _; omega, by show W.told.length ≤ _; omega, by show _ ≤ (W.rows ++ [_]).length; simp⟩
theorem bring_facts (G : Good W) {l : Letter} (hl : LetOk W.rows W.others.length W.fp W.settled l) : (W.bring l).rows = W.rows ∧ (W.bring l).road = W.road ∧ (W.bring l).told.length = W.told.length + 1 ∧ (W.bring l).got = W.got ∧ (W.bring l).coming = W.coming ∧ (W.bring l).others.length = W.others.length := by
  obtain ⟨o, ho⟩ := G.at_let hl
  rw [bring_some ho]
  exact ⟨rfl, rfl, by simp, rfl, rfl, by simp⟩
theorem mv_bring (G : Good W) (h : W.rows.length ≤ 24) {l : Letter} (hl : LetOk W.rows W.others.length W.fp W.settled l) : Mv W (W.bring l) := by
  obtain ⟨e1, e2, e3, _⟩ := bring_facts G hl
  exact ⟨G.bring (by omega) hl, fun _ s => s.bring G hl, by rw [e1]; exact h, by rw [e2]; omega, by rw [e3]; omega, by rw [e1]; omega⟩
theorem learn_facts (t : Told) : (W.learn t).rows = W.rows ∧ (W.learn t).road = W.road ∧ (W.learn t).told = W.told ∧ (W.learn t).others = W.others := by
  obtain ⟨e1, e2, e3, e4, e5, e6, e7⟩ := learnK_same (W := W) t
  exact ⟨e1, e6, e7, e4⟩
theorem mv_learn (G : Good W) (h : W.rows.length ≤ 24) {t : Told} (ht : t ∈ W.told) : Mv W (W.learn t) := by
  obtain ⟨e1, e2, e3, _⟩ := learn_facts (W := W) t
  exact ⟨G.learn (G.told t ht), fun _ s => s.learn G (G.told t ht), by rw [e1]; exact h, by rw [e2]; omega, by rw [e3]; omega, by rw [e1]; omega⟩
theorem Mv.eraseRoad (m : Mv W W') (i : Nat) : Mv W { W' with road := W'.road.eraseIdx i } := ⟨m.good.road_erase i, fun a s => m.st a s, m.rows, by show (W'.road.eraseIdx i).length ≤ _; have := m.road; rw [List.length_eraseIdx]; split <;> omega, m.told, m.rmono⟩
theorem Mv.eraseTold (m : Mv W W') (i : Nat) : Mv W { W' with told := W'.told.eraseIdx i } := ⟨m.good.told_sub fun t ht => List.mem_of_mem_eraseIdx ht, fun a s => m.st a s, m.rows, m.road, by show (W'.told.eraseIdx i).length ≤ _; have := m.told; rw [List.length_eraseIdx]; split <;> omega, m.rmono⟩
/-- know.letter_to(one, world['reign'], world['log'], world['settled']) -/
theorem ed_letter (hW : WAt K H w r o rd td ls W) (hK : KnAt H C k g c W.got W.coming) (G : Good W) {es : Es} {iw ik : Nat} {te : TE} {i : Nat} {E : XK} (h1 : es[iw]? = some (some (.ref w))) (h2 : es[ik]? = some (some (.ref k))) (h3 : ED K H te es (.int (i : Nat))) (i1 : 1 ≤ i) (i2 : i ≤ W.others.length) :
    ED K H (tMeth C "letter_to" (spF K (relLetterTo C)) [] E (tVar ik) (tCons te (tCons (tDGet (tVar iw) (tC (.str "reign"))) (tCons (tDGet (tVar iw) (tC (.str "log"))) (tCons (tDGet (tVar iw) (tC (.str "settled"))) tNil))))) es (letD (W.letterTo i)) := by
  obtain ⟨kvs, v, DW⟩ := hW.wd
  obtain ⟨dx, fs, ho, F⟩ := id hK.obj
  have eLog : W.log = headLog W.rows W.fp W.got.length := by
    rw [G.gotl]
    rfl
  have hi : i - 1 < W.coming.length := by rw [G.coml]; omega
  have hig : i - 1 < W.got.length := by rw [G.gotl]; omega
  have hc := G.coming (i - 1) _ _ (List.getElem?_eq_getElem hig) (List.getElem?_eq_getElem hi)
  have ec : W.coming.getD (i - 1) 0 = W.coming[i - 1] := by simp [hi]
  refine ed_mt (ds := [.int (i : Nat), .int (W.reign : Nat), logD W.log, .int (W.settled : Nat)]) (ed_var h2) ho (F.no _ (by decide +kernel) (by decide +kernel) (by decide +kernel)) (ea_cons h3 (ea_cons (ed_dget (key := .inr ("reign" : Str)) (ed_var h1) ed_str DW.at_ DW.reign (.int _)) (ea_cons (ed_dget (key := .inr ("log" : Str)) (ed_var h1) ed_str DW.at_ DW.log DW.logd) (ea_cons (ed_dget (key := .inr ("settled" : Str)) (ed_var h1) ed_str DW.at_ DW.set (.int _)) ea_nil))))
    fun H1 s1 => ⟨k, g, c, W.got, W.coming, W.rows, i, W.fp, W.settled, W.reign, by rw [eLog], hK.same s1, i1, by rw [G.gotl]; exact i2, Nat.le_of_lt G.fpl, by rw [ec]; exact hc.2, ?_⟩
  rw [G.gotl]
  rfl
end
section
variable {K : PySem.W.Frag} {H : Hp} {es : Es} {te : TE} {t1 t2 : TS} {P : D → Hp → Prop} {N : Hp → Es → Prop} {R : D → Hp → Prop}
theorem im_ifI (h : IE K H te es fun d H1 => ∃ b, d = .bl b ∧ (b = true → Im K H1 t1 es N R) ∧ (b = false → Im K H1 t2 es N R)) : Im K H (tIfS (tTest te) t1 t2) es N R := fun σ E e n kn kr =>
  h σ _ e n fun v H1 d r T ⟨b, hb, h1, h2⟩ => by
    subst hb
    refine ⟨b, r.bl_eq, ?_⟩
    cases b with
    | true => exact h1 rfl σ E (e.tle T n) n kn kr
    | false => exact h2 rfl σ E (e.tle T n) n kn kr
theorem opi_b2 {f : Int → Int → Bool} {i j : Int} (h : P (.bl (f i j)) H) : OpI K H (rI0 fun i j => .bl (f i j)) (.int i) (.int j) P := fun v w Q r1 r2 k => ⟨i, j, r1.int_eq, r2.int_eq, k _ H _ (.bl _) (fun _ _ z => z) h⟩
theorem ed_neNil {ds : List D} (h : ED K H te es (.lst ds)) (hn : ∀ d ∈ ds, nr d = true) (hs : ∀ d ∈ ds, Shp 6 d) : ED K H (tOp (rNeD K) te (tLst tNil)) es (.bl (!ds.isEmpty)) :=
  ED.to (ed_neD (n := 7) (m := 1) h (ed_lst ea_nil) (nrs_of hn) rfl (Shp.lst (n := 6) hs) (Shp.lst (n := 0) fun d hd => by simp at hd)) (by rw [eqv_lst_nil])
end
def relMoved (K : PySem.W.Frag) (C : Addr) : Hp → List D → (D → Hp → Prop) → Prop := fun H ds P => ∃ st w r o rd td ls k g c n W, ds = [.ref st, .ref w, .ref k] ∧ SAt K H C st w r o rd td ls k g c n W ∧ Good W ∧ W.rows.length ≤ 24 ∧ W.road.length ≤ 500 ∧ W.told.length ≤ 500 ∧ n ≤ 10000 ∧
  P = fun d H' => d = .non ∧ Kp K (st :: w :: rd :: td :: g :: c :: ls) H H' ∧ ∃ r' n' W', SAt K H' C st w r' o rd td ls k g c n' W' ∧ n' ≤ n + 5 ∧ Mv W W'
section
variable {P : Program} {w : World} {K : PySem.W.Frag} {mg : Str → Option Value} {base : Heap} {C : Addr}
theorem ne_len {α : Type} {f : α → D} {xs : List α} (h : (!(xs.map f).isEmpty) = true) : 1 ≤ xs.length := by
  cases xs with
  | nil => cases h
  | cons x xs => simp
theorem map_erase {α β : Type} (f : α → β) : ∀ (xs : List α) (i : Nat), (xs.eraseIdx i).map f = (xs.map f).eraseIdx i
  | [], _ => rfl
  | _ :: _, 0 => rfl
  | x :: xs, i + 1 => congrArg (f x :: ·) (map_erase f xs i)
abbrev sMoved : Stmt := top 49
theorem scMoved : FnScope ["_law_state", "_law_world_here", "_law_know", "_law_way", "_law_one", "_law_place"] ["_law_state", "_law_world_here", "_law_know"] (defScope sMoved) := ⟨rfl, rfl, rfl, by decide +kernel, rfl, by decide +kernel, by decide +kernel⟩
theorem ok_moved (T : CopTxt K C) (g : Gd K mg "_law_moved" sMoved ["_law_state", "_law_world_here", "_law_know"]) (m_len : mg "len" = none) (o_law_take : Ok P w K mg base 2 "_law_take" ["_law_state", "_law_many"] (spI K (relTake K))) (o_law_deed : Ok P w K mg base 3 "_law_deed" ["_law_state"] (spI K (relDeed K))) (o_law_put : Ok P w K mg base 1 "_law_put" ["_law_world_here", "_law_deed_here"] (spI K (relWPut K)))
    (o_letter_to : OkM P w K mg base C 5 "letter_to" ["self", "other", "reign", "log", "settled"] (spF K (relLetterTo C))) (o_law_brought : Ok P w K mg base 8 "_law_brought" ["_law_world_here", "_law_letter"] (spI K (relBrought K))) (o_law_learnt : Ok P w K mg base 9 "_law_learnt" ["_law_world_here", "_law_know", "_law_told"] (spI K (relLearnt K C))) :
    Ok P w K mg base 10 "_law_moved" ["_law_state", "_law_world_here", "_law_know"] (spI K (relMoved K C)) := by
  refine g.imp scMoved (fun H ds d ⟨st, w, r, o, rd, td, ls, k, g, c, n, W, h1, h2⟩ => by rw [h1]; rfl) fun f cdv A outer s H E hr => ?_
  have hu := hu_of hr
  refine ⟨_,
    (pss_cons (ps_set (i := 3) scMoved.nd rfl (Or.inl rfl) (pe_fn o_law_take hr (pa_cons (pv 0) (pa_cons pe_int pa_nil))))
    (pss_one (ps_if (PW.pt (pw_and (pt_cmpR op_eq (pv 3) pe_int (nomark _)) (pw_and1 (pt_cmpR op_lt (plen m_len (pe_dget hu (pv 1) pe_str (fun _ _ => rfl))) pe_int (nomark _)))))
      (pss_one (ps_expr (pe_fn o_law_put hr (pa_cons (pv 1) (pa_cons (pe_fn o_law_deed hr (pa_cons (pv 0) pa_nil)) pa_nil)))))
      (pss_one (ps_if (pt_cmpR op_lt (pv 3) pe_int (nomark _))
        (pss_cons (ps_set (i := 4) scMoved.nd rfl (Or.inl rfl) (pplus pe_int (pe_fn o_law_take hr (pa_cons (pv 0) (pa_cons (pe_callB call_lenD' (by rfl) m_len PySem.boot_len (pa_cons (pe_dget hu (pv 1) pe_str (fun _ _ => rfl)) pa_nil)) pa_nil)))))
        (pss_one (ps_expr (pe_bm PySem.F.plainAttrs_list PySem.F.slot_list_append PySem.F.type_list_append mt_append (pe_dget hu (pv 1) pe_str (fun _ _ => rfl)) (pa_cons (pe_mt o_letter_to T.cl hr (pv 2) (pa_cons (pv 4) (pa_cons (pe_dget hu (pv 1) pe_str (fun _ _ => rfl)) (pa_cons (pe_dget hu (pv 1) pe_str (fun _ _ => rfl)) (pa_cons (pe_dget hu (pv 1) pe_str (fun _ _ => rfl)) pa_nil))))) pa_nil)))))
        (pss_one (ps_if (PW.pt (pw_and (pt_cmpR op_lt (pv 3) pe_int (nomark _)) (pw_and1 (pt_cmpR (op_neD hr.units) (pe_dget hu (pv 1) pe_str (fun _ _ => rfl)) (pe_lst pa_nil) (nomark _)))))
          (pss_cons (ps_set (i := 5) scMoved.nd rfl (Or.inl rfl) (pe_fn o_law_take hr (pa_cons (pv 0) (pa_cons (plen m_len (pe_dget hu (pv 1) pe_str (fun _ _ => rfl))) pa_nil))))
          (pss_cons (ps_expr (pe_fn o_law_brought hr (pa_cons (pv 1) (pa_cons (pxl (pe_dget hu (pv 1) pe_str (fun _ _ => rfl)) (pv 5)) pa_nil))))
          (pss_one (ps_if (pt_cmpR op_gt (pe_fn o_law_take hr (pa_cons (pv 0) (pa_cons pe_int pa_nil))) pe_int (nomark _))
            (pss_one (ps_expr (pe_bm PySem.F.plainAttrs_list PySem.F.slot_list_pop PySem.F.type_list_pop mt_popAt (pe_dget hu (pv 1) pe_str (fun _ _ => rfl)) (pa_cons (pv 5) pa_nil))))
            pss_nil))))
          (pss_one (ps_if (PW.pt (pw_and (pt_cmpR op_eq (pv 3) pe_int (nomark _)) (pw_and1 (pt_cmpR (op_neD hr.units) (pe_dget hu (pv 1) pe_str (fun _ _ => rfl)) (pe_lst pa_nil) (nomark _)))))
            (pss_one (ps_expr (pe_bm PySem.F.plainAttrs_list PySem.F.slot_list_pop PySem.F.type_list_pop mt_popAt (pe_dget hu (pv 1) pe_str (fun _ _ => rfl)) (pa_cons (pe_fn o_law_take hr (pa_cons (pv 0) (pa_cons (plen m_len (pe_dget hu (pv 1) pe_str (fun _ _ => rfl))) pa_nil))) pa_nil))))
            (pss_one (ps_if (PW.pt (pw_and (pt_cmpR op_gt (pv 3) pe_int (nomark _)) (pw_and1 (pt_cmpR (op_neD hr.units) (pe_dget hu (pv 1) pe_str (fun _ _ => rfl)) (pe_lst pa_nil) (nomark _)))))
              (pss_cons (ps_set (i := 5) scMoved.nd rfl (Or.inl rfl) (pe_fn o_law_take hr (pa_cons (pv 0) (pa_cons (plen m_len (pe_dget hu (pv 1) pe_str (fun _ _ => rfl))) pa_nil))))
              (pss_cons (ps_expr (pe_fn o_law_learnt hr (pa_cons (pv 1) (pa_cons (pv 2) (pa_cons (pxl (pe_dget hu (pv 1) pe_str (fun _ _ => rfl)) (pv 5)) pa_nil)))))
              (pss_one (ps_if (pt_cmpR op_gt (pe_fn o_law_take hr (pa_cons (pv 0) (pa_cons pe_int pa_nil))) pe_int (nomark _))
                (pss_one (ps_expr (pe_bm PySem.F.plainAttrs_list PySem.F.slot_list_pop PySem.F.type_list_pop mt_popAt (pe_dget hu (pv 1) pe_str (fun _ _ => rfl)) (pa_cons (pv 5) pa_nil))))
                pss_nil))))
              pss_nil))))))))))), ?_⟩
  rintro ds PP ⟨st, w, r, o, rd, td, ls, k, g, c, n, W, rfl, S, G, h24, hroad, htold, hn, rfl⟩
  refine ⟨rfl, ?_⟩
  have hm4 := G.m4
  have hm1 := G.m1
  have fin : ∀ {H' : Hp} {r' : Addr} {n' : Nat} {W' : Wd}, Kp K (st :: w :: rd :: td :: g :: c :: ls) H H' → SAt K H' C st w r' o rd td ls k g c n' W' → n' ≤ n + 5 → Mv W W' → TLe K H H' ∧ ((D.non = D.non) ∧ Kp K (st :: w :: rd :: td :: g :: c :: ls) H H' ∧ ∃ r' n' W', SAt K H' C st w r' o rd td ls k g c n' W' ∧ n' ≤ n + 5 ∧ Mv W W') :=
    fun k1 S1 h1 m1 => ⟨k1.tle, rfl, k1, _, _, _, S1, h1, m1⟩
  refine im_seq (N1 := fun H1 es1 => ∃ way : Nat, es1 = [some (.ref st), some (.ref w), some (.ref k), some (.int (way : Nat)), none, none] ∧ Kp K [st] H H1 ∧ SAt K H1 C st w r o rd td ls k g c (n + 1) W)
    (im_set (ie_take (m := 8) (ed_var rfl) ed_int S.sd (by omega) (by omega) (by omega) fun x H1 hx hs k1 => ⟨rfl, x, rfl, k1, S.draw k1 hs⟩)) ?_
  rintro H1 _ ⟨way, rfl, k1, S1⟩
  obtain ⟨kvs, v, DW⟩ := S1.wd.wd
  obtain ⟨vr, hr1, hr2⟩ := S1.wd.rows
  obtain ⟨vd, hd1, hd2⟩ := S1.wd.road
  obtain ⟨vt, ht1, ht2⟩ := S1.wd.told
  have hvd : vd.length = W.road.length := by rw [hd2.length, List.length_map]
  have hvt : vt.length = W.told.length := by rw [ht2.length, List.length_map]
  refine im_if (eb_and (eb_tTest (ed_eqI (ed_var rfl) ed_int)) fun _ => eb_tTest (ed_b2 (ed_lenL (ds := W.rows.map rowD) (ed_asL (ed_dget (key := .inr ("rows" : Str)) (ed_var rfl) ed_str DW.at_ DW.rows (.ref r)) hr1 hr2)) ed_int)) (fun z H2 s2 => ?_) fun _ H2 s2 => ?_
  · -- a row is put
    rw [Bool.and_eq_true] at z
    have z2 := of_decide_eq_true z.2
    rw [List.length_map] at z2
    have S2 := S1.same s2
    refine im_expr (ie_call (ia_cons (ie_ed (ed_var rfl) fun H3 s3 => ⟨rfl, ia_cons (ie_deed (ed_var rfl) (S2.sd.same s3) (by omega) fun x H4 hx hs4 k4 => ⟨noL_deed x, ia_nil ⟨_, ⟨w, r, o, rd, td, ls, W, x, rfl, ((S2.same s3).draw k4 hs4).wd, Nat.le_of_lt G.fpl, by omega, rfl⟩, ?_⟩⟩)⟩)))
    rintro d H5 ⟨_, k5, r', hW5⟩
    have S4 := (S2.same s3).draw k4 hs4
    have kall : Kp K (st :: w :: rd :: td :: g :: c :: ls) H H5 := ((k1.trans (Kp.of (s2.trans s3))).trans k4).mono (by simp) |>.trans (k5.mono (by simp))
    exact fin kall (S4.change k5 (fun y hy => .inl (List.mem_singleton.mp hy)) hW5 rfl rfl) (by omega) (mv_put G (by omega) hx)
  · have S2 := S1.same s2
    have D2 := DW.same s2
    refine im_if (eb_tTest (ed_b2 (ed_var rfl) ed_int)) (fun _ H3 s3 => ?_) fun _ H3 s3 => ?_
    · -- a letter is sent
      have S3 := S2.same s3
      have D3 := D2.same s3
      refine im_seq (N1 := fun H4 es4 => ∃ one : Nat, 1 ≤ one ∧ one ≤ W.others.length ∧ es4 = [some (.ref st), some (.ref w), some (.ref k), some (.int (way : Nat)), some (.int (one : Nat)), none] ∧ Kp K [st] H3 H4 ∧ SAt K H4 C st w r o rd td ls k g c (n + 2) W)
        (im_set (ie_op (ie_ed (d := .int 1) ed_int fun H4 s4 => ⟨rfl, ie_take (m := W.others.length) (ed_var rfl) (ED.to (ed_lenD (ed_dget (key := .inr ("others" : Str)) (ed_var rfl) ed_str (s4 _ _ D3.at_) D3.oth (.ref o)) (s4 _ _ S3.wd.od)) (by rw [tabO_len, S3.wd.len])) (S3.sd.same s4) (by omega) (by omega) (by omega) fun x H5 hx hs5 k5 => opi_i2 ⟨rfl, 1 + x, by omega, by omega, ?_, (Kp.of s4).trans k5, (S3.same s4).draw k5 hs5⟩⟩))) ?_
      · show ([some (.ref st), some (.ref w), some (.ref k), some (.int (way : Nat)), some (.int ((1 : Int) + (x : Int))), none] : Es) = _
        have : (1 : Int) + (x : Int) = ((1 + x : Nat) : Int) := by omega
        rw [this]
      rintro H4 _ ⟨one, i1, i2, rfl, k4, S4⟩
      obtain ⟨kvs4, v4, D4⟩ := S4.wd.wd
      obtain ⟨vd4, hd4, hd4'⟩ := S4.wd.road
      refine im_append (ed_dget (key := .inr ("road" : Str)) (ed_var rfl) ed_str D4.at_ D4.road (.ref rd)) hd4 fun H5 s5 => ie_ed (ed_letter (S4.same s5).wd (S4.same s5).kn G rfl rfl (ed_var rfl) i1 i2) fun H6 s6 => ⟨vd4, s6 _ _ (s5 _ _ hd4), by rw [hd4'.length, List.length_map]; omega, fun vv rv => ?_⟩
      have S6 := S4.same (s5.trans s6)
      have hd6 := (s5.trans s6) _ _ hd4
      have kk : Kp K [rd] H6 (upd H6 rd (.lst (vd4 ++ [vv]))) := Kp.lst hd6 (by simp)
      have hW6 : WAt K (upd H6 rd (.lst (vd4 ++ [vv]))) w r o rd td ls (W.send one) := S6.wd.putRoad hd6 (by
        rw [List.map_append]
        exact RpL.append (RpL.same (s5.trans s6) _ _ hd4') (.cons rv .nil))
      have kall : Kp K (st :: w :: rd :: td :: g :: c :: ls) H (upd H6 rd (.lst (vd4 ++ [vv]))) := (((k1.trans (Kp.of (s2.trans s3))).trans k4).trans (Kp.of (s5.trans s6))).mono (by simp) |>.trans (kk.mono (by simp))
      exact fin kall (S6.change kk (fun y hy => .inr ⟨_, (List.mem_singleton.mp hy) ▸ hd6⟩) hW6 rfl rfl) (by omega) (mv_send G h24 i1 i2)
    · have S3 := S2.same s3
      have D3 := D2.same s3
      have s13 := s2.trans s3
      have hd3 := s13 _ _ hd1
      have ht3 := s13 _ _ ht1
      have hd3' := RpL.same s13 _ _ hd2
      have ht3' := RpL.same s13 _ _ ht2
      refine im_if (eb_and (eb_tTest (ed_b2 (ed_var rfl) ed_int)) fun _ => eb_tTest (ed_neNil (ds := W.road.map letD) (ed_asL (ed_dget (key := .inr ("road" : Str)) (ed_var rfl) ed_str D3.at_ D3.road (.ref rd)) hd3 hd3') (fun d hd => ?_) fun d hd => ?_)) (fun z H4 s4 => ?_) fun _ H4 s4 => ?_
      · obtain ⟨l, _, rfl⟩ := List.mem_map.mp hd
        exact nr_let l
      · obtain ⟨l, _, rfl⟩ := List.mem_map.mp hd
        exact shp_let l
      · -- a letter comes
        rw [Bool.and_eq_true] at z
        have hne : 1 ≤ W.road.length := ne_len z.2
        have S4 := S3.same s4
        have D4 := D3.same s4
        have hd4 := s4 _ _ hd3
        have hd4' := RpL.same s4 _ _ hd3'
        have k04 : Kp K [st] H H4 := (k1.trans (Kp.of s13)).trans (Kp.of s4)
        refine im_seq (N1 := fun H5 es5 => ∃ x : Nat, x < W.road.length ∧ es5 = [some (.ref st), some (.ref w), some (.ref k), some (.int (way : Nat)), none, some (.int (x : Nat))] ∧ Kp K [st] H4 H5 ∧ SAt K H5 C st w r o rd td ls k g c (n + 2) W)
          (im_set (ie_take (m := W.road.length) (ed_var rfl) (ED.to (ed_lenL (ds := W.road.map letD) (ed_asL (ed_dget (key := .inr ("road" : Str)) (ed_var rfl) ed_str D4.at_ D4.road (.ref rd)) hd4 hd4')) (by rw [List.length_map])) S4.sd (by omega) hne (by omega) fun x H5 hx hs5 k5 => ⟨rfl, x, hx, rfl, k5, S4.draw k5 hs5⟩)) ?_
        rintro H5 _ ⟨x, hx, rfl, k5, S5⟩
        obtain ⟨l, hl⟩ : ∃ l, W.road[x]? = some l := ⟨_, List.getElem?_eq_getElem hx⟩
        have hlo := G.road l (List.mem_of_getElem? hl)
        obtain ⟨xo, hxo⟩ := G.at_let hlo
        obtain ⟨b1, b2, b3, b4, b5, b6⟩ := bring_facts G hlo
        obtain ⟨kvs5, v5, D5⟩ := S5.wd.wd
        obtain ⟨vd5, hd5, hd5'⟩ := S5.wd.road
        refine im_seq (N1 := fun H6 es6 => es6 = [some (.ref st), some (.ref w), some (.ref k), some (.int (way : Nat)), none, some (.int (x : Nat))] ∧ Kp K (td :: ls) H5 H6 ∧ SAt K H6 C st w r o rd td ls k g c (n + 2) (W.bring l))
          (im_expr (ie_call (ia_ea (ds := [.ref w, letD l]) (ea_cons (ed_var rfl) (ea_cons (ed_ixL (ds := W.road.map letD) (ed_asL (ed_dget (key := .inr ("road" : Str)) (ed_var rfl) ed_str D5.at_ D5.road (.ref rd)) hd5 hd5') (ed_var rfl) (atI_of (j := x) rfl (by rw [List.getElem?_map, hl]; rfl))) ea_nil)) fun H6 s6 => ⟨_, ⟨w, r, o, rd, td, ls, W, l, xo, rfl, (S5.same s6).wd, hlo.to1.1, hxo, letPre_of G (by omega) hlo (List.mem_of_getElem? hxo), by omega, rfl⟩, ?_⟩))) ?_
        · rintro d H7 ⟨_, k7, hW7⟩
          exact ⟨rfl, (Kp.of s6).trans k7, (S5.same s6).change k7 (fun y hy => .inr ((S5.same s6).wd.lists y hy)) hW7 b4 b5⟩
        rintro H6 _ ⟨rfl, k6, S6⟩
        have M6 := mv_bring G h24 hlo
        have k06 : Kp K (st :: w :: rd :: td :: g :: c :: ls) H H6 := ((k04.trans k5).mono (by simp)).trans (k6.mono (by
          intro b hb
          rcases List.mem_cons.mp hb with q | q
          · simp [q]
          · simp [q]))
        refine im_ifI (ie_op (ie_take (m := 3) (ed_var rfl) ed_int S6.sd (by omega) (by omega) (by omega) fun y H7 hy hs7 k7 => ⟨rfl, ie_ed (d := .int 0) ed_int fun H8 s8 => opi_b2 ⟨_, rfl, fun zb => ?_, fun zb => im_next (fin ((k06.trans (k7.mono (by simp))).trans (Kp.of s8)) ((S6.draw k7 hs7).same s8) (by omega) M6)⟩⟩))
        have S8 := (S6.draw k7 hs7).same s8
        have k08 := (k06.trans (k7.mono (ys := st :: w :: rd :: td :: g :: c :: ls) (by simp))).trans (Kp.of s8)
        obtain ⟨kvs8, v8, D8⟩ := S8.wd.wd
        obtain ⟨vd8, hd8, hd8'⟩ := S8.wd.road
        have hl8 : vd8.length = W.road.length := by rw [hd8'.length, List.length_map, b2]
        refine im_popAt (ed_dget (key := .inr ("road" : Str)) (ed_var rfl) ed_str D8.at_ D8.road (.ref rd)) hd8 fun H9 s9 => ie_ed (ed_var rfl) fun H10 s10 => ⟨vd8, x, rfl, (s9.trans s10) _ _ hd8, by omega, by omega, ?_⟩
        have S10 := S8.same (s9.trans s10)
        have hd10 := (s9.trans s10) _ _ hd8
        have kk : Kp K [rd] H10 (upd H10 rd (.lst (vd8.eraseIdx x))) := Kp.lst hd10 (by simp)
        refine fin ((k08.trans (Kp.of (s9.trans s10))).trans (kk.mono (by simp))) (S10.change kk (fun y hy => .inr ⟨_, (List.mem_singleton.mp hy) ▸ hd10⟩) (S10.wd.putRoad (ts := (W.bring l).road.eraseIdx x) hd10 ?_) rfl rfl) (by omega) (M6.eraseRoad x)
        rw [map_erase]
        exact RpL.eraseIdx x (RpL.same (s9.trans s10) _ _ hd8')
      · have S4 := S3.same s4
        have D4 := D3.same s4
        have s14 := s13.trans s4
        have hd4 := s4 _ _ hd3
        have ht4 := s4 _ _ ht3
        have hd4' := RpL.same s4 _ _ hd3'
        have ht4' := RpL.same s4 _ _ ht3'
        refine im_if (eb_and (eb_tTest (ed_eqI (ed_var rfl) ed_int)) fun _ => eb_tTest (ed_neNil (ds := W.road.map letD) (ed_asL (ed_dget (key := .inr ("road" : Str)) (ed_var rfl) ed_str D4.at_ D4.road (.ref rd)) hd4 hd4') (fun d hd => ?_) fun d hd => ?_)) (fun z H5 s5 => ?_) fun _ H5 s5 => ?_
        · obtain ⟨l, _, rfl⟩ := List.mem_map.mp hd
          exact nr_let l
        · obtain ⟨l, _, rfl⟩ := List.mem_map.mp hd
          exact shp_let l
        · -- a letter is lost
          rw [Bool.and_eq_true] at z
          have hne : 1 ≤ W.road.length := ne_len z.2
          have S5 := S4.same s5
          have D5 := D4.same s5
          have hd5 := s5 _ _ hd4
          have hd5' := RpL.same s5 _ _ hd4'
          refine im_popAt (ed_dget (key := .inr ("road" : Str)) (ed_var rfl) ed_str D5.at_ D5.road (.ref rd)) hd5 fun H6 s6 => ie_take (m := W.road.length) (ed_var rfl) (ED.to (ed_lenL (ds := W.road.map letD) (ed_asL (ed_dget (key := .inr ("road" : Str)) (ed_var rfl) ed_str (s6 _ _ D5.at_) D5.road (.ref rd)) (s6 _ _ hd5) (RpL.same s6 _ _ hd5'))) (by rw [List.length_map])) (S5.sd.same s6) (by omega) hne (by omega) fun x H7 hx hs7 k7 => ?_
          have S7 := (S5.same s6).draw k7 hs7
          obtain ⟨vd7, hd7, hd7'⟩ := S7.wd.road
          have hl7 : vd7.length = W.road.length := by rw [hd7'.length, List.length_map]
          refine ⟨vd7, x, rfl, hd7, by omega, by omega, ?_⟩
          have kk : Kp K [rd] H7 (upd H7 rd (.lst (vd7.eraseIdx x))) := Kp.lst hd7 (by simp)
          refine fin ((((k1.trans (Kp.of s14)).trans (Kp.of (s5.trans s6))).trans k7).mono (by simp) |>.trans (kk.mono (by simp))) (S7.change kk (fun y hy => .inr ⟨_, (List.mem_singleton.mp hy) ▸ hd7⟩) (S7.wd.putRoad (ts := W.road.eraseIdx x) hd7 ?_) rfl rfl) (by omega) (mv_road G h24 x)
          rw [map_erase]
          exact RpL.eraseIdx x hd7'
        · have S5 := S4.same s5
          have D5 := D4.same s5
          have ht5 := s5 _ _ ht4
          have ht5' := RpL.same s5 _ _ ht4'
          refine im_if (eb_and (eb_tTest (ed_b2 (ed_var rfl) ed_int)) fun _ => eb_tTest (ed_neNil (ds := W.told.map toldD) (ed_asL (ed_dget (key := .inr ("told" : Str)) (ed_var rfl) ed_str D5.at_ D5.told (.ref td)) ht5 ht5') (fun d hd => ?_) fun d hd => ?_)) (fun z H6 s6 => ?_) fun _ H6 s6 => im_next (fin (((k1.trans (Kp.of s14)).trans (Kp.of (s5.trans s6))).mono (by simp)) (S5.same s6) (by omega) (mv_refl G h24))
          · obtain ⟨t, _, rfl⟩ := List.mem_map.mp hd
            rfl
          · obtain ⟨t, _, rfl⟩ := List.mem_map.mp hd
            refine (Shp.tup (n := 1) fun d hd => ?_).mono (by decide)
            simp only [List.mem_cons, List.not_mem_nil, or_false] at hd
            rcases hd with rfl | rfl | rfl
            · exact shp_int _
            · exact shp_bl _
            · exact shp_int _
          · -- an answer comes
            rw [Bool.and_eq_true] at z
            have hne : 1 ≤ W.told.length := ne_len z.2
            have S6 := S5.same s6
            have D6 := D5.same s6
            have ht6 := s6 _ _ ht5
            have ht6' := RpL.same s6 _ _ ht5'
            have k06 : Kp K [st] H H6 := (k1.trans (Kp.of s14)).trans (Kp.of (s5.trans s6))
            refine im_seq (N1 := fun H7 es7 => ∃ x : Nat, x < W.told.length ∧ es7 = [some (.ref st), some (.ref w), some (.ref k), some (.int (way : Nat)), none, some (.int (x : Nat))] ∧ Kp K [st] H6 H7 ∧ SAt K H7 C st w r o rd td ls k g c (n + 2) W)
              (im_set (ie_take (m := W.told.length) (ed_var rfl) (ED.to (ed_lenL (ds := W.told.map toldD) (ed_asL (ed_dget (key := .inr ("told" : Str)) (ed_var rfl) ed_str D6.at_ D6.told (.ref td)) ht6 ht6')) (by rw [List.length_map])) S6.sd (by omega) hne (by omega) fun x H7 hx hs7 k7 => ⟨rfl, x, hx, rfl, k7, S6.draw k7 hs7⟩)) ?_
            rintro H7 _ ⟨x, hx, rfl, k7, S7⟩
            obtain ⟨t, ht⟩ : ∃ t, W.told[x]? = some t := ⟨_, List.getElem?_eq_getElem hx⟩
            have hmem := List.mem_of_getElem? ht
            obtain ⟨g1, g2, g3, g4⟩ := G.told t hmem
            obtain ⟨kvs7, v7, D7⟩ := S7.wd.wd
            obtain ⟨vt7, ht7, ht7'⟩ := S7.wd.told
            obtain ⟨q1, q2, q3, q4, q5, q6, q7, q8⟩ := S7.ne
            refine im_seq (N1 := fun H8 es8 => es8 = [some (.ref st), some (.ref w), some (.ref k), some (.int (way : Nat)), none, some (.int (x : Nat))] ∧ Kp K [g, c, w] H7 H8 ∧ SAt K H8 C st w r o rd td ls k g c (n + 2) (W.learn t))
              (im_expr (ie_call (ia_ea (ds := [.ref w, .ref k, toldD t]) (ea_cons (ed_var rfl) (ea_cons (ed_var rfl) (ea_cons (ed_ixL (ds := W.told.map toldD) (ed_asL (ed_dget (key := .inr ("told" : Str)) (ed_var rfl) ed_str D7.at_ D7.told (.ref td)) ht7 ht7') (ed_var rfl) (atI_of (j := x) rfl (by rw [List.getElem?_map, ht]; rfl))) ea_nil))) fun H8 s8 => ⟨_, ⟨w, r, o, rd, td, ls, W, k, g, c, t, rfl, (S7.same s8).wd, (S7.same s8).kn, q5, q6, q7, q8, g1, by rw [G.gotl]; exact g2, G.gotl, G.fp, G.settled, by omega, rfl⟩, ?_⟩))) ?_
            · rintro d H9 ⟨_, k9, hW9, hK9⟩
              exact ⟨rfl, (Kp.of s8).trans k9, (S7.same s8).learnt k9 hW9 hK9⟩
            rintro H8 _ ⟨rfl, k8, S8⟩
            have M8 := mv_learn G h24 hmem
            have etl : (W.learn t).told = W.told := (learn_facts (W := W) t).2.2.1
            have k08 : Kp K (st :: w :: rd :: td :: g :: c :: ls) H H8 := ((k06.trans k7).mono (by simp)).trans (k8.mono (by
              intro b hb
              simp only [List.mem_cons, List.not_mem_nil, or_false] at hb
              rcases hb with q | q | q <;> simp [q]))
            refine im_ifI (ie_op (ie_take (m := 3) (ed_var rfl) ed_int S8.sd (by omega) (by omega) (by omega) fun y H9 hy hs9 k9 => ⟨rfl, ie_ed (d := .int 0) ed_int fun H10 s10 => opi_b2 ⟨_, rfl, fun zb => ?_, fun zb => im_next (fin ((k08.trans (k9.mono (by simp))).trans (Kp.of s10)) ((S8.draw k9 hs9).same s10) (by omega) M8)⟩⟩))
            have S10 := (S8.draw k9 hs9).same s10
            have k010 := (k08.trans (k9.mono (ys := st :: w :: rd :: td :: g :: c :: ls) (by simp))).trans (Kp.of s10)
            obtain ⟨kvs10, v10, D10⟩ := S10.wd.wd
            obtain ⟨vt10, ht10, ht10'⟩ := S10.wd.told
            have hl10 : vt10.length = W.told.length := by rw [ht10'.length, List.length_map, etl]
            refine im_popAt (ed_dget (key := .inr ("told" : Str)) (ed_var rfl) ed_str D10.at_ D10.told (.ref td)) ht10 fun H11 s11 => ie_ed (ed_var rfl) fun H12 s12 => ⟨vt10, x, rfl, (s11.trans s12) _ _ ht10, by omega, by omega, ?_⟩
            have S12 := S10.same (s11.trans s12)
            have ht12 := (s11.trans s12) _ _ ht10
            have kk : Kp K [td] H12 (upd H12 td (.lst (vt10.eraseIdx x))) := Kp.lst ht12 (by simp)
            refine fin ((k010.trans (Kp.of (s11.trans s12))).trans (kk.mono (by simp))) (S12.change kk (fun y hy => .inr ⟨_, (List.mem_singleton.mp hy) ▸ ht12⟩) (S12.wd.putTold (ts := (W.learn t).told.eraseIdx x) ht12 ?_) rfl rfl) (by omega) (M8.eraseTold x)
            rw [map_erase]
            exact RpL.eraseIdx x (RpL.same (s11.trans s12) _ _ ht10')
end
end Sh

/-! ### the letters come through -/
namespace Sh
open PySem L2
section
variable {K : PySem.W.Frag} {H : Hp} {es : Es} {te tl : TE} {ts : TS} {P : D → Hp → Prop} {N : Hp → Es → Prop} {R : D → Hp → Prop}
theorem el_sortD {a : Addr} {kvs : List (Key × V)} {ks : List Int} (h : ED K H te es (.ref a)) (ha : H a = some (.dK kvs)) (hk : kvs.map (·.1) = ks.map Sum.inl) (hs : ks.Pairwise (· ≤ ·)) (hl : ks.length < 64) : EL K H (tCB rSortD (tCons te tNil)) es (ks.map D.int) := fun σ H1 s e Q q =>
  h σ H1 s e _ fun v H2 s2 r2 => ⟨a, kvs, ks, by rw [r2.ref_eq], .inl ((s.trans s2) _ _ ha), hk, hl, fun ys p h1 h2 hp => by
    have : ys = ks := h1.eq_of_pairwise (fun a b _ _ x y => Int.le_antisymm x y) h2 hs
    rw [this]
    exact q p _ _ (s2.trans (Same.new hp)) (s2.free hp) upd_same (RpL.of_ints ks)⟩
/-- for x in a new list of numbers, x in slot j -/
theorem im_forL {j : Nat} {ks : List Int} (h : EL K H tl es (ks.map D.int)) (hI : ∀ A H1, Same H H1 → H A = none → H1 A = some (.lst (ks.map V.int)) → ∃ I : Nat → Hp → Es → Prop, I 0 H1 es ∧ (∀ i H2 es2, i ≤ ks.length → I i H2 es2 → H2 A = some (.lst (ks.map V.int))) ∧
    (∀ i k H2 es2, ks[i]? = some k → I i H2 es2 → Im K H2 ts (es2.set j (some (.int k))) (I (i + 1)) R) ∧ ∀ H2 es2, I ks.length H2 es2 → N H2 es2) : Im K H (tFor (iList K tl) (gName j) ts) es N R := fun σ E e nn kn kr =>
  h σ H (Same.refl H) e _ fun A ws H1 s1 hA hA1 r => by
    have ew := r.ints
    subst ew
    obtain ⟨I, h0, hL, hs, hd⟩ := hI A H1 s1 hA hA1
    refine ⟨A, rfl, ⟨_, SqL.of hA1⟩, for_list (K := K) (a := A) (xs := ks.map V.int) (fun i σ' H' => ∃ es', Env K H' σ' es' ∧ nls es' ∧ I i H' es') ⟨es, e.same s1, nn, h0⟩ (fun i σ' H' hi ⟨es', e', n', p⟩ => SqL.of (hL i H' es' (by simpa using hi) p)) (fun i x σ' H' hx ⟨es', e', n', p⟩ => ?_) fun σ' H' ⟨es', e', n', p⟩ => kn σ' H' es' e' n' (hd H' es' (by simpa using p))⟩
    rw [List.getElem?_map] at hx
    obtain ⟨k, hk, rfl⟩ := Option.map_eq_some_iff.mp hx
    exact hs i k H' es' hk p _ _ (e'.set (.int _)) (nls_set rfl n') (fun σ3 H3 es3 e3 n3 p3 => ⟨es3, e3, n3, p3⟩) kr
end
/-- the world and what the head knows -/
structure TAt (K : PySem.W.Frag) (H : Hp) (C w r o rd td : Addr) (ls : List Addr) (k g c : Addr) (W : Wd) : Prop where
  wd : WAt K H w r o rd td ls W
  kn : KnAt H C k g c W.got W.coming
  ne : g ≠ w ∧ g ≠ o ∧ c ≠ w ∧ c ≠ o
section
variable {K : PySem.W.Frag} {H H' : Hp} {C w r r' o rd td : Addr} {ls : List Addr} {k g c : Addr} {W W' : Wd} {xs : List Addr}
theorem TAt.same (S : TAt K H C w r o rd td ls k g c W) (s : Same H H') : TAt K H' C w r o rd td ls k g c W := ⟨S.wd.same s, S.kn.same s, S.ne⟩
theorem TAt.change (S : TAt K H C w r o rd td ls k g c W) (kk : Kp K xs H H') (hx : ∀ x ∈ xs, x = w ∨ ∃ vs, H x = some (.lst vs)) (hW : WAt K H' w r' o rd td ls W') (eg : W'.got = W.got) (ec : W'.coming = W.coming) : TAt K H' C w r' o rd td ls k g c W' := by
  obtain ⟨n5, n6, n7, n8⟩ := S.ne
  obtain ⟨kvs, v, DW⟩ := S.wd.wd
  have key : ∀ {a : Addr} {kvs : List (Key × V)}, H a = some (.dK kvs) → a ≠ w → a ∉ xs := fun e n z => by
    rcases hx _ z with q | ⟨vs, q⟩
    · exact n q
    · rw [e] at q
      cases q
  obtain ⟨gk, eg', _⟩ := S.kn.gd
  obtain ⟨ck, ec', _⟩ := S.kn.cd
  obtain ⟨dx, fs, eo, _⟩ := S.kn.obj
  refine ⟨hW, ?_, S.ne⟩
  rw [eg, ec]
  refine S.kn.kp kk (fun z => ?_) (key eg' n5) (key ec' n7)
  rcases hx k z with q | ⟨vs, q⟩
  · have := DW.at_
    rw [← q, eo] at this
    cases this
  · rw [eo] at q
    cases q
theorem TAt.some (S : TAt K H C w r o rd td ls k g c W) : ∀ x ∈ w :: rd :: td :: g :: c :: ls, ∃ u, H x = some u := fun x hx => by
  obtain ⟨kvs, v, DW⟩ := S.wd.wd
  obtain ⟨gk, eg', _⟩ := S.kn.gd
  obtain ⟨ck, ec', _⟩ := S.kn.cd
  obtain ⟨vd, e1, _⟩ := S.wd.road
  obtain ⟨vt, e2, _⟩ := S.wd.told
  simp only [List.mem_cons] at hx
  rcases hx with q | q | q | q | q | q
  · exact ⟨_, q ▸ DW.at_⟩
  · exact ⟨_, q ▸ e1⟩
  · exact ⟨_, q ▸ e2⟩
  · exact ⟨_, q ▸ eg'⟩
  · exact ⟨_, q ▸ ec'⟩
  · obtain ⟨y, v, e, _⟩ := S.wd.ownAt q
    exact ⟨_, e⟩
theorem TAt.newNotin (S : TAt K H C w r o rd td ls k g c W) {A : Addr} (h : H A = none) : A ∉ w :: rd :: td :: g :: c :: ls := fun z => by
  obtain ⟨u, e⟩ := S.some A z
  rw [h] at e
  cases e
theorem round1_same (G : Good W) {i : Nat} (h1 : 1 ≤ i) (h2 : i ≤ W.others.length) : (W.round1 i).rows = W.rows ∧ (W.round1 i).told = W.told ∧ (W.round1 i).others.length = W.others.length := by
  have hi : i - 1 < W.others.length := by omega
  have hc : i - 1 < W.coming.length := by rw [G.coml]; exact hi
  have hg : i - 1 < W.got.length := by rw [G.gotl]; exact hi
  obtain ⟨o', n', g', e1, e2, e3, e4, e5, e6, e7, e8, _⟩ := round1_facts G (j := i - 1) (List.getElem?_eq_getElem hi) (List.getElem?_eq_getElem hc) (List.getElem?_eq_getElem hg)
  have e : i - 1 + 1 = i := by omega
  rw [e] at e1 e4 e8
  exact ⟨e4, e8, by rw [e1, List.length_set]⟩
end
def relThrough (K : PySem.W.Frag) (C : Addr) : Hp → List D → (D → Hp → Prop) → Prop := fun H ds P => ∃ w r o rd td ls k g c W, ds = [.ref w, .ref k] ∧ TAt K H C w r o rd td ls k g c W ∧ Good W ∧ 2 ≤ W.rows.length ∧ W.rows.length ≤ 24 ∧ W.told.length ≤ 500 ∧
  P = fun d H' => d = .bl true ∧ Kp K (w :: rd :: td :: g :: c :: ls) H H'
section
variable {P : Program} {w : World} {K : PySem.W.Frag} {mg : Str → Option Value} {base : Heap} {C : Addr}
abbrev sThrough : Stmt := top 51
theorem scThrough : FnScope ["_law_world_here", "_law_know", "_law_turn", "_law_ahead", "_law_one", "_law_end", "_law_log", "_law_sure"] ["_law_world_here", "_law_know"] (defScope sThrough) := ⟨rfl, rfl, rfl, by decide +kernel, rfl, by decide +kernel, by decide +kernel⟩
theorem ok_through (T : CopTxt K C) (gd : Gd K mg "_law_through" sThrough ["_law_world_here", "_law_know"]) (m_len : mg "len" = none) (m_range : mg "range" = none) (m_sorted : mg "sorted" = none) (m_list : mg "list" = none) (o_law_put : Ok P w K mg base 1 "_law_put" ["_law_world_here", "_law_deed_here"] (spI K (relWPut K)))
    (o_letter_to : OkM P w K mg base C 5 "letter_to" ["self", "other", "reign", "log", "settled"] (spF K (relLetterTo C))) (o_law_brought : Ok P w K mg base 8 "_law_brought" ["_law_world_here", "_law_letter"] (spI K (relBrought K))) (o_law_learnt : Ok P w K mg base 9 "_law_learnt" ["_law_world_here", "_law_know", "_law_told"] (spI K (relLearnt K C)))
    (o_law_stands : Ok P w K mg base 6 "_law_stands" ["_law_world_here", "_law_ahead"] (spF K (relStands K))) (o_law_alike : Ok P w K mg base 5 "_law_alike" ["_law_log", "_law_rows", "_law_place"] (spF K relAlike)) :
    Ok P w K mg base 10 "_law_through" ["_law_world_here", "_law_know"] (spI K (relThrough K C)) := by
  refine gd.imp scThrough (fun H ds d ⟨w, r, o, rd, td, ls, k, g, c, W, h1, h2⟩ => by rw [h1]; rfl) fun f cdv A outer s H E hr => ?_
  have hu := hu_of hr
  refine ⟨_,
    (pss_cons (ps_expr (pe_fn o_law_put hr (pa_cons (pv 0) (pa_cons (pe_tup (pa_cons pe_str pa_nil)) pa_nil))))
    (pss_cons (ps_for PassesOwn.never rfl (pi_range1 (by rfl) m_range (pa_cons (pplus (plen m_len (pe_dget hu (pv 0) pe_str (fun _ _ => rfl))) pe_int) pa_nil)) (pgl 2 scThrough.nd)
      (pss_cons (ps_set (i := 3) scThrough.nd rfl (Or.inl rfl) (pe_dget hu (pv 0) pe_str (fun _ _ => rfl)))
      (pss_cons (ps_for PassesOwn.never rfl (pi_list (pe_callB (call_sortedDI' rfl) (by rfl) m_sorted PyProof.Rows.boot_sorted (pa_cons (pe_dget hu (pv 0) pe_str (fun _ _ => rfl)) pa_nil))) (pgl 4 scThrough.nd)
        (pss_cons (ps_expr (pe_fn o_law_brought hr (pa_cons (pv 0) (pa_cons (pe_mt o_letter_to T.cl hr (pv 1) (pa_cons (pv 4) (pa_cons (pe_dget hu (pv 0) pe_str (fun _ _ => rfl)) (pa_cons (pe_dget hu (pv 0) pe_str (fun _ _ => rfl)) (pa_cons (pe_dget hu (pv 0) pe_str (fun _ _ => rfl)) pa_nil))))) pa_nil))))
        (pss_one (ps_expr (pe_fn o_law_learnt hr (pa_cons (pv 0) (pa_cons (pv 1) (pa_cons (pe_bm0 PySem.F.plainAttrs_list PySem.F.slot_list_pop PySem.F.type_list_pop mt_pop (pe_dget hu (pv 0) pe_str (fun _ _ => rfl))) pa_nil))))))))
      (pss_one (ps_if (pt_not (pt_val (pe_fn o_law_stands hr (pa_cons (pv 0) (pa_cons (pv 3) pa_nil)))))
        (pss_one (ps_ret pe_bl))
        pss_nil)))))
    (pss_cons (ps_set (i := 5) scThrough.nd rfl (Or.inl rfl) (plen m_len (pe_dget hu (pv 0) pe_str (fun _ _ => rfl))))
    (pss_cons (ps_for PassesOwn.never rfl (pi_list (plistvals m_list (pe_dget hu (pv 0) pe_str (fun _ _ => rfl)))) (L2.pg_unl rfl (pgs_cons (pgl 6 scThrough.nd) (pgs_cons (pgl 7 scThrough.nd) pgs_nil)))
      (pss_one (ps_if (PW.pt (pw_or (pt_cmpR op_ne (pv 7) (pv 5) (nomark _)) (pw_or1 (pt_not (pt_val (pe_fn o_law_alike hr (pa_cons (pv 6) (pa_cons (pe_dget hu (pv 0) pe_str (fun _ _ => rfl)) (pa_cons (pv 5) pa_nil)))))))))
        (pss_one (ps_ret pe_bl))
        pss_nil)))
    (pss_one (ps_ret (pe_cmpR op_eq (pe_dget hu (pv 0) pe_str (fun _ _ => rfl)) (pv 5) (nomark _)))))))), ?_⟩
  rintro ds PP ⟨w, r, o, rd, td, ls, k, g, c, W, rfl, S, G, h2, h24, htold, rfl⟩
  refine ⟨rfl, ?_⟩
  have hm4 := G.m4
  have hm1 := G.m1
  have G1 : Good (W.put 0) := G.put (by decide)
  have hL : (W.put 0).rows.length = W.rows.length + 1 := by
    show (W.rows ++ [_]).length = _
    simp
  have hlast : reignOf (W.put 0).rows (W.put 0).rows.length = (W.put 0).reign := by
    rw [hL]
    unfold reignOf
    rw [if_neg (by omega)]
    show (match (W.rows ++ [Row.mk W.reign 0])[W.rows.length + 1 - 1]? with | some r => r.reign | none => 0) = W.reign
    rw [Nat.add_sub_cancel, List.getElem?_append_right (Nat.le_refl _), Nat.sub_self]
    rfl
  have hto : (W.put 0).told = W.told := rfl
  have hot : (W.put 0).others.length = W.others.length := rfl
  have T0 := Thru.start G1 (by omega) hlast
  refine im_seq (N1 := fun H1 es1 => es1 = [some (.ref w), some (.ref k), none, none, none, none, none, none] ∧ Kp K [w] H H1 ∧ ∃ r1, TAt K H1 C w r1 o rd td ls k g c (W.put 0))
    (im_expr (ie_call (ia_ea (ds := [.ref w, deedD 0]) (ea_cons (ed_var rfl) (ea_cons (ed_tup (ea_cons ed_str ea_nil)) ea_nil)) fun H1 s1 => ⟨_, ⟨w, r, o, rd, td, ls, W, 0, rfl, S.wd.same s1, Nat.le_of_lt G.fpl, by omega, rfl⟩, ?_⟩))) ?_
  · rintro d H2 ⟨_, k2, r1, hW2⟩
    exact ⟨rfl, (Kp.of s1).trans k2, r1, (S.same s1).change k2 (fun y hy => .inl (List.mem_singleton.mp hy)) hW2 rfl rfl⟩
  rintro H1 _ ⟨rfl, k1, r1, S1⟩
  have k1' : Kp K (w :: rd :: td :: g :: c :: ls) H H1 := k1.mono (by simp)
  clear k1
  generalize W.put 0 = U at *
  obtain ⟨L, eL⟩ : ∃ L, U.rows.length = L := ⟨_, rfl⟩
  rw [eL] at T0 hL
  obtain ⟨X0, eX⟩ : ∃ X0, 7 + (L + 7) / 8 = X0 := ⟨_, rfl⟩
  rw [eX] at T0
  obtain ⟨kvs1, v1, D1⟩ := S1.wd.wd
  obtain ⟨vr, hr1, hr2⟩ := S1.wd.rows
  refine im_seq (N1 := fun H2 es2 => ∃ o2 o3 o4 U', es2 = [some (.ref w), some (.ref k), o2, o3, o4, none, none, none] ∧ Kp K (w :: rd :: td :: g :: c :: ls) H1 H2 ∧ TAt K H2 C w r1 o rd td ls k g c U' ∧ Thru L 0 U'.others.length U')
    (im_for1 (ie_ed (d := .int ((L + 6 : Nat) : Int)) (ED.to (ed_i2 (ed_lenL (ds := U.rows.map rowD) (ed_asL (ed_dget (key := .inr ("rows" : Str)) (ed_var rfl) ed_str D1.at_ D1.rows (.ref r1)) hr1 hr2)) ed_int) (by rw [List.length_map, eL]; congr 1)) fun H2 s2 => ⟨L + 6, rfl, by omega,
      fun t H3 es3 => ∃ o2 o3 o4 U', es3 = [some (.ref w), some (.ref k), o2, o3, o4, none, none, none] ∧ Kp K (w :: rd :: td :: g :: c :: ls) H1 H3 ∧ TAt K H3 C w r1 o rd td ls k g c U' ∧ U'.told = U.told ∧ U'.others.length = U.others.length ∧ (if t = 0 then Thru L X0 0 U' else Thru L (X0 - (t - 1)) U'.others.length U'),
      ⟨none, none, none, U, rfl, Kp.of s2, S1.same s2, rfl, rfl, by rw [if_pos rfl]; exact T0⟩, ?_, ?_⟩)) ?_
  · rintro t H3 es3 ht ⟨o2, o3, o4, V1, rfl, k3, S3, e1, e2, hT⟩
    have T1 : Thru L (X0 - t) 0 V1 := by
      by_cases h0 : t = 0
      · rw [if_pos h0] at hT
        subst h0
        exact hT
      · rw [if_neg h0] at hT
        have q := hT.turn
        have e : X0 - (t - 1) - 1 = X0 - t := by omega
        rw [e] at q
        exact q
    obtain ⟨kvs3, v3, D3⟩ := S3.wd.wd
    refine im_seq (N1 := fun H4 es4 => es4 = [some (.ref w), some (.ref k), some (.int (t : Nat)), some (.int (V1.settled : Nat)), o4, none, none, none] ∧ Same H3 H4)
      (im_set (ie_ed (d := .int (V1.settled : Nat)) (ed_dget (key := .inr ("settled" : Str)) (ed_var rfl) ed_str D3.at_ D3.set (.int _)) fun H4 s4 => ⟨rfl, rfl, s4⟩)) ?_
    rintro H4 _ ⟨rfl, s4⟩
    have S4 := S3.same s4
    have D4 := D3.same s4
    have hls : ls.length = U.others.length := by rw [S4.wd.len, e2]
    refine im_seq (N1 := fun H5 es5 => ∃ o4 V2, es5 = [some (.ref w), some (.ref k), some (.int (t : Nat)), some (.int (V1.settled : Nat)), o4, none, none, none] ∧ Kp K (w :: rd :: td :: g :: c :: ls) H1 H5 ∧ TAt K H5 C w r1 o rd td ls k g c V2 ∧ V2.told = U.told ∧ V2.others.length = U.others.length ∧ Thru L (X0 - t) V2.others.length V2 ∧ Stands V1.settled V2)
      (im_forL (ks := (List.range' 1 ls.length).map fun i => ((i : Nat) : Int)) (el_sortD (ed_dget (key := .inr ("others" : Str)) (ed_var rfl) ed_str D4.at_ D4.oth (.ref o)) S4.wd.od (tabO_keys ls 1) ?_ (by simp; omega)) fun A H5 s5 hA hA5 =>
        ⟨fun i H6 es6 => H6 A = some (.lst (((List.range' 1 ls.length).map fun i => ((i : Nat) : Int)).map L2.V.int)) ∧ ∃ o4 V2, es6 = [some (.ref w), some (.ref k), some (.int (t : Nat)), some (.int (V1.settled : Nat)), o4, none, none, none] ∧ Kp K (w :: rd :: td :: g :: c :: ls) H1 H6 ∧ TAt K H6 C w r1 o rd td ls k g c V2 ∧ V2.told = U.told ∧ V2.others.length = U.others.length ∧ Thru L (X0 - t) i V2 ∧ Stands V1.settled V2,
          ⟨hA5, o4, V1, rfl, k3.trans (Kp.of (s4.trans s5)), S4.same s5, e1, e2, T1, Stands.start V1⟩, fun i H6 es6 _ p => p.1, ?_, ?_⟩) ?_
    · rw [List.pairwise_map]
      exact (List.pairwise_lt_range' (s := 1) (n := ls.length)).imp fun h => by omega
    · rintro i kk0 H6 es6 hk ⟨hA6, o4', V2, rfl, k6, S6, q1, q2, T6, St6⟩
      have hiL : i < ls.length := by
        have := (List.getElem?_eq_some_iff.mp hk).1
        simpa using this
      have ek : kk0 = ((i + 1 : Nat) : Int) := by
        rw [List.getElem?_map, List.getElem?_range' hiL] at hk
        have := Option.some.inj hk
        rw [← this]
        congr 1
        omega
      subst ek
      have G6 := T6.good
      have hlen : V2.rows.length ≤ 40 := by rw [T6.len]; exact T6.l40
      have hi2 : i < V2.others.length := by omega
      have i1 : 1 ≤ i + 1 := by omega
      have i2 : i + 1 ≤ V2.others.length := by omega
      have hlo := G6.letOk i1 i2
      have hto6 : (V2.letterTo (i + 1)).to = i + 1 := letterTo_to (i + 1)
      obtain ⟨xo, hxo⟩ := G6.at_let hlo
      obtain ⟨b1, b2, b3, b4, b5, b6⟩ := bring_facts G6 hlo
      have hNot := S4.newNotin hA
      refine im_seq (N1 := fun H7 es7 => es7 = [some (.ref w), some (.ref k), some (.int (t : Nat)), some (.int (V1.settled : Nat)), some (.int ((i + 1 : Nat) : Int)), none, none, none] ∧ Kp K (td :: ls) H6 H7 ∧ TAt K H7 C w r1 o rd td ls k g c (V2.bring (V2.letterTo (i + 1))))
        (im_expr (ie_call (ia_ea (ds := [.ref w, letD (V2.letterTo (i + 1))]) (ea_cons (ed_var rfl) (ea_cons (ed_letter S6.wd S6.kn G6 rfl rfl (ed_var rfl) i1 i2) ea_nil)) fun H7 s7 => ⟨_, ⟨w, r1, o, rd, td, ls, V2, V2.letterTo (i + 1), xo, rfl, (S6.same s7).wd, hlo.to1.1, hxo, letPre_of G6 hlen hlo (List.mem_of_getElem? hxo), by rw [q1, hto]; omega, rfl⟩, ?_⟩))) ?_
      · rintro d H8 ⟨_, k8, hW8⟩
        exact ⟨rfl, (Kp.of s7).trans k8, (S6.same s7).change k8 (fun y hy => .inr ((S6.same s7).wd.lists y hy)) hW8 b4 b5⟩
      rintro H7 _ ⟨rfl, k7, S7⟩
      obtain ⟨kvs7, v7, D7⟩ := S7.wd.wd
      obtain ⟨vt, ht1, ht2⟩ := S7.wd.told
      have eans : V2.answer (V2.letterTo (i + 1)) = ⟨(V2.letterTo (i + 1)).to, (heard xo.log xo.sure (V2.letterTo (i + 1))).good, (heard xo.log xo.sure (V2.letterTo (i + 1))).place⟩ := by
        unfold Wd.answer
        rw [hxo]
      have etold : (V2.bring (V2.letterTo (i + 1))).told = V2.told ++ [V2.answer (V2.letterTo (i + 1))] := by
        rw [eans, bring_some hxo]
      rw [etold, List.map_append] at ht2
      obtain ⟨a1, a2, a3, a4, a5⟩ := answer_ok G6 hlen i1 i2
      have hvl : vt.length - 1 = V2.told.length := by rw [ht2.length]; simp
      obtain ⟨va, hva, rva⟩ := ht2.get (i := V2.told.length) (d := toldD (V2.answer (V2.letterTo (i + 1)))) (by rw [List.getElem?_append_right (by simp)]; simp)
      have edl : (V2.told.map toldD ++ [V2.answer (V2.letterTo (i + 1))].map toldD).dropLast = V2.told.map toldD := List.dropLast_concat
      have key : ∀ H10, Same H7 H10 → TAt K (upd H10 td (.lst vt.dropLast)) C w r1 o rd td ls k g c { V2.bring (V2.letterTo (i + 1)) with told := V2.told } := fun H10 s10 =>
        (S7.same s10).change (xs := [td]) (Kp.lst (s10 _ _ ht1) (by simp)) (fun y hy => .inr ⟨_, (List.mem_singleton.mp hy) ▸ s10 _ _ ht1⟩) ((S7.same s10).wd.putTold (ts := V2.told) (s10 _ _ ht1) (by rw [← edl]; exact RpL.dropLast (RpL.same s10 _ _ ht2))) rfl rfl
      refine im_expr (ie_call (ia_cons (ie_ed (ed_var rfl) fun H8 s8 => ⟨rfl, ia_cons (ie_ed (ed_var rfl) fun H9 s9 => ⟨rfl, ia_cons (ie_pop (ed_dget (key := .inr ("told" : Str)) (ed_var rfl) ed_str ((s8.trans s9) _ _ D7.at_) D7.told (.ref td)) ((s8.trans s9) _ _ ht1) fun H10 s10 => ⟨va, toldD (V2.answer (V2.letterTo (i + 1))), by rw [hvl]; exact hva, rva.same ((s8.trans s9).trans s10), rfl, rfl, ia_nil ⟨_, ⟨w, r1, o, rd, td, ls, { V2.bring (V2.letterTo (i + 1)) with told := V2.told }, k, g, c, V2.answer (V2.letterTo (i + 1)), rfl, ?_, ?_, S7.ne.1, S7.ne.2.1, S7.ne.2.2.1, S7.ne.2.2.2, a2, by rw [a1.gotl]; exact a3, a1.gotl, a1.fp, a1.settled, ?_, rfl⟩, ?_⟩⟩)⟩)⟩)))
      · exact (key H10 ((s8.trans s9).trans s10)).wd
      · exact (key H10 ((s8.trans s9).trans s10)).kn
      · show (V2.bring (V2.letterTo (i + 1))).rows.length ≤ 900
        rw [b1]
        omega
      · rintro d H11 ⟨_, k11, hW11, hK11⟩
        have s710 := (s8.trans s9).trans s10
        have kp1 : Kp K [td] H10 (upd H10 td (.lst vt.dropLast)) := Kp.lst (s710 _ _ ht1) (by simp)
        have ktot : Kp K (w :: rd :: td :: g :: c :: ls) H6 H11 := (((k7.mono (by
          intro b hb
          rcases List.mem_cons.mp hb with q | q
          · simp [q]
          · simp [q])).trans (Kp.of s710)).trans (kp1.mono (by simp))).trans (k11.mono (by
          intro b hb
          simp only [List.mem_cons, List.not_mem_nil, or_false] at hb
          rcases hb with q | q | q <;> simp [q]))
        obtain ⟨c1, c2, c3⟩ := round1_same G6 i1 i2
        exact ⟨ktot.keep _ _ hA6 hNot, _, V2.round1 (i + 1), rfl, k6.trans ktot, ⟨hW11, hK11, S7.ne⟩, c2.trans q1, c3.trans q2, (T6.step hi2).1, St6.round1 G6 hlen i1 i2⟩
    · rintro H6 es6 ⟨_, o4', V2, rfl, k6, S6, q1, q2, T6, St6⟩
      have e : ((List.range' 1 ls.length).map fun i => ((i : Nat) : Int)).length = V2.others.length := by
        rw [List.length_map, List.length_range']
        omega
      rw [e] at T6
      exact ⟨o4', V2, rfl, k6, S6, q1, q2, T6, St6⟩
    · rintro H5 _ ⟨o4', V2, rfl, k5, S5, q1, q2, T5, St5⟩
      have h900 : V2.rows.length ≤ 900 := by
        rw [T5.len]
        have := T5.l40
        omega
      refine im_if (b := false) (eb_not (b := true) (eb_tB (ed_call (ds := [.ref w, .int (V1.settled : Nat)]) (ea_cons (ed_var rfl) (ea_cons (ed_var rfl) ea_nil)) fun H6 s6 => ⟨w, r1, o, rd, td, ls, V2, V1.settled, rfl, S5.wd.same s6, T5.good, St5, h900, rfl⟩))) (fun z => by cases z) fun _ H6 s6 => im_next ⟨_, _, _, V2, rfl, k5.trans (Kp.of s6), S5.same s6, q1, q2, ?_⟩
      rw [if_neg (by omega)]
      exact T5
  · rintro H2 es2 ⟨o2, o3, o4, V2, rfl, k2, S2, q1, q2, T2⟩
    refine ⟨o2, o3, o4, V2, rfl, k2, S2, ?_⟩
    rw [if_neg (by omega)] at T2
    have e : X0 - (L + 6 - 1) = 0 := by omega
    rw [e] at T2
    exact T2
  · rintro H2 _ ⟨o2, o3, o4, V2, rfl, k2, S2, T2⟩
    obtain ⟨hset, hall⟩ := T2.fin
    obtain ⟨kvs2, v2, D2⟩ := S2.wd.wd
    obtain ⟨vq, hq1, hq2⟩ := S2.wd.rows
    have h40 := T2.l40
    have kall := k1'.trans k2
    refine im_so (N' := fun _ => False) (R' := fun d => d = .bl true) ?_ (fun _ _ _ z => z.elim) fun d H3 s3 hd => ⟨(kall.trans (Kp.of s3)).tle, hd, kall.trans (Kp.of s3)⟩
    refine so_seqset (d := .int (L : Nat)) (ED.to (ed_lenL (ds := V2.rows.map rowD) (ed_asL (ed_dget (key := .inr ("rows" : Str)) (ed_var rfl) ed_str D2.at_ D2.rows (.ref r1)) hq1 hq2)) (by rw [List.length_map, T2.len])) ?_
    refine so_seq (N1 := fun es2 => ∃ o6 o7, es2 = [some (.ref w), some (.ref k), o2, o3, o4, some (.int (L : Nat)), o6, o7])
      (so_for (ei_list (ed_vals S2.wd D2 rfl)) (fun _ es2 => ∃ o6 o7, es2 = [some (.ref w), some (.ref k), o2, o3, o4, some (.int (L : Nat)), o6, o7]) ⟨none, none, rfl⟩ ?_ fun es2 h => h) ?_
    · rintro i es2 d hi hd ⟨p6, p7, rfl⟩
      rw [List.getElem?_map] at hd
      obtain ⟨x, hx, rfl⟩ := Option.map_eq_some_iff.mp hd
      have hmem := List.mem_of_getElem? hx
      obtain ⟨fx, sx⟩ := T2.good.others x hmem
      obtain ⟨x1, x2⟩ := hall x hmem
      refine ⟨_, eg_unl2, so_if (b := false) (eb_or (a := false) (eb_tTest (ED.to (ed_neI (ed_var rfl) (ed_var rfl)) (by rw [x1]; simp))) fun _ => eb_not (b := true) (eb_tB (ed_call (ds := [logD x.log, .lst (V2.rows.map rowD), .int (L : Nat)]) (ea_cons (ed_var rfl) (ea_cons (ed_asL (ed_dget (key := .inr ("rows" : Str)) (ed_var rfl) ed_str D2.at_ D2.rows (.ref r1)) hq1 hq2) (ea_cons (ed_var rfl) ea_nil))) fun H1 s1 => ⟨V2.rows, x.log, x.sure, x.c, V2.others.length, L, rfl, T2.good.rows, fx, by rw [T2.len]; exact Nat.le_refl _, by rw [T2.len]; omega, by rw [x2]; simp⟩))) (fun q => by cases q) fun _ => so_next ⟨_, _, rfl⟩⟩
    · rintro es2 ⟨p6, p7, rfl⟩
      refine so_ret (ed_eqI (ed_dget (key := .inr ("settled" : Str)) (ed_var rfl) ed_str D2.at_ D2.set (.int _)) (ed_var rfl)) ?_
      rw [hset]
      simp
end
end Sh

/-! ### the world's making -/
namespace Sh
open PySem L2
/-- as a world begins -/
structure Pre (W : Wd) : Prop where
  m1 : 1 ≤ W.others.length
  m4 : W.others.length ≤ 4
  rows : RowsOk W.rows
  len : 1 ≤ W.rows.length
  l12 : W.rows.length ≤ 12
  reign : W.reign % 2 = 0
  reign1 : 2 ≤ W.reign
  reign2 : W.reign ≤ 1000
  fp : W.fp ≤ W.settled
  settled : W.settled ≤ W.rows.length
  others : ∀ o ∈ W.others, Fol W.rows W.others.length o.log o.sure o.c ∧ o.sure ≤ W.settled
  road : W.road = []
  told : W.told = []
  got : W.got = List.replicate W.others.length 0
  coming : W.coming = List.replicate W.others.length (W.rows.length + 1)
theorem Pre.put {W : Wd} (G : Pre W) {d : Nat} (hd : d < 3) : Good (W.put d) := by
  have hr : RowsOk (W.rows ++ [⟨W.reign, d⟩]) := G.rows.append G.reign G.reign2 hd
  have hlen : (W.rows ++ [(⟨W.reign, d⟩ : Row)]).length = W.rows.length + 1 := by simp
  have h1 := G.fp
  have h2 := G.settled
  refine ⟨G.m1, G.m4, hr, by show 1 ≤ (W.rows ++ [_]).length; omega, G.reign, G.reign1, G.reign2, G.fp, by show W.fp < (W.rows ++ [_]).length; omega, by show W.settled ≤ (W.rows ++ [_]).length; omega, fun o ho => ⟨(G.others o ho).1.append _, (G.others o ho).2⟩, fun l hl => ?_, fun t ht => ?_, ?_, ?_, fun i g o h1 h2 => ?_, fun i g n h1 h2 => ?_⟩
  · have hl : l ∈ W.road := hl
    rw [G.road] at hl
    simp at hl
  · have ht : t ∈ W.told := ht
    rw [G.told] at ht
    simp at ht
  · show W.got.length = W.others.length
    rw [G.got, List.length_replicate]
  · show W.coming.length = W.others.length
    rw [G.coming, List.length_replicate]
  · have h1 : W.got[i]? = some g := h1
    rw [G.got, List.getElem?_replicate] at h1
    split at h1
    · cases h1
      omega
    · cases h1
  · have h1 : W.got[i]? = some g := h1
    have h2 : W.coming[i]? = some n := h2
    rw [G.got, List.getElem?_replicate] at h1
    rw [G.coming, List.getElem?_replicate] at h2
    show g + 1 ≤ n ∧ n ≤ (W.rows ++ [_]).length + 1
    by_cases hi : i < W.others.length
    · rw [if_pos hi] at h1 h2
      have a := Option.some.inj h1
      have b := Option.some.inj h2
      omega
    · rw [if_neg hi] at h1
      cases h1
theorem tabO_app : ∀ (ls : List Addr) (b : Nat) (l : Addr), tabO b (ls ++ [l]) = tabO b ls ++ [(.inl ((b + ls.length : Nat) : Int), .ref l)]
  | [], b, l => rfl
  | m :: ls, b, l => by
    show (Sum.inl ((b : Nat) : Int), V.ref m) :: tabO (b + 1) (ls ++ [l]) = _
    rw [tabO_app ls (b + 1) l, List.length_cons]
    have : b + 1 + ls.length = b + (ls.length + 1) := by omega
    rw [this]
    rfl
theorem tabO_new (ls : List Addr) (l : Addr) : putK (tabO 1 ls) (.inl ((1 + ls.length : Nat) : Int)) (.ref l) = tabO 1 (ls ++ [l]) := by
  rw [tabO_app, putK_new]
  rw [tabO_at, List.getElem?_eq_none (Nat.le_refl _)]
  rfl
theorem ie_disp3 {K : PySem.W.Frag} {H : Hp} {es : Es} {ta : TE} {k1 k2 k3 : Str} {i : Int} {PQ : D → Hp → Prop} (h : ∀ H1, Same H H1 → ED K H1 ta es (.int i)) (n1 : ¬ k1 = k2) (n2 : ¬ k1 = k3) (n3 : ¬ k2 = k3)
    (q : ∀ p a b H2, Same H H2 → H p = none → H a = none → H b = none → a ≠ b → p ≠ a → p ≠ b → H2 p = some (.dK []) → H2 a = some (.lst []) → H2 b = some (.lst []) → PQ (.ref p) (upd H2 p (.dK [(.inr k1, .int i), (.inr k2, .ref a), (.inr k3, .ref b)]))) :
    IE K H (tDisp [(tC (.str k1), ta), (tC (.str k2), tLst tNil), (tC (.str k3), tLst tNil)]) es PQ := fun σ Q e n k => fun p hp => by
  have s1 : Same H (upd H p (.dK [])) := Same.new hp
  refine h _ s1 σ _ (Same.refl _) (e.same s1) _ fun x H2 s2 r2 => ?_
  rw [r2.int_eq]
  refine ⟨Nat.zero_le _, fun a ha => ?_⟩
  refine ⟨Nat.zero_le _, fun b hb => ?_⟩
  have s12 := s1.trans s2
  have s3 : Same H2 (upd H2 a (.lst [])) := Same.new ha
  have s4 : Same (upd H2 a (.lst [])) (upd (upd H2 a (.lst [])) b (.lst [])) := Same.new hb
  have sall := (s12.trans s3).trans s4
  have hp4 := (s2.trans (s3.trans s4)) _ _ (upd_same (H := H) (a := p) (o := HO.dK []))
  have pa : p ≠ a := fun z => by
    have := s2 _ _ (upd_same (H := H) (a := p) (o := HO.dK []))
    rw [z, ha] at this
    cases this
  have hb2 : H2 b = none := s3.free hb
  have ab : a ≠ b := fun z => by
    rw [← z, upd_same] at hb
    cases hb
  have pb : p ≠ b := fun z => by
    have := s2 _ _ (upd_same (H := H) (a := p) (o := HO.dK []))
    rw [z, hb2] at this
    cases this
  refine ⟨hp4, [(.inr k1, .int i), (.inr k2, .ref a), (.inr k3, .ref b)], rfl, by show 3 ≤ 15; decide, ?_⟩
  rw [mergeK_nd (by
    have e1 : ¬ (Sum.inr k1 : Key) = Sum.inr k2 := fun z => n1 (by injection z)
    have e2 : ¬ (Sum.inr k1 : Key) = Sum.inr k3 := fun z => n2 (by injection z)
    have e3 : ¬ (Sum.inr k2 : Key) = Sum.inr k3 := fun z => n3 (by injection z)
    simp [e1, e2, e3])]
  exact k _ _ (.ref p) (.ref p) ((TLe.of sall).trans (TLe.dK hp4)) (q p a b _ sall hp (s12.free ha) (s12.free hb2) ab pa pb hp4 (s4 _ _ upd_same) upd_same)
theorem atI_last {xs : List Row} (z : xs ≠ []) : atI (xs.map rowD) (-1) = some (rowD (xs.getLast z)) := by
  have e := List.dropLast_concat_getLast z
  have e2 : xs.map rowD = (xs.dropLast.map rowD) ++ [rowD (xs.getLast z)] := by
    conv => lhs; rw [← e]
    rw [List.map_append]
    rfl
  rw [e2]
  unfold atI ixN
  rw [List.length_append, List.length_singleton, if_neg (by decide), if_pos (by omega)]
  show ((xs.dropLast.map rowD) ++ [rowD (xs.getLast z)])[((-1 : Int) + ((xs.dropLast.map rowD).length + 1 : Nat)).toNat]? = _
  have e3 : ((-1 : Int) + ((xs.dropLast.map rowD).length + 1 : Nat)).toNat = (xs.dropLast.map rowD).length := by omega
  rw [e3, List.getElem?_append_right (Nat.le_refl _), Nat.sub_self]
  rfl
theorem reignOf_26 {rows : List Row} (h : ∀ x ∈ rows, x.reign ≤ 26) (p : Nat) : reignOf rows p ≤ 26 := by
  unfold reignOf
  split
  · omega
  · split
    · rename_i r e
      exact h r (List.mem_of_getElem? e)
    · omega
theorem lastReign_26 {rows : List Row} (h : ∀ x ∈ rows, x.reign ≤ 26) (p e m : Nat) : lastReign ⟨p, reignOf rows p, m, (rows.take e).drop p⟩ ≤ 26 := by
  unfold lastReign
  show (match ((rows.take e).drop p).getLast? with | some r => r.reign | none => reignOf rows p) ≤ 26
  split
  · rename_i r q
    exact h r (List.mem_of_mem_take (List.mem_of_mem_drop (List.mem_of_getLast? q)))
  · exact reignOf_26 h p
theorem LsAt.nst {K : PySem.W.Frag} {H : Hp} {a st : Addr} {ds : List D} {n : Nat} (h : LsAt K H a ds) (hs : StAt H st n) : a ∉ [st] := by
  obtain ⟨kvs, e⟩ := hs.dict
  simpa using h.ne e
theorem LsAt.draw {K : PySem.W.Frag} {H H' : Hp} {a st : Addr} {rows : List Row} {n : Nat} (h : LsAt K H a (rows.map rowD)) (hs : StAt H st n) (k : Kp K [st] H H') : LsAt K H' a (rows.map rowD) := h.kp k (h.nst hs) (noLs_map noL_row)
def relWorld (K : PySem.W.Frag) : Hp → List D → (D → Hp → Prop) → Prop := fun H ds P => ∃ st n, ds = [.ref st] ∧ StAt H st n ∧ n ≤ 100 ∧
  P = fun d H' => ∃ w r o rd td ls W n', d = .ref w ∧ WAt K H' w r o rd td ls W ∧ StAt H' st n' ∧ n' ≤ n + 200 ∧ Pre W ∧ Kp K [st] H H' ∧ ∀ x ∈ w :: o :: rd :: td :: ls, H x = none
section
variable {P : Program} {w : World} {K : PySem.W.Frag} {mg : Str → Option Value} {base : Heap} {C : Addr}
abbrev sWorld : Stmt := top 45
theorem scWorld : FnScope ["_law_state", "_law_rows", "_law_settled", "_law_fold", "_law_many", "_law_others", "_law_one", "_law_log", "_law_reign", "_law_found"] ["_law_state"] (defScope sWorld) := ⟨rfl, rfl, rfl, by decide +kernel, rfl, by decide +kernel, by decide +kernel⟩
theorem ok_world (gd : Gd K mg "_law_world" sWorld ["_law_state"]) (m_len : mg "len" = none) (m_range : mg "range" = none) (m_tuple : mg "tuple" = none) (o_law_take : Ok P w K mg base 2 "_law_take" ["_law_state", "_law_many"] (spI K (relTake K))) (o_law_history : Ok P w K mg base 4 "_law_history" ["_law_state", "_law_many"] (spI K (relHistory K)))
    (o_law_log_to : Ok P w K mg base 3 "_law_log_to" ["_law_state", "_law_rows", "_law_least", "_law_most"] (spI K (relLogTo K))) (o_law_strayed : Ok P w K mg base 4 "_law_strayed" ["_law_state", "_law_log"] (spI K (relStrayed K))) : Ok P w K mg base 5 "_law_world" ["_law_state"] (spI K (relWorld K)) := by
  refine gd.imp scWorld (fun H ds d ⟨st, n, h1, h2⟩ => by rw [h1]; rfl) fun f cdv A outer s H E hr => ?_
  have hu := hu_of hr
  refine ⟨_,
    (pss_cons (ps_set (i := 1) scWorld.nd rfl (Or.inl rfl) (pe_fn o_law_history hr (pa_cons (pv 0) (pa_cons (pplus pe_int (pe_fn o_law_take hr (pa_cons (pv 0) (pa_cons pe_int pa_nil)))) pa_nil))))
    (pss_cons (ps_set (i := 2) scWorld.nd rfl (Or.inl rfl) (pe_fn o_law_take hr (pa_cons (pv 0) (pa_cons (pplus (plen m_len (pv 1)) pe_int) pa_nil))))
    (pss_cons (ps_set (i := 3) scWorld.nd rfl (Or.inl rfl) (px (pe_fn o_law_log_to hr (pa_cons (pv 0) (pa_cons (pv 1) (pa_cons (pv 2) (pa_cons (pv 2) pa_nil))))) pe_int))
    (pss_cons (ps_set (i := 4) scWorld.nd rfl (Or.inl rfl) (pplus pe_int (pe_fn o_law_take hr (pa_cons (pv 0) (pa_cons pe_int pa_nil)))))
    (pss_cons (ps_set (i := 3) scWorld.nd rfl (Or.inl rfl) (pe_op op_catA (pe_op op_catA (pe_slice sl_tupA (pv 3) po_none (po_some pe_int)) (pe_tup (pa_cons (pe_tupRg rfl (by rfl) m_tuple (prg_1 (by rfl) m_range (pplus (pv 4) pe_int))) pa_nil))) (pe_slice sl_tupA (pv 3) (po_some pe_int) po_none)))
    (pss_cons (ps_set (i := 5) scWorld.nd rfl (Or.inl rfl) pe_dnewK)
    (pss_cons (ps_for PassesOwn.never rfl (pi_range2 (by rfl) m_range (pa_cons pe_int (pa_cons (pplus (pv 4) pe_int) pa_nil))) (pgl 6 scWorld.nd)
      (pss_cons (ps_set (i := 7) scWorld.nd rfl (Or.inl rfl) (pe_fn o_law_strayed hr (pa_cons (pv 0) (pa_cons (pe_fn o_law_log_to hr (pa_cons (pv 0) (pa_cons (pv 1) (pa_cons (pe_fn o_law_take hr (pa_cons (pv 0) (pa_cons (pplus (pv 2) pe_int) pa_nil))) (pa_cons (pv 2) pa_nil))))) pa_nil))))
      (pss_one (ps_dput hu (pv 5) (pv 6) (pe_lst (pa_cons (pe_tup (pa_cons (pe_op op_catA (pe_op op_catA (pe_slice sl_tupA (px (pv 7) pe_int) po_none (po_some pe_int)) (pe_tup (pa_cons (px (pv 3) pe_int) pa_nil))) (pe_slice sl_tupA (px (pv 7) pe_int) (po_some pe_int) po_none)) (pa_cons (px (pv 7) pe_int) pa_nil))) (pa_cons (px (px (pv 7) pe_int) pe_int) pa_nil))) rfl))))
    (pss_cons (ps_set (i := 8) scWorld.nd rfl (Or.inl rfl) (pplus (px (pxl (pv 1) (pe_un un_neg pe_int)) pe_int) pe_int))
    (pss_cons (ps_set (i := 9) scWorld.nd rfl (Or.inl rfl) (pe_disp (pps_cons pe_str (pv 1) (pps_cons pe_str (pe_tup (pa_cons (pv 3) (pa_cons (pe_callTy call_tup (by rfl) m_tuple PyProof.Rows.boot_tuple (pa_cons (pe_slice sl_list (pv 1) (po_some (px (pv 3) pe_int)) po_none) pa_nil)) pa_nil))) (pps_cons pe_str (pv 2) (pps_cons pe_str (pv 5) pps_nil)))) (by rfl) (by rfl) (fun z => by cases z) (by decide)))
    (pss_cons (ps_expr (pdupdate (pv 9) (pa_cons (pe_disp (pps_cons pe_str (pv 8) (pps_cons pe_str (pe_lst pa_nil) (pps_cons pe_str (pe_lst pa_nil) pps_nil))) (by rfl) (by rfl) (fun z => by cases z) (by decide)) pa_nil)))
    (pss_one (ps_ret (pv 9))))))))))))), ?_⟩
  rintro ds PP ⟨st, n, rfl, hs, hn, rfl⟩
  refine ⟨rfl, ?_⟩
  refine im_seq (N1 := fun H1 es1 => ∃ (r : Addr) (rows : List Row) (n1 : Nat), es1 = [some (.ref st), some (.ref r), none, none, none, none, none, none, none, none] ∧ H r = none ∧ LsAt K H1 r (rows.map rowD) ∧ 1 ≤ rows.length ∧ rows.length ≤ 12 ∧ (∀ x ∈ rows, x.reign % 2 = 0 ∧ 2 ≤ x.reign ∧ x.reign ≤ 26 ∧ x.deed < 3) ∧ StAt H1 st n1 ∧ n1 ≤ n + 25 ∧ Kp K [st] H H1)
    (im_set (ie_call (ia_cons (ie_ed (ed_var rfl) fun H1 s1 => ⟨rfl, ia_cons (ie_op (ie_ed (d := .int 1) ed_int fun H2 s2 => ⟨rfl, ie_take (m := 12) (ed_var rfl) ed_int ((hs.same s1).same s2) (by omega) (by omega) (by omega) fun x H3 hx hs3 k3 => opi_i2 ⟨rfl, ia_nil ⟨_, ⟨st, n + 1, 1 + x, ?_, hs3, by omega, by omega, rfl⟩, ?_⟩⟩⟩))⟩)))) ?_
  · have : (1 : Int) + (x : Int) = ((1 + x : Nat) : Int) := by omega
    rw [this]
  · rintro d H4 ⟨p, rows, vs, rfl, hp, hp4, hr4, hlen, hall, hs4, k4⟩
    have k03 := (Kp.of (s1.trans s2)).trans k3
    exact ⟨rfl, p, rows, n + 1 + 2 * (1 + x), rfl, k03.free hp (by simpa using st_ne hs3 hp), ⟨vs, hp4, hr4⟩, by omega, by omega, fun y hy => ⟨(hall y hy).1, (hall y hy).2.1, by have := (hall y hy).2.2.1; omega, (hall y hy).2.2.2⟩, hs4, by omega, k03.trans k4⟩
  rintro H1 _ ⟨r, rows, n1, rfl, hrn, hr1, hl1, hl12, hall, hs1, hn1, k1⟩
  have h26 : ∀ x ∈ rows, x.reign ≤ 26 := fun x hx => (hall x hx).2.2.1
  refine im_seq (N1 := fun H2 es2 => ∃ sx : Nat, sx ≤ rows.length ∧ es2 = [some (.ref st), some (.ref r), some (.int (sx : Nat)), none, none, none, none, none, none, none] ∧ LsAt K H2 r (rows.map rowD) ∧ StAt H2 st (n1 + 1) ∧ Kp K [st] H H2)
    (im_set (ie_take (m := rows.length + 1) (ed_var rfl) (ED.to (ed_i2 (ed_lenL (ds := rows.map rowD) (let ⟨vs, a, b⟩ := hr1; ed_asL (ed_var rfl) a b)) ed_int) (by rw [List.length_map]; congr 1)) hs1 (by omega) (by omega) (by omega) fun x H2 hx hs2 k2 => ⟨rfl, x, by omega, rfl, hr1.draw hs1 k2, hs2, k1.trans k2⟩)) ?_
  rintro H2 _ ⟨sx, hsx, rfl, hr2, hs2, k2⟩
  obtain ⟨v2, hv2, hv2'⟩ := id hr2
  have hrs : r ≠ st := by simpa using hr2.nst hs2
  refine im_seq (N1 := fun H3 es3 => ∃ p : Nat, p ≤ sx ∧ es3 = [some (.ref st), some (.ref r), some (.int (sx : Nat)), some (foldD p (reignOf rows p) 1), none, none, none, none, none, none] ∧ LsAt K H3 r (rows.map rowD) ∧ StAt H3 st (n1 + 3) ∧ Kp K [st] H H3)
    (im_set (ie_op (ie_call (ia_ea (ds := [.ref st, .ref r, .int (sx : Nat), .int (sx : Nat)]) (ea_cons (ed_var rfl) (ea_cons (ed_var rfl) (ea_cons (ed_var rfl) (ea_cons (ed_var rfl) ea_nil)))) fun H3 s3 => ⟨_, ⟨st, r, n1 + 1, sx, sx, rows, v2, rfl, hs2.same s3, by omega, s3 _ _ hv2, RpL.same s3 _ _ hv2', hrs, Nat.le_refl _, hsx, by omega, rfl⟩, ?_⟩)))) ?_
  · rintro d H4 ⟨e, p, h1, h2, h3, rfl, hs4, k4⟩
    refine ⟨noL_log _, ie_ed (d := .int 0) ed_int fun H5 s5 => opi_ixT (ds := [foldD p (reignOf rows p) 1, rowsD ((rows.take e).drop p)]) rfl ⟨noL_fold _ _ _, p, h3, rfl, ((hr2.same s3).draw (hs2.same s3) k4).same s5, hs4.same s5, ((k2.trans (Kp.of s3)).trans k4).trans (Kp.of s5)⟩⟩
  rintro H3 _ ⟨p, hps, rfl, hr3, hs3, k3⟩
  refine im_seq (N1 := fun H4 es4 => ∃ m : Nat, 1 ≤ m ∧ m ≤ 4 ∧ es4 = [some (.ref st), some (.ref r), some (.int (sx : Nat)), some (foldD p (reignOf rows p) 1), some (.int (m : Nat)), none, none, none, none, none] ∧ LsAt K H4 r (rows.map rowD) ∧ StAt H4 st (n1 + 4) ∧ Kp K [st] H H4)
    (im_set (ie_op (ie_ed (d := .int 1) ed_int fun H4 s4 => ⟨rfl, ie_take (m := 4) (ed_var rfl) ed_int (hs3.same s4) (by omega) (by omega) (by omega) fun x H5 hx hs5 k5 => opi_i2 ⟨rfl, 1 + x, by omega, by omega, ?_, (hr3.same s4).draw (hs3.same s4) k5, hs5, (k3.trans (Kp.of s4)).trans k5⟩⟩))) ?_
  · show ([some (.ref st), some (.ref r), some (.int (sx : Nat)), some (foldD p (reignOf rows p) 1), some (.int ((1 : Int) + (x : Int))), none, none, none, none, none] : Es) = _
    have : (1 : Int) + (x : Int) = ((1 + x : Nat) : Int) := by omega
    rw [this]
  rintro H4 _ ⟨m, m1, m4, rfl, hr4, hs4, k4⟩
  have hfd : ∀ {H0 : Hp} {es : Es} {a b e : Nat} {i : Nat}, es[i]? = some (some (foldD a b e)) → ED K H0 (tVar i) es (.tup [.int a, .int b, memD e, .str "book"]) := fun h => ed_var h
  refine im_seq (N1 := fun H5 es5 => es5 = [some (.ref st), some (.ref r), some (.int (sx : Nat)), some (foldD p (reignOf rows p) m), some (.int (m : Nat)), none, none, none, none, none] ∧ Same H4 H5)
    (im_set (ie_ed (d := foldD p (reignOf rows p) m) (ED.to (ed_cat (xs := [.int p, .int (reignOf rows p : Nat), memD m]) (ys := [.str "book"]) (ED.to (ed_cat (xs := [.int p, .int (reignOf rows p : Nat)]) (ys := [memD m]) (ED.to (ed_slT (hfd rfl) eo_none (eo_some ed_int)) (congrArg D.tup (cut_0n _ 2 rfl))) (ed_tup (ea_cons (ED.to (ed_tupRg (n := ((m + 1 : Nat) : Int)) (ED.to (ed_i2 (ed_var rfl) ed_int) (by congr 1)) (by omega) (by omega)) (by rw [Int.toNat_natCast]; rfl)) ea_nil)) (by exact Nat.le_of_ble_eq_true rfl)) rfl)
      (ED.to (ed_slT (hfd rfl) (eo_some ed_int) eo_none) (congrArg D.tup (cut_n0 _ 3 rfl))) (by exact Nat.le_of_ble_eq_true rfl)) rfl) fun H5 s5 => ⟨noL_fold _ _ _, rfl, s5⟩)) ?_
  rintro H5 _ ⟨rfl, s5⟩
  have hr5 := hr4.same s5
  have hs5 := hs4.same s5
  have k5 := k4.trans (Kp.of s5)
  refine im_seq (N1 := fun H6 es6 => ∃ o : Addr, es6 = [some (.ref st), some (.ref r), some (.int (sx : Nat)), some (foldD p (reignOf rows p) m), some (.int (m : Nat)), some (.ref o), none, none, none, none] ∧ H5 o = none ∧ H6 = upd H5 o (.dK []))
    (im_set (ie_dnew fun o ho => ⟨rfl, o, rfl, ho, rfl⟩)) ?_
  rintro _ _ ⟨o, rfl, ho5, rfl⟩
  have sO : Same H5 (upd H5 o (.dK [])) := Same.new ho5
  have hos : o ≠ st := st_ne hs5 ho5
  have hoH : H o = none := k5.free ho5 (by simpa using hos)
  have hrO := hr5.same sO
  have hsO := hs5.same sO
  refine im_seq (N1 := fun H7 es7 => ∃ (ls : List Addr) (os : List Oth) (n7 : Nat) (o6 o7 : Option D), es7 = [some (.ref st), some (.ref r), some (.int (sx : Nat)), some (foldD p (reignOf rows p) m), some (.int (m : Nat)), some (.ref o), o6, o7, none, none] ∧ H7 o = some (.dK (tabO 1 ls)) ∧ ls.length = m ∧ os.length = m ∧ (∀ (j : Nat) (l : Addr) (x : Oth), ls[j]? = some l → os[j]? = some x → OwnAt K H7 l x) ∧ (∀ x ∈ os, Fol rows m x.log x.sure x.c ∧ x.sure ≤ sx) ∧ ls.Nodup ∧ (∀ l ∈ ls, H l = none) ∧ r ∉ ls ∧ LsAt K H7 r (rows.map rowD) ∧ StAt H7 st n7 ∧ n7 ≤ n1 + 4 + 10 * m ∧ Kp K [o, st] (upd H5 o (.dK [])) H7)
    (im_for2 (a := 1) (b := m + 1) ed_int (ED.to (ed_i2 (ed_var rfl) ed_int) (by congr 1)) (by omega) (fun i H7 es7 => ∃ (ls : List Addr) (os : List Oth) (n7 : Nat) (o6 o7 : Option D), es7 = [some (.ref st), some (.ref r), some (.int (sx : Nat)), some (foldD p (reignOf rows p) m), some (.int (m : Nat)), some (.ref o), o6, o7, none, none] ∧ H7 o = some (.dK (tabO 1 ls)) ∧ ls.length = i ∧ os.length = i ∧ (∀ (j : Nat) (l : Addr) (x : Oth), ls[j]? = some l → os[j]? = some x → OwnAt K H7 l x) ∧ (∀ x ∈ os, Fol rows m x.log x.sure x.c ∧ x.sure ≤ sx) ∧ ls.Nodup ∧ (∀ l ∈ ls, H l = none) ∧ r ∉ ls ∧ LsAt K H7 r (rows.map rowD) ∧ StAt H7 st n7 ∧ n7 ≤ n1 + 4 + 10 * i ∧ Kp K [o, st] (upd H5 o (.dK [])) H7)
      (fun H7 s7 => ⟨[], [], n1 + 4, none, none, rfl, s7 _ _ upd_same, rfl, rfl, fun j l x h _ => by simp at h, fun x h => by simp at h, List.nodup_nil, fun l h => by simp at h, by simp, hrO.same s7, hsO.same s7, by omega, Kp.of s7⟩) ?_ fun H7 es7 h => h) ?_
  · rintro i H7 es7 hi ⟨ls, os, n7, o6, o7, rfl, ho7, hlsl, hosl, hown, hfol, hnd, hnew, hrls, hr7, hs7, hn7, k7⟩
    have hi4 : i < 4 := by omega
    obtain ⟨v7, hv7, hv7'⟩ := id hr7
    refine im_seq (N1 := fun H8 es8 => ∃ (a e q : Nat) (rs : List Row) (n8 : Nat), a ≤ sx ∧ a ≤ e ∧ e ≤ sx ∧ q ≤ a ∧ rs.length ≤ 5 ∧ (∀ x ∈ rs, x.reign % 2 = 1 ∧ x.reign ≤ 1000 ∧ x.deed < 3) ∧ es8 = [some (.ref st), some (.ref r), some (.int (sx : Nat)), some (foldD p (reignOf rows p) m), some (.int (m : Nat)), some (.ref o), some (.int ((1 + i : Nat) : Int)), some (logD ⟨q, reignOf rows q, 1, (rows.take e).drop q ++ rs⟩), none, none] ∧ StAt H8 st n8 ∧ n8 ≤ n7 + 10 ∧ Kp K [st] H7 H8)
      (im_set (ie_call (ia_cons (ie_ed (ed_var rfl) fun H8 s8 => ⟨rfl, ia_cons (ie_call (ia_cons (ie_ed (ed_var rfl) fun H9 s9 => ⟨rfl, ia_cons (ie_ed (ed_var rfl) fun H10 s10 => ⟨rfl, ia_cons (ie_take (m := sx + 1) (ed_var rfl) (ED.to (ed_i2 (ed_var rfl) ed_int) (by congr 1)) (hs7.same ((s8.trans s9).trans s10)) (by omega) (by omega) (by omega) fun a H11 ha hs11 k11 => ⟨rfl, ia_cons (ie_ed (ed_var rfl) fun H12 s12 => ⟨rfl, ia_nil ⟨_, ⟨st, r, n7 + 1, a, sx, rows, v7, rfl, hs11.same s12, by omega, ?_, ?_, hrs, by omega, hsx, by omega, rfl⟩, ?_⟩⟩)⟩)⟩)⟩)))⟩)))) ?_
    · exact s12 _ _ (k11.notin (((s8.trans s9).trans s10) _ _ hv7) (by simpa using hrs))
    · exact RpL.same s12 _ _ (RpL.tle k11.tle _ _ (noLs_map noL_row) (RpL.same ((s8.trans s9).trans s10) _ _ hv7'))
    · rintro d H13 ⟨e, q, h1, h2, h3, rfl, hs13, k13⟩
      refine ⟨noL_log _, ia_nil ⟨_, ⟨st, n7 + 1 + 2, _, rfl, hs13, by omega, ?_, rfl⟩, ?_⟩⟩
      · show ((rows.take e).drop q).length ≤ 100
        rw [List.length_drop, List.length_take]
        omega
      · rintro d H14 ⟨n', rs, rfl, hrs5, hrall, hn', hs14, k14⟩
        refine ⟨noL_log _, a, e, q, rs, n', by omega, h1, h2, h3, hrs5, fun x hx => ?_, rfl, hs14, by omega, (((Kp.of ((s8.trans s9).trans s10)).trans k11).trans (Kp.of s12)).trans (k13.trans k14)⟩
        obtain ⟨r1, r2, r3⟩ := hrall x hx
        have := lastReign_26 h26 q e 1
        exact ⟨r1, by omega, r3⟩
    rintro H8 _ ⟨a, e, q, rs, n8, ha, hae, hes, hqa, hrs5, hrall, rfl, hs8, hn8, k8⟩
    have hr8 := hr7.draw hs7 k8
    have ho8 := k8.notin ho7 (by simpa using hos)
    have hown8 : ∀ (j : Nat) (l : Addr) (x : Oth), ls[j]? = some l → os[j]? = some x → OwnAt K H8 l x := fun j l x h1 h2 => (hown j l x h1 h2).kp k8 (by
      obtain ⟨kv, ek⟩ := hs7.dict
      simpa using (hown j l x h1 h2).ne ek)
    have hlg : ∀ {H0 : Hp} {es : Es}, es[7]? = some (some (logD ⟨q, reignOf rows q, 1, (rows.take e).drop q ++ rs⟩)) → ED K H0 (tVar 7) es (.tup [foldD q (reignOf rows q) 1, rowsD ((rows.take e).drop q ++ rs)]) := fun h => ed_var h
    have hl0 : ∀ {H0 : Hp} {es : Es}, es[7]? = some (some (logD ⟨q, reignOf rows q, 1, (rows.take e).drop q ++ rs⟩)) → ED K H0 (tOp (rIxT K) (tVar 7) (tC (.int 0))) es (.tup [.int q, .int (reignOf rows q : Nat), memD 1, .str "book"]) := fun h => ed_ixT (hlg h) ed_int rfl
    refine im_dput (ie_lst (ia_ea (ds := [logD ⟨q, reignOf rows q, m, (rows.take e).drop q ++ rs⟩, .int (q : Nat)]) (ea_cons (ed_tup (ea_cons (ED.to (ed_cat (xs := [.int q, .int (reignOf rows q : Nat), memD m]) (ys := [.str "book"]) (ED.to (ed_cat (xs := [.int q, .int (reignOf rows q : Nat)]) (ys := [memD m]) (ED.to (ed_slT (hl0 rfl) eo_none (eo_some ed_int)) (congrArg D.tup (cut_0n _ 2 rfl))) (ed_tup (ea_cons (ed_ixT (hfd rfl) ed_int rfl) ea_nil)) (by exact Nat.le_of_ble_eq_true rfl)) rfl)
      (ED.to (ed_slT (hl0 rfl) (eo_some ed_int) eo_none) (congrArg D.tup (cut_n0 _ 3 rfl))) (by exact Nat.le_of_ble_eq_true rfl)) rfl) (ea_cons (ed_ixT (hlg rfl) ed_int rfl) ea_nil))) (ea_cons (ed_ixT (hl0 rfl) ed_int rfl) ea_nil)) fun H9 s9 => ⟨by exact Nat.le_of_ble_eq_true rfl, fun l vs hl9 rv => ⟨o, .inl ((1 + i : Nat) : Int), tabO 1 ls, ed_var rfl, ed_var rfl, ((s9.trans (Same.new hl9)) _ _ ho8), by rw [tabO_len]; omega, fun H10 v s10 r10 => ?_⟩⟩))
    obtain ⟨va, vb, rfl, ra, rb⟩ := rv.two
    rw [r10.ref_eq]
    have e1 : (1 + i : Nat) = 1 + ls.length := by omega
    rw [e1, tabO_new]
    have s810 : Same H8 H10 := (s9.trans (Same.new hl9)).trans s10
    have kk : Kp K [o] H10 (upd H10 o (.dK (tabO 1 (ls ++ [l])))) := Kp.dK (s810 _ _ ho8) (by simp)
    have hl8 : H8 l = none := s9.free hl9
    have hlo : l ≠ o := fun z => by rw [z, ho8] at hl8; cases hl8
    have hl10 : H10 l = some (.lst [va, vb]) := s10 _ _ upd_same
    have k78 := (k8.trans (Kp.of s810)).mono (ys := [o, st]) (by simp)
    have kall := (k7.trans k78).trans (kk.mono (by simp))
    have hlst : l ≠ st := fun z => by
      obtain ⟨kv, ek⟩ := hs8.dict
      rw [z, ek] at hl8
      cases hl8
    have hlH : H l = none := by
      refine k5.free ?_ (by simpa using hlst)
      refine sO.free (k7.free (k8.free hl8 (by simpa using hlst)) ?_)
      simp only [List.mem_cons, List.not_mem_nil, or_false, not_or]
      exact ⟨hlo, hlst⟩
    refine ⟨ls ++ [l], os ++ [⟨⟨q, reignOf rows q, m, (rows.take e).drop q ++ rs⟩, q, e⟩], n8, _, _, rfl, upd_same, by simp [hlsl], by simp [hosl], fun j l' x h1 h2 => ?_, fun x hx => ?_, ?_, fun l' hl' => ?_, ?_, ((hr8.same s810).kp kk (by simpa using (hr8.same s810).ne (s810 _ _ ho8)) (noLs_map noL_row)), (hs8.same s810).kp kk (by simpa using Ne.symm hos), by omega, kall⟩
    · by_cases ej : j < ls.length
      · rw [List.getElem?_append_left ej] at h1
        rw [List.getElem?_append_left (by omega)] at h2
        exact ((hown8 j l' x h1 h2).same s810).kp kk (by simpa using ((hown8 j l' x h1 h2).same s810).ne (s810 _ _ ho8))
      · rw [List.getElem?_append_right (by omega)] at h1
        rw [List.getElem?_append_right (by omega)] at h2
        have j0 : j - ls.length = 0 := by
          have := (List.getElem?_eq_some_iff.mp h1).1
          simp at this
          omega
        have j1 : j - os.length = 0 := by omega
        rw [j0] at h1
        rw [j1] at h2
        cases h1
        cases h2
        have T : TLe K H9 (upd H10 o (.dK (tabO 1 (ls ++ [l])))) := (TLe.of ((Same.new hl9).trans s10)).trans kk.tle
        refine ⟨va, ?_, Rp.tle T _ _ (noL_log _) ra⟩
        rw [kk.keep _ _ hl10 (by simpa using hlo), rb.int_eq]
    · rcases List.mem_append.mp hx with z | z
      · exact hfol x z
      · rw [List.mem_singleton.mp z]
        refine ⟨⟨by show e ≤ rows.length; omega, by show q ≤ e; omega, Nat.le_refl _, rfl, rfl, rs, rfl, hrs5, hrall⟩, by show q ≤ sx; omega⟩
    · refine List.nodup_append.mpr ⟨hnd, by simp, fun x hx y hy z => ?_⟩
      rw [List.mem_singleton.mp hy] at z
      obtain ⟨j, hj, ej⟩ := List.mem_iff_getElem.mp hx
      have hj2 : j < os.length := by omega
      obtain ⟨v, ev, _⟩ := hown8 j x _ (by rw [List.getElem?_eq_getElem hj, ej]) (List.getElem?_eq_getElem hj2)
      rw [z, hl8] at ev
      cases ev
    · rcases List.mem_append.mp hl' with z | z
      · exact hnew l' z
      · rw [List.mem_singleton.mp z]
        exact hlH
    · intro z
      rcases List.mem_append.mp z with z | z
      · exact hrls z
      · obtain ⟨vs, e1, _⟩ := hr8
        rw [List.mem_singleton.mp z, hl8] at e1
        cases e1
  · rintro H7 _ ⟨ls, os, n7, o6, o7, rfl, ho7, hlsl, hosl, hown, hfol, hnd, hnew, hrls, hr7, hs7, hn7, k7⟩
    have kH7 : Kp K [st] H H7 := (k5.trans ((Kp.of sO).fresh ho5 k7))
    obtain ⟨v7, hv7, hv7'⟩ := id hr7
    have hne : rows ≠ [] := fun z => by rw [z] at hl1; simp at hl1
    refine im_seq (N1 := fun H8 es8 => es8 = [some (.ref st), some (.ref r), some (.int (sx : Nat)), some (foldD p (reignOf rows p) m), some (.int (m : Nat)), some (.ref o), o6, o7, some (.int (((rows.getLast hne).reign + 20 : Nat) : Int)), none] ∧ Same H7 H8)
      (im_set (ie_ed (d := .int (((rows.getLast hne).reign + 20 : Nat) : Int)) (ED.to (ed_i2 (ed_ixT (ds := [.int (rows.getLast hne).reign, deedD (rows.getLast hne).deed]) (ed_ixL (ds := rows.map rowD) (ed_asL (ed_var rfl) hv7 hv7') (ed_neg ed_int) (atI_last hne)) ed_int rfl) ed_int) (by congr 1)) fun H8 s8 => ⟨rfl, rfl, s8⟩)) ?_
    rintro H8 _ ⟨rfl, s8⟩
    have hr8 := hr7.same s8
    have hs8 := hs7.same s8
    have ho8 := s8 _ _ ho7
    have kH8 := kH7.trans (Kp.of s8)
    obtain ⟨v8, hv8, hv8'⟩ := id hr8
    have hown8 : ∀ (j : Nat) (l : Addr) (x : Oth), ls[j]? = some l → os[j]? = some x → OwnAt K H8 l x := fun j l x h1 h2 => (hown j l x h1 h2).same s8
    refine im_seq (N1 := fun H9 es9 => ∃ (w : Addr) (kvs : List (Key × V)) (v : V), es9 = [some (.ref st), some (.ref r), some (.int (sx : Nat)), some (foldD p (reignOf rows p) m), some (.int (m : Nat)), some (.ref o), o6, o7, some (.int (((rows.getLast hne).reign + 20 : Nat) : Int)), some (.ref w)] ∧ H8 w = none ∧ H9 w = some (.dK kvs) ∧ kvs.length = 4 ∧ valV kvs (.inr ("rows" : Str)) = some (.ref r) ∧ valV kvs (.inr ("log" : Str)) = some v ∧ Rp K H9 v (logD ⟨p, reignOf rows p, m, rows.drop p⟩) ∧ valV kvs (.inr ("settled" : Str)) = some (.int (sx : Nat)) ∧ valV kvs (.inr ("others" : Str)) = some (.ref o) ∧ Kp K [] H8 H9)
      (im_set (ie_disp [(.inr ("rows" : Str), .ref r), (.inr ("log" : Str), logD ⟨p, reignOf rows p, m, rows.drop p⟩), (.inr ("settled" : Str), .int (sx : Nat)), (.inr ("others" : Str), .ref o)]
        ⟨ed_str, ed_var rfl, ed_str, ed_tup (ea_cons (ed_var rfl) (ea_cons (ed_tupL (ds := (rows.drop p).map rowD) (ED.to (ed_slL (ds := rows.map rowD) (ed_asL (ed_var rfl) hv8 hv8') (eo_some (ed_ixT (hfd rfl) ed_int rfl)) eo_none) (by rw [cut_n0 _ p rfl, ← List.map_drop]))) ea_nil)), ed_str, ed_var rfl, ed_str, ed_var rfl, True.intro⟩ (by exact Nat.le_of_ble_eq_true rfl) (show ([.inr ("rows" : Str), .inr ("log" : Str), .inr ("settled" : Str), .inr ("others" : Str)] : List Key).Nodup by decide +kernel)
        fun w kvs H9 hw s9 hw9 hlen hk => ?_)) ?_
    · obtain ⟨x1, a1, b1⟩ := hk 0 _ _ rfl
      obtain ⟨x2, a2, b2⟩ := hk 1 _ _ rfl
      obtain ⟨x3, a3, b3⟩ := hk 2 _ _ rfl
      obtain ⟨x4, a4, b4⟩ := hk 3 _ _ rfl
      rw [b1.ref_eq] at a1
      rw [b3.int_eq] at a3
      rw [b4.ref_eq] at a4
      have kk : Kp K [w] H9 (upd H9 w (.dK kvs)) := Kp.dK hw9 (by simp)
      exact ⟨rfl, w, kvs, x2, rfl, hw, upd_same, hlen, a1, a2, Rp.tle kk.tle _ _ (noL_log _) b2, a3, a4, (Kp.of s9).fresh hw kk⟩
    rintro H9 _ ⟨w, kvs, v, rfl, hw8, hw9, hlen, a1, a2, hlogv, a3, a4, k9⟩
    have hwst : w ≠ st := fun z => by
      obtain ⟨kv, ek⟩ := hs8.dict
      rw [z, ek] at hw8
      cases hw8
    have hwo : w ≠ o := fun z => by rw [z, ho8] at hw8; cases hw8
    have hwH : H w = none := kH8.free hw8 (by simpa using hwst)
    have fresh9 : ∀ q, H9 q = none → H q = none := fun q hq => kH8.free (k9.free hq (by simp)) (by
      simp only [List.mem_singleton]
      intro z
      obtain ⟨kv, ek⟩ := hs8.dict
      have := k9.keep _ _ ek (by simp)
      rw [z, this] at hq
      cases hq)
    refine im_seq (N1 := fun H13 es13 => es13 = [some (.ref st), some (.ref r), some (.int (sx : Nat)), some (foldD p (reignOf rows p) m), some (.int (m : Nat)), some (.ref o), o6, o7, some (.int (((rows.getLast hne).reign + 20 : Nat) : Int)), some (.ref w)] ∧ ∃ rd td, WAt K H13 w r o rd td ls ⟨rows, p, sx, os, (rows.getLast hne).reign + 20, [], [], List.replicate m 0, List.replicate m (rows.length + 1)⟩ ∧ StAt H13 st n7 ∧ Kp K [st] H H13 ∧ H rd = none ∧ H td = none)
      (im_upd (b := w) (ed_var rfl) hw9 fun H10 s10 => ie_disp3 (i := (((rows.getLast hne).reign + 20 : Nat) : Int)) (fun H11 s11 => ed_var rfl) (by decide +kernel) (by decide +kernel) (by decide +kernel) fun q rd td H12 s12 hq hrd htd rdtd qrd qtd hq2 hrd2 htd2 => ?_) ?_
    · have hw10 := s10 _ _ hw9
      have hw12 := s12 _ _ hw10
      have wq : w ≠ q := fun z => by rw [← z, hw10] at hq; cases hq
      have wrd : rd ≠ w := fun z => by rw [z, hw10] at hrd; cases hrd
      have wtd : td ≠ w := fun z => by rw [z, hw10] at htd; cases htd
      obtain ⟨more, emore⟩ : ∃ more : List (Key × V), more = [(.inr ("reign" : Str), .int (((rows.getLast hne).reign + 20 : Nat) : Int)), (.inr ("road" : Str), .ref rd), (.inr ("told" : Str), .ref td)] := ⟨_, rfl⟩
      have em : mergeK kvs more = putK (putK (putK kvs (.inr ("reign" : Str)) (.int (((rows.getLast hne).reign + 20 : Nat) : Int))) (.inr ("road" : Str)) (.ref rd)) (.inr ("told" : Str)) (.ref td) := by
        rw [emore]
        rfl
      rw [← emore]
      have kq : Kp K [q] H12 (upd H12 q (.dK more)) := Kp.dK hq2 (by simp)
      have kB : Kp K [] H10 (upd H12 q (.dK more)) := (Kp.of s12).fresh hq kq
      have hwB := kB.keep _ _ hw10 (by simp)
      refine ⟨q, more, rfl, hwB, upd_same, wq, by rw [emore, hlen]; exact Nat.le_of_ble_eq_true rfl, ?_⟩
      have kC : Kp K [w] (upd H12 q (.dK more)) (upd (upd H12 q (.dK more)) w (.dK (mergeK kvs more))) := Kp.dK hwB (by simp)
      obtain ⟨H13, e13⟩ : ∃ H13, H13 = upd (upd H12 q (.dK more)) w (.dK (mergeK kvs more)) := ⟨_, rfl⟩
      rw [← e13] at kC ⊢
      have k8 : Kp K [] H8 H13 := ((k9.trans (Kp.of s10)).trans kB).fresh hw8 kC
      have hrd13 : H13 rd = some (.lst []) := kC.keep _ _ (kq.keep _ _ hrd2 (by simpa using Ne.symm qrd)) (by simpa using wrd)
      have htd13 : H13 td = some (.lst []) := kC.keep _ _ (kq.keep _ _ htd2 (by simpa using Ne.symm qtd)) (by simpa using wtd)
      have hw13 : H13 w = some (.dK (mergeK kvs more)) := by rw [e13]; exact upd_same
      have h9rd : H9 rd = none := s10.free hrd
      have h9td : H9 td = none := s10.free htd
      have h8rd : H8 rd = none := k9.free h9rd (by simp)
      have h8td : H8 td = none := k9.free h9td (by simp)
      have hls8 : ∀ l ∈ ls, ∃ u, H8 l = some u := fun l hl => by
        obtain ⟨j, hj, ej⟩ := List.mem_iff_getElem.mp hl
        have hj2 : j < os.length := by omega
        obtain ⟨v, ev, _⟩ := hown8 j l _ (by rw [List.getElem?_eq_getElem hj, ej]) (List.getElem?_eq_getElem hj2)
        exact ⟨_, ev⟩
      have notls : ∀ x, H8 x = none → x ∉ ls := fun x hx hm => by
        obtain ⟨u, eu⟩ := hls8 x hm
        rw [hx] at eu
        cases eu
      have hrne : ∀ x, H8 x = none → r ≠ x := fun x hx z => by rw [z, hx] at hv8; cases hv8
      have nd : (r :: rd :: td :: ls).Nodup := by
        refine List.nodup_cons.mpr ⟨?_, List.nodup_cons.mpr ⟨?_, List.nodup_cons.mpr ⟨notls td h8td, hnd⟩⟩⟩
        · simp only [List.mem_cons, not_or]
          exact ⟨hrne rd h8rd, hrne td h8td, hrls⟩
        · simp only [List.mem_cons, not_or]
          exact ⟨rdtd, notls rd h8rd⟩
      refine ⟨rfl, rd, td, ⟨⟨mergeK kvs more, v, ?_⟩, hr8.kp k8 (by simp) (noLs_map noL_row), k8.keep _ _ ho8 (by simp), by show ls.length = os.length; omega, fun j l x h1 h2 => (hown8 j l x h1 h2).kp k8 (by simp), ⟨[], hrd13, .nil⟩, ⟨[], htd13, .nil⟩, nd, hwo⟩, hs8.kp k8 (by simp), kH8.trans (k8.mono (by simp)), fresh9 rd h9rd, fresh9 td h9td⟩
      have eL : (Wd.log ⟨rows, p, sx, os, (rows.getLast hne).reign + 20, [], [], List.replicate m 0, List.replicate m (rows.length + 1)⟩) = ⟨p, reignOf rows p, m, rows.drop p⟩ := by
        show Log.mk p (reignOf rows p) os.length (rows.drop p) = _
        rw [hosl]
      rw [eL]
      refine ⟨hw13, ?_, ?_, ?_, Rp.tle ((TLe.of s10).trans (kB.tle.trans kC.tle)) _ _ (noL_log _) hlogv, ?_, ?_, ?_, ?_, ?_⟩
      · have l1 := length_putK kvs (.inr ("reign" : Str)) (.int (((rows.getLast hne).reign + 20 : Nat) : Int))
        have l2 := length_putK (putK kvs (.inr ("reign" : Str)) (.int (((rows.getLast hne).reign + 20 : Nat) : Int))) (.inr ("road" : Str)) (.ref rd)
        have l3 := length_putK (putK (putK kvs (.inr ("reign" : Str)) (.int (((rows.getLast hne).reign + 20 : Nat) : Int))) (.inr ("road" : Str)) (.ref rd)) (.inr ("told" : Str)) (.ref td)
        rw [em]
        omega
      · rw [em]; exact kv_put (kv_put (kv_put a1 (by decide +kernel)) (by decide +kernel)) (by decide +kernel)
      · rw [em]; exact kv_put (kv_put (kv_put a2 (by decide +kernel)) (by decide +kernel)) (by decide +kernel)
      · rw [em]; exact kv_put (kv_put (kv_put a3 (by decide +kernel)) (by decide +kernel)) (by decide +kernel)
      · rw [em]; exact kv_put (kv_put (kv_put a4 (by decide +kernel)) (by decide +kernel)) (by decide +kernel)
      · rw [em]; exact kv_put (kv_put kv_same (by decide +kernel)) (by decide +kernel)
      · rw [em]; exact kv_put kv_same (by decide +kernel)
      · rw [em]; exact kv_same
    · rintro H13 _ ⟨rfl, rd, td, hW, hs13, k13, hrd, htd⟩
      refine im_ret (ie_ed (ed_var rfl) fun H14 s14 => ⟨(k13.trans (Kp.of s14)).tle, w, r, o, rd, td, ls, _, n7, rfl, hW.same s14, hs13.same s14, by omega, ?_, k13.trans (Kp.of s14), fun x hx => ?_⟩)
      · have hlast := hall _ (List.getLast_mem hne)
        refine ⟨by show 1 ≤ os.length; omega, by show os.length ≤ 4; omega, ⟨fun x hx => ⟨(hall x hx).1, by have := (hall x hx).2.2.1; omega, (hall x hx).2.2.2⟩⟩, hl1, hl12, by show ((rows.getLast hne).reign + 20) % 2 = 0; omega, by show 2 ≤ (rows.getLast hne).reign + 20; omega, by show (rows.getLast hne).reign + 20 ≤ 1000; omega, hps, hsx, fun x hx => ?_, rfl, rfl, by show _ = List.replicate os.length 0; rw [hosl], by show _ = List.replicate os.length (rows.length + 1); rw [hosl]⟩
        show Fol rows os.length x.log x.sure x.c ∧ x.sure ≤ sx
        rw [hosl]
        exact hfol x hx
      · simp only [List.mem_cons] at hx
        rcases hx with q | q | q | q | q
        · exact q ▸ hwH
        · exact q ▸ hoH
        · exact q ▸ hrd
        · exact q ▸ htd
        · exact hnew x q
end
end Sh

/-! ### the law -/
namespace Sh
open PySem L2
theorem Kp.unfresh {K : PySem.W.Frag} {xs : List Addr} {H H' : Hp} (k : Kp K xs H H') (h : ∀ x ∈ xs, H x = none) : Kp K [] H H' := ⟨k.tle, fun b o e _ => k.keep b o e fun z => by
  rw [h b z] at e
  cases e⟩
theorem Kp.all {K : PySem.W.Frag} {H H' : Hp} (k : Kp K [] H H') : Same H H' := fun b o e => k.keep b o e (by simp)
theorem SAt.tat {K : PySem.W.Frag} {H : Hp} {C st w r o rd td : Addr} {ls : List Addr} {k g c : Addr} {n : Nat} {W : Wd} (S : SAt K H C st w r o rd td ls k g c n W) : TAt K H C w r o rd td ls k g c W := ⟨S.wd, S.kn, S.ne.2.2.2.2⟩
theorem im_ifI2 {K : PySem.W.Frag} {H : Hp} {es : Es} {te : TE} {t1 t2 : TS} {N : Hp → Es → Prop} {R : D → Hp → Prop} (h : IE K H te es fun d H1 => ∃ b, d = .bl b ∧ (b = false → Im K H1 t1 es N R) ∧ (b = true → Im K H1 t2 es N R)) : Im K H (tIfS (tNot (tB te)) t1 t2) es N R := fun σ E e n kn kr =>
  h σ _ e n fun v H1 d r T ⟨b, hb, h1, h2⟩ => by
    subst hb
    refine ⟨b, r.bl_eq, ?_⟩
    cases b with
    | true => exact h2 rfl σ E (e.tle T n) n kn kr
    | false => exact h1 rfl σ E (e.tle T n) n kn kr
def relLaw (K : PySem.W.Frag) : Hp → List D → (D → Hp → Prop) → Prop := fun H ds P => ∃ (a : Addr) (ns : List Int), ds = [.ref a] ∧ SqL K H a (ns.map V.int) ∧ ns.length ≤ 63 ∧ P = fun d _ => d = .bl true
section
variable {P : Program} {w : World} {K : PySem.W.Frag} {mg : Str → Option Value} {base : Heap} {C : Addr}
theorem fun_imp {x : Str} {st : Stmt} {ps N : List Str} {k : Nat} {rel : Hp → List D → (D → Hp → Prop) → Prop} {f : Addr} {fd : FuncData} (F : Fun K x x st f fd) (S : FnScope N ps (defScope st)) (hl : ∀ H ds P, rel H ds P → ds.length = ps.length)
    (h : ∀ (f : Addr) (cdv : Value) (A : Around) (outer : List PySem.Env) (s : Shared) (H : Hp) (E : XK), Room k (A.deeper (PyProof.Rows.envOfC x (defScope st) s.heap.objs.size f cdv)) →
      ∃ t, PSs (cxOf CX0 P w K mg base N x (defScope st) f cdv A outer s H E).nox (defBody st) t ∧ ∀ ds PP, rel H ds PP → noLs ds = true ∧ Im K H t (begun N ds) (fun H' _ => TLe K H H' ∧ PP .non H') (fun d H' => TLe K H H' ∧ PP d H')) : FnOk P w K mg base CX0 (k + 1) f fd ps (spI K rel) :=
  F.ok S (spI_len hl) fun cdv A outer s H vs Q E hr hs => let ⟨t, h1, h2⟩ := h f cdv A outer s H E hr; ⟨t, h1, spI_run hs h2⟩
abbrev sLaw : Stmt := top 52
theorem scLaw : FnScope ["_law_script", "_law_k", "_law_state", "_law_world_here", "_law_know", "_law_turn", "_law_ahead"] ["_law_script"] (defScope sLaw) := ⟨rfl, rfl, rfl, by decide +kernel, rfl, by decide +kernel, by decide +kernel⟩
theorem ok_law {f0 : Addr} {fd : FuncData} (T : CopTxt K C) (gd : Fun K "law" "law" sLaw f0 fd) (m_len : mg "len" = none) (m_range : mg "range" = none) (m_max : mg "max" = none) (m_min : mg "min" = none) (o_law_begun : Ok P w K mg base 2 "_law_begun" ["_law_script", "_law_k"] (spI K (relBegun K))) (o_law_world : Ok P w K mg base 5 "_law_world" ["_law_state"] (spI K (relWorld K)))
    (o_Copying : OkC P w K mg base C 2 "Copying" ["self", "members", "number", "end"] (spI K (relInit K C))) (o_law_put : Ok P w K mg base 1 "_law_put" ["_law_world_here", "_law_deed_here"] (spI K (relWPut K))) (o_law_moved : Ok P w K mg base 10 "_law_moved" ["_law_state", "_law_world_here", "_law_know"] (spI K (relMoved K C)))
    (o_law_stands : Ok P w K mg base 6 "_law_stands" ["_law_world_here", "_law_ahead"] (spF K (relStands K))) (o_law_through : Ok P w K mg base 10 "_law_through" ["_law_world_here", "_law_know"] (spI K (relThrough K C))) : FnOk P w K mg base CX0 11 f0 fd ["_law_script"] (spI K (relLaw K)) := by
  refine fun_imp gd scLaw (fun H ds d ⟨a, ns, h1, h2⟩ => by rw [h1]; rfl) fun f cdv A outer s H E hr => ?_
  have hu := hu_of hr
  refine ⟨_,
    (pss_cons (ps_for PassesOwn.never rfl (pi_range1 (by rfl) m_range (pa_cons (pe_callB (call_max2' rfl) (by rfl) m_max PyProof.Rows.boot_max (pa_cons pe_int (pa_cons (pe_callB (call_min2' rfl) (by rfl) m_min PyProof.Rows.boot_min (pa_cons pe_int (pa_cons (plen m_len (pv 0)) pa_nil))) pa_nil))) pa_nil)) (pgl 1 scLaw.nd)
      (pss_cons (ps_set (i := 2) scLaw.nd rfl (Or.inl rfl) (pe_fn o_law_begun hr (pa_cons (pv 0) (pa_cons (pv 1) pa_nil))))
      (pss_cons (ps_set (i := 3) scLaw.nd rfl (Or.inl rfl) (pe_fn o_law_world hr (pa_cons (pv 2) pa_nil)))
      (pss_cons (ps_set (i := 4) scLaw.nd rfl (Or.inl rfl) (pe_mk o_Copying hr (pa_cons (px (px (pe_dget hu (pv 3) pe_str (fun _ _ => rfl)) pe_int) pe_int) (pa_cons pe_int (pa_cons (plen m_len (pe_dget hu (pv 3) pe_str (fun _ _ => rfl))) pa_nil)))))
      (pss_cons (ps_expr (pe_fn o_law_put hr (pa_cons (pv 3) (pa_cons (pe_tup (pa_cons pe_str pa_nil)) pa_nil))))
      (pss_cons (ps_for PassesOwn.never rfl (pi_range1 (by rfl) m_range (pa_cons pe_int pa_nil)) (pgl 5 scLaw.nd)
        (pss_cons (ps_set (i := 6) scLaw.nd rfl (Or.inl rfl) (pe_dget hu (pv 3) pe_str (fun _ _ => rfl)))
        (pss_cons (ps_expr (pe_fn o_law_moved hr (pa_cons (pv 2) (pa_cons (pv 3) (pa_cons (pv 4) pa_nil)))))
        (pss_one (ps_if (pt_not (pt_val (pe_fn o_law_stands hr (pa_cons (pv 3) (pa_cons (pv 6) pa_nil)))))
          (pss_one (ps_ret pe_bl))
          pss_nil)))))
      (pss_one (ps_if (pt_not (pt_val (pe_fn o_law_through hr (pa_cons (pv 3) (pa_cons (pv 4) pa_nil)))))
        (pss_one (ps_ret pe_bl))
        pss_nil))))))))
    (pss_one (ps_ret pe_bl))), ?_⟩
  rintro ds PP ⟨a, ns, rfl, hS, hlen, rfl⟩
  refine ⟨rfl, ?_⟩
  have hL : ∀ {H1 : Hp} {es : Es} {i : Nat}, Same H H1 → es[i]? = some (some (.ref a)) → ED K H1 (tVar i) es (.lst (ns.map D.int)) := fun {H1 es i} s0 h σ H2 s e Q q => ed_var (K := K) (H0 := H1) h σ H2 s e Q fun v H3 s3 r3 => q v H3 s3 (by rw [r3.ref_eq]; exact .lst (((s0.trans s).trans s3).seq hS) (RpL.of_ints ns))
  obtain ⟨N, eN⟩ : ∃ N : Nat, N = max 1 (min 63 ns.length) := ⟨_, rfl⟩
  refine im_seq (N1 := fun H1 es1 => ∃ o1 o2 o3 o4 o5 o6 : Option D, es1 = [some (.ref a), o1, o2, o3, o4, o5, o6] ∧ Kp K [] H H1)
    (im_for1 (ie_ed (d := .int (N : Nat)) (ED.to (ed_max ed_int (ed_min ed_int (ed_lenL (hL (Same.refl H) rfl)))) (by rw [List.length_map]; congr 1; omega)) fun H1 s1 => ⟨N, rfl, by omega, fun _ H2 es2 => ∃ o1 o2 o3 o4 o5 o6 : Option D, es2 = [some (.ref a), o1, o2, o3, o4, o5, o6] ∧ Kp K [] H H2, ⟨none, none, none, none, none, none, rfl, Kp.of s1⟩, ?_, fun H2 es2 h => h⟩)) ?_
  · rintro i Hb es2 hi ⟨o1, o2, o3, o4, o5, o6, rfl, kb⟩
    -- the draws
    refine im_seq (N1 := fun H1 es1 => ∃ st, es1 = [some (.ref a), some (.int (i : Nat)), some (.ref st), o3, o4, o5, o6] ∧ Hb st = none ∧ StAt H1 st 0 ∧ Kp K [] Hb H1)
      (im_set (ie_call (ia_ea (ds := [.ref a, .int (i : Nat)]) (ea_cons (ed_var rfl) (ea_cons (ed_var rfl) ea_nil)) fun H1 s1 => ⟨_, ⟨a, ns, i, rfl, (kb.all.trans s1).seq hS, by omega, rfl⟩, ?_⟩))) ?_
    · rintro d H2 ⟨st, rfl, hst, hs, k2⟩
      exact ⟨rfl, st, rfl, s1.free hst, hs, (Kp.of s1).trans k2⟩
    rintro H1 _ ⟨st, rfl, hst, hs1, k1⟩
    -- the world
    refine im_seq (N1 := fun H2 es2 => ∃ w r o rd td ls W n', es2 = [some (.ref a), some (.int (i : Nat)), some (.ref st), some (.ref w), o4, o5, o6] ∧ WAt K H2 w r o rd td ls W ∧ StAt H2 st n' ∧ n' ≤ 200 ∧ Pre W ∧ Kp K [st] Hb H2 ∧ (∀ x ∈ w :: o :: rd :: td :: ls, Hb x = none) ∧ st ≠ w ∧ st ≠ o)
      (im_set (ie_call (ia_ea (ds := [.ref st]) (ea_cons (ed_var rfl) ea_nil) fun H2 s2 => ⟨_, ⟨st, 0, rfl, hs1.same s2, by omega, rfl⟩, ?_⟩))) ?_
    · rintro d H3 ⟨w, r, o, rd, td, ls, W, n', rfl, hW, hs3, hn', hP, k3, hfr⟩
      have k13 := k1.trans (Kp.of s2)
      have hne : ∀ x, H2 x = none → st ≠ x := fun x hx z => by
        obtain ⟨kv, ek⟩ := (hs1.same s2).dict
        rw [z, hx] at ek
        cases ek
      exact ⟨rfl, w, r, o, rd, td, ls, W, n', rfl, hW, hs3, by omega, hP, (k13.mono (by simp)).trans k3, fun x hx => k13.free (hfr x hx) (by simp), hne w (hfr w (by simp)), hne o (hfr o (by simp))⟩
    rintro H2 _ ⟨w, r, o, rd, td, ls, W, n', rfl, hW, hs2, hn', hP, k2, hfr, nw, no⟩
    have hm1 := hP.m1
    have hm4 := hP.m4
    obtain ⟨kvs, v, DW⟩ := hW.wd
    obtain ⟨vr, hr1, hr2⟩ := hW.rows
    have hexst : ∀ x, H2 x = none → x ≠ st := fun x hx => st_ne hs2 hx
    have hexw : ∀ x, H2 x = none → x ≠ w := fun x hx z => by rw [z, DW.at_] at hx; cases hx
    have hexo : ∀ x, H2 x = none → x ≠ o := fun x hx z => by rw [z, hW.od] at hx; cases hx
    -- the head's Copying
    refine im_seq (N1 := fun H3 es3 => ∃ k g c, es3 = [some (.ref a), some (.int (i : Nat)), some (.ref st), some (.ref w), some (.ref k), o5, o6] ∧ SAt K H3 C st w r o rd td ls k g c n' W ∧ Kp K [st, k] Hb H3 ∧ Hb k = none ∧ Hb g = none ∧ Hb c = none)
      (im_set (ie_mk (ia_ea (ds := [memD W.others.length, .int 0, .int (W.rows.length : Nat)]) (ea_cons (ed_ixT (ds := [.int (W.fp : Nat), .int (reignOf W.rows W.fp : Nat), memD W.others.length, .str "book"]) (ed_ixT (ds := [foldD W.fp (reignOf W.rows W.fp) W.others.length, rowsD (W.rows.drop W.fp)]) (ed_dget (key := .inr ("log" : Str)) (ed_var rfl) ed_str DW.at_ DW.log DW.logd) ed_int rfl) ed_int rfl) (ea_cons ed_int (ea_cons (ED.to (ed_lenL (ds := W.rows.map rowD) (ed_asL (ed_dget (key := .inr ("rows" : Str)) (ed_var rfl) ed_str DW.at_ DW.rows (.ref r)) hr1 hr2)) (by rw [List.length_map])) ea_nil)))
        fun H3 s3 => fun k dx hk hdx hkd => ⟨_, ⟨k, dx, W.others.length, W.rows.length, rfl, upd_same, by omega, rfl⟩, ?_⟩))) ?_
    · rintro d H4 ⟨hd, k4, g, c, hK, hg, hc⟩
      refine ⟨hd, rfl, k, g, c, rfl, ?_⟩
      have sA : Same H3 (upd H3 dx (.own k)) := Same.new hdx
      have hkA : upd H3 dx (.own k) k = none := by rw [upd_ne (Ne.symm hkd)]; exact hk
      have sB : Same (upd H3 dx (.own k)) (upd (upd H3 dx (.own k)) k (.ins C dx [])) := Same.new hkA
      have s2B := (s3.trans sA).trans sB
      have fr2 : ∀ x, (upd (upd H3 dx (.own k)) k (.ins C dx [])) x = none → H2 x = none := fun x hx => s2B.free hx
      have hk2 : H2 k = none := s3.free hk
      have k24 : Kp K [k] H2 H4 := (Kp.of s2B).trans k4
      have hWB := hW.same s2B
      have hlstk : ∀ {b : Addr} {u : HO}, H2 b = some u → b ∉ [k] := fun e => by
        simp only [List.mem_singleton]
        intro z
        rw [z, hk2] at e
        cases e
      have hW4 : WAt K H4 w r o rd td ls W := by
        obtain ⟨vd, e1, _⟩ := hW.road
        obtain ⟨vt, e2, _⟩ := hW.told
        exact hW.kp k24 (hlstk DW.at_) (hlstk hW.od) (hlstk hr1) (hlstk e1) (hlstk e2) fun l hl => by
          obtain ⟨y, v, e, _⟩ := hW.ownAt hl
          exact hlstk e
      obtain ⟨sk, esk⟩ := hs2.dict
      have hg2 := fr2 g hg
      have hc2 := fr2 c hc
      refine ⟨⟨hs2.kp k24 (hlstk esk), hW4, ?_, nw, no, Ne.symm (hexst g hg2), Ne.symm (hexst c hc2), hexw g hg2, hexo g hg2, hexw c hc2, hexo c hc2⟩, (k2.mono (by simp)).trans (k24.mono (by simp)), k2.free hk2 (by simpa using hexst k hk2), k2.free hg2 (by simpa using hexst g hg2), k2.free hc2 (by simpa using hexst c hc2)⟩
      rw [hP.got, hP.coming]
      exact hK
    rintro H3 _ ⟨k, g, c, rfl, S3, k3, hkb, hgb, hcb⟩
    have hF : ∀ x ∈ k :: st :: w :: rd :: td :: g :: c :: ls, Hb x = none := fun x hx => by
      simp only [List.mem_cons] at hx
      rcases hx with q | q | q | q | q | q | q | q
      · exact q ▸ hkb
      · exact q ▸ hst
      · exact q ▸ hfr w (by simp)
      · exact q ▸ hfr rd (by simp)
      · exact q ▸ hfr td (by simp)
      · exact q ▸ hgb
      · exact q ▸ hcb
      · exact hfr x (by simp [q])
    -- a row is put
    have hfp := hP.fp
    have hset := hP.settled
    have hl1 := hP.len
    have hl12 := hP.l12
    refine im_seq (N1 := fun H4 es4 => ∃ r1, es4 = [some (.ref a), some (.int (i : Nat)), some (.ref st), some (.ref w), some (.ref k), o5, o6] ∧ SAt K H4 C st w r1 o rd td ls k g c n' (W.put 0) ∧ Kp K (k :: st :: w :: rd :: td :: g :: c :: ls) Hb H4)
      (im_expr (ie_call (ia_ea (ds := [.ref w, deedD 0]) (ea_cons (ed_var rfl) (ea_cons (ed_tup (ea_cons ed_str ea_nil)) ea_nil)) fun H4 s4 => ⟨_, ⟨w, r, o, rd, td, ls, W, 0, rfl, S3.wd.same s4, by omega, by omega, rfl⟩, ?_⟩))) ?_
    · rintro d H5 ⟨_, k5, r1, hW5⟩
      exact ⟨r1, rfl, (S3.same s4).change k5 (fun y hy => .inl (List.mem_singleton.mp hy)) hW5 rfl rfl, ((k3.mono (by simp)).trans (Kp.of s4)).trans (k5.mono (by simp))⟩
    rintro H4 _ ⟨r1, rfl, S4, k4⟩
    have G4 : Good (W.put 0) := hP.put (by decide)
    have hL4 : (W.put 0).rows.length = W.rows.length + 1 := by
      show (W.rows ++ [_]).length = _
      simp
    have hR4 : (W.put 0).road = [] := hP.road
    have hT4 : (W.put 0).told = [] := hP.told
    generalize W.put 0 = W4 at *
    -- thirty-two turns
    refine im_seq (N1 := fun H5 es5 => ∃ r5 n5 W5 p5 p6, es5 = [some (.ref a), some (.int (i : Nat)), some (.ref st), some (.ref w), some (.ref k), p5, p6] ∧ SAt K H5 C st w r5 o rd td ls k g c n5 W5 ∧ Good W5 ∧ 2 ≤ W5.rows.length ∧ W5.rows.length ≤ 24 ∧ W5.told.length ≤ 32 ∧ Kp K (k :: st :: w :: rd :: td :: g :: c :: ls) Hb H5)
      (im_for1 (ie_ed (d := .int ((32 : Nat) : Int)) ed_int fun H5 s5 => ⟨32, rfl, by omega, fun t H6 es6 => ∃ r5 n5 W5 p5 p6, es6 = [some (.ref a), some (.int (i : Nat)), some (.ref st), some (.ref w), some (.ref k), p5, p6] ∧ SAt K H6 C st w r5 o rd td ls k g c n5 W5 ∧ Good W5 ∧ 2 ≤ W5.rows.length ∧ W5.rows.length ≤ 24 ∧ W5.told.length ≤ t ∧ W5.road.length ≤ t ∧ n5 ≤ 200 + 5 * t ∧ Kp K (k :: st :: w :: rd :: td :: g :: c :: ls) Hb H6,
        ⟨r1, n', W4, o5, o6, rfl, S4.same s5, G4, by omega, by omega, by rw [hT4]; exact Nat.le_refl _, by rw [hR4]; exact Nat.le_refl _, by omega, k4.trans (Kp.of s5)⟩, ?_, ?_⟩)) ?_
    · rintro t H6 es6 ht ⟨r5, n5, W5, p5, p6, rfl, S6, G6, l2, l24, t5, d5, hn5, k6⟩
      obtain ⟨kvs6, v6, D6⟩ := S6.wd.wd
      refine im_seq (N1 := fun H7 es7 => es7 = [some (.ref a), some (.int (i : Nat)), some (.ref st), some (.ref w), some (.ref k), some (.int (t : Nat)), some (.int (W5.settled : Nat))] ∧ Same H6 H7)
        (im_set (ie_ed (d := .int (W5.settled : Nat)) (ed_dget (key := .inr ("settled" : Str)) (ed_var rfl) ed_str D6.at_ D6.set (.int _)) fun H7 s7 => ⟨rfl, rfl, s7⟩)) ?_
      rintro H7 _ ⟨rfl, s7⟩
      have S7 := S6.same s7
      refine im_seq (N1 := fun H8 es8 => ∃ r8 n8 W8, es8 = [some (.ref a), some (.int (i : Nat)), some (.ref st), some (.ref w), some (.ref k), some (.int (t : Nat)), some (.int (W5.settled : Nat))] ∧ SAt K H8 C st w r8 o rd td ls k g c n8 W8 ∧ n8 ≤ n5 + 5 ∧ Mv W5 W8 ∧ Kp K (k :: st :: w :: rd :: td :: g :: c :: ls) Hb H8)
        (im_expr (ie_call (ia_ea (ds := [.ref st, .ref w, .ref k]) (ea_cons (ed_var rfl) (ea_cons (ed_var rfl) (ea_cons (ed_var rfl) ea_nil))) fun H8 s8 => ⟨_, ⟨st, w, r5, o, rd, td, ls, k, g, c, n5, W5, rfl, S7.same s8, G6, l24, by omega, by omega, by omega, rfl⟩, ?_⟩))) ?_
      · rintro d H9 ⟨_, k9, r8, n8, W8, S9, hn8, M9⟩
        exact ⟨r8, n8, W8, rfl, S9, hn8, M9, ((k6.trans (Kp.of (s7.trans s8)))).trans (k9.mono (fun b hb => List.mem_cons_of_mem _ hb))⟩
      rintro H8 _ ⟨r8, n8, W8, rfl, S8, hn8, M8, k8⟩
      have e1 := M8.rows
      have e2 := M8.road
      have e3 := M8.told
      have e4 := M8.rmono
      refine im_if (b := false) (eb_not (b := true) (eb_tB (ed_call (ds := [.ref w, .int (W5.settled : Nat)]) (ea_cons (ed_var rfl) (ea_cons (ed_var rfl) ea_nil)) fun H9 s9 => ⟨w, r8, o, rd, td, ls, W8, W5.settled, rfl, S8.wd.same s9, M8.good, M8.st _ (Stands.start W5), by omega, rfl⟩))) (fun z => by cases z) fun _ H9 s9 => im_next ⟨r8, n8, W8, _, _, rfl, S8.same s9, M8.good, by omega, e1, by omega, by omega, by omega, k8.trans (Kp.of s9)⟩
    · rintro H6 es6 ⟨r5, n5, W5, p5, p6, rfl, S6, G6, l2, l24, t5, d5, hn5, k6⟩
      exact ⟨r5, n5, W5, p5, p6, rfl, S6, G6, l2, l24, t5, k6⟩
    rintro H5 _ ⟨r5, n5, W5, p5, p6, rfl, S5, G5, l2, l24, t5, k5⟩
    -- the letters come through
    refine im_ifI2 (ie_call (ia_ea (ds := [.ref w, .ref k]) (ea_cons (ed_var rfl) (ea_cons (ed_var rfl) ea_nil)) fun H6 s6 => ⟨_, ⟨w, r5, o, rd, td, ls, k, g, c, W5, rfl, (S5.same s6).tat, G5, l2, l24, by omega, rfl⟩, ?_⟩))
    rintro d H7 ⟨rfl, k7⟩
    refine ⟨true, rfl, fun z => (by cases z), fun _ => im_next ⟨_, _, _, _, _, _, rfl, ?_⟩⟩
    have kfin : Kp K (k :: st :: w :: rd :: td :: g :: c :: ls) Hb H7 := (k5.trans (Kp.of s6)).trans (k7.mono fun b hb => List.mem_cons_of_mem _ (List.mem_cons_of_mem _ hb))
    exact kb.trans (kfin.unfresh hF)
  · rintro H1 _ ⟨o1, o2, o3, o4, o5, o6, rfl, k1⟩
    exact im_ret (ie_ed ed_bl fun H2 s2 => ⟨(k1.trans (Kp.of s2)).tle, rfl⟩)
end
end Sh

/-! ### the top's facts, the head and the end -/
namespace Sh
open PySem L2
def BindsAll (x q : Str) (st : Stmt) (ps : List Str) : Prop := ∀ (kV doc pm : Value) (an : Option Addr) (cdv ct : Value) (us : List Value), us.length = ps.length → bindArgs (PySem.W.fnOf x q (defArgs st) (defBody st) (defScope st) .none kV doc pm an cdv ct) ⟨us, []⟩ = pure (ps.zip us)
theorem b_ok_whole : BindsAll "is_whole" "is_whole" sWhole ["thing"] := fun _ _ _ _ _ _ us hl => match us, hl with | [_], _ => rfl
theorem b_ok_among : BindsAll "is_among" "is_among" sAmong ["thing", "least", "most"] := fun _ _ _ _ _ _ us hl => match us, hl with | [_, _, _], _ => rfl
theorem b_ok_members : BindsAll "are_members" "are_members" sMembers ["thing"] := fun _ _ _ _ _ _ us hl => match us, hl with | [_], _ => rfl
theorem b_ok_needmem : BindsAll "need_members" "need_members" sNeedMem ["thing"] := fun _ _ _ _ _ _ us hl => match us, hl with | [_], _ => rfl
theorem b_ok_manyof : BindsAll "many_of" "many_of" sManyOf ["members"] := fun _ _ _ _ _ _ us hl => match us, hl with | [_], _ => rfl
theorem b_ok_aremany : BindsAll "are_many" "are_many" sAreMany ["members", "scribes"] := fun _ _ _ _ _ _ us hl => match us, hl with | [_, _], _ => rfl
theorem b_ok_told : BindsAll "is_told" "is_told" sTold ["thing"] := fun _ _ _ _ _ _ us hl => match us, hl with | [_], _ => rfl
theorem b_ok_isfold : BindsAll "is_fold" "is_fold" sIsFold ["thing"] := fun _ _ _ _ _ _ us hl => match us, hl with | [_], _ => rfl
theorem b_ok_needfold : BindsAll "need_fold" "need_fold" sNeedFold ["thing"] := fun _ _ _ _ _ _ us hl => match us, hl with | [_], _ => rfl
theorem b_ok_last : BindsAll "last" "last" sLast ["log"] := fun _ _ _ _ _ _ us hl => match us, hl with | [_], _ => rfl
theorem b_ok_has : BindsAll "has_row" "has_row" sHas ["log", "place"] := fun _ _ _ _ _ _ us hl => match us, hl with | [_, _], _ => rfl
theorem b_ok_reign : BindsAll "reign_at" "reign_at" sReign ["log", "place"] := fun _ _ _ _ _ _ us hl => match us, hl with | [_, _], _ => rfl
theorem b_ok_row : BindsAll "row_at" "row_at" sRow ["log", "place"] := fun _ _ _ _ _ _ us hl => match us, hl with | [_, _], _ => rfl
theorem b_ok_from : BindsAll "rows_from" "rows_from" sFrom ["log", "place", "many"] := fun _ _ _ _ _ _ us hl => match us, hl with | [_, _, _], _ => rfl
theorem b_ok_memat : BindsAll "members_at" "members_at" sMemAt ["log", "place"] := fun _ _ _ _ _ _ us hl => match us, hl with | [_, _], _ => rfl
theorem b_ok_memof : BindsAll "members_of" "members_of" sMemOf ["log"] := fun _ _ _ _ _ _ us hl => match us, hl with | [_], _ => rfl
theorem b_ok_taken : BindsAll "fold_taken" "fold_taken" sTaken ["log", "fold"] := fun _ _ _ _ _ _ us hl => match us, hl with | [_, _], _ => rfl
theorem b_ok_put : BindsAll "put_rows" "put_rows" sPut ["log", "before", "rows"] := fun _ _ _ _ _ _ us hl => match us, hl with | [_, _, _], _ => rfl
theorem b_ok_heard : BindsAll "_law_heard" "_law_heard" sHeard ["_law_log", "_law_settled", "_law_letter"] := fun _ _ _ _ _ _ us hl => match us, hl with | [_, _, _], _ => rfl
theorem b_ok_alike : BindsAll "_law_alike" "_law_alike" sAlike ["_law_log", "_law_rows", "_law_place"] := fun _ _ _ _ _ _ us hl => match us, hl with | [_, _, _], _ => rfl
theorem b_ok_mixed : BindsAll "_law_mixed" "_law_mixed" sMixed ["_law_cell", "_law_k"] := fun _ _ _ _ _ _ us hl => match us, hl with | [_, _], _ => rfl
theorem b_ok_take : BindsAll "_law_take" "_law_take" sTake ["_law_state", "_law_many"] := fun _ _ _ _ _ _ us hl => match us, hl with | [_, _], _ => rfl
theorem b_ok_begun : BindsAll "_law_begun" "_law_begun" sBegun ["_law_script", "_law_k"] := fun _ _ _ _ _ _ us hl => match us, hl with | [_, _], _ => rfl
theorem b_ok_deed : BindsAll "_law_deed" "_law_deed" sDeed ["_law_state"] := fun _ _ _ _ _ _ us hl => match us, hl with | [_], _ => rfl
theorem b_ok_history : BindsAll "_law_history" "_law_history" sHistory ["_law_state", "_law_many"] := fun _ _ _ _ _ _ us hl => match us, hl with | [_, _], _ => rfl
theorem b_ok_logto : BindsAll "_law_log_to" "_law_log_to" sLogTo ["_law_state", "_law_rows", "_law_least", "_law_most"] := fun _ _ _ _ _ _ us hl => match us, hl with | [_, _, _, _], _ => rfl
theorem b_ok_strayed : BindsAll "_law_strayed" "_law_strayed" sStrayed ["_law_state", "_law_log"] := fun _ _ _ _ _ _ us hl => match us, hl with | [_, _], _ => rfl
theorem b_ok_took : BindsAll "took" "Copying.took" sTook ["self", "other", "place", "end"] := fun _ _ _ _ _ _ us hl => match us, hl with | [_, _, _, _], _ => rfl
theorem b_ok_missed : BindsAll "missed" "Copying.missed" sMissed ["self", "other", "place"] := fun _ _ _ _ _ _ us hl => match us, hl with | [_, _, _], _ => rfl
theorem b_ok_needkn : BindsAll "need_known" "Copying.need_known" sNeedKn ["self", "other"] := fun _ _ _ _ _ _ us hl => match us, hl with | [_, _], _ => rfl
theorem b_ok_next : BindsAll "next_of" "Copying.next_of" sNext ["self", "other"] := fun _ _ _ _ _ _ us hl => match us, hl with | [_, _], _ => rfl
theorem b_ok_manyhave : BindsAll "many_have" "Copying.many_have" sManyHave ["self", "place", "members"] := fun _ _ _ _ _ _ us hl => match us, hl with | [_, _, _], _ => rfl
theorem b_ok_settled : BindsAll "settled_place" "Copying.settled_place" sSettled ["self", "log", "settled", "reign"] := fun _ _ _ _ _ _ us hl => match us, hl with | [_, _, _, _], _ => rfl
theorem b_ok_letterto : BindsAll "letter_to" "Copying.letter_to" sLetterTo ["self", "other", "reign", "log", "settled"] := fun _ _ _ _ _ _ us hl => match us, hl with | [_, _, _, _, _], _ => rfl
theorem b_ok_renewed : BindsAll "renewed" "Copying.renewed" sRenewed ["self", "members", "end"] := fun _ _ _ _ _ _ us hl => match us, hl with | [_, _, _], _ => rfl
theorem b_ok_init : BindsAll "__init__" "Copying.__init__" sInit ["self", "members", "number", "end"] := fun _ _ _ _ _ _ us hl => match us, hl with | [_, _, _, _], _ => rfl
theorem b_ok_wput : BindsAll "_law_put" "_law_put" sWPut ["_law_world_here", "_law_deed_here"] := fun _ _ _ _ _ _ us hl => match us, hl with | [_, _], _ => rfl
theorem b_ok_brought : BindsAll "_law_brought" "_law_brought" sBrought ["_law_world_here", "_law_letter"] := fun _ _ _ _ _ _ us hl => match us, hl with | [_, _], _ => rfl
theorem b_ok_learnt : BindsAll "_law_learnt" "_law_learnt" sLearnt ["_law_world_here", "_law_know", "_law_told"] := fun _ _ _ _ _ _ us hl => match us, hl with | [_, _, _], _ => rfl
theorem b_ok_stands : BindsAll "_law_stands" "_law_stands" sStands ["_law_world_here", "_law_ahead"] := fun _ _ _ _ _ _ us hl => match us, hl with | [_, _], _ => rfl
theorem b_ok_moved : BindsAll "_law_moved" "_law_moved" sMoved ["_law_state", "_law_world_here", "_law_know"] := fun _ _ _ _ _ _ us hl => match us, hl with | [_, _, _], _ => rfl
theorem b_ok_through : BindsAll "_law_through" "_law_through" sThrough ["_law_world_here", "_law_know"] := fun _ _ _ _ _ _ us hl => match us, hl with | [_, _], _ => rfl
theorem b_ok_world : BindsAll "_law_world" "_law_world" sWorld ["_law_state"] := fun _ _ _ _ _ _ us hl => match us, hl with | [_], _ => rfl
theorem b_law : BindsAll "law" "law" sLaw ["_law_script"] := fun _ _ _ _ _ _ us hl => match us, hl with | [_], _ => rfl
section
variable {K : PySem.W.Frag} {h : Heap} {mg : Str → Option Value} {C f : Addr} {x q : Str} {st : Stmt} {ps : List Str} {oc kV doc pm cdv ct : Value} {od an : Option Addr} {osl : Array (Option Value)}
theorem gd_of (X : K.In h) (G : h.Ns mainGlobals mg) (b : BindsAll x x st ps) (a : PySem.W.nsIn K mainGlobals x = some (some (.ref f))) (l : K.lookup f = some ⟨oc, od, .func (PySem.W.fnOf x x (defArgs st) (defBody st) (defScope st) .none kV doc pm an cdv ct), osl⟩) (c : PySem.W.codeIn K cdv x = true) (k : PySem.W.keepIn K (.ref f) = true) : Gd K mg x st ps :=
  ⟨f, _, fun_mk l c k, PySem.W.mg_of X G a, (fun_mk l c k).binds b⟩
theorem gm_of (b : BindsAll x q st ps) (a : PySem.W.findIn K (.ref C) x = some (some (.ref f))) (i : PySem.W.isFn K (.ref f) = true) (l : K.lookup f = some ⟨oc, od, .func (PySem.W.fnOf x q (defArgs st) (defBody st) (defScope st) .none kV doc pm an cdv ct), osl⟩) (c : PySem.W.codeIn K cdv q = true) (k : PySem.W.keepIn K (.ref f) = true) : GdM K C x q st ps :=
  ⟨f, _, fun_mk l c k, ⟨a, i, k⟩, (fun_mk l c k).binds b⟩
end
theorem all_mk {l : PySem.W.OpenLaw} {w : World} {K : PySem.W.Frag} {h : Heap} {mg : Str → Option Value} {fa C fL : Addr} (X : K.In h) (G : h.Ns mainGlobals mg) (hfa : mg "law" = some (.ref fa))
    {oc kV dc pm cd ct : Value} {od an : Option Addr} {sl : Array (Option Value)} {t_MOST_MEMBERS t_LAST_SCRIBE t_MOST t_MOST_ROWS : Tok}
    (aC : PySem.W.nsIn K mainGlobals "Copying" = some (some (.ref C))) (pg : PySem.W.plainGet K C Str.empty = true) (hd : PySem.W.hasDictIn K C = true) (po : PySem.W.plainOver K C = true) (sa : PySem.W.findIn K (.ref C) "__setattr__" = some (some (.builtin "object.__setattr__"))) (mk : PySem.W.makesIn K C = true) (kc : PySem.W.keepIn K (.ref C) = true)
    (nO : PySem.W.findIn K (.ref C) "own" = some none) (nG : PySem.W.findIn K (.ref C) "got" = some none) (nC : PySem.W.findIn K (.ref C) "coming" = some none)
    (z_all : PySem.W.nsIn K mainGlobals "all" = some none)
    (z_bool : PySem.W.nsIn K mainGlobals "bool" = some none)
    (z_dict : PySem.W.nsIn K mainGlobals "dict" = some none)
    (z_enumerate : PySem.W.nsIn K mainGlobals "enumerate" = some none)
    (z_int : PySem.W.nsIn K mainGlobals "int" = some none)
    (z_isinstance : PySem.W.nsIn K mainGlobals "isinstance" = some none)
    (z_len : PySem.W.nsIn K mainGlobals "len" = some none)
    (z_list : PySem.W.nsIn K mainGlobals "list" = some none)
    (z_max : PySem.W.nsIn K mainGlobals "max" = some none)
    (z_min : PySem.W.nsIn K mainGlobals "min" = some none)
    (z_range : PySem.W.nsIn K mainGlobals "range" = some none)
    (z_sorted : PySem.W.nsIn K mainGlobals "sorted" = some none)
    (z_str : PySem.W.nsIn K mainGlobals "str" = some none)
    (z_tuple : PySem.W.nsIn K mainGlobals "tuple" = some none)
    (z_zip : PySem.W.nsIn K mainGlobals "zip" = some none)
    (c_MOST_MEMBERS : PySem.W.nsIn K mainGlobals "MOST_MEMBERS" = some (some (.int 7 t_MOST_MEMBERS)))
    (c_LAST_SCRIBE : PySem.W.nsIn K mainGlobals "LAST_SCRIBE" = some (some (.int 8 t_LAST_SCRIBE)))
    (c_MOST : PySem.W.nsIn K mainGlobals "MOST" = some (some (.int 1000000 t_MOST)))
    (c_MOST_ROWS : PySem.W.nsIn K mainGlobals "MOST_ROWS" = some (some (.int 8 t_MOST_ROWS)))
    (g_ok_whole : Gd K mg "is_whole" sWhole ["thing"])
    (g_ok_among : Gd K mg "is_among" sAmong ["thing", "least", "most"])
    (g_ok_members : Gd K mg "are_members" sMembers ["thing"])
    (g_ok_needmem : Gd K mg "need_members" sNeedMem ["thing"])
    (g_ok_manyof : Gd K mg "many_of" sManyOf ["members"])
    (g_ok_aremany : Gd K mg "are_many" sAreMany ["members", "scribes"])
    (g_ok_told : Gd K mg "is_told" sTold ["thing"])
    (g_ok_isfold : Gd K mg "is_fold" sIsFold ["thing"])
    (g_ok_needfold : Gd K mg "need_fold" sNeedFold ["thing"])
    (g_ok_last : Gd K mg "last" sLast ["log"])
    (g_ok_has : Gd K mg "has_row" sHas ["log", "place"])
    (g_ok_reign : Gd K mg "reign_at" sReign ["log", "place"])
    (g_ok_row : Gd K mg "row_at" sRow ["log", "place"])
    (g_ok_from : Gd K mg "rows_from" sFrom ["log", "place", "many"])
    (g_ok_memat : Gd K mg "members_at" sMemAt ["log", "place"])
    (g_ok_memof : Gd K mg "members_of" sMemOf ["log"])
    (g_ok_taken : Gd K mg "fold_taken" sTaken ["log", "fold"])
    (g_ok_put : Gd K mg "put_rows" sPut ["log", "before", "rows"])
    (g_ok_heard : Gd K mg "_law_heard" sHeard ["_law_log", "_law_settled", "_law_letter"])
    (g_ok_alike : Gd K mg "_law_alike" sAlike ["_law_log", "_law_rows", "_law_place"])
    (g_ok_mixed : Gd K mg "_law_mixed" sMixed ["_law_cell", "_law_k"])
    (g_ok_take : Gd K mg "_law_take" sTake ["_law_state", "_law_many"])
    (g_ok_begun : Gd K mg "_law_begun" sBegun ["_law_script", "_law_k"])
    (g_ok_deed : Gd K mg "_law_deed" sDeed ["_law_state"])
    (g_ok_history : Gd K mg "_law_history" sHistory ["_law_state", "_law_many"])
    (g_ok_logto : Gd K mg "_law_log_to" sLogTo ["_law_state", "_law_rows", "_law_least", "_law_most"])
    (g_ok_strayed : Gd K mg "_law_strayed" sStrayed ["_law_state", "_law_log"])
    (g_ok_took : GdM K C "took" "Copying.took" sTook ["self", "other", "place", "end"])
    (g_ok_missed : GdM K C "missed" "Copying.missed" sMissed ["self", "other", "place"])
    (g_ok_needkn : GdM K C "need_known" "Copying.need_known" sNeedKn ["self", "other"])
    (g_ok_next : GdM K C "next_of" "Copying.next_of" sNext ["self", "other"])
    (g_ok_manyhave : GdM K C "many_have" "Copying.many_have" sManyHave ["self", "place", "members"])
    (g_ok_settled : GdM K C "settled_place" "Copying.settled_place" sSettled ["self", "log", "settled", "reign"])
    (g_ok_letterto : GdM K C "letter_to" "Copying.letter_to" sLetterTo ["self", "other", "reign", "log", "settled"])
    (g_ok_renewed : GdM K C "renewed" "Copying.renewed" sRenewed ["self", "members", "end"])
    (g_ok_init : GdM K C "__init__" "Copying.__init__" sInit ["self", "members", "number", "end"])
    (g_ok_wput : Gd K mg "_law_put" sWPut ["_law_world_here", "_law_deed_here"])
    (g_ok_brought : Gd K mg "_law_brought" sBrought ["_law_world_here", "_law_letter"])
    (g_ok_learnt : Gd K mg "_law_learnt" sLearnt ["_law_world_here", "_law_know", "_law_told"])
    (g_ok_stands : Gd K mg "_law_stands" sStands ["_law_world_here", "_law_ahead"])
    (g_ok_moved : Gd K mg "_law_moved" sMoved ["_law_state", "_law_world_here", "_law_know"])
    (g_ok_through : Gd K mg "_law_through" sThrough ["_law_world_here", "_law_know"])
    (g_ok_world : Gd K mg "_law_world" sWorld ["_law_state"])
    (aL : PySem.W.nsIn K mainGlobals "law" = some (some (.ref fL))) (lL : K.lookup fL = some ⟨oc, od, .func (PySem.W.fnOf "law" "law" (defArgs sLaw) (defBody sLaw) (defScope sLaw) .none kV dc pm an cd ct), sl⟩) (cL : PySem.W.codeIn K cd "law" = true) (kL : PySem.W.keepIn K (.ref fL) = true) :
    ∃ fd : FuncData, (∀ (s : Shared) (v : Value), BindsTo s fd ⟨[v], []⟩ [("_law_script", v)]) ∧ ∀ base : Heap, K.In base → base.Ns mainGlobals mg → FnOk l.prog w K mg base CX0 11 fa fd ["_law_script"] (spI K (relLaw K)) := by
  have e := hfa.symm.trans (PySem.W.mg_of X G aL)
  cases e
  have T : CopTxt K C := ⟨⟨pg, hd, po, sa⟩, nO, nG, nC⟩
  have FL := fun_mk (x := "law") (qual := "law") (st := sLaw) lL cL kL
  have m_all := PySem.W.mg_none_of X G z_all
  have m_bool := PySem.W.mg_none_of X G z_bool
  have m_dict := PySem.W.mg_none_of X G z_dict
  have m_enumerate := PySem.W.mg_none_of X G z_enumerate
  have m_int := PySem.W.mg_none_of X G z_int
  have m_isinstance := PySem.W.mg_none_of X G z_isinstance
  have m_len := PySem.W.mg_none_of X G z_len
  have m_list := PySem.W.mg_none_of X G z_list
  have m_max := PySem.W.mg_none_of X G z_max
  have m_min := PySem.W.mg_none_of X G z_min
  have m_range := PySem.W.mg_none_of X G z_range
  have m_sorted := PySem.W.mg_none_of X G z_sorted
  have m_str := PySem.W.mg_none_of X G z_str
  have m_tuple := PySem.W.mg_none_of X G z_tuple
  have m_zip := PySem.W.mg_none_of X G z_zip
  have m_MOST_MEMBERS := PySem.W.mg_of X G c_MOST_MEMBERS
  have m_LAST_SCRIBE := PySem.W.mg_of X G c_LAST_SCRIBE
  have m_MOST := PySem.W.mg_of X G c_MOST
  have m_MOST_ROWS := PySem.W.mg_of X G c_MOST_ROWS
  refine ⟨PySem.W.fnOf "law" "law" (defArgs sLaw) (defBody sLaw) (defScope sLaw) .none kV dc pm an cd ct, fun s v => .of_eq rfl, fun base _ _ => ?_⟩
  have o_whole : Ok l.prog w K mg base 1 "is_whole" ["thing"] (spF K relWhole) := ok_whole g_ok_whole m_isinstance m_int m_bool
  have o_among : Ok l.prog w K mg base 2 "is_among" ["thing", "least", "most"] (spF K relAmong) := ok_among g_ok_among (by assumption)
  have o_members : Ok l.prog w K mg base 3 "are_members" ["thing"] (spF K relMembers) := ok_members g_ok_members (by assumption) m_isinstance m_tuple m_len m_all m_zip m_MOST_MEMBERS m_LAST_SCRIBE
  have o_needmem : Ok l.prog w K mg base 4 "need_members" ["thing"] (spF K relNeedMem) := ok_needmem g_ok_needmem (by assumption)
  have o_manyof : Ok l.prog w K mg base 5 "many_of" ["members"] (spF K relManyOf) := ok_manyof g_ok_manyof (by assumption) m_len
  have o_aremany : Ok l.prog w K mg base 6 "are_many" ["members", "scribes"] (spF K relAreMany) := ok_aremany g_ok_aremany (by assumption) (by assumption) m_len
  have o_told : Ok l.prog w K mg base 1 "is_told" ["thing"] (spF K relTold) := ok_told g_ok_told m_isinstance m_str
  have o_isfold : Ok l.prog w K mg base 4 "is_fold" ["thing"] (spF K relIsFold) := ok_isfold g_ok_isfold (by assumption) (by assumption) (by assumption) m_isinstance m_tuple m_len m_MOST
  have o_needfold : Ok l.prog w K mg base 5 "need_fold" ["thing"] (spF K relNeedFold) := ok_needfold g_ok_needfold (by assumption)
  have o_last : Ok l.prog w K mg base 1 "last" ["log"] (spF K relLast) := ok_last g_ok_last m_len
  have o_has : Ok l.prog w K mg base 3 "has_row" ["log", "place"] (spF K relHas) := ok_has g_ok_has (by assumption) (by assumption)
  have o_reign : Ok l.prog w K mg base 4 "reign_at" ["log", "place"] (spF K relReign) := ok_reign g_ok_reign (by assumption) (by assumption)
  have o_row : Ok l.prog w K mg base 4 "row_at" ["log", "place"] (spF K relRow) := ok_row g_ok_row (by assumption)
  have o_from : Ok l.prog w K mg base 3 "rows_from" ["log", "place", "many"] (spF K relFrom) := ok_from g_ok_from (by assumption) (by assumption)
  have o_memat : Ok l.prog w K mg base 3 "members_at" ["log", "place"] (spF K relMemAt) := ok_memat g_ok_memat (by assumption) (by assumption)
  have o_memof : Ok l.prog w K mg base 4 "members_of" ["log"] (spF K relMemOf) := ok_memof g_ok_memof (by assumption) (by assumption)
  have o_taken : Ok l.prog w K mg base 6 "fold_taken" ["log", "fold"] (spF K relTaken) := ok_taken g_ok_taken (by assumption) (by assumption)
  have o_put : Ok l.prog w K mg base 5 "put_rows" ["log", "before", "rows"] (spF K relPut) := ok_put g_ok_put (by assumption) (by assumption) m_enumerate
  have o_heard : Ok l.prog w K mg base 7 "_law_heard" ["_law_log", "_law_settled", "_law_letter"] (spF K relHeard) := ok_heard g_ok_heard (by assumption) (by assumption) (by assumption) m_len m_max m_min
  have o_alike : Ok l.prog w K mg base 5 "_law_alike" ["_law_log", "_law_rows", "_law_place"] (spF K relAlike) := ok_alike g_ok_alike (by assumption) m_len m_range
  have o_mixed : Ok l.prog w K mg base 1 "_law_mixed" ["_law_cell", "_law_k"] (spF K relMixed) := ok_mixed g_ok_mixed
  have o_take : Ok l.prog w K mg base 2 "_law_take" ["_law_state", "_law_many"] (spI K (relTake K)) := ok_take g_ok_take (by assumption)
  have o_begun : Ok l.prog w K mg base 2 "_law_begun" ["_law_script", "_law_k"] (spI K (relBegun K)) := ok_begun g_ok_begun (by assumption) m_len m_int
  have o_deed : Ok l.prog w K mg base 3 "_law_deed" ["_law_state"] (spI K (relDeed K)) := ok_deed g_ok_deed (by assumption)
  have o_history : Ok l.prog w K mg base 4 "_law_history" ["_law_state", "_law_many"] (spI K (relHistory K)) := ok_history g_ok_history (by assumption) (by assumption) m_range
  have o_logto : Ok l.prog w K mg base 3 "_law_log_to" ["_law_state", "_law_rows", "_law_least", "_law_most"] (spI K (relLogTo K)) := ok_logto g_ok_logto (by assumption) m_tuple
  have o_strayed : Ok l.prog w K mg base 4 "_law_strayed" ["_law_state", "_law_log"] (spI K (relStrayed K)) := ok_strayed g_ok_strayed (by assumption) (by assumption) m_range m_tuple
  have o_took : OkM l.prog w K mg base C 1 "took" ["self", "other", "place", "end"] (spI K (relTook K C)) := ok_took T g_ok_took m_max m_min
  have o_missed : OkM l.prog w K mg base C 1 "missed" ["self", "other", "place"] (spI K (relMissed K C)) := ok_missed T g_ok_missed m_max m_min
  have o_needkn : OkM l.prog w K mg base C 1 "need_known" ["self", "other"] (spF K (relNeedKn C)) := ok_needkn T g_ok_needkn m_isinstance m_int m_bool
  have o_next : OkM l.prog w K mg base C 2 "next_of" ["self", "other"] (spF K (relNext C)) := ok_next T g_ok_next (by assumption)
  have o_manyhave : OkM l.prog w K mg base C 7 "many_have" ["self", "place", "members"] (spF K (relManyHave C)) := ok_manyhave T g_ok_manyhave (by assumption)
  have o_settled : OkM l.prog w K mg base C 8 "settled_place" ["self", "log", "settled", "reign"] (spF K (relSettled C)) := ok_settled T g_ok_settled (by assumption) (by assumption) (by assumption) (by assumption) (by assumption) m_range
  have o_letterto : OkM l.prog w K mg base C 5 "letter_to" ["self", "other", "reign", "log", "settled"] (spF K (relLetterTo C)) := ok_letterto T g_ok_letterto (by assumption) (by assumption) (by assumption) ⟨_, m_MOST_ROWS⟩
  have o_renewed : OkM l.prog w K mg base C 1 "renewed" ["self", "members", "end"] (spI K (relRenewed K C)) := ok_renewed T g_ok_renewed m_dict
  have o_init : OkM l.prog w K mg base C 2 "__init__" ["self", "members", "number", "end"] (spI K (relInit K C)) := ok_init T g_ok_init (by assumption)
  have o_wput : Ok l.prog w K mg base 1 "_law_put" ["_law_world_here", "_law_deed_here"] (spI K (relWPut K)) := ok_wput g_ok_wput
  have o_brought : Ok l.prog w K mg base 8 "_law_brought" ["_law_world_here", "_law_letter"] (spI K (relBrought K)) := ok_brought g_ok_brought (by assumption)
  have o_learnt : Ok l.prog w K mg base 9 "_law_learnt" ["_law_world_here", "_law_know", "_law_told"] (spI K (relLearnt K C)) := ok_learnt T g_ok_learnt m_len (by assumption) (by assumption) (by assumption)
  have o_stands : Ok l.prog w K mg base 6 "_law_stands" ["_law_world_here", "_law_ahead"] (spF K (relStands K)) := ok_stands g_ok_stands m_len m_list (by assumption)
  have o_moved : Ok l.prog w K mg base 10 "_law_moved" ["_law_state", "_law_world_here", "_law_know"] (spI K (relMoved K C)) := ok_moved T g_ok_moved m_len (by assumption) (by assumption) (by assumption) (by assumption) (by assumption) (by assumption)
  have o_through : Ok l.prog w K mg base 10 "_law_through" ["_law_world_here", "_law_know"] (spI K (relThrough K C)) := ok_through T g_ok_through m_len m_range m_sorted m_list (by assumption) (by assumption) (by assumption) (by assumption) (by assumption) (by assumption)
  have o_world : Ok l.prog w K mg base 5 "_law_world" ["_law_state"] (spI K (relWorld K)) := ok_world g_ok_world m_len m_range m_tuple (by assumption) (by assumption) (by assumption) (by assumption)
  have oC : OkC l.prog w K mg base C 2 "Copying" ["self", "members", "number", "end"] (spI K (relInit K C)) := by
    obtain ⟨f, fd, F, M, b⟩ := o_init
    exact ⟨f, fd, F, ⟨mk, M.at_, M.fn, kc⟩, PySem.W.mg_of X G aC, b⟩
  exact ok_law T FL m_len m_range m_max m_min (by assumption) (by assumption) oC (by assumption) (by assumption) (by assumption) (by assumption)
theorem walk {l : PySem.W.OpenLaw} {q : Program} {loose : List Str} {XP : (Str → Option Value) → Heap → Prop} {YP : World → Heap → Prop} {d : DefRec} {K : Params → PySem.W.Frag} (hn : l.most = some 63) (hdf : d.params.defaults = [])
    (hY : ∀ (w : World) (h : Heap), YP w h → (K w.params).In h)
    (F : ∀ (w : World) (mg : Str → Option Value) (fa : Addr) (h : Heap), (K w.params).In h → h.Ns mainGlobals mg → mg d.name = some (.ref fa) →
      ∃ fd : FuncData, (∀ (s : Shared) (u : Value), BindsTo s fd ⟨[u], []⟩ [("_law_script", u)]) ∧ ∀ base : Heap, (K w.params).In base → base.Ns mainGlobals mg → FnOk l.prog w (K w.params) mg base CX0 11 fa fd ["_law_script"] (spI (K w.params) (relLaw (K w.params)))) :
    PySem.W.WalkO q loose XP YP l.row.toRowW d [] (fun f vs => PySem.call f vs) :=
  L2.walk_of (n := 63) (k := 11) (x := "_law_script") (CX := fun _ => CX0) (sp := fun w => spI (K w.params) (relLaw (K w.params))) hn (by decide) hdf ⟨rfl, by decide, by decide⟩ hY F
    (fun _ _ a ns hl _ hS => ⟨[.ref a], _, .cons (.ref a) .nil, ⟨a, ns, rfl, hS, hl, rfl⟩, fun v H' d rv _ e => by
      have e : d = .bl true := e
      subst e
      exact rv.bl_eq⟩) fun _ _ _ _ _ z => z
end Sh

open PySem PySem.W PyProof.Rows in
set_option maxRecDepth 100000 in
set_option maxHeartbeats 0 in
theorem PySem.Challenge.cw_scribehall_k19_whole_settled_by_many_holds : PySem.Challenge.rw_scribehall_k19_whole_settled_by_many.Holds := by
  w_on; o_law; k_head; (case hw => w_witness2)
  k_fill
  refine Sh.walk (l := PySem.Challenge.rw_scribehall_k19_whole_settled_by_many) rfl rfl (fun w h Y => PySem.W.kIn_of Y) ?F
  case F =>
    intro w mg fa h KX G hmg
    refine' Sh.all_mk KX G hmg ?aC ?pg ?hd ?po ?sa ?mk ?kc ?nO ?nG ?nC ?z_all ?z_bool ?z_dict ?z_enumerate ?z_int ?z_isinstance ?z_len ?z_list ?z_max ?z_min ?z_range ?z_sorted ?z_str ?z_tuple ?z_zip ?c_MOST_MEMBERS ?c_LAST_SCRIBE ?c_MOST ?c_MOST_ROWS ?g_ok_whole ?g_ok_among ?g_ok_members ?g_ok_needmem ?g_ok_manyof ?g_ok_aremany ?g_ok_told ?g_ok_isfold ?g_ok_needfold ?g_ok_last ?g_ok_has ?g_ok_reign ?g_ok_row ?g_ok_from ?g_ok_memat ?g_ok_memof ?g_ok_taken ?g_ok_put ?g_ok_heard ?g_ok_alike ?g_ok_mixed ?g_ok_take ?g_ok_begun ?g_ok_deed ?g_ok_history ?g_ok_logto ?g_ok_strayed ?g_ok_took ?g_ok_missed ?g_ok_needkn ?g_ok_next ?g_ok_manyhave ?g_ok_settled ?g_ok_letterto ?g_ok_renewed ?g_ok_init ?g_ok_wput ?g_ok_brought ?g_ok_learnt ?g_ok_stands ?g_ok_moved ?g_ok_through ?g_ok_world ?aL ?lL ?cL ?kL
    (case aC => k_is)
    (case pg => k_is)
    (case hd => k_is)
    (case po => k_is)
    (case sa => k_is)
    (case mk => k_is)
    (case kc => k_is)
    (case nO => k_is)
    (case nG => k_is)
    (case nC => k_is)
    (case z_all => k_is)
    (case z_bool => k_is)
    (case z_dict => k_is)
    (case z_enumerate => k_is)
    (case z_int => k_is)
    (case z_isinstance => k_is)
    (case z_len => k_is)
    (case z_list => k_is)
    (case z_max => k_is)
    (case z_min => k_is)
    (case z_range => k_is)
    (case z_sorted => k_is)
    (case z_str => k_is)
    (case z_tuple => k_is)
    (case z_zip => k_is)
    (case c_MOST_MEMBERS => k_is)
    (case c_LAST_SCRIBE => k_is)
    (case c_MOST => k_is)
    (case c_MOST_ROWS => k_is)
    (case g_ok_whole => (refine' Sh.gd_of KX G Sh.b_ok_whole ?a ?l ?c ?k; (case a => k_is); (case l => k_is); (case c => k_is); (case k => k_is)))
    (case g_ok_among => (refine' Sh.gd_of KX G Sh.b_ok_among ?a ?l ?c ?k; (case a => k_is); (case l => k_is); (case c => k_is); (case k => k_is)))
    (case g_ok_members => (refine' Sh.gd_of KX G Sh.b_ok_members ?a ?l ?c ?k; (case a => k_is); (case l => k_is); (case c => k_is); (case k => k_is)))
    (case g_ok_needmem => (refine' Sh.gd_of KX G Sh.b_ok_needmem ?a ?l ?c ?k; (case a => k_is); (case l => k_is); (case c => k_is); (case k => k_is)))
    (case g_ok_manyof => (refine' Sh.gd_of KX G Sh.b_ok_manyof ?a ?l ?c ?k; (case a => k_is); (case l => k_is); (case c => k_is); (case k => k_is)))
    (case g_ok_aremany => (refine' Sh.gd_of KX G Sh.b_ok_aremany ?a ?l ?c ?k; (case a => k_is); (case l => k_is); (case c => k_is); (case k => k_is)))
    (case g_ok_told => (refine' Sh.gd_of KX G Sh.b_ok_told ?a ?l ?c ?k; (case a => k_is); (case l => k_is); (case c => k_is); (case k => k_is)))
    (case g_ok_isfold => (refine' Sh.gd_of KX G Sh.b_ok_isfold ?a ?l ?c ?k; (case a => k_is); (case l => k_is); (case c => k_is); (case k => k_is)))
    (case g_ok_needfold => (refine' Sh.gd_of KX G Sh.b_ok_needfold ?a ?l ?c ?k; (case a => k_is); (case l => k_is); (case c => k_is); (case k => k_is)))
    (case g_ok_last => (refine' Sh.gd_of KX G Sh.b_ok_last ?a ?l ?c ?k; (case a => k_is); (case l => k_is); (case c => k_is); (case k => k_is)))
    (case g_ok_has => (refine' Sh.gd_of KX G Sh.b_ok_has ?a ?l ?c ?k; (case a => k_is); (case l => k_is); (case c => k_is); (case k => k_is)))
    (case g_ok_reign => (refine' Sh.gd_of KX G Sh.b_ok_reign ?a ?l ?c ?k; (case a => k_is); (case l => k_is); (case c => k_is); (case k => k_is)))
    (case g_ok_row => (refine' Sh.gd_of KX G Sh.b_ok_row ?a ?l ?c ?k; (case a => k_is); (case l => k_is); (case c => k_is); (case k => k_is)))
    (case g_ok_from => (refine' Sh.gd_of KX G Sh.b_ok_from ?a ?l ?c ?k; (case a => k_is); (case l => k_is); (case c => k_is); (case k => k_is)))
    (case g_ok_memat => (refine' Sh.gd_of KX G Sh.b_ok_memat ?a ?l ?c ?k; (case a => k_is); (case l => k_is); (case c => k_is); (case k => k_is)))
    (case g_ok_memof => (refine' Sh.gd_of KX G Sh.b_ok_memof ?a ?l ?c ?k; (case a => k_is); (case l => k_is); (case c => k_is); (case k => k_is)))
    (case g_ok_taken => (refine' Sh.gd_of KX G Sh.b_ok_taken ?a ?l ?c ?k; (case a => k_is); (case l => k_is); (case c => k_is); (case k => k_is)))
    (case g_ok_put => (refine' Sh.gd_of KX G Sh.b_ok_put ?a ?l ?c ?k; (case a => k_is); (case l => k_is); (case c => k_is); (case k => k_is)))
    (case g_ok_heard => (refine' Sh.gd_of KX G Sh.b_ok_heard ?a ?l ?c ?k; (case a => k_is); (case l => k_is); (case c => k_is); (case k => k_is)))
    (case g_ok_alike => (refine' Sh.gd_of KX G Sh.b_ok_alike ?a ?l ?c ?k; (case a => k_is); (case l => k_is); (case c => k_is); (case k => k_is)))
    (case g_ok_mixed => (refine' Sh.gd_of KX G Sh.b_ok_mixed ?a ?l ?c ?k; (case a => k_is); (case l => k_is); (case c => k_is); (case k => k_is)))
    (case g_ok_take => (refine' Sh.gd_of KX G Sh.b_ok_take ?a ?l ?c ?k; (case a => k_is); (case l => k_is); (case c => k_is); (case k => k_is)))
    (case g_ok_begun => (refine' Sh.gd_of KX G Sh.b_ok_begun ?a ?l ?c ?k; (case a => k_is); (case l => k_is); (case c => k_is); (case k => k_is)))
    (case g_ok_deed => (refine' Sh.gd_of KX G Sh.b_ok_deed ?a ?l ?c ?k; (case a => k_is); (case l => k_is); (case c => k_is); (case k => k_is)))
    (case g_ok_history => (refine' Sh.gd_of KX G Sh.b_ok_history ?a ?l ?c ?k; (case a => k_is); (case l => k_is); (case c => k_is); (case k => k_is)))
    (case g_ok_logto => (refine' Sh.gd_of KX G Sh.b_ok_logto ?a ?l ?c ?k; (case a => k_is); (case l => k_is); (case c => k_is); (case k => k_is)))
    (case g_ok_strayed => (refine' Sh.gd_of KX G Sh.b_ok_strayed ?a ?l ?c ?k; (case a => k_is); (case l => k_is); (case c => k_is); (case k => k_is)))
    (case g_ok_took => (refine' Sh.gm_of Sh.b_ok_took ?a ?i ?l ?c ?k; (case a => k_is); (case i => k_is); (case l => k_is); (case c => k_is); (case k => k_is)))
    (case g_ok_missed => (refine' Sh.gm_of Sh.b_ok_missed ?a ?i ?l ?c ?k; (case a => k_is); (case i => k_is); (case l => k_is); (case c => k_is); (case k => k_is)))
    (case g_ok_needkn => (refine' Sh.gm_of Sh.b_ok_needkn ?a ?i ?l ?c ?k; (case a => k_is); (case i => k_is); (case l => k_is); (case c => k_is); (case k => k_is)))
    (case g_ok_next => (refine' Sh.gm_of Sh.b_ok_next ?a ?i ?l ?c ?k; (case a => k_is); (case i => k_is); (case l => k_is); (case c => k_is); (case k => k_is)))
    (case g_ok_manyhave => (refine' Sh.gm_of Sh.b_ok_manyhave ?a ?i ?l ?c ?k; (case a => k_is); (case i => k_is); (case l => k_is); (case c => k_is); (case k => k_is)))
    (case g_ok_settled => (refine' Sh.gm_of Sh.b_ok_settled ?a ?i ?l ?c ?k; (case a => k_is); (case i => k_is); (case l => k_is); (case c => k_is); (case k => k_is)))
    (case g_ok_letterto => (refine' Sh.gm_of Sh.b_ok_letterto ?a ?i ?l ?c ?k; (case a => k_is); (case i => k_is); (case l => k_is); (case c => k_is); (case k => k_is)))
    (case g_ok_renewed => (refine' Sh.gm_of Sh.b_ok_renewed ?a ?i ?l ?c ?k; (case a => k_is); (case i => k_is); (case l => k_is); (case c => k_is); (case k => k_is)))
    (case g_ok_init => (refine' Sh.gm_of Sh.b_ok_init ?a ?i ?l ?c ?k; (case a => k_is); (case i => k_is); (case l => k_is); (case c => k_is); (case k => k_is)))
    (case g_ok_wput => (refine' Sh.gd_of KX G Sh.b_ok_wput ?a ?l ?c ?k; (case a => k_is); (case l => k_is); (case c => k_is); (case k => k_is)))
    (case g_ok_brought => (refine' Sh.gd_of KX G Sh.b_ok_brought ?a ?l ?c ?k; (case a => k_is); (case l => k_is); (case c => k_is); (case k => k_is)))
    (case g_ok_learnt => (refine' Sh.gd_of KX G Sh.b_ok_learnt ?a ?l ?c ?k; (case a => k_is); (case l => k_is); (case c => k_is); (case k => k_is)))
    (case g_ok_stands => (refine' Sh.gd_of KX G Sh.b_ok_stands ?a ?l ?c ?k; (case a => k_is); (case l => k_is); (case c => k_is); (case k => k_is)))
    (case g_ok_moved => (refine' Sh.gd_of KX G Sh.b_ok_moved ?a ?l ?c ?k; (case a => k_is); (case l => k_is); (case c => k_is); (case k => k_is)))
    (case g_ok_through => (refine' Sh.gd_of KX G Sh.b_ok_through ?a ?l ?c ?k; (case a => k_is); (case l => k_is); (case c => k_is); (case k => k_is)))
    (case g_ok_world => (refine' Sh.gd_of KX G Sh.b_ok_world ?a ?l ?c ?k; (case a => k_is); (case l => k_is); (case c => k_is); (case k => k_is)))
    (case aL => k_is)
    (case lL => k_is)
    (case cL => k_is)
    (case kL => k_is)

