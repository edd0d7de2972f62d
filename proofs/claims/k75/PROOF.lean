import PyProof.Rows.All
import Wide.All
import OpenK.AllK
import Wide.FinOn
import HandS.ForMost
import HandS.Wide
import HandS.Exc
import HandS.ExcOwn
import HandS.TryOnly
import HandS.WordsExc
import HandS.ExcInit
import HandS.ExcField
import HandS.Conv
import HandS.Style
import HandS.NoneIn
import HandS.TupAny
import HandS.Zip
import HandS.IsInst
import HandS.Dict
import PySem.Challenge.RW_tensloft_k75_whole_caught_three_ways
set_option Elab.async false
set_option linter.all false
set_option maxRecDepth 100000
set_option maxHeartbeats 4000000
/-! The mathematics of the law: rows of bytes, what each half is for, the first wrong half, the number, the checking rows. No program here but the model's bit operations. -/
namespace K75
open PySem

/-! ### shapes -/
inductive Kd | pk | sp
  deriving DecidableEq
inductive Sg | no | en | te
  deriving DecidableEq
inductive Duty | ahead | figure | zone | sign
  deriving DecidableEq
def Kd.s : Kd → Str
  | .pk => "packed"
  | .sp => "spread"
def Sg.s : Sg → Str
  | .no => "none"
  | .en => "end"
  | .te => "tens"
def Duty.s : Duty → Str
  | .ahead => "ahead"
  | .figure => "figure"
  | .zone => "zone"
  | .sign => "sign"
def Sg.e : Sg → Nat
  | .en => 1
  | _ => 0
theorem Sg.e_le (g : Sg) : g.e ≤ 1 := by cases g <;> decide
def pad (n : Nat) (g : Sg) : Nat := (n + g.e) % 2
def zf (n : Nat) : List Duty := (List.replicate n [Duty.zone, Duty.figure]).flatten
def due (k : Kd) (n : Nat) (g : Sg) : List Duty := match k with
  | .pk => List.replicate (pad n g) Duty.ahead ++ (List.replicate n Duty.figure ++ List.replicate g.e Duty.sign)
  | .sp => if g = .en then (zf n).set (2 * n - 2) Duty.sign else zf n
def width (k : Kd) (n : Nat) (g : Sg) : Nat := match k with
  | .pk => (n + g.e + pad n g) / 2
  | .sp => n
theorem zf_len (n : Nat) : (zf n).length = 2 * n := by
  unfold zf
  induction n with
  | zero => rfl
  | succ n ih =>
    rw [List.replicate_succ, List.flatten_cons, List.length_append, ih]
    show 2 + 2 * n = 2 * (n + 1)
    omega
theorem due_len (k : Kd) (n : Nat) (g : Sg) : (due k n g).length = 2 * width k n g := by
  cases k with
  | pk =>
    show (List.replicate (pad n g) Duty.ahead ++ (List.replicate n Duty.figure ++ List.replicate g.e Duty.sign)).length = 2 * ((n + g.e + pad n g) / 2)
    rw [List.length_append, List.length_append, List.length_replicate, List.length_replicate, List.length_replicate]
    unfold pad
    omega
  | sp =>
    show (if g = .en then (zf n).set (2 * n - 2) Duty.sign else zf n).length = 2 * n
    split
    · rw [List.length_set, zf_len]
    · exact zf_len n
theorem width_le {k : Kd} {n : Nat} {g : Sg} (h : n ≤ 12) : width k n g ≤ 12 := by
  cases k with
  | pk =>
    show (n + g.e + (n + g.e) % 2) / 2 ≤ 12
    have e := g.e_le
    omega
  | sp => exact h

/-! ### halves -/
def halves (row : List Int) : List Int := row.flatMap fun b => [b / 16, b % 16]
theorem halves_app (a b : List Int) : halves (a ++ b) = halves a ++ halves b := List.flatMap_append
theorem halves_len : ∀ row : List Int, (halves row).length = 2 * row.length
  | [] => rfl
  | b :: r => by
    show ([b / 16, b % 16] ++ halves r).length = 2 * (r.length + 1)
    rw [List.length_append, halves_len r]
    show 2 + 2 * r.length = 2 * (r.length + 1)
    omega
def Bytes (row : List Int) : Prop := ∀ b ∈ row, 0 ≤ b ∧ b < 256
theorem halves_get : ∀ (row : List Int) (p : Nat) (b : Int), row[p / 2]? = some b → (halves row)[p]? = some (if p % 2 = 0 then b / 16 else b % 16)
  | [], p, b, h => by simp at h
  | c :: r, p, b, h => by
    show ([c / 16, c % 16] ++ halves r)[p]? = _
    match p, h with
    | 0, h =>
      have e : c = b := Option.some.inj h
      rw [e]
      rfl
    | 1, h =>
      have e : c = b := Option.some.inj h
      rw [e]
      rfl
    | p + 2, h =>
      have e1 : (p + 2) / 2 = p / 2 + 1 := by omega
      have e2 : (p + 2) % 2 = p % 2 := by omega
      rw [e1] at h
      have ih := halves_get r p b (by simpa using h)
      rw [e2, ← ih]
      rfl
theorem halves_bd {row : List Int} (hb : Bytes row) : ∀ h ∈ halves row, 0 ≤ h ∧ h < 16 := by
  intro h hm
  obtain ⟨b, hb', hm⟩ := List.mem_flatMap.mp hm
  obtain ⟨h0, h1⟩ := hb b hb'
  rcases List.mem_cons.mp hm with e | hm
  · subst e; omega
  · rcases List.mem_cons.mp hm with e | hm
    · subst e; omega
    · cases hm

/-! ### the first wrong half -/
def rightB : Duty → Int → Bool
  | .ahead, h => decide (h = 0)
  | .figure, h => decide (h < 10)
  | .zone, h => decide (h = 15)
  | .sign, h => decide (9 < h)
def caughtM : List Duty → List Int → Nat → Option (Nat × Duty)
  | d :: ds, h :: hs, i => if rightB d h = true then caughtM ds hs (i + 1) else some (i, d)
  | _, _, _ => none
theorem drop_cons {α : Type} : ∀ {l : List α} {i : Nat} {x : α}, l[i]? = some x → l.drop i = x :: l.drop (i + 1)
  | [], i, x, h => by simp at h
  | a :: l, 0, x, h => by
    have e : a = x := Option.some.inj h
    rw [e]; rfl
  | a :: l, i + 1, x, h => drop_cons (l := l) (i := i) (by simpa using h)
theorem caught_step {ds : List Duty} {hs : List Int} {i : Nat} {d : Duty} {h : Int} (e1 : ds[i]? = some d) (e2 : hs[i]? = some h) :
    caughtM (ds.drop i) (hs.drop i) i = if rightB d h = true then caughtM (ds.drop (i + 1)) (hs.drop (i + 1)) (i + 1) else some (i, d) := by
  rw [drop_cons e1, drop_cons e2]
  rfl
theorem caught_end {ds : List Duty} {hs : List Int} {i : Nat} (e : ds.length ≤ i) : caughtM (ds.drop i) (hs.drop i) i = none := by
  rw [List.drop_of_length_le e]
  rfl
/-- what the program's cell 0 is to be -/
def codeM : Option (Nat × Duty) → Int
  | none => 0
  | some (i, _) => 1 + (i : Int)
theorem caught_right : ∀ {ds : List Duty} {hs : List Int} {i : Nat}, caughtM ds hs i = none → ∀ (j : Nat) (d : Duty) (h : Int), ds[j]? = some d → hs[j]? = some h → rightB d h = true
  | [], _, _, _, j, d, h, e, _ => by simp at e
  | _ :: _, [], _, _, j, d, h, _, e => by simp at e
  | d0 :: ds, h0 :: hs, i, e, j, d, h, e1, e2 => by
    have e' : (if rightB d0 h0 = true then caughtM ds hs (i + 1) else some (i, d0)) = none := e
    by_cases c : rightB d0 h0 = true
    · rw [if_pos c] at e'
      cases j with
      | zero =>
        have q1 : d0 = d := Option.some.inj e1
        have q2 : h0 = h := Option.some.inj e2
        rw [← q1, ← q2]; exact c
      | succ j => exact caught_right e' j d h (by simpa using e1) (by simpa using e2)
    · rw [if_neg c] at e'
      cases e'

/-! ### the number -/
def figs : List Duty → List Int → List Int
  | d :: ds, h :: hs => if d = Duty.figure then h :: figs ds hs else figs ds hs
  | _, _ => []
theorem figs_app : ∀ {a b : List Duty} {x y : List Int}, a.length = x.length → figs (a ++ b) (x ++ y) = figs a x ++ figs b y
  | [], b, [], y, _ => rfl
  | [], b, _ :: _, y, h => by cases h
  | _ :: _, b, [], y, h => by cases h
  | d :: a, b, h :: x, y, e => by
    have ih := figs_app (a := a) (b := b) (x := x) (y := y) (by simpa using e)
    show (if d = Duty.figure then h :: figs (a ++ b) (x ++ y) else figs (a ++ b) (x ++ y)) = (if d = Duty.figure then h :: figs a x else figs a x) ++ figs b y
    rw [ih]
    split <;> rfl
theorem figs_all : ∀ {n : Nat} {x : List Int}, x.length = n → figs (List.replicate n Duty.figure) x = x
  | 0, [], _ => rfl
  | 0, _ :: _, h => by cases h
  | n + 1, [], h => by cases h
  | n + 1, h :: x, e => by
    have ih := figs_all (n := n) (x := x) (by simpa using e)
    show (if Duty.figure = Duty.figure then h :: figs (List.replicate n Duty.figure) x else _) = _
    rw [if_pos rfl, ih]
theorem figs_none : ∀ {n : Nat} {d : Duty} {x : List Int}, d ≠ Duty.figure → figs (List.replicate n d) x = []
  | 0, d, x, _ => by cases x <;> rfl
  | n + 1, d, [], _ => rfl
  | n + 1, d, h :: x, e => by
    show (if d = Duty.figure then h :: figs (List.replicate n d) x else figs (List.replicate n d) x) = []
    rw [if_neg e]
    exact figs_none e
theorem figs_take {ds : List Duty} {hs : List Int} {i : Nat} {d : Duty} {h : Int} (e1 : ds[i]? = some d) (e2 : hs[i]? = some h) :
    figs (ds.take (i + 1)) (hs.take (i + 1)) = figs (ds.take i) (hs.take i) ++ (if d = Duty.figure then [h] else []) := by
  have t1 : ds.take (i + 1) = ds.take i ++ [d] := by rw [List.take_add_one, e1]; rfl
  have t2 : hs.take (i + 1) = hs.take i ++ [h] := by rw [List.take_add_one, e2]; rfl
  have l1 : i < ds.length := (List.getElem?_eq_some_iff.mp e1).1
  have l2 : i < hs.length := (List.getElem?_eq_some_iff.mp e2).1
  rw [t1, t2, figs_app (by rw [List.length_take, List.length_take]; omega)]
  rfl
def numBy (ds : List Int) : Int := ds.foldl (fun a d => a * 10 + d) 0
def odds : List Int → List Int
  | _ :: b :: r => b :: odds r
  | _ => []
theorem zf_succ (n : Nat) : zf (n + 1) = Duty.zone :: Duty.figure :: zf n := by
  unfold zf
  rw [List.replicate_succ, List.flatten_cons]
  rfl
theorem figs_zf : ∀ {n : Nat} {x : List Int}, x.length = 2 * n → figs (zf n) x = odds x
  | 0, [], _ => rfl
  | 0, _ :: _, h => by cases h
  | n + 1, [], h => by simp at h
  | n + 1, [_], h => by simp at h; omega
  | n + 1, a :: b :: x, h => by
    have ih := figs_zf (n := n) (x := x) (by simp at h; omega)
    rw [zf_succ]
    show (if Duty.zone = Duty.figure then _ else (if Duty.figure = Duty.figure then b :: figs (zf n) x else _)) = b :: odds x
    rw [if_neg (by decide), if_pos rfl, ih]
theorem figs_zf_set : ∀ {n : Nat} {x : List Int} (j : Nat), x.length = 2 * n → figs ((zf n).set (2 * j) Duty.sign) x = odds x
  | 0, [], j, _ => by cases j <;> rfl
  | 0, _ :: _, j, h => by cases h
  | n + 1, [], j, h => by simp at h
  | n + 1, [_], j, h => by simp at h; omega
  | n + 1, a :: b :: x, 0, h => by
    have ih := figs_zf (n := n) (x := x) (by simp at h; omega)
    rw [zf_succ]
    show (if Duty.sign = Duty.figure then _ else (if Duty.figure = Duty.figure then b :: figs (zf n) x else _)) = b :: odds x
    rw [if_neg (by decide), if_pos rfl, ih]
  | n + 1, a :: b :: x, j + 1, h => by
    have ih := figs_zf_set (n := n) (x := x) j (by simp at h; omega)
    rw [zf_succ]
    show figs (Duty.zone :: Duty.figure :: (zf n).set (2 * j) Duty.sign) (a :: b :: x) = b :: odds x
    show (if Duty.zone = Duty.figure then _ else (if Duty.figure = Duty.figure then b :: figs ((zf n).set (2 * j) Duty.sign) x else _)) = b :: odds x
    rw [if_neg (by decide), if_pos rfl, ih]
theorem odds_len : ∀ {n : Nat} {x : List Int}, x.length = 2 * n → (odds x).length = n
  | 0, [], _ => rfl
  | 0, _ :: _, h => by cases h
  | n + 1, [], h => by simp at h
  | n + 1, [_], h => by simp at h; omega
  | n + 1, a :: b :: x, h => by
    have ih := odds_len (n := n) (x := x) (by simp at h; omega)
    show (odds x).length + 1 = n + 1
    rw [ih]
/-- where the sign's half stands -/
def signAt (k : Kd) (n : Nat) (g : Sg) : Nat := match k with
  | .pk => pad n g + n
  | .sp => 2 * n - 2
/-- the figures as the law reads them: with the half ahead, where there is one -/
def lawFigs (k : Kd) (g : Sg) (hs : List Int) : List Int := match k with
  | .sp => odds hs
  | .pk => if g = .en then hs.dropLast else hs
def lawHalf (k : Kd) (n : Nat) (g : Sg) (hs : List Int) : Int := if g = .en then hs.getD (signAt k n g) 0 else 12
def lawNum (k : Kd) (n : Nat) (g : Sg) (hs : List Int) : Int :=
  if lawHalf k n g hs = 11 ∨ lawHalf k n g hs = 13 then 0 - numBy (lawFigs k g hs)
  else if g = .te ∧ 5 * 10 ^ (n - 1) ≤ numBy (lawFigs k g hs) then numBy (lawFigs k g hs) - 10 ^ n else numBy (lawFigs k g hs)
/-- .. and as the program reads it -/
def progNum (k : Kd) (n : Nat) (g : Sg) (hs : List Int) : Int :=
  if g = .en ∧ (hs.getD (signAt k n g) 0 = 11 ∨ hs.getD (signAt k n g) 0 = 13) then - numBy (figs (due k n g) hs)
  else if g = .te ∧ 4 < (figs (due k n g) hs).getD 0 0 then numBy (figs (due k n g) hs) - 10 ^ n else numBy (figs (due k n g) hs)
theorem numBy_from : ∀ (ds : List Int) (a : Int), ds.foldl (fun a d => a * 10 + d) a = a * 10 ^ ds.length + numBy ds
  | [], a => by
    show a = a * 10 ^ 0 + 0
    rw [Int.pow_zero, Int.mul_one, Int.add_zero]
  | d :: ds, a => by
    show ds.foldl (fun a d => a * 10 + d) (a * 10 + d) = a * 10 ^ (ds.length + 1) + ds.foldl (fun a d => a * 10 + d) (0 * 10 + d)
    rw [numBy_from ds (a * 10 + d), numBy_from ds (0 * 10 + d), Int.pow_succ, Int.add_mul, Int.add_mul, Int.zero_mul, Int.zero_mul]
    have e : a * (10 ^ ds.length * 10) = a * 10 * 10 ^ ds.length := by rw [Int.mul_comm (10 ^ ds.length) 10, Int.mul_assoc]
    rw [e]
    omega
theorem numBy_cons (d : Int) (ds : List Int) : numBy (d :: ds) = d * 10 ^ ds.length + numBy ds := by
  show ds.foldl (fun a d => a * 10 + d) (0 * 10 + d) = _
  rw [numBy_from ds (0 * 10 + d), Int.zero_mul, Int.zero_add]
theorem numBy_bd : ∀ {ds : List Int}, (∀ d ∈ ds, 0 ≤ d ∧ d < 10) → 0 ≤ numBy ds ∧ numBy ds < 10 ^ ds.length
  | [], _ => ⟨Int.le_refl 0, by decide⟩
  | d :: ds, h => by
    obtain ⟨h0, h1⟩ := numBy_bd (ds := ds) fun x hx => h x (List.mem_cons_of_mem _ hx)
    obtain ⟨d0, d1⟩ := h d List.mem_cons_self
    have p : (0 : Int) ≤ d * 10 ^ ds.length := Int.mul_nonneg d0 (by omega)
    have q : d * 10 ^ ds.length ≤ 9 * 10 ^ ds.length := Int.mul_le_mul_of_nonneg_right (by omega) (by omega)
    rw [numBy_cons, List.length_cons, Int.pow_succ]
    omega
theorem numBy_five {d : Int} {ds : List Int} (hd : ∀ x ∈ ds, 0 ≤ x ∧ x < 10) : 5 * 10 ^ ds.length ≤ numBy (d :: ds) ↔ 4 < d := by
  obtain ⟨h0, h1⟩ := numBy_bd hd
  rw [numBy_cons]
  constructor
  · intro h
    have : ¬ d ≤ 4 := fun z => by
      have q : d * 10 ^ ds.length ≤ 4 * 10 ^ ds.length := Int.mul_le_mul_of_nonneg_right z (by omega)
      omega
    omega
  · intro h
    have q : 5 * 10 ^ ds.length ≤ d * 10 ^ ds.length := Int.mul_le_mul_of_nonneg_right (by omega) (by omega)
    omega
end K75

/-! The number of a good row, by the program and by the law. -/
namespace K75
open PySem
theorem figs_due_pk {n : Nat} {g : Sg} {hs : List Int} (h : hs.length = pad n g + (n + g.e)) : figs (due .pk n g) hs = (hs.drop (pad n g)).take n := by
  have e : hs = hs.take (pad n g) ++ ((hs.drop (pad n g)).take n ++ (hs.drop (pad n g)).drop n) := by rw [List.take_append_drop, List.take_append_drop]
  have l1 : (hs.take (pad n g)).length = pad n g := by rw [List.length_take]; omega
  have l2 : ((hs.drop (pad n g)).take n).length = n := by rw [List.length_take, List.length_drop]; omega
  conv => lhs; rw [e]
  unfold due
  rw [figs_app (by rw [List.length_replicate, l1]), figs_none (d := .ahead) (by decide), figs_app (by rw [List.length_replicate, l2]), figs_none (d := .sign) (by decide), figs_all l2, List.append_nil]
  rfl
theorem figs_due_sp {n : Nat} {g : Sg} {hs : List Int} (hn : 1 ≤ n) (h : hs.length = 2 * n) : figs (due .sp n g) hs = odds hs := by
  unfold due
  by_cases c : g = .en
  · rw [if_pos c]
    have e : 2 * n - 2 = 2 * (n - 1) := by omega
    rw [e]
    exact figs_zf_set _ h
  · rw [if_neg c]
    exact figs_zf h
theorem figs_le : ∀ (ds : List Duty) (hs : List Int), (figs ds hs).length ≤ ds.length
  | [], hs => by cases hs <;> exact Nat.le_refl 0
  | d :: ds, [] => Nat.zero_le _
  | d :: ds, h :: hs => by
    have ih := figs_le ds hs
    show (if d = Duty.figure then h :: figs ds hs else figs ds hs).length ≤ ds.length + 1
    split
    · exact Nat.succ_le_succ ih
    · omega
theorem width_pk {n : Nat} {g : Sg} : 2 * width .pk n g = pad n g + (n + g.e) := by
  show 2 * ((n + g.e + pad n g) / 2) = pad n g + (n + g.e)
  unfold pad
  omega
theorem figs_due_len {k : Kd} {n : Nat} {g : Sg} {hs : List Int} (hn : 1 ≤ n) (h : hs.length = 2 * width k n g) : (figs (due k n g) hs).length = n := by
  cases k with
  | pk =>
    rw [width_pk] at h
    rw [figs_due_pk h, List.length_take, List.length_drop]
    omega
  | sp =>
    have h' : hs.length = 2 * n := h
    rw [figs_due_sp hn h']
    exact odds_len h'
theorem zf_get : ∀ (n m : Nat) (d : Duty), (zf n)[m]? = some d → d = if m % 2 = 0 then Duty.zone else Duty.figure
  | 0, m, d, h => by
    have h' : ([] : List Duty)[m]? = some d := h
    simp at h'
  | n + 1, m, d, h => by
    rw [zf_succ] at h
    match m, h with
    | 0, h => exact (Option.some.inj h).symm
    | 1, h => exact (Option.some.inj h).symm
    | m + 2, h =>
      have ih := zf_get n m d (by simpa using h)
      have e : (m + 2) % 2 = m % 2 := by omega
      rw [e]
      exact ih
theorem sign_at {k : Kd} {n : Nat} (hn : 1 ≤ n) : (due k n .en)[signAt k n .en]? = some Duty.sign := by
  cases k with
  | pk =>
    show (List.replicate (pad n .en) Duty.ahead ++ (List.replicate n Duty.figure ++ List.replicate 1 Duty.sign))[pad n .en + n]? = some Duty.sign
    rw [List.getElem?_append_right (by rw [List.length_replicate]; omega), List.length_replicate, List.getElem?_append_right (by rw [List.length_replicate]; omega), List.length_replicate]
    have e : pad n .en + n - pad n .en - n = 0 := by omega
    rw [e]
    rfl
  | sp =>
    show ((zf n).set (2 * n - 2) Duty.sign)[2 * n - 2]? = some Duty.sign
    rw [List.getElem?_set_self (by rw [zf_len]; omega)]
theorem sign_first {k : Kd} {n : Nat} {m : Nat} {d : Duty} (hm : m < signAt k n .en) (h : (due k n .en)[m]? = some d) : d ≠ Duty.sign := by
  cases k with
  | pk =>
    have hm' : m < pad n .en + n := hm
    have h' : (List.replicate (pad n .en) Duty.ahead ++ (List.replicate n Duty.figure ++ List.replicate 1 Duty.sign))[m]? = some d := h
    rw [← List.append_assoc, List.getElem?_append_left (by rw [List.length_append, List.length_replicate, List.length_replicate]; omega)] at h'
    have hmem := List.mem_of_getElem? h'
    rcases List.mem_append.mp hmem with q | q
    · rw [(List.mem_replicate.mp q).2]; decide
    · rw [(List.mem_replicate.mp q).2]; decide
  | sp =>
    have hm' : m < 2 * n - 2 := hm
    have h' : ((zf n).set (2 * n - 2) Duty.sign)[m]? = some d := h
    rw [List.getElem?_set_ne (by omega)] at h'
    rw [zf_get n m d h']
    split <;> decide
theorem numBy_ahead (x : List Int) : numBy (0 :: x) = numBy x := rfl
theorem odds_mem : ∀ {x : List Int} {h : Int}, h ∈ odds x → h ∈ x
  | [], h, q => by cases q
  | [_], h, q => by cases q
  | a :: b :: r, h, q => by
    have q' : h ∈ b :: odds r := q
    rcases List.mem_cons.mp q' with e | q'
    · rw [e]; exact List.mem_cons_of_mem _ List.mem_cons_self
    · exact List.mem_cons_of_mem _ (List.mem_cons_of_mem _ (odds_mem q'))
/-- every figure of a good row is one -/
theorem figs_right : ∀ {ds : List Duty} {hs : List Int}, (∀ (j : Nat) (d : Duty) (h : Int), ds[j]? = some d → hs[j]? = some h → rightB d h = true) → ∀ h ∈ figs ds hs, h < 10
  | [], hs, _, h, q => by cases hs <;> cases q
  | d :: ds, [], _, h, q => by cases q
  | d :: ds, x :: hs, R, h, q => by
    have ih := figs_right (ds := ds) (hs := hs) fun j d' h' e1 e2 => R (j + 1) d' h' (by simpa using e1) (by simpa using e2)
    have q' : h ∈ (if d = Duty.figure then x :: figs ds hs else figs ds hs) := q
    by_cases c : d = Duty.figure
    · rw [if_pos c] at q'
      rcases List.mem_cons.mp q' with e | q'
      · have r := R 0 d x rfl rfl
        rw [c] at r
        rw [e]
        exact of_decide_eq_true r
      · exact ih h q'
    · rw [if_neg c] at q'
      exact ih h q'
theorem figs_mem : ∀ {ds : List Duty} {hs : List Int} {h : Int}, h ∈ figs ds hs → h ∈ hs
  | [], hs, h, q => by cases hs <;> cases q
  | d :: ds, [], h, q => by cases q
  | d :: ds, x :: hs, h, q => by
    have q' : h ∈ (if d = Duty.figure then x :: figs ds hs else figs ds hs) := q
    by_cases c : d = Duty.figure
    · rw [if_pos c] at q'
      rcases List.mem_cons.mp q' with e | q'
      · rw [e]; exact List.mem_cons_self
      · exact List.mem_cons_of_mem _ (figs_mem q')
    · rw [if_neg c] at q'
      exact List.mem_cons_of_mem _ (figs_mem q')
/-- the figures as the law reads them write the same number -/
theorem law_figs {k : Kd} {n : Nat} {g : Sg} {hs : List Int} (hn : 1 ≤ n) (h : hs.length = 2 * width k n g) (R : caughtM (due k n g) hs 0 = none) : numBy (lawFigs k g hs) = numBy (figs (due k n g) hs) := by
  cases k with
  | sp =>
    have h' : hs.length = 2 * n := h
    rw [figs_due_sp hn h']
    rfl
  | pk =>
    rw [width_pk] at h
    rw [figs_due_pk h]
    -- what the law takes: the half ahead and the figures
    have key : ∀ y : List Int, y = hs.take (pad n g + n) → numBy y = numBy ((hs.drop (pad n g)).take n) := by
      intro y ey
      subst ey
      have hp : pad n g = 0 ∨ pad n g = 1 := by unfold pad; omega
      rcases hp with e | e
      · rw [e, Nat.zero_add]
        rfl
      · rw [e]
        cases hs with
        | nil => simp at h; omega
        | cons x hs =>
          have r := caught_right R 0 Duty.ahead x (by
            show (List.replicate (pad n g) Duty.ahead ++ _)[0]? = _
            rw [e]
            rfl) rfl
          have e0 : x = 0 := of_decide_eq_true r
          rw [e0, Nat.add_comm 1 n, List.take_succ_cons]
          rfl
    show numBy (if g = .en then hs.dropLast else hs) = _
    by_cases c : g = .en
    · rw [if_pos c]
      refine key _ ?_
      rw [List.dropLast_eq_take]
      congr 1
      rw [h, c]
      show pad n .en + (n + 1) - 1 = _
      omega
    · rw [if_neg c]
      refine key _ ?_
      have ge : g.e = 0 := by cases g <;> first | rfl | exact absurd rfl c
      rw [List.take_of_length_le (by omega)]
theorem nA {a b : Sg} {p : Prop} (h : a ≠ b) : ¬ (a = b ∧ p) := fun z => h z.1
/-- both read the same number of a good row -/
theorem nums_same {k : Kd} {n : Nat} {g : Sg} {hs : List Int} (hn : 1 ≤ n) (h : hs.length = 2 * width k n g) (hb : ∀ x ∈ hs, 0 ≤ x) (R : caughtM (due k n g) hs 0 = none) : progNum k n g hs = lawNum k n g hs := by
  have e := law_figs hn h R
  have fl := figs_due_len hn h
  unfold progNum lawNum lawHalf
  rw [e]
  cases g with
  | en =>
    rw [if_pos rfl]
    by_cases c : hs.getD (signAt k n .en) 0 = 11 ∨ hs.getD (signAt k n .en) 0 = 13
    · rw [if_pos ⟨rfl, c⟩, if_pos c, Int.zero_sub]
    · rw [if_neg (show ¬ (Sg.en = Sg.en ∧ (hs.getD (signAt k n .en) 0 = 11 ∨ hs.getD (signAt k n .en) 0 = 13)) from fun z => c z.2), if_neg c, if_neg (nA (a := .en) (b := .te) (by decide)), if_neg (nA (a := .en) (b := .te) (by decide))]
  | no =>
    rw [if_neg (nA (a := .no) (b := .en) (by decide)), if_neg (nA (a := .no) (b := .te) (by decide)), if_neg (show ¬ Sg.no = Sg.en by decide), if_neg (show ¬ ((12 : Int) = 11 ∨ (12 : Int) = 13) by decide), if_neg (nA (a := .no) (b := .te) (by decide))]
  | te =>
    rw [if_neg (nA (a := .te) (b := .en) (by decide)), if_neg (show ¬ Sg.te = Sg.en by decide), if_neg (show ¬ ((12 : Int) = 11 ∨ (12 : Int) = 13) by decide)]
    have r10 : ∀ x ∈ figs (due k n .te) hs, 0 ≤ x ∧ x < 10 := fun x q => ⟨hb x (figs_mem q), figs_right (caught_right R) x q⟩
    cases ef : figs (due k n .te) hs with
    | nil =>
      rw [ef] at fl
      have fl' : 0 = n := fl
      omega
    | cons d r =>
      rw [ef] at fl r10
      have fl' : r.length + 1 = n := fl
      have en : n - 1 = r.length := by omega
      have five := numBy_five (d := d) (ds := r) fun x q => r10 x (List.mem_cons_of_mem _ q)
      rw [en]
      by_cases c : 4 < d
      · rw [if_pos (show Sg.te = Sg.te ∧ 4 < (d :: r).getD 0 0 from ⟨rfl, c⟩), if_pos (show Sg.te = Sg.te ∧ 5 * 10 ^ r.length ≤ numBy (d :: r) from ⟨rfl, five.mpr c⟩)]
      · rw [if_neg (show ¬ (Sg.te = Sg.te ∧ 4 < (d :: r).getD 0 0) from fun z => c z.2), if_neg (show ¬ (Sg.te = Sg.te ∧ 5 * 10 ^ r.length ≤ numBy (d :: r)) from fun z => c (five.mp z.2))]
end K75

/-! The machine of rows, the checking program, what its cell 0 is. -/
namespace K75
open PySem
inductive Op
  | copy (a b : Nat) | look (a t : Nat) | band (a b : Nat) | bor (a b : Nat) | put (a : Nat) (k : Int) | mark (k : Int)
def Duty.ix : Duty → Nat
  | .figure => 0
  | .sign => 1
  | .ahead => 2
  | .zone => 3
def cA : Nat := 252
def cF : Nat := 253
def cO : Nat := 254
def cB : Nat := 255
def lookOps (p : Nat) (d : Duty) : List Op := [.copy 253 (p / 2), .look 253 (d.ix + 4 * (p % 2)), .copy 254 253, .look 254 8, .band 252 254, .put 255 ((p : Int) + 1), .band 255 253, .bor 252 255]
def bodyOps (ds : List Duty) (i : Nat) : List Op := (List.range i).flatMap fun j => lookOps (ds.length - 1 - j) (ds.getD (ds.length - 1 - j) Duty.figure)
def checkOps (ds : List Duty) : List Op := (Op.put 252 0 :: bodyOps ds ds.length) ++ [.copy 0 252, .mark 0]
theorem bodyOps_succ (ds : List Duty) (i : Nat) : bodyOps ds (i + 1) = bodyOps ds i ++ lookOps (ds.length - 1 - i) (ds.getD (ds.length - 1 - i) Duty.figure) := by
  unfold bodyOps
  rw [List.range_succ, List.flatMap_append]
  simp only [List.flatMap_cons, List.flatMap_nil, List.append_nil]
theorem lookOps_len (p : Nat) (d : Duty) : (lookOps p d).length = 8 := rfl
theorem bodyOps_len (ds : List Duty) : ∀ i, (bodyOps ds i).length = 8 * i
  | 0 => rfl
  | i + 1 => by
    rw [bodyOps_succ, List.length_append, bodyOps_len ds i, lookOps_len]
    omega
/-! ### tables -/
def goodsN : Nat → List Int
  | 0 => [0, 1, 2, 3, 4, 5, 6, 7, 8, 9]
  | 1 => [10, 11, 12, 13, 14, 15]
  | 2 => [0]
  | _ => [15]
def hiHalf (hi : Bool) (b : Int) : Int := if hi = true then b / 16 else b % 16
def flagT (hi : Bool) (good : List Int) : List Int := (List.range 256).map fun k : Nat => if (good.any fun y => y == hiHalf hi (k : Int)) = true then 0 else 255
def tabs8 : List (List Int) := (List.range 8).map fun m => flagT (decide (m < 4)) (goodsN (m % 4))
def turnT : List Int := (List.range 256).map fun k : Nat => 255 - (k : Int)
def tabs9 : List (List Int) := tabs8 ++ [turnT]
theorem good_right : ∀ d : Duty, ∀ h : Fin 16, ((goodsN d.ix).any fun y => y == ((h : Nat) : Int)) = rightB d ((h : Nat) : Int) := by
  intro d
  cases d <;> decide +kernel
theorem good_right' {d : Duty} {h : Int} (h0 : 0 ≤ h) (h1 : h < 16) : ((goodsN d.ix).any fun y => y == h) = rightB d h := by
  have e := good_right d ⟨h.toNat, by omega⟩
  have q : ((h.toNat : Nat) : Int) = h := by omega
  simp only [q] at e
  exact e
theorem tabs_at {d : Duty} {p : Nat} : tabs9[d.ix + 4 * (p % 2)]? = some (flagT (decide (p % 2 = 0)) (goodsN d.ix)) := by
  have h : p % 2 = 0 ∨ p % 2 = 1 := by omega
  rcases h with e | e <;> (rw [e]; cases d <;> rfl)
theorem tab8_at : tabs9[8]? = some turnT := rfl
theorem range_get {α : Type} {f : Nat → α} {n i : Nat} (h : i < n) : ((List.range n).map f)[i]? = some (f i) := by
  rw [List.getElem?_map, List.getElem?_range h]
  rfl
theorem flag_at {hi : Bool} {good : List Int} {b : Int} (h0 : 0 ≤ b) (h1 : b < 256) : (flagT hi good)[b.toNat]? = some (if (good.any fun y => y == hiHalf hi b) = true then 0 else 255) := by
  unfold flagT
  rw [range_get (by omega)]
  have q : ((b.toNat : Nat) : Int) = b := by omega
  rw [q]
theorem turn_at {b : Int} (h0 : 0 ≤ b) (h1 : b < 256) : turnT[b.toNat]? = some (255 - b) := by
  unfold turnT
  rw [range_get (by omega)]
  have q : ((b.toNat : Nat) : Int) = b := by omega
  rw [q]
/-! ### one step -/
def getI (cells : List Int) (a : Nat) : Int := cells.getD a 0
def stepM (s : List Int × Int) : Op → List Int × Int
  | .copy a b => (s.1.set a (getI s.1 b), s.2)
  | .look a t => (s.1.set a ((tabs9.getD t []).getD (getI s.1 a).toNat 0), s.2)
  | .band a b => (s.1.set a (Builtin.bitAnd (getI s.1 a) (getI s.1 b)), s.2)
  | .bor a b => (s.1.set a (Builtin.bitOr (getI s.1 a) (getI s.1 b)), s.2)
  | .put a k => (s.1.set a k, s.2)
  | .mark k => (s.1, k)
/-- a row that may be done: its cells are there, its table has a byte at the place -/
def okOp (s : List Int × Int) : Op → Prop
  | .copy a b => a < 256 ∧ b < 256
  | .look a t => a < 256 ∧ t < 9 ∧ 0 ≤ getI s.1 a ∧ getI s.1 a < 256
  | .band a b => a < 256 ∧ b < 256
  | .bor a b => a < 256 ∧ b < 256
  | .put a _ => a < 256
  | .mark _ => True
def okRun : List Int × Int → List Op → Prop
  | _, [] => True
  | s, o :: os => okOp s o ∧ okRun (stepM s o) os
def runM (s : List Int × Int) (os : List Op) : List Int × Int := os.foldl stepM s
theorem runM_app (s : List Int × Int) (a b : List Op) : runM s (a ++ b) = runM (runM s a) b := List.foldl_append
theorem okRun_app : ∀ {s : List Int × Int} {a b : List Op}, okRun s a → okRun (runM s a) b → okRun s (a ++ b)
  | _, [], _, _, h => h
  | s, o :: os, b, h1, h2 => ⟨h1.1, okRun_app (s := stepM s o) h1.2 h2⟩
theorem okRun_drop : ∀ {s : List Int × Int} {os : List Op} {i : Nat} {o : Op}, okRun s os → os[i]? = some o → okOp (runM s (os.take i)) o
  | _, [], i, o, _, e => by simp at e
  | s, o' :: os, 0, o, h, e => by
    have q : o' = o := Option.some.inj e
    rw [← q]
    exact h.1
  | s, o' :: os, i + 1, o, h, e => okRun_drop (s := stepM s o') (os := os) (i := i) h.2 (by simpa using e)
theorem step_len (s : List Int × Int) (o : Op) : (stepM s o).1.length = s.1.length := by
  cases o <;> first | exact List.length_set .. | rfl
theorem run_len : ∀ (os : List Op) (s : List Int × Int), (runM s os).1.length = s.1.length
  | [], _ => rfl
  | o :: os, s => (run_len os (stepM s o)).trans (step_len s o)
theorem runM_take {s : List Int × Int} {os : List Op} {i : Nat} {o : Op} (e : os[i]? = some o) : runM s (os.take (i + 1)) = stepM (runM s (os.take i)) o := by
  rw [List.take_add_one, e, runM_app]
  rfl
/-! ### cells -/
theorem getI_set_same {l : List Int} {a : Nat} {v : Int} (h : a < l.length) : getI (l.set a v) a = v := by
  unfold getI
  rw [List.getD_eq_getElem?_getD, List.getElem?_set_self h]
  rfl
theorem getI_set_ne {l : List Int} {a b : Nat} {v : Int} (h : a ≠ b) : getI (l.set a v) b = getI l b := by
  unfold getI
  rw [List.getD_eq_getElem?_getD, List.getElem?_set_ne h, List.getD_eq_getElem?_getD]
theorem and_all : ∀ x : Fin 256, Builtin.bitAnd ((x : Nat) : Int) 255 = ((x : Nat) : Int) ∧ Builtin.bitAnd ((x : Nat) : Int) 0 = 0 ∧ Builtin.bitOr ((x : Nat) : Int) 0 = ((x : Nat) : Int) ∧ Builtin.bitOr 0 ((x : Nat) : Int) = ((x : Nat) : Int) := by decide +kernel
theorem and_of {x : Int} (h0 : 0 ≤ x) (h1 : x < 256) : Builtin.bitAnd x 255 = x ∧ Builtin.bitAnd x 0 = 0 ∧ Builtin.bitOr x 0 = x ∧ Builtin.bitOr 0 x = x := by
  have e := and_all ⟨x.toNat, by omega⟩
  have q : ((x.toNat : Nat) : Int) = x := by omega
  simp only [q] at e
  exact e
/-- the rows of one place -/
theorem look_run {cells : List Int} {m b ans : Int} {p : Nat} {d : Duty} (hl : cells.length = 256) (hp : p < 250) (hb : getI cells (p / 2) = b) (b0 : 0 ≤ b) (b1 : b < 256) (ha : getI cells 252 = ans) (a0 : 0 ≤ ans) (a1 : ans < 256) :
    okRun (cells, m) (lookOps p d) ∧ getI (runM (cells, m) (lookOps p d)).1 252 = (if rightB d (if p % 2 = 0 then b / 16 else b % 16) = true then ans else (p : Int) + 1) ∧
      (∀ c, c < 252 → getI (runM (cells, m) (lookOps p d)).1 c = getI cells c) := by
  have hf : (flagT (decide (p % 2 = 0)) (goodsN d.ix))[b.toNat]? = some (if rightB d (if p % 2 = 0 then b / 16 else b % 16) = true then 0 else 255) := by
    rw [flag_at b0 b1]
    have e : hiHalf (decide (p % 2 = 0)) b = (if p % 2 = 0 then b / 16 else b % 16) := by
      unfold hiHalf
      by_cases c : p % 2 = 0
      · rw [if_pos (decide_eq_true c), if_pos c]
      · rw [if_neg (by rw [decide_eq_false c]; decide), if_neg c]
    rw [e, good_right' (by split <;> omega) (by split <;> omega)]
  generalize hh : (if rightB d (if p % 2 = 0 then b / 16 else b % 16) = true then (0 : Int) else 255) = fl at hf
  have fl01 : fl = 0 ∨ fl = 255 := by
    rw [← hh]
    by_cases c : rightB d (if p % 2 = 0 then b / 16 else b % 16) = true
    · exact .inl (if_pos c)
    · exact .inr (if_neg c)
  have tf : (tabs9.getD (d.ix + 4 * (p % 2)) []).getD b.toNat 0 = fl := by
    rw [List.getD_eq_getElem?_getD, List.getD_eq_getElem?_getD, tabs_at]
    show ((flagT (decide (p % 2 = 0)) (goodsN d.ix))[b.toNat]?).getD 0 = fl
    rw [hf]
    rfl
  have tt : (tabs9.getD 8 []).getD fl.toNat 0 = 255 - fl := by
    rw [List.getD_eq_getElem?_getD, List.getD_eq_getElem?_getD, tab8_at]
    show (turnT[fl.toNat]?).getD 0 = 255 - fl
    rw [turn_at (by omega) (by omega)]
    rfl
  have hix : d.ix + 4 * (p % 2) < 9 := by
    have : d.ix ≤ 3 := by cases d <;> decide
    omega
  have hp2 : p / 2 < 252 := by omega
  -- the cells, one row behind the other
  let c1 := cells.set 253 b
  let c2 := c1.set 253 fl
  let c3 := c2.set 254 fl
  let c4 := c3.set 254 (255 - fl)
  let c5 := c4.set 252 (Builtin.bitAnd ans (255 - fl))
  let c6 := c5.set 255 ((p : Int) + 1)
  let c7 := c6.set 255 (Builtin.bitAnd ((p : Int) + 1) fl)
  let c8 := c7.set 252 (Builtin.bitOr (Builtin.bitAnd ans (255 - fl)) (Builtin.bitAnd ((p : Int) + 1) fl))
  have l1 : c1.length = 256 := by rw [List.length_set, hl]
  have l2 : c2.length = 256 := by rw [List.length_set, l1]
  have l3 : c3.length = 256 := by rw [List.length_set, l2]
  have l4 : c4.length = 256 := by rw [List.length_set, l3]
  have l5 : c5.length = 256 := by rw [List.length_set, l4]
  have l6 : c6.length = 256 := by rw [List.length_set, l5]
  have l7 : c7.length = 256 := by rw [List.length_set, l6]
  have g1 : getI c1 253 = b := getI_set_same (by rw [hl]; decide)
  have g2 : getI c2 253 = fl := getI_set_same (by rw [l1]; decide)
  have g3 : getI c3 254 = fl := getI_set_same (by rw [l2]; decide)
  have g3' : getI c3 253 = fl := (getI_set_ne (by decide)).trans g2
  have g4 : getI c4 254 = 255 - fl := getI_set_same (by rw [l3]; decide)
  have g4' : getI c4 253 = fl := (getI_set_ne (by decide)).trans g3'
  have g4a : getI c4 252 = ans := by
    show getI (((((cells.set 253 b).set 253 fl).set 254 fl).set 254 (255 - fl))) 252 = ans
    rw [getI_set_ne (by decide), getI_set_ne (by decide), getI_set_ne (by decide), getI_set_ne (by decide), ha]
  have g5 : getI c5 252 = Builtin.bitAnd ans (255 - fl) := getI_set_same (by rw [l4]; decide)
  have g5' : getI c5 253 = fl := (getI_set_ne (by decide)).trans g4'
  have g6 : getI c6 255 = (p : Int) + 1 := getI_set_same (by rw [l5]; decide)
  have g6' : getI c6 253 = fl := (getI_set_ne (by decide)).trans g5'
  have g6a : getI c6 252 = Builtin.bitAnd ans (255 - fl) := (getI_set_ne (by decide)).trans g5
  have g7 : getI c7 255 = Builtin.bitAnd ((p : Int) + 1) fl := getI_set_same (by rw [l6]; decide)
  have g7a : getI c7 252 = Builtin.bitAnd ans (255 - fl) := (getI_set_ne (by decide)).trans g6a
  have g8 : getI c8 252 = Builtin.bitOr (Builtin.bitAnd ans (255 - fl)) (Builtin.bitAnd ((p : Int) + 1) fl) := getI_set_same (by rw [l7]; decide)
  have s1 : stepM (cells, m) (.copy 253 (p / 2)) = (c1, m) := by show (cells.set 253 (getI cells (p / 2)), m) = _; rw [hb]
  have s2 : stepM (c1, m) (.look 253 (d.ix + 4 * (p % 2))) = (c2, m) := by show (c1.set 253 ((tabs9.getD (d.ix + 4 * (p % 2)) []).getD (getI c1 253).toNat 0), m) = _; rw [g1, tf]
  have s3 : stepM (c2, m) (.copy 254 253) = (c3, m) := by show (c2.set 254 (getI c2 253), m) = _; rw [g2]
  have s4 : stepM (c3, m) (.look 254 8) = (c4, m) := by show (c3.set 254 ((tabs9.getD 8 []).getD (getI c3 254).toNat 0), m) = _; rw [g3, tt]
  have s5 : stepM (c4, m) (.band 252 254) = (c5, m) := by show (c4.set 252 (Builtin.bitAnd (getI c4 252) (getI c4 254)), m) = _; rw [g4a, g4]
  have s6 : stepM (c5, m) (.put 255 ((p : Int) + 1)) = (c6, m) := rfl
  have s7 : stepM (c6, m) (.band 255 253) = (c7, m) := by show (c6.set 255 (Builtin.bitAnd (getI c6 255) (getI c6 253)), m) = _; rw [g6, g6']
  have s8 : stepM (c7, m) (.bor 252 255) = (c8, m) := by show (c7.set 252 (Builtin.bitOr (getI c7 252) (getI c7 255)), m) = _; rw [g7a, g7]
  have er : runM (cells, m) (lookOps p d) = (c8, m) := by
    show stepM (stepM (stepM (stepM (stepM (stepM (stepM (stepM (cells, m) (.copy 253 (p / 2))) (.look 253 (d.ix + 4 * (p % 2)))) (.copy 254 253)) (.look 254 8)) (.band 252 254)) (.put 255 ((p : Int) + 1))) (.band 255 253)) (.bor 252 255) = (c8, m)
    rw [s1, s2, s3, s4, s5, s6, s7, s8]
  refine ⟨?_, ?_, fun c hc => ?_⟩
  · refine ⟨⟨by decide, by omega⟩, ?_⟩
    rw [s1]
    refine ⟨⟨by decide, hix, by show 0 ≤ getI c1 253; rw [g1]; exact b0, by show getI c1 253 < 256; rw [g1]; exact b1⟩, ?_⟩
    rw [s2]
    refine ⟨⟨by decide, by decide⟩, ?_⟩
    rw [s3]
    refine ⟨⟨by decide, by decide, by show 0 ≤ getI c3 254; rw [g3]; omega, by show getI c3 254 < 256; rw [g3]; omega⟩, ?_⟩
    rw [s4]
    refine ⟨⟨by decide, by decide⟩, ?_⟩
    rw [s5]
    refine ⟨(by decide : 255 < 256), ?_⟩
    rw [s6]
    refine ⟨⟨by decide, by decide⟩, ?_⟩
    rw [s7]
    exact ⟨⟨by decide, by decide⟩, True.intro⟩
  · rw [er]
    show getI c8 252 = _
    rw [g8]
    obtain ⟨a255, a00, _, _⟩ := and_of a0 a1
    obtain ⟨p255, p00, _, pO⟩ := and_of (x := (p : Int) + 1) (by omega) (by omega)
    obtain ⟨_, _, aO, _⟩ := and_of a0 a1
    by_cases c : rightB d (if p % 2 = 0 then b / 16 else b % 16) = true
    · rw [if_pos c] at hh ⊢
      rw [← hh, show (255 : Int) - 0 = 255 by decide, a255, p00, aO]
    · rw [if_neg c] at hh ⊢
      rw [← hh, show (255 : Int) - 255 = 0 by decide, a00, p255, pO]
  · rw [er]
    show getI (((((((((cells.set 253 b).set 253 fl).set 254 fl).set 254 (255 - fl))).set 252 (Builtin.bitAnd ans (255 - fl))).set 255 ((p : Int) + 1)).set 255 (Builtin.bitAnd ((p : Int) + 1) fl)).set 252 (Builtin.bitOr (Builtin.bitAnd ans (255 - fl)) (Builtin.bitAnd ((p : Int) + 1) fl))) c = _
    rw [getI_set_ne (by omega), getI_set_ne (by omega), getI_set_ne (by omega), getI_set_ne (by omega), getI_set_ne (by omega), getI_set_ne (by omega), getI_set_ne (by omega), getI_set_ne (by omega)]
/-- the answer's cell behind the places from L - i on -/
def ansM (ds : List Duty) (hs : List Int) (i : Nat) : Int := codeM (caughtM (ds.drop (ds.length - i)) (hs.drop (ds.length - i)) (ds.length - i))
theorem codeM_bd : ∀ (ds : List Duty) (hs : List Int) (i : Nat), i + ds.length ≤ 250 → 0 ≤ codeM (caughtM ds hs i) ∧ codeM (caughtM ds hs i) < 256
  | [], hs, i, h => ⟨Int.le_refl 0, (by decide : (0 : Int) < 256)⟩
  | d :: ds, [], i, h => ⟨Int.le_refl 0, (by decide : (0 : Int) < 256)⟩
  | d :: ds, x :: hs, i, h => by
    have h' : i + (ds.length + 1) ≤ 250 := h
    show 0 ≤ codeM (if rightB d x = true then caughtM ds hs (i + 1) else some (i, d)) ∧ codeM (if rightB d x = true then caughtM ds hs (i + 1) else some (i, d)) < 256
    split
    · exact codeM_bd ds hs (i + 1) (by omega)
    · show 0 ≤ 1 + (i : Int) ∧ 1 + (i : Int) < 256
      omega
theorem body_run {ds : List Duty} {row cells : List Int} {m : Int} (hl : cells.length = 256) (hd : ds.length = 2 * row.length) (hr : row.length ≤ 100) (hb : Bytes row) (hc : ∀ i, i < row.length → getI cells i = row.getD i 0) (h0 : getI cells 252 = 0) :
    ∀ i, i ≤ ds.length → okRun (cells, m) (bodyOps ds i) ∧ getI (runM (cells, m) (bodyOps ds i)).1 252 = ansM ds (halves row) i ∧ (∀ c, c < 252 → getI (runM (cells, m) (bodyOps ds i)).1 c = getI cells c)
  | 0, _ => by
    refine ⟨True.intro, ?_, fun c _ => rfl⟩
    show getI cells 252 = _
    unfold ansM
    rw [h0, Nat.sub_zero, caught_end (Nat.le_refl _)]
    rfl
  | i + 1, hi => by
    obtain ⟨k1, k2, k3⟩ := body_run (m := m) hl hd hr hb hc h0 i (by omega)
    let p := ds.length - 1 - i
    have hp : p < ds.length := by show ds.length - 1 - i < ds.length; omega
    have ep : ds.length - (i + 1) = p := by show _ = ds.length - 1 - i; omega
    have ep1 : ds.length - i = p + 1 := by show _ = ds.length - 1 - i + 1; omega
    have hp2 : p / 2 < row.length := by omega
    obtain ⟨b, eb⟩ : ∃ b, row[p / 2]? = some b := ⟨_, List.getElem?_eq_getElem hp2⟩
    obtain ⟨d, ed⟩ : ∃ d, ds[p]? = some d := ⟨_, List.getElem?_eq_getElem hp⟩
    obtain ⟨b0, b1⟩ := hb b (List.mem_of_getElem? eb)
    have eh := halves_get row p b eb
    have egd : ds.getD (ds.length - 1 - i) Duty.figure = d := by
      rw [List.getD_eq_getElem?_getD]
      show (ds[p]?).getD _ = d
      rw [ed]
      rfl
    have eD : row.getD (p / 2) 0 = b := by rw [List.getD_eq_getElem?_getD, eb]; rfl
    have gb : getI (runM (cells, m) (bodyOps ds i)).1 (p / 2) = b := by rw [k3 _ (by omega), hc _ hp2, eD]
    have bd := codeM_bd (ds.drop (ds.length - i)) ((halves row).drop (ds.length - i)) (ds.length - i) (by rw [List.length_drop]; omega)
    rw [bodyOps_succ, egd]
    obtain ⟨q1, q2, q3⟩ := look_run (cells := (runM (cells, m) (bodyOps ds i)).1) (m := (runM (cells, m) (bodyOps ds i)).2) (p := p) (d := d) (by rw [run_len]; exact hl) (by omega) gb b0 b1 k2 bd.1 bd.2
    refine ⟨okRun_app k1 q1, ?_, fun c hc' => ?_⟩
    · rw [runM_app]
      refine Eq.trans q2 ?_
      unfold ansM
      rw [ep, ep1, caught_step ed eh]
      by_cases c : rightB d (if p % 2 = 0 then b / 16 else b % 16) = true
      · rw [if_pos c, if_pos c]
      · rw [if_neg c, if_neg c]
        show (p : Int) + 1 = 1 + (p : Int)
        omega
    · rw [runM_app]
      exact (q3 c hc').trans (k3 c hc')
/-- THE PROGRAM: cell 0 is one more than the place caught, or 0; the mark is 0 -/
theorem check_run {ds : List Duty} {row cells : List Int} {m : Int} (hl : cells.length = 256) (hd : ds.length = 2 * row.length) (hr : row.length ≤ 100) (hb : Bytes row) (hc : ∀ i, i < row.length → getI cells i = row.getD i 0) :
    okRun (cells, m) (checkOps ds) ∧ getI (runM (cells, m) (checkOps ds)).1 0 = codeM (caughtM ds (halves row) 0) ∧ (runM (cells, m) (checkOps ds)).2 = 0 := by
  have hl1 : (cells.set 252 0).length = 256 := by rw [List.length_set, hl]
  obtain ⟨k1, k2, k3⟩ := body_run (ds := ds) (row := row) (cells := cells.set 252 0) (m := m) hl1 hd hr hb (fun i hi => by rw [getI_set_ne (by omega)]; exact hc i hi) (getI_set_same (by rw [hl]; decide)) ds.length (Nat.le_refl _)
  have e2 : ansM ds (halves row) ds.length = codeM (caughtM ds (halves row) 0) := by
    unfold ansM
    rw [Nat.sub_self]
    rfl
  rw [e2] at k2
  have o1 : okRun (cells, m) (Op.put 252 0 :: bodyOps ds ds.length) := ⟨(by decide : 252 < 256), k1⟩
  have r1 : runM (cells, m) (Op.put 252 0 :: bodyOps ds ds.length) = runM (cells.set 252 0, m) (bodyOps ds ds.length) := rfl
  have e3 : runM (cells, m) (checkOps ds) = (((runM (cells.set 252 0, m) (bodyOps ds ds.length)).1.set 0 (getI (runM (cells.set 252 0, m) (bodyOps ds ds.length)).1 252)), 0) := by
    unfold checkOps
    rw [runM_app, r1]
    rfl
  refine ⟨okRun_app o1 ?_, ?_, ?_⟩
  · rw [r1]
    exact ⟨⟨by decide, by decide⟩, True.intro, True.intro⟩
  · rw [e3]
    show getI ((runM (cells.set 252 0, m) (bodyOps ds ds.length)).1.set 0 _) 0 = _
    rw [getI_set_same (by rw [run_len]; show 0 < (cells.set 252 0).length; rw [hl1]; decide), k2]
  · rw [e3]
end K75

/-! The text by places, the calls by bundles, small words; the small defs of the package. -/
namespace K75
open PySem PySem.Spec PyProof.Rows L2
/-! ### the text -/
def topS (i : Nat) : Stmt := PySem.Challenge.pw_tensloft_k75_whole_caught_three_ways.main.body.getD i (.Pass ⟨0, 0, 0, 0⟩)

/-! ### bundles -/
structure Cal (P : Program) (w : World) (K : PySem.W.Frag) (mg : Str → Option Value) (base : Heap) (CX : CXT) (k : Nat) (x : Str) (ps : List Str) (sp : Sp) : Prop where
  ex : ∃ (f : Addr) (fd : FuncData), FnOk P w K mg base CX k f fd ps sp ∧ mg x = some (.ref f) ∧ PySem.W.keepIn K (.ref f) = true ∧ Binds K fd ps []
theorem pe_cal {X : Cx} {CX : CXT} {k : Nat} {x : Str} {ps : List Str} {sp : Sp} {E : XK} {p pos : Pos} {e : Expr} {es : List Expr} {t : TA} (C : Cal X.prog X.w X.K X.mg X.base CX k x ps sp) (hr : Room k X.A) (hx : Passes CX X E) (ha : PA X (e :: es) t)
    (hg : Gl X x := by rfl) (hdb : (x == ("__debug__" : Str)) = false := by decide) (he : starEach (e :: es) X.env = (false, eval e X.env) :: starEach es X.env := by rfl) (hpl : (backTo pos (starEach es X.env)).any (·.1) = false := by rfl) :
    PE X (.Call (.Name x p) (e :: es) [] pos) (tCall sp [] E t) := by
  obtain ⟨f, fd, F, hm, hk, hb⟩ := C.ex
  exact pe_call F hr hg hm hk hb .nil hx ha hdb he hpl
theorem pe_cal0 {X : Cx} {CX : CXT} {k : Nat} {x : Str} {ps : List Str} {sp : Sp} {E : XK} {p pos : Pos} (C : Cal X.prog X.w X.K X.mg X.base CX k x ps sp) (hr : Room k X.A) (hx : Passes CX X E)
    (hg : Gl X x := by rfl) (hdb : (x == ("__debug__" : Str)) = false := by decide) : PE X (.Call (.Name x p) [] [] pos) (tCall sp [] E tNil) := by
  obtain ⟨f, fd, F, hm, hk, hb⟩ := C.ex
  exact pe_call0 F hr hg hm hk hb .nil hx hdb
/-- the built-ins are untouched -/
structure Bi (mg : Str → Option Value) : Prop where
  len : mg "len" = none
  range : mg "range" = none
  int : mg "int" = none
  abs : mg "abs" = none
  tuple : mg "tuple" = none
  list : mg "list" = none
  zip : mg "zip" = none
  enumerate : mg "enumerate" = none
  isinstance : mg "isinstance" = none
  all : mg "all" = none
  max : mg "max" = none
  min : mg "min" = none
  str : mg "str" = none
  bool : mg "bool" = none
def GI (mg : Str → Option Value) (x : Str) (i : Int) : Prop := ∃ t, mg x = some (.int i t)
theorem pe_gi {X : Cx} {x : Str} {i : Int} {pos : Pos} (h : GI X.mg x i) (hg : Gl X x := by rfl) (hd : (x == ("__debug__" : Str)) = false := by decide) : PE X (.Name x pos) (tC (.int i)) := by
  obtain ⟨t, e⟩ := h
  exact pe_glob hg e ⟨t, rfl⟩ hd
/-- a module's tuple -/
def GT (K : PySem.W.Frag) (mg : Str → Option Value) (x : Str) (xs : List V) : Prop := ∃ a, mg x = some (.ref a) ∧ ∀ H, SqT K H a xs
def tGT (K : PySem.W.Frag) (xs : List V) : TE := fun _ H Q => ∀ a, (∀ H, SqT K H a xs) → Q (.ref a) H
theorem pe_gt {X : Cx} {x : Str} {xs : List V} {pos : Pos} (h : GT X.K X.mg x xs) (hg : Gl X x := by rfl) (hd : (x == ("__debug__" : Str)) = false := by decide) : PE X (.Name x pos) (tGT X.K xs) := by
  obtain ⟨a, e, hS⟩ := h
  exact ⟨fun _ _ _ H _ I h => ld_glob I hg e ⟨.ref a, H, I, rfl, h a hS⟩ hd⟩

/-! ### small words -/
theorem ifT {c : Bool} {A B : Prop} (h : c = true) (a : A) : if c = true then A else B := by rw [if_pos h]; exact a
theorem ifF {c : Bool} {A B : Prop} (h : c = false) (b : B) : if c = true then A else B := by rw [h]; exact iteF b
theorem same_upd {H : Hp} {p : Addr} {o : HO} (h : H p = none) : Same H (upd H p o) := fun b x e => by
  rw [upd_ne (ne_of_none e h)]
  exact e
theorem su {H H1 : Hp} {l : Addr} {o : HO} (s : Same H H1) (h : H l = none) : Same H (upd H1 l o) := fun b x e => by
  rw [upd_ne (ne_of_none e h)]
  exact s b x e
theorem sz {n : Nat} (h : n ≤ 1000) : n ≤ sizeLine := Nat.le_of_lt (small1000 h)
def fm (k : Kd) (n : Nat) (g : Sg) (pt : Int) : List V := [.str k.s, .int (n : Int), .str g.s, .int pt]
theorem d_en (g : Sg) : decide (V.str g.s = V.str "end") = decide (g = .en) := by cases g <;> decide +kernel
theorem d_te (g : Sg) : decide (V.str g.s = V.str "tens") = decide (g = .te) := by cases g <;> decide +kernel
theorem d_no (g : Sg) : decide (V.str g.s = V.str "none") = decide (g = .no) := by cases g <;> decide +kernel
theorem d_pk (k : Kd) : decide (V.str k.s = V.str "packed") = decide (k = .pk) := by cases k <;> decide +kernel
theorem d_sp (k : Kd) : decide (V.str k.s = V.str "spread") = decide (k = .sp) := by cases k <;> decide +kernel
theorem e_int (g : Sg) : (if decide (V.str g.s = V.str "end") = true then (1 : Int) else 0) = ((g.e : Nat) : Int) := by
  rw [d_en]
  cases g <;> rfl
theorem map_get {α β : Type} {f : α → β} {l : List α} {i : Nat} {x : β} (h : (l.map f)[i]? = some x) : ∃ b, l[i]? = some b ∧ x = f b := by
  rw [List.getElem?_map] at h
  cases e : l[i]? with
  | none =>
    rw [e] at h
    cases h
  | some b =>
    rw [e] at h
    exact ⟨b, rfl, (Option.some.inj h).symm⟩
theorem get_map {α β : Type} {f : α → β} {l : List α} {i : Nat} {x : α} (h : l[i]? = some x) : (l.map f)[i]? = some (f x) := by
  rw [List.getElem?_map, h]
  rfl
theorem take_more {α : Type} {l : List α} {i : Nat} {x : α} (h : l[i]? = some x) : l.take (i + 1) = l.take i ++ [x] := by
  rw [List.take_add_one, h]
  rfl
theorem numBy_take {l : List Int} {i : Nat} {x : Int} (h : l[i]? = some x) : numBy (l.take (i + 1)) = numBy (l.take i) * 10 + x := by
  unfold numBy
  rw [take_more h, List.foldl_append]
  rfl
theorem halves_take {l : List Int} {i : Nat} {x : Int} (h : l[i]? = some x) : halves (l.take (i + 1)) = halves (l.take i) ++ [x / 16, x % 16] := by
  rw [take_more h, halves_app]
  rfl

section
variable {P : Program} {w : World} {K : PySem.W.Frag} {mg : Str → Option Value} {base : Heap}
/-! ### halves_of -/
abbrev sHalvesOf : Stmt := topS 4
theorem scHalvesOf : FnScope ["form", "many"] ["form"] (defScope sHalvesOf) := ⟨rfl, rfl, rfl, by decide +kernel, rfl, by decide +kernel, by decide +kernel⟩
def spHalvesOf : Sp := fun vs H Q _ => ∃ (a : Addr) (k : Kd) (n : Nat) (g : Sg) (pt : Int), vs = [.ref a] ∧ H a = some (.tup (fm k n g pt)) ∧
  ∀ p, H p = none → Q (.ref p) (upd H p (.tup [.int ((n + g.e + pad n g : Nat) : Int), .int ((pad n g : Nat) : Int)]))
theorem ok_halves_of {f : Addr} {fd : FuncData} (F : Fun K "halves_of" "halves_of" sHalvesOf f fd) (B : Bi mg) : FnOk P w K mg base CX0 1 f fd ["form"] spHalvesOf := by
  refine F.ok scHalvesOf (fun vs H Q E h => ?_) (fun cdv A outer s H vs Q E hr h => ?_)
  · obtain ⟨a, k, n, g, pt, rfl, _⟩ := h
    rfl
  · obtain ⟨a, k, n, g, pt, rfl, hA, q⟩ := h
    refine ⟨_, pss_cons (ps_set (i := 1) scHalvesOf.nd rfl (.inl rfl) (pe_op op_add (pe_ix ix_tup (pv 0) pe_int (fun _ _ => rfl))
        (pe_callTy call_int1 (by rfl) B.int (by decide +kernel) (pa_cons (pe_cmpR op_eq (pe_ix ix_tup (pv 0) pe_int (fun _ _ => rfl)) pe_str (nomark _)) pa_nil))))
      (pss_one (ps_ret (pe_tup (pa_cons (pe_op op_add (pv 1) (pe_op op_mod (pv 1) pe_int)) (pa_cons (pe_op op_mod (pv 1) pe_int) pa_nil))))), ?_⟩
    refine ⟨_, rfl, a, _, 1, .int (n : Int), rfl, rfl, SqT.of hA, atI_nat (j := 1) rfl, _, rfl, a, _, 2, .str g.s, rfl, rfl, SqT.of hA, atI_nat (j := 2) rfl, rfl, .inr ⟨_, rfl, _, _, rfl, rfl, ?_⟩⟩
    refine ⟨_, rfl, _, rfl, _, _, rfl, rfl, (by show (0 : Int) < 2; decide), _, _, rfl, rfl, _, rfl, _, _, rfl, rfl, (by show (0 : Int) < 2; decide), sz (by show 2 ≤ 1000; decide), fun p hp => ?_⟩
    have e := e_int g
    rw [e]
    exact q p hp
/-! ### power -/
abbrev sPower : Stmt := topS 6
theorem scPower : FnScope ["base", "many", "found", "k"] ["base", "many"] (defScope sPower) := ⟨rfl, rfl, rfl, by decide +kernel, rfl, by decide +kernel, by decide +kernel⟩
def spPower : Sp := fun vs H Q _ => ∃ m : Nat, vs = [.int 10, .int (m : Int)] ∧ m ≤ 1000 ∧ Q (.int (10 ^ m)) H
theorem ok_power {f : Addr} {fd : FuncData} (F : Fun K "power" "power" sPower f fd) (B : Bi mg) : FnOk P w K mg base CX0 1 f fd ["base", "many"] spPower := by
  refine F.ok scPower (fun vs H Q E h => ?_) (fun cdv A outer s H vs Q E hr h => ?_)
  · obtain ⟨m, rfl, _⟩ := h
    rfl
  · obtain ⟨m, rfl, hm, q⟩ := h
    refine ⟨_, pss_cons (ps_set (i := 2) scPower.nd rfl (.inl rfl) pe_int)
      (pss_cons (ps_for PassesOwn.never rfl (pi_range1 rfl B.range (pa_cons (pv 1) pa_nil)) (pg_name (i := 3) scPower.nd rfl (.inl rfl))
        (pss_one (ps_set (i := 2) scPower.nd rfl (.inl rfl) (pe_op op_mul (pv 2) (pv 0)))))
      (pss_one (ps_ret (pv 2)))), ?_⟩
    refine ⟨.int (m : Int), rfl, (m : Int), rfl, by omega, by omega, for_range (n := m) (fun i σ H' => ∃ y, σ = [some (.int 10), some (.int (m : Int)), some (.int (10 ^ i)), y] ∧ H' = H) ⟨none, rfl, rfl⟩ (fun i σ H' hi hP => ?_) (fun σ H' hP => ?_)⟩
    · obtain ⟨y, rfl, rfl⟩ := hP
      refine ⟨_, rfl, _, rfl, _, _, rfl, rfl, .inr ⟨by decide, by decide⟩, some (.int (0 + (i : Int))), ?_, rfl⟩
      rw [Int.pow_succ]
      rfl
    · obtain ⟨y, rfl, rfl⟩ := hP
      exact ⟨_, rfl, q⟩
/-! ### _law_power -/
abbrev sLPower : Stmt := topS 38
theorem scLPower : FnScope ["_law_base", "_law_many", "_law_found", "_law_k"] ["_law_base", "_law_many"] (defScope sLPower) := ⟨rfl, rfl, rfl, by decide +kernel, rfl, by decide +kernel, by decide +kernel⟩
theorem ok_lpower {f : Addr} {fd : FuncData} (F : Fun K "_law_power" "_law_power" sLPower f fd) (B : Bi mg) : FnOk P w K mg base CX0 1 f fd ["_law_base", "_law_many"] spPower := by
  refine F.ok scLPower (fun vs H Q E h => ?_) (fun cdv A outer s H vs Q E hr h => ?_)
  · obtain ⟨m, rfl, _⟩ := h
    rfl
  · obtain ⟨m, rfl, hm, q⟩ := h
    refine ⟨_, pss_cons (ps_set (i := 2) scLPower.nd rfl (.inl rfl) pe_int)
      (pss_cons (ps_for PassesOwn.never rfl (pi_range1 rfl B.range (pa_cons (pv 1) pa_nil)) (pg_name (i := 3) scLPower.nd rfl (.inl rfl))
        (pss_one (ps_set (i := 2) scLPower.nd rfl (.inl rfl) (pe_op op_mul (pv 2) (pv 0)))))
      (pss_one (ps_ret (pv 2)))), ?_⟩
    refine ⟨.int (m : Int), rfl, (m : Int), rfl, by omega, by omega, for_range (n := m) (fun i σ H' => ∃ y, σ = [some (.int 10), some (.int (m : Int)), some (.int (10 ^ i)), y] ∧ H' = H) ⟨none, rfl, rfl⟩ (fun i σ H' hi hP => ?_) (fun σ H' hP => ?_)⟩
    · obtain ⟨y, rfl, rfl⟩ := hP
      refine ⟨_, rfl, _, rfl, _, _, rfl, rfl, .inr ⟨by decide, by decide⟩, some (.int (0 + (i : Int))), ?_, rfl⟩
      rw [Int.pow_succ]
      rfl
    · obtain ⟨y, rfl, rfl⟩ := hP
      exact ⟨_, rfl, q⟩
/-! ### number_by -/
abbrev sNumberBy : Stmt := topS 7
theorem scNumberBy : FnScope ["base", "digits", "found", "digit"] ["base", "digits"] (defScope sNumberBy) := ⟨rfl, rfl, rfl, by decide +kernel, rfl, by decide +kernel, by decide +kernel⟩
def spNumberBy (K : PySem.W.Frag) : Sp := fun vs H Q _ => ∃ (a : Addr) (ds : List Int), vs = [.int 10, .ref a] ∧ SqL K H a (ds.map V.int) ∧ Q (.int (numBy ds)) H
theorem ok_number_by {f : Addr} {fd : FuncData} (F : Fun K "number_by" "number_by" sNumberBy f fd) : FnOk P w K mg base CX0 1 f fd ["base", "digits"] (spNumberBy K) := by
  refine F.ok scNumberBy (fun vs H Q E h => ?_) (fun cdv A outer s H vs Q E hr h => ?_)
  · obtain ⟨a, ds, rfl, _⟩ := h
    rfl
  · obtain ⟨a, ds, rfl, hS, q⟩ := h
    refine ⟨_, pss_cons (ps_set (i := 2) scNumberBy.nd rfl (.inl rfl) pe_int)
      (pss_cons (ps_for PassesOwn.never rfl (pi_list (pv 1)) (pg_name (i := 3) scNumberBy.nd rfl (.inl rfl))
        (pss_one (ps_set (i := 2) scNumberBy.nd rfl (.inl rfl) (pe_op op_add (pe_op op_mul (pv 2) (pv 0)) (pv 3)))))
      (pss_one (ps_ret (pv 2)))), ?_⟩
    refine ⟨.ref a, rfl, a, rfl, ⟨_, hS⟩, for_list (K := K) (a := a) (xs := ds.map V.int) (fun i σ H' => ∃ y, σ = [some (.int 10), some (.ref a), some (.int (numBy (ds.take i))), y] ∧ H' = H) ⟨none, rfl, rfl⟩ (fun i σ H' _ hP => ?_) (fun i x σ H' hx hP => ?_) (fun σ H' hP => ?_)⟩
    · obtain ⟨y, rfl, rfl⟩ := hP
      exact hS
    · obtain ⟨y, rfl, rfl⟩ := hP
      obtain ⟨d, hd, rfl⟩ := map_get hx
      refine ⟨_, rfl, _, rfl, _, _, rfl, rfl, .inr ⟨by decide, by decide⟩, _, rfl, _, _, rfl, rfl, some (.int d), ?_, rfl⟩
      rw [numBy_take hd]
      rfl
    · obtain ⟨y, rfl, rfl⟩ := hP
      rw [List.length_map, List.take_length]
      exact ⟨_, rfl, q⟩
/-! ### halves_in -/
abbrev sHalvesIn : Stmt := topS 11
theorem scHalvesIn : FnScope ["row", "found", "byte"] ["row"] (defScope sHalvesIn) := ⟨rfl, rfl, rfl, by decide +kernel, rfl, by decide +kernel, by decide +kernel⟩
def spHalvesIn : Sp := fun vs H Q _ => ∃ (a : Addr) (row : List Int), vs = [.ref a] ∧ H a = some (.tup (row.map V.int)) ∧ row.length ≤ 100 ∧
  ∀ H' p, Same H H' → H p = none → H' p = some (.lst ((halves row).map V.int)) → Q (.ref p) H'
theorem ok_halves_in {f : Addr} {fd : FuncData} (F : Fun K "halves_in" "halves_in" sHalvesIn f fd) : FnOk P w K mg base CX0 1 f fd ["row"] spHalvesIn := by
  refine F.ok scHalvesIn (fun vs H Q E h => ?_) (fun cdv A outer s H vs Q E hr h => ?_)
  · obtain ⟨a, row, rfl, _⟩ := h
    rfl
  · obtain ⟨a, row, rfl, hA, hl, q⟩ := h
    refine ⟨_, pss_cons (ps_set (i := 1) scHalvesIn.nd rfl (.inl rfl) (pe_lst pa_nil))
      (pss_cons (ps_for PassesOwn.never rfl (pi_tup (pv 0)) (pg_name (i := 2) scHalvesIn.nd rfl (.inl rfl))
        (pss_one (ps_expr (pe_bm PySem.F.plainAttrs_list PySem.F.slot_list_extend PySem.F.type_list_extend mt_extend (pv 1) (pa_cons (pe_lst (pa_cons (pe_op op_fdiv (pv 2) pe_int) (pa_cons (pe_op op_mod (pv 2) pe_int) pa_nil))) pa_nil)))))
      (pss_one (ps_ret (pv 1)))), ?_⟩
    refine ⟨Nat.zero_le _, fun l nl => ?_⟩
    refine ⟨.ref a, rfl, a, rfl, ⟨_, SqT.of (same_upd nl _ _ hA)⟩, for_tup (K := K) (a := a) (xs := row.map V.int) (fun i σ H' => ∃ y, σ = [some (.ref a), some (.ref l), y] ∧ Same H H' ∧ H' l = some (.lst ((halves (row.take i)).map V.int)))
      ⟨none, rfl, same_upd nl, upd_same⟩ (fun i σ H' _ hP => ?_) (fun i x σ H' hx hP => ?_) (fun σ H' hP => ?_)⟩
    · obtain ⟨y, rfl, s1, h1⟩ := hP
      exact SqT.of (s1 _ _ hA)
    · obtain ⟨y, rfl, s1, h1⟩ := hP
      obtain ⟨b, hb, rfl⟩ := map_get hx
      refine ⟨.ref l, rfl, .inl ⟨rfl, _, SqL.of h1⟩, _, rfl, _, _, rfl, rfl, ⟨by decide, by decide⟩, _, rfl, _, _, rfl, rfl, (by show (0 : Int) < 16; decide), sz (by show 2 ≤ 1000; decide), fun p np => ?_⟩
      have n1 : l ≠ p := ne_of_none h1 np
      refine ⟨l, p, _, _, rfl, rfl, (upd_ne n1).trans h1, upd_same, sz ?_, some (.int b), rfl, su (s1.trans (same_upd np)) nl, ?_⟩
      · rw [List.length_map, halves_len, List.length_take]
        show 2 * min i row.length + 2 ≤ 1000
        omega
      · rw [upd_same, halves_take hb, List.map_append]
        rfl
    · obtain ⟨y, rfl, s1, h1⟩ := hP
      rw [List.length_map, List.take_length] at h1
      exact ⟨_, rfl, q H' l s1 nl h1⟩
end
end K75

/-! duties, half_right, caught. -/
namespace K75
open PySem PySem.Spec PyProof.Rows L2
theorem cy {H : Hp} {p b : Addr} {o x : HO} (n : H p = none) (h : H b = some x) : upd H p o b = some x := same_upd n _ _ h
def dv (d : Duty) : V := .str d.s
theorem rep1 {α : Type} (m : Nat) (x : α) : (List.replicate m [x]).flatten = List.replicate m x := by
  induction m with
  | zero => rfl
  | succ m ih =>
    rw [List.replicate_succ, List.flatten_cons, ih, List.replicate_succ]
    rfl
theorem zf_dv (n : Nat) : (List.replicate n [V.str "zone", V.str "figure"]).flatten = (zf n).map dv := by
  unfold zf
  rw [List.map_flatten, List.map_replicate]
  rfl
theorem due_pk (n : Nat) (g : Sg) : (List.replicate (pad n g) (V.str "ahead") ++ List.replicate n (V.str "figure")) ++ List.replicate g.e (V.str "sign") = (due .pk n g).map dv := by
  unfold due
  rw [List.map_append, List.map_append, List.map_replicate, List.map_replicate, List.map_replicate, List.append_assoc]
  rfl
theorem due_sp_en (n : Nat) : ((zf n).map dv).set (2 * n - 2) (V.str "sign") = (due .sp n .en).map dv := by
  unfold due
  rw [if_pos rfl, List.map_set]
  rfl
theorem due_sp (n : Nat) {g : Sg} (h : g ≠ .en) : (zf n).map dv = (due .sp n g).map dv := by
  unfold due
  rw [if_neg h]
theorem ix_neg2 {n : Nat} (h : 1 ≤ n) : ixN (2 * n) (-2) = some (2 * n - 2) := by
  unfold ixN
  rw [if_neg (by decide), if_pos (by omega)]
  congr 1
  omega
section
variable {P : Program} {w : World} {K : PySem.W.Frag} {mg : Str → Option Value} {base : Heap}
/-! ### duties -/
abbrev sDuties : Stmt := topS 12
theorem scDuties : FnScope ["form", "found"] ["form"] (defScope sDuties) := ⟨rfl, rfl, rfl, by decide +kernel, rfl, by decide +kernel, by decide +kernel⟩
def spDuties : Sp := fun vs H Q _ => ∃ (a : Addr) (k : Kd) (n : Nat) (g : Sg) (pt : Int), vs = [.ref a] ∧ H a = some (.tup (fm k n g pt)) ∧ 1 ≤ n ∧ n ≤ 12 ∧
  ∀ H' p, Same H H' → H' p = some (.lst ((due k n g).map dv)) → Q (.ref p) H'
theorem ok_duties {f : Addr} {fd : FuncData} (F : Fun K "duties" "duties" sDuties f fd) (B : Bi mg) (C1 : Cal P w K mg base CX0 1 "halves_of" ["form"] spHalvesOf) : FnOk P w K mg base CX0 2 f fd ["form"] spDuties := by
  refine F.ok scDuties (fun vs H Q E h => ?_) (fun cdv A outer s H vs Q E hr h => ?_)
  · obtain ⟨a, k, n, g, pt, rfl, _⟩ := h
    rfl
  · obtain ⟨a, k, n, g, pt, rfl, hA, h1, h2, q⟩ := h
    refine ⟨_, pss_cons (ps_if (pt_cmpR op_eq (pe_ix ix_tup (pv 0) pe_int (fun _ _ => rfl)) pe_str (nomark _))
        (pss_one (ps_ret (pe_op op_cat (pe_op op_cat
          (pe_op op_rep (pe_lst (pa_cons pe_str pa_nil)) (pe_ix ix_tup (pe_cal C1 hr pass0 (pa_cons (pv 0) pa_nil)) pe_int (fun _ _ => rfl)))
          (pe_op op_rep (pe_lst (pa_cons pe_str pa_nil)) (pe_ix ix_tup (pv 0) pe_int (fun _ _ => rfl))))
          (pe_op op_rep (pe_lst (pa_cons pe_str pa_nil)) (pe_callTy call_int1 (by rfl) B.int (by decide +kernel) (pa_cons (pe_cmpR op_eq (pe_ix ix_tup (pv 0) pe_int (fun _ _ => rfl)) pe_str (nomark _)) pa_nil))))))
        pss_nil)
      (pss_cons (ps_set (i := 1) scDuties.nd rfl (.inl rfl) (pe_op op_rep (pe_lst (pa_cons pe_str (pa_cons pe_str pa_nil))) (pe_ix ix_tup (pv 0) pe_int (fun _ _ => rfl))))
      (pss_cons (ps_if (pt_cmpR op_eq (pe_ix ix_tup (pv 0) pe_int (fun _ _ => rfl)) pe_str (nomark _))
        (pss_one (ps_asg pe_str (pg_sub (pv 1) (pe_un un_neg pe_int) set_list))) pss_nil)
      (pss_one (ps_ret (pv 1))))), ?_⟩
    refine ⟨_, rfl, a, _, 0, .str k.s, rfl, rfl, SqT.of hA, atI_nat (j := 0) rfl, rfl, _, rfl, ?_⟩
    rw [d_pk]
    cases k with
    | pk =>
      refine ifT rfl ?_
      refine ⟨sz (by show 1 ≤ 1000; decide), fun l1 n1 => ⟨_, rfl, a, .pk, n, g, pt, rfl, cy n1 hA, fun p1 m1 => ⟨p1, _, 1, _, rfl, rfl, SqT.of upd_same, atI_nat (j := 1) rfl, ?_⟩⟩⟩
      have hpad : pad n g ≤ 1 := by unfold pad; omega
      have hge := g.e_le
      refine ⟨l1, _, _, rfl, rfl, cy m1 upd_same, by omega, by omega, sz (by show 1 * pad n g ≤ 1000; omega), fun r1 nr1 => ?_⟩
      refine ⟨sz (by show 1 ≤ 1000; decide), fun l2 n2 => ⟨_, rfl, a, _, 1, .int (n : Int), rfl, rfl, SqT.of (cy n2 (cy nr1 (cy m1 (cy n1 hA)))), atI_nat (j := 1) rfl, ?_⟩⟩
      refine ⟨l2, _, _, rfl, rfl, upd_same, by omega, by omega, sz (by show 1 * n ≤ 1000; omega), fun r2 nr2 => ?_⟩
      refine ⟨r1, r2, _, _, rfl, rfl, cy nr2 (cy n2 upd_same), upd_same, sz ?_, fun c1 nc1 => ?_⟩
      · show (List.replicate (pad n g) [V.str "ahead"]).flatten.length + (List.replicate n [V.str "figure"]).flatten.length ≤ 1000
        rw [rep1, rep1, List.length_replicate, List.length_replicate]
        omega
      refine ⟨sz (by show 1 ≤ 1000; decide), fun l3 n3 => ⟨_, rfl, a, _, 2, .str g.s, rfl, rfl, SqT.of (cy n3 (cy nc1 (cy nr2 (cy n2 (cy nr1 (cy m1 (cy n1 hA))))))), atI_nat (j := 2) rfl, rfl, .inr ⟨_, rfl, ?_⟩⟩⟩
      rw [e_int g]
      refine ⟨l3, _, _, rfl, rfl, upd_same, by omega, by omega, sz (by show 1 * g.e ≤ 1000; omega), fun r3 nr3 => ?_⟩
      refine ⟨c1, r3, _, _, rfl, rfl, cy nr3 (cy n3 upd_same), upd_same, sz ?_, fun c2 nc2 => ?_⟩
      · show ((List.replicate (pad n g) [V.str "ahead"]).flatten ++ (List.replicate n [V.str "figure"]).flatten).length + (List.replicate g.e [V.str "sign"]).flatten.length ≤ 1000
        rw [rep1, rep1, rep1, List.length_append, List.length_replicate, List.length_replicate, List.length_replicate]
        omega
      refine q _ c2 (fun b x e => cy nc2 (cy nr3 (cy n3 (cy nc1 (cy nr2 (cy n2 (cy nr1 (cy m1 (cy n1 e))))))))) ?_
      rw [upd_same, ← due_pk]
      show some (HO.lst (((List.replicate (pad n g) [V.str "ahead"]).flatten ++ (List.replicate n [V.str "figure"]).flatten) ++ (List.replicate g.e [V.str "sign"]).flatten)) = _
      rw [rep1, rep1, rep1]
    | sp =>
      refine ifF rfl ?_
      refine ⟨sz (by show 2 ≤ 1000; decide), fun l1 n1 => ⟨_, rfl, a, _, 1, .int (n : Int), rfl, rfl, SqT.of (cy n1 hA), atI_nat (j := 1) rfl, l1, _, _, rfl, rfl, upd_same, by omega, by omega, sz (by show 2 * n ≤ 1000; omega), fun r1 nr1 => ?_⟩⟩
      refine ⟨_, rfl, a, _, 2, .str g.s, rfl, rfl, SqT.of (cy nr1 (cy n1 hA)), atI_nat (j := 2) rfl, rfl, _, rfl, ?_⟩
      rw [d_en, show (n : Int).toNat = n from rfl, zf_dv]
      by_cases c : g = .en
      · subst c
        refine ifT rfl ?_
        refine ⟨_, rfl, 2, rfl, r1, _, _, 2 * n - 2, rfl, rfl, upd_same, ?_, _, rfl, ?_⟩
        · rw [List.length_map, zf_len]
          exact ix_neg2 h1
        · refine q _ r1 ?_ ?_
          · rw [upd_upd]
            exact fun b x e => cy nr1 (cy n1 e)
          · rw [upd_same, due_sp_en]
      · refine ifF (decide_eq_false c) ⟨_, rfl, ?_⟩
        refine q _ r1 (fun b x e => cy nr1 (cy n1 e)) ?_
        rw [upd_same, due_sp n c]
/-! ### half_right -/
abbrev sHalfRight : Stmt := topS 13
theorem scHalfRight : FnScope ["duty", "half"] ["duty", "half"] (defScope sHalfRight) := ⟨rfl, rfl, rfl, by decide +kernel, rfl, by decide +kernel, by decide +kernel⟩
def spHalfRight : Sp := fun vs H Q _ => ∃ (d : Duty) (h : Int), vs = [dv d, .int h] ∧ Q (.bl (rightB d h)) H
theorem ok_half_right {f : Addr} {fd : FuncData} (F : Fun K "half_right" "half_right" sHalfRight f fd) (Z : GI mg "ZONE_HALF" 15) : FnOk P w K mg base CX0 1 f fd ["duty", "half"] spHalfRight := by
  refine F.ok scHalfRight (fun vs H Q E h => ?_) (fun cdv A outer s H vs Q E hr h => ?_)
  · obtain ⟨d, h, rfl, _⟩ := h
    rfl
  · obtain ⟨d, h, rfl, q⟩ := h
    refine ⟨_, pss_cons (ps_if (pt_cmpR op_eq (pv 0) pe_str (nomark _)) (pss_one (ps_ret (pe_cmpR op_eq (pv 1) pe_int (nomark _)))) pss_nil)
      (pss_cons (ps_if (pt_cmpR op_eq (pv 0) pe_str (nomark _)) (pss_one (ps_ret (pe_cmpR op_lt (pv 1) pe_int (nomark _)))) pss_nil)
      (pss_cons (ps_if (pt_cmpR op_eq (pv 0) pe_str (nomark _)) (pss_one (ps_ret (pe_cmpR op_eq (pv 1) (pe_gi Z) (nomark _)))) pss_nil)
      (pss_one (ps_ret (pe_cmpR op_gt (pv 1) pe_int (nomark _)))))), ?_⟩
    have no : ∀ {d e : Duty}, d.s ≠ e.s → decide (dv d = V.str e.s) = false := fun {d e} z => decide_eq_false fun q => z (V.str.inj q)
    cases d with
    | ahead =>
      refine ⟨_, rfl, rfl, _, rfl, ifT (by decide +kernel) ⟨_, rfl, rfl, ?_⟩⟩
      have e : decide (V.int h = V.int 0) = rightB .ahead h := by simp [rightB]
      rw [e]
      exact q
    | figure =>
      refine ⟨_, rfl, rfl, _, rfl, ifF (by decide +kernel) ⟨_, rfl, rfl, _, rfl, ifT (by decide +kernel) ⟨_, rfl, _, _, rfl, rfl, q⟩⟩⟩
    | zone =>
      refine ⟨_, rfl, rfl, _, rfl, ifF (by decide +kernel) ⟨_, rfl, rfl, _, rfl, ifF (by decide +kernel) ⟨_, rfl, rfl, _, rfl, ifT (by decide +kernel) ⟨_, rfl, rfl, ?_⟩⟩⟩⟩
      have e : decide (V.int h = V.int 15) = rightB .zone h := by simp [rightB]
      rw [e]
      exact q
    | sign =>
      exact ⟨_, rfl, rfl, _, rfl, ifF (by decide +kernel) ⟨_, rfl, rfl, _, rfl, ifF (by decide +kernel) ⟨_, rfl, rfl, _, rfl, ifF (by decide +kernel) ⟨_, rfl, _, _, rfl, rfl, q⟩⟩⟩⟩
end
end K75

/-! caught. -/
namespace K75
open PySem PySem.Spec PyProof.Rows L2
/-- a loop over enumerate of a list -/
theorem for_enum {K : PySem.W.Frag} {a : Addr} {xs : List V} {g : TG} {tb : TS} {D : Ends} {σ : L2.St} {H : Hp} (Pv : Nat → L2.St → Hp → Prop) (h0 : Pv 0 σ H) (hq : ∀ i σ H, Pv i σ H → SqL K H a xs)
    (hs : ∀ (i : Nat) (x : V) (T : Addr) (σ : L2.St) (H : Hp), xs[i]? = some x → Pv i σ H → H T = none → g (.ref T) σ (upd H T (.tup [.int (i : Nat), x])) fun σ2 H2 => tb { D with nx := Pv (i + 1), ct := Pv (i + 1), bk := D.nx } σ2 H2) (hd : ∀ σ H, Pv xs.length σ H → D.nx σ H) :
    ∃ W : Nat → Nat → L2.St → Hp → Prop, (∃ m, W 0 m σ H) ∧ ∀ i m σ H, W i m σ H →
      ((Ite K a).stop i H ∧ D.nx σ H) ∨ ((Ite K a).go i H ∧ ∃ N : L2.St → Hp → Prop, (∀ σ' H', N σ' H' → ∃ m', m' < m ∧ W (i + 1) m' σ' H') ∧ ∀ v H', (Ite K a).yld i H v H' → g v σ H' fun σ2 H2 => tb { D with nx := N, ct := N, bk := D.nx } σ2 H2) := by
  refine ⟨fun i m σ H => m = xs.length - i ∧ i ≤ xs.length ∧ Pv i σ H, ⟨xs.length, rfl, Nat.zero_le _, h0⟩, ?_⟩
  rintro i m σ H ⟨rfl, hi, p⟩
  have qx := hq i σ H p
  by_cases hlt : i < xs.length
  · have hx : xs[i]? = some xs[i] := List.getElem?_eq_getElem hlt
    refine .inr ⟨⟨xs, _, qx, hx⟩, Pv (i + 1), fun σ' H' p' => ⟨xs.length - (i + 1), by omega, rfl, hlt, p'⟩, fun v H' y => ?_⟩
    obtain ⟨T, x', rfl, hT, rfl, f1⟩ := y
    exact hs i x' T σ H (f1 xs qx) p hT
  · have e : i = xs.length := by omega
    subst e
    exact .inl ⟨⟨xs, qx, Nat.le_refl _⟩, hd σ H p⟩
section
variable {P : Program} {w : World} {K : PySem.W.Frag} {mg : Str → Option Value} {base : Heap}
abbrev sCaught : Stmt := topS 14
theorem scCaught : FnScope ["form", "row", "due", "halves", "place", "half"] ["form", "row"] (defScope sCaught) := ⟨rfl, rfl, rfl, by decide +kernel, rfl, by decide +kernel, by decide +kernel⟩
def spCaught : Sp := fun vs H Q _ => ∃ (a : Addr) (k : Kd) (n : Nat) (g : Sg) (pt : Int) (b : Addr) (row : List Int), vs = [.ref a, .ref b] ∧ H a = some (.tup (fm k n g pt)) ∧ 1 ≤ n ∧ n ≤ 12 ∧ H b = some (.tup (row.map V.int)) ∧ row.length = width k n g ∧
  (caughtM (due k n g) (halves row) 0 = none → ∀ H', Same H H' → Q .non H') ∧
  (∀ i d, caughtM (due k n g) (halves row) 0 = some (i, d) → ∀ H' p, Same H H' → H' p = some (.tup [.int ((i : Nat) : Int), dv d]) → Q (.ref p) H')
theorem ok_caught {f : Addr} {fd : FuncData} (F : Fun K "caught" "caught" sCaught f fd) (B : Bi mg) (C1 : Cal P w K mg base CX0 2 "duties" ["form"] spDuties) (C2 : Cal P w K mg base CX0 1 "halves_in" ["row"] spHalvesIn)
    (C3 : Cal P w K mg base CX0 1 "half_right" ["duty", "half"] spHalfRight) : FnOk P w K mg base CX0 3 f fd ["form", "row"] spCaught := by
  refine F.ok scCaught (fun vs H Q E h => ?_) (fun cdv A outer s H vs Q E hr h => ?_)
  · obtain ⟨a, k, n, g, pt, b, row, rfl, _⟩ := h
    rfl
  · obtain ⟨a, k, n, g, pt, b, row, rfl, hA, h1, h2, hB, hl, qN, qS⟩ := h
    have hr1 : Room 1 _ := hr.mono (by decide)
    refine ⟨_, pss_cons (ps_set (i := 2) scCaught.nd rfl (.inl rfl) (pe_cal C1 hr pass0 (pa_cons (pv 0) pa_nil)))
      (pss_cons (ps_set (i := 3) scCaught.nd rfl (.inl rfl) (pe_cal C2 hr1 pass0 (pa_cons (pv 1) pa_nil)))
      (pss_cons (ps_for PassesOwn.never rfl (pi_enum (by rfl) B.enumerate (pa_cons (pv 3) pa_nil)) (pg_tup rfl (pgs_cons (pg_name (i := 4) scCaught.nd rfl (.inl rfl)) (pgs_cons (pg_name (i := 5) scCaught.nd rfl (.inl rfl)) pgs_nil)))
        (pss_cons (ps_if (pt_cmpR op_ge (pv 4) (pe_callB call_len_seq (by rfl) B.len PySem.boot_len (pa_cons (pv 2) pa_nil)) (nomark _)) pss_never pss_nil)
        (pss_one (ps_if (pt_not (pt_val (pe_cal C3 hr1 pass0 (pa_cons (pe_ix ix_list (pv 2) (pv 4) (fun _ _ => rfl)) (pa_cons (pv 5) pa_nil)))))
          (pss_one (ps_ret (pe_tup (pa_cons (pv 4) (pa_cons (pe_ix ix_list (pv 2) (pv 4) (fun _ _ => rfl)) pa_nil))))) pss_nil))))
      (pss_cons (ps_if (pt_cmpR op_lt (pe_callB call_len_seq (by rfl) B.len PySem.boot_len (pa_cons (pv 3) pa_nil)) (pe_callB call_len_seq (by rfl) B.len PySem.boot_len (pa_cons (pv 2) pa_nil)) (nomark _)) pss_never pss_nil)
      (pss_one (ps_ret pe_non))))), ?_⟩
    refine ⟨.ref a, rfl, a, k, n, g, pt, rfl, hA, h1, h2, fun H1 pd s1 hD => ?_⟩
    refine ⟨.ref b, rfl, b, row, rfl, s1 _ _ hB, by have := width_le (k := k) (g := g) h2; omega, fun H2 ph s2 _ hP => ?_⟩
    have hD2 := s2 _ _ hD
    have lens : (due k n g).length = (halves row).length := by rw [due_len, halves_len, hl]
    refine ⟨.ref ph, rfl, ph, _, rfl, SqL.of hP, for_enum (K := K) (a := ph) (xs := (halves row).map V.int) (fun i σ H' => ∃ y4 y5, σ = [some (.ref a), some (.ref b), some (.ref pd), some (.ref ph), y4, y5] ∧ Same H2 H' ∧
      caughtM (due k n g) (halves row) 0 = caughtM ((due k n g).drop i) ((halves row).drop i) i) ⟨none, none, rfl, Same.refl _, rfl⟩ (fun i σ H' hP => ?_) (fun i x T σ H' hx hPv nT => ?_) (fun σ H' hPv => ?_)⟩
    · obtain ⟨y4, y5, rfl, s3, _⟩ := hP
      exact SqL.of (s3 _ _ ‹_›)
    · obtain ⟨y4, y5, rfl, s3, ec⟩ := hPv
      obtain ⟨h, hh, rfl⟩ := map_get hx
      have il : i < (halves row).length := (List.getElem?_eq_some_iff.mp hh).1
      obtain ⟨d, hd⟩ : ∃ d, (due k n g)[i]? = some d := ⟨_, List.getElem?_eq_getElem (by omega)⟩
      have hD3 := cy (o := .tup [.int (i : Nat), .int h]) nT (s3 _ _ hD2)
      have ad : atI ((due k n g).map dv) ((i : Nat) : Int) = some (dv d) := atI_nat (get_map hd)
      refine ⟨T, [.int (i : Nat), .int h], rfl, SqT.of upd_same, rfl, _, _, rfl, _, _, rfl, rfl, ?_⟩
      refine ⟨_, rfl, _, rfl, pd, _, rfl, .inl (SqL.of hD3), _, _, rfl, rfl, _, rfl, ifF (decide_eq_false ?_) ?_⟩
      · rw [List.length_map]
        omega
      refine ⟨.ref pd, rfl, _, rfl, pd, _, _, _, rfl, rfl, SqL.of hD3, ad, _, rfl, d, h, rfl, _, rfl, ?_⟩
      rw [caught_step hd hh] at ec
      by_cases c : rightB d h = true
      · rw [if_pos c] at ec
        refine ifF (by rw [c]; rfl) ⟨_, _, rfl, s3.trans (same_upd nT), ec⟩
      · rw [if_neg c] at ec
        refine ifT (by rw [Bool.eq_false_iff.mpr c]; rfl) ?_
        refine ⟨_, rfl, .ref pd, rfl, _, rfl, pd, _, _, _, rfl, rfl, SqL.of hD3, ad, sz (by show 2 ≤ 1000; decide), fun p np => ?_⟩
        exact qS i d ec _ p (fun b x e => cy np (cy nT (s3 _ _ (s2 _ _ (s1 _ _ e))))) upd_same
    · obtain ⟨y4, y5, rfl, s3, ec⟩ := hPv
      rw [List.length_map, caught_end (by omega)] at ec
      refine ⟨_, rfl, ph, _, rfl, .inl (SqL.of (s3 _ _ hP)), _, rfl, pd, _, rfl, .inl (SqL.of (s3 _ _ hD2)), _, _, rfl, rfl, _, rfl, ifF (decide_eq_false ?_) ?_⟩
      · rw [List.length_map, List.length_map]
        omega
      · exact qN ec H' (fun b x e => s3 _ _ (s2 _ _ (s1 _ _ e)))
end
end K75

/-! The refusal Wrong, number_of, _law_read. -/
namespace K75
open PySem PySem.Spec PyProof.Rows L2
/-- LoftError.__init__(self, ..): the base's __init__, found by the class LoftError at C0 -/
structure LoftC (K : PySem.W.Frag) (mg : Str → Option Value) (C0 : Addr) : Prop where
  g : mg "LoftError" = some (.ref C0)
  rd : PySem.W.readsIn K C0 (.type "type") = true
  ga : PySem.W.specialIn K (.ref C0) "__getattribute__" = some (some (.builtin "type.__getattribute__"))
  fi : PySem.W.findCls K (.ref C0) (.type "type") "__init__" = some (.val (.builtin "ValueError.__init__"))
theorem pe_loft {X : Cx} {C0 : Addr} {e : Expr} {es : List Expr} {ta : TA} {p1 p2 pos : Pos} {pl : Sem Bool} (T : LoftC X.K X.mg C0) (ha : PA X (e :: es) ta) (hg : Gl X "LoftError" := by rfl)
    (hc : eval (.Call (.Attribute (.Name "LoftError" p1) "__init__" p2) (e :: es) [] pos) X.env = (do
      let ov ← eval (.Name "LoftError" p1) X.env
      standAt p2.atName
      let (f, first) ← holding [ov] (getMethod ov "__init__" pl)
      callWith pos f first (backTo pos (starEach (e :: es) X.env)) (backToKw pos (keywordEach [] X.env))) := by rfl)
    (he : starEach (e :: es) X.env = (false, eval e X.env) :: starEach es X.env := by rfl) (hpl : (backTo pos (starEach es X.env)).any (·.1) = false := by rfl) :
    PE X (.Call (.Attribute (.Name "LoftError" p1) "__init__" p2) (e :: es) [] pos) (tVeI X.K ta) := by
  refine ⟨fun pins s σ H Q I h => ?_⟩
  refine PySem.W.methodCall_KW (ld_glob I hg T.g ?_) hc
  refine PySem.W.method_cls I.kIn T.ga (PySem.W.cls_value I.kIn T.rd T.fi (by decide +kernel) ?_)
  show wpAny _ _ (callWith pos (Value.builtin "ValueError.__init__") [] (backTo pos (starEach (e :: es) X.env)) []) _ _ _
  refine PyProof.Rows.callWith_method1 (thn (ha.run pos pins _ σ H _ (I.tok _) h) fun us s1 ⟨vs, H1, I1, r1, a, C, ws, ev, hl, T, ea, q⟩ => ?_) he hpl
  subst ev
  cases r1 with
  | @cons _ u0 _ ur ra rw' =>
    obtain rfl : u0 = Value.ref a := ra
    have hlen : ur.length ≤ sizeLine := by
      rw [← Paired.length rw', sizeLine_eq]
      omega
    exact oinit_ok T I1 ea hlen fun s' J => ⟨.non, H1, J, rfl, q⟩
section
variable {P : Program} {w : World} {K : PySem.W.Frag} {mg : Str → Option Value} {base : Heap}
abbrev sInit : Stmt := inClass (topS 2) 0
theorem scInit : FnScope ["self", "place", "why"] ["self", "place", "why"] (defScope sInit) := ⟨rfl, rfl, rfl, by decide +kernel, rfl, by decide +kernel, by decide +kernel⟩
/-- what the written part says of Wrong, at C -/
structure WrC (K : PySem.W.Frag) (mg : Str → Option Value) (C : Addr) : Prop where
  g : mg "Wrong" = some (.ref C)
  o : OexC K C
  x : XfC K C
  noP : PySem.W.findIn K (.ref C) "place" = some none
  noY : PySem.W.findIn K (.ref C) "why" = some none
  te : PySem.W.exmOne K (.ref C) (.ref C) = some true
def wf (i : Int) (z : V) : List (Str × V) := [("why", z), ("place", .int i)]
def spInit (C : Addr) : Sp := fun vs H Q _ => ∃ (a : Addr) (i : Int) (z : V), vs = [.ref a, .int i, z] ∧ H a = some (exo a C none) ∧
  ∀ H' d, H d = none → d ≠ a → H' a = some (exo a C (some d)) → H' d = some (exd d (wf i z)) → (∀ b x, b ≠ a → H b = some x → H' b = some x) → Q .non H'
theorem ok_init {f : Addr} {fd : FuncData} {C C0 : Addr} (F : Fun K "__init__" "Wrong.__init__" sInit f fd) (T : LoftC K mg C0) (W : WrC K mg C) : FnOk P w K mg base CX0 1 f fd ["self", "place", "why"] (spInit C) := by
  refine F.ok scInit (fun vs H Q E h => ?_) (fun cdv A outer s H vs Q E hr h => ?_)
  · obtain ⟨a, i, z, rfl, _⟩ := h
    rfl
  · obtain ⟨a, i, z, rfl, hA, q⟩ := h
    refine ⟨_, pss_cons (ps_expr (pe_loft T (pa_cons (pv 0) (pa_cons pe_str pa_nil)))) (pss_cons (ps_ost (pv 0) (pv 1)) (pss_one (ps_ost (pv 0) (pv 2)))), ?_⟩
    refine ⟨_, rfl, a, C, _, rfl, (by show 1 ≤ 1000; decide), W.o, hA, ?_⟩
    refine ⟨_, rfl, _, rfl, a, C, rfl, W.o, W.noP, .inl ⟨hA, fun d nd ne => ?_⟩⟩
    refine ⟨_, rfl, _, rfl, a, C, rfl, W.o, W.noY, .inr ⟨d, _, upd_same, (upd_ne ne).trans upd_same, (by show 1 ≤ 900; decide), ?_⟩⟩
    refine q _ d nd ne ?_ upd_same fun b x nb e => ?_
    · rw [upd_ne (Ne.symm ne), upd_same]
    · have nbd : b ≠ d := ne_of_none e nd
      rw [upd_ne nbd, upd_ne nb, upd_ne nbd]
      exact e
/-! ### number_of -/
abbrev sNumberOf : Stmt := topS 15
theorem scNumberOf : FnScope ["form", "row", "amiss", "due", "halves", "figures", "number", "k"] ["form", "row"] (defScope sNumberOf) := ⟨rfl, rfl, rfl, by decide +kernel, rfl, by decide +kernel, by decide +kernel⟩
def spNumberOf (C : Addr) : Sp := fun vs H Q E => ∃ (a : Addr) (k : Kd) (n : Nat) (g : Sg) (pt : Int) (b : Addr) (row : List Int), vs = [.ref a, .ref b] ∧ H a = some (.tup (fm k n g pt)) ∧ 1 ≤ n ∧ n ≤ 12 ∧ H b = some (.tup (row.map V.int)) ∧ row.length = width k n g ∧
  (caughtM (due k n g) (halves row) 0 = none → ∀ H', Same H H' → Q (.int (progNum k n g (halves row))) H') ∧
  (∀ i d, caughtM (due k n g) (halves row) 0 = some (i, d) → ∀ H' e, Same H H' → H' e = some (.xd (wf ((i : Nat) : Int) (dv d))) → E (.ref C) (some e) H')
theorem getD_of {l : List Int} {i : Nat} {x : Int} (h : l[i]? = some x) : l.getD i 0 = x := by
  rw [List.getD_eq_getElem?_getD, h]
  rfl
theorem ok_number_of {f : Addr} {fd : FuncData} {C fI : Addr} {fdI : FuncData} (F : Fun K "number_of" "number_of" sNumberOf f fd) (B : Bi mg) (W : WrC K mg C) (iC : PySem.W.findIn K (.ref C) "__init__" = some (some (.ref fI))) (tI : PySem.W.typeIn K (.ref fI) = some (.type "function"))
    (FI : FnOk P w K mg base CX0 1 fI fdI ["self", "place", "why"] (spInit C)) (bI : Binds K fdI ["self", "place", "why"] []) (M : GT K mg "MINUS_HALVES" [.int 11, .int 13])
    (C1 : Cal P w K mg base CX0 3 "caught" ["form", "row"] spCaught) (C2 : Cal P w K mg base CX0 2 "duties" ["form"] spDuties) (C3 : Cal P w K mg base CX0 1 "halves_in" ["row"] spHalvesIn)
    (C4 : Cal P w K mg base CX0 1 "number_by" ["base", "digits"] (spNumberBy K)) (C5 : Cal P w K mg base CX0 1 "power" ["base", "many"] spPower) : FnOk P w K mg base (L2.CX P w) 4 f fd ["form", "row"] (spNumberOf C) := by
  refine F.okX scNumberOf (fun vs H Q E h => ?_) (fun cdv A outer s H vs Q E hr h => ?_)
  · obtain ⟨a, k, n, g, pt, b, row, rfl, _⟩ := h
    rfl
  · obtain ⟨a, k, n, g, pt, b, row, rfl, hA, h1, h2, hB, hl, qQ, qE⟩ := h
    have hr1 : Room 1 _ := hr.mono (by decide)
    have hr2 : Room 2 _ := hr.mono (by decide)
    refine ⟨_, pss_cons (ps_set (i := 2) scNumberOf.nd rfl (.inl rfl) (pe_cal C1 hr pass0 (pa_cons (pv 0) (pa_cons (pv 1) pa_nil))))
      (pss_cons (ps_if (pt_cmp (pc_notN (pv 2))) (pss_one (ps_raise rfl (takes_of rfl rfl rfl rfl)
        (pmk_oex W.o iC tI FI hr2 bI .nil pass0 (by rfl) W.g (pa_cons (pe_ix ix_tup (pv 2) pe_int (fun _ _ => rfl)) (pa_cons (pe_ix ix_tup (pv 2) pe_int (fun _ _ => rfl)) pa_nil))))) pss_nil)
      (PSs.nox (pss_cons (ps_set (i := 3) scNumberOf.nd rfl (.inr rfl) (pe_cal C2 hr2 pass0 (pa_cons (pv 0) pa_nil)))
      (pss_cons (ps_set (i := 4) scNumberOf.nd rfl (.inr rfl) (pe_cal C3 hr1 pass0 (pa_cons (pv 1) pa_nil)))
      (pss_cons (ps_setLc (i := 5) (own := [("k", 7)]) (g := gName 7) (tt := tTest (tOp rEq (tOp (rIxL K) (tVar 3) (tVar 7)) (tC (.str "figure")))) (te := tOp (rIxL K) (tVar 4) (tVar 7)) rfl scNumberOf.nd rfl rfl (sw_true rfl rfl rfl (by decide +kernel)) (pi_range1 rfl B.range (pa_cons (pe_callB call_len_seq (by rfl) B.len PySem.boot_len (pa_cons (pv 3) pa_nil)) pa_nil))
          (blkOk_by (own := [("k", 7)]) (N := ["form", "row", "amiss", "due", "halves", "figures", "number", "k"]) (sc := defScope sNumberOf) (by decide +kernel))
          (fun _ _ _ _ _ => pg_name (i := 7) scNumberOf.nd rfl (Or.inl rfl)) (fun _ _ _ _ _ => pts_one (pt_cmpR op_eq (pe_ix ix_list (pv 3) (pv 7) (fun _ _ => rfl)) pe_str (nomark _)))
          (fun _ _ _ _ _ => pe_ix ix_list (pv 4) (pv 7) (fun _ _ => rfl)))
      (pss_cons (ps_set (i := 6) scNumberOf.nd rfl (.inl rfl) (pe_cal C4 hr1 pass0 (pa_cons pe_int (pa_cons (pv 5) pa_nil))))
      (pss_cons (ps_if (PW.pt (pw_and (pt_cmpR op_eq (pe_ix ix_tup (pv 0) pe_int (fun _ _ => rfl)) pe_str (nomark _))
          (pw_and1 (pt_cmpR op_in_seq (pe_ix ix_list (pv 4) (pe_bm PySem.F.plainAttrs_list PySem.F.slot_list_index PySem.F.type_list_index mt_index (pv 3) (pa_cons pe_str pa_nil)) (fun _ _ => rfl)) (pe_gt M) (by rfl)))))
          (pss_one (ps_ret (pe_un un_neg (pv 6)))) pss_nil)
      (pss_cons (ps_if (PW.pt (pw_and (pt_cmpR op_eq (pe_ix ix_tup (pv 0) pe_int (fun _ _ => rfl)) pe_str (nomark _))
          (pw_and1 (pt_cmpR op_gt (pe_ix ix_list (pv 5) pe_int (fun _ _ => rfl)) pe_int (nomark _)))))
          (pss_one (ps_ret (pe_op op_sub (pv 6) (pe_cal C5 hr1 pass0 (pa_cons pe_int (pa_cons (pe_ix ix_tup (pv 0) pe_int (fun _ _ => rfl)) pa_nil)))))) pss_nil)
      (pss_one (ps_ret (pv 6))))))))))), ?_⟩
    -- amiss = caught(form, row)
    refine ⟨.ref a, rfl, .ref b, rfl, a, k, n, g, pt, b, row, rfl, hA, h1, h2, hB, hl, fun R H1 s1 => ?_, fun i d R H1 p s1 hp => ?_⟩
    · -- good
      refine ⟨_, rfl, _, rfl, iteF ?_⟩
      refine ⟨_, rfl, a, k, n, g, pt, rfl, s1 _ _ hA, h1, h2, fun H2 pd s2 hD => ?_⟩
      refine ⟨_, rfl, b, row, rfl, s2 _ _ (s1 _ _ hB), by have := width_le (k := k) (g := g) h2; omega, fun H3 ph s3 _ hP => ?_⟩
      have hD3 := s3 _ _ hD
      have hA3 := s3 _ _ (s2 _ _ (s1 _ _ hA))
      have dl := due_len k n g
      have hlh : (halves row).length = 2 * width k n g := by rw [halves_len, hl]
      have wl := width_le (k := k) (g := g) h2
      -- the comprehension
      refine ⟨_, rfl, pd, _, rfl, .inl (SqL.of hD3), ((((due k n g).map dv).length : Nat) : Int), rfl, by omega, by rw [List.length_map]; omega, fun D nD => lc_range (lo := 0) (n := ((due k n g).map dv).length)
        (fun i H' => Same H3 H' ∧ H' D = some (.lst ((figs ((due k n g).take i) ((halves row).take i)).map V.int))) ⟨same_upd nD, upd_same⟩ (fun i H' hi hPv => ?_) (fun H' hPv => ?_)⟩
      · obtain ⟨s4, hDD⟩ := hPv
        rw [List.length_map] at hi
        obtain ⟨d, hd⟩ : ∃ d, (due k n g)[i]? = some d := ⟨_, List.getElem?_eq_getElem hi⟩
        obtain ⟨x, hx⟩ : ∃ x, (halves row)[i]? = some x := ⟨_, List.getElem?_eq_getElem (by omega)⟩
        refine ⟨rfl, _, rfl, _, rfl, pd, _, _, dv d, rfl, rfl, SqL.of (s4 _ _ hD3), at_of (j := i) (by omega) (get_map hd), rfl, _, rfl, ?_⟩
        have ft := figs_take hd hx
        by_cases c : d = Duty.figure
        · rw [if_pos c] at ft
          refine ifT (by rw [c]; decide +kernel) ⟨_, rfl, _, rfl, ph, _, _, .int x, rfl, rfl, SqL.of (s4 _ _ hP), at_of (j := i) (by omega) (get_map hx), _, hDD, small1000 ?_, su s4 nD, ?_⟩
          · rw [List.length_map]
            have := figs_le ((due k n g).take i) ((halves row).take i)
            rw [List.length_take] at this
            omega
          · rw [upd_same, ft, List.map_append]
            rfl
        · rw [if_neg c, List.append_nil] at ft
          refine ifF (by cases d <;> first | exact absurd rfl c | decide +kernel) ⟨s4, ?_⟩
          rw [ft]
          exact hDD
      · obtain ⟨s4, hDD⟩ := hPv
        rw [List.length_map, List.take_length, List.take_of_length_le (by omega)] at hDD
        have hA4 := s4 _ _ hA3
        have fin : ∀ {H5 : Hp}, Same H' H5 → Same H H5 := fun {H5} s5 c x e => s5 _ _ (s4 _ _ (s3 _ _ (s2 _ _ (s1 _ _ e))))
        -- number = number_by(10, figures)
        refine ⟨_, rfl, D, _, rfl, SqL.of hDD, ?_⟩
        -- if form[2] == 'end' and ..
        refine ⟨_, rfl, a, _, 2, .str g.s, rfl, rfl, SqT.of hA4, atI_nat (j := 2) rfl, rfl, _, rfl, ?_⟩
        rw [d_en]
        have tail : ¬ (g = .en ∧ ((halves row).getD (signAt k n g) 0 = 11 ∨ (halves row).getD (signAt k n g) 0 = 13)) →
            tSeq (tIfS (tAnd (tTest (tOp rEq (tOp (rIxT K) (tVar 0) (tC (.int 2))) (tC (.str "tens")))) (tTest (tOp (rI0 fun i j => .bl (decide (j < i))) (tOp (rIxL K) (tVar 5) (tC (.int 0))) (tC (.int 4)))))
              (tRet (tOp (rI0 fun i j => .int (i - j)) (tVar 6) (tCall spPower [] E0 (tCons (tC (.int 10)) (tCons (tOp (rIxT K) (tVar 0) (tC (.int 1))) tNil))))) tNext) (tRet (tVar 6))
              { nx := fun _ H' => Q .non H', rt := Q } [some (.ref a), some (.ref b), some .non, some (.ref pd), some (.ref ph), some (.ref D), some (.int (numBy (figs (due k n g) (halves row)))), none] H' := fun hne => by
          refine ⟨_, rfl, a, _, 2, .str g.s, rfl, rfl, SqT.of hA4, atI_nat (j := 2) rfl, rfl, _, rfl, ?_⟩
          rw [d_te]
          by_cases c : g = .te
          · refine ifT (decide_eq_true c) ?_
            have fl := figs_due_len (k := k) (g := g) h1 hlh
            obtain ⟨x, hx⟩ : ∃ x, (figs (due k n g) (halves row))[0]? = some x := ⟨_, List.getElem?_eq_getElem (by omega)⟩
            refine ⟨_, rfl, D, _, 0, .int x, rfl, rfl, SqL.of hDD, atI_nat (j := 0) (get_map hx), _, _, rfl, rfl, _, rfl, ?_⟩
            by_cases c4 : 4 < x
            · refine ifT (decide_eq_true c4) ⟨_, rfl, _, rfl, a, _, 1, .int (n : Int), rfl, rfl, SqT.of hA4, atI_nat (j := 1) rfl, n, rfl, by omega, _, _, rfl, rfl, ?_⟩
              have q := qQ R H' (fin (Same.refl _))
              unfold progNum at q
              rw [if_neg hne, if_pos ⟨c, by rw [getD_of hx]; exact c4⟩] at q
              exact q
            · refine ifF (decide_eq_false c4) ⟨_, rfl, ?_⟩
              have q := qQ R H' (fin (Same.refl _))
              unfold progNum at q
              rw [if_neg hne, if_neg (fun z => c4 (by have := z.2; rw [getD_of hx] at this; exact this))] at q
              exact q
          · refine ifF (decide_eq_false c) (iteF ⟨_, rfl, ?_⟩)
            have q := qQ R H' (fin (Same.refl _))
            unfold progNum at q
            rw [if_neg hne, if_neg (fun z => c z.1)] at q
            exact q
        by_cases c : g = .en
        · subst c
          refine ifT (decide_eq_true rfl) ?_
          have sl : signAt k n .en < (due k n .en).length := (List.getElem?_eq_some_iff.mp (sign_at (k := k) h1)).1
          obtain ⟨x, hx⟩ : ∃ x, (halves row)[signAt k n .en]? = some x := ⟨_, List.getElem?_eq_getElem (by omega)⟩
          refine ⟨_, rfl, _, rfl, .inl ⟨rfl, _, SqL.of (s4 _ _ hD3)⟩, pd, _, _, signAt k n .en, dv .sign, rfl, rfl, SqL.of (s4 _ _ hD3), rfl, ?_, get_map (sign_at h1), by decide +kernel, fun m z hm hz => ?_, ph, _, _, .int x, rfl, rfl, SqL.of (s4 _ _ hP), atI_nat (get_map hx), fun am hM => ?_⟩
          · rw [List.all_map, List.all_eq_true]
            intro d _
            rfl
          · obtain ⟨d, hd, rfl⟩ := map_get hz
            have nd := sign_first hm hd
            cases d <;> first | exact absurd rfl nd | decide +kernel
          refine ⟨am, _, rfl, .inr (hM _), rfl, rfl, _, rfl, ?_⟩
          have hx' := getD_of hx
          by_cases c2 : x = 11 ∨ x = 13
          · refine ifT ?_ ⟨_, rfl, _, rfl, ?_⟩
            · rcases c2 with e | e <;> (rw [e]; decide +kernel)
            · have q := qQ R H' (fin (Same.refl _))
              unfold progNum at q
              rw [if_pos ⟨rfl, by rw [hx']; exact c2⟩] at q
              exact q
          · refine ifF ?_ (tail fun z => c2 (by have := z.2; rw [hx'] at this; exact this))
            show (11 == x || (13 == x || false)) = false
            have e1 : (11 == x) = false := by simpa using fun z => c2 (.inl z.symm)
            have e2 : (13 == x) = false := by simpa using fun z => c2 (.inr z.symm)
            rw [e1, e2]
            rfl
        · exact ifF (decide_eq_false c) (iteF (tail fun z => c z.1))
    · -- amiss
      refine ⟨_, rfl, _, rfl, iteT ?_⟩
      refine ⟨_, rfl, p, _, 0, .int ((i : Nat) : Int), rfl, rfl, SqT.of hp, atI_nat (j := 0) rfl, _, rfl, p, _, 1, dv d, rfl, rfl, SqT.of hp, atI_nat (j := 1) rfl, (by show 2 ≤ 1000; decide), fun x nx => ?_⟩
      refine ⟨x, _, _, rfl, upd_same, fun H2 e ne nex hx he keep => ⟨rfl, e, _, hx, he, ?_, ?_⟩⟩
      · rw [upd_ne nex] at ne
        exact ne
      · rw [upd_ne nex] at ne
        refine qE i d R _ e (fun c y z => ?_) upd_same
        have z1 := s1 _ _ z
        have ncx : c ≠ x := ne_of_none z1 nx
        rw [upd_ne (ne_of_none z1 ne), del_ne ncx]
        exact keep c y ncx (by rw [upd_ne ncx]; exact z1)
end
end K75

/-! _law_read. -/
namespace K75
open PySem PySem.Spec PyProof.Rows L2
theorem pe_calS {X : Cx} {CX : CXT} {k : Nat} {x : Str} {ps : List Str} {sp : Sp} {E : L2.St → XK} {p pos : Pos} {e : Expr} {es : List Expr} {t : TA} (C : Cal X.prog X.w X.K X.mg X.base CX k x ps sp) (hr : Room k X.A) (hx : ∀ σ, PassesAt CX X σ (E σ)) (ha : PA X (e :: es) t)
    (hg : Gl X x := by rfl) (hdb : (x == ("__debug__" : Str)) = false := by decide) (he : starEach (e :: es) X.env = (false, eval e X.env) :: starEach es X.env := by rfl) (hpl : (backTo pos (starEach es X.env)).any (·.1) = false := by rfl) :
    PE X (.Call (.Name x p) (e :: es) [] pos) (tCallS sp E t) := by
  obtain ⟨f, fd, F, hm, hk, hb⟩ := C.ex
  exact pe_callS F hr hg hm hk hb hx ha hdb he hpl
theorem wf_place {i : Int} {z : V} : (wf i z).lookup ("place" : Str) = some (V.int i) := by
  unfold wf
  rw [lookup_put, if_neg (by decide +kernel), lookup_put, if_pos rfl]
theorem wf_why {i : Int} {z : V} : (wf i z).lookup ("why" : Str) = some z := by
  unfold wf
  rw [lookup_put, if_pos rfl]
section
variable {P : Program} {w : World} {K : PySem.W.Frag} {mg : Str → Option Value} {base : Heap}
abbrev sRead : Stmt := topS 52
theorem scRead : FnScope ["_law_form_here", "_law_row", "_law_found", "e"] ["_law_form_here", "_law_row"] (defScope sRead) := ⟨rfl, rfl, rfl, by decide +kernel, rfl, by decide +kernel, by decide +kernel⟩
def spRead : Sp := fun vs H Q _ => ∃ (a : Addr) (k : Kd) (n : Nat) (g : Sg) (pt : Int) (b : Addr) (row : List Int), vs = [.ref a, .ref b] ∧ H a = some (.tup (fm k n g pt)) ∧ 1 ≤ n ∧ n ≤ 12 ∧ H b = some (.tup (row.map V.int)) ∧ row.length = width k n g ∧
  (caughtM (due k n g) (halves row) 0 = none → ∀ H' p, Same H H' → H' p = some (.tup [.str "told", .int (progNum k n g (halves row))]) → Q (.ref p) H') ∧
  (∀ i d, caughtM (due k n g) (halves row) 0 = some (i, d) → ∀ H' p t, Same H H' → H' t = some (.tup [.int ((i : Nat) : Int), dv d]) → H' p = some (.tup [.str "wrong", .ref t]) → Q (.ref p) H')
/-- the suite: the error's fields in a pair in a pair -/
def t_suite (C : Addr) : Addr → Value → Option Addr → TS := fun a cls d => tAsg (tTup (tCons (tC (.str "wrong")) (tCons (tTup (tCons (tXf a cls d C "place" (tVar 3)) (tCons (tXf a cls d C "why" (tVar 3)) tNil))) tNil))) (gName 2)
theorem ok_read {f : Addr} {fd : FuncData} {C : Addr} (F : Fun K "_law_read" "_law_read" sRead f fd) (W : WrC K mg C) (C1 : Cal P w K mg base (L2.CX P w) 4 "number_of" ["form", "row"] (spNumberOf C)) : FnOk P w K mg base CX0 5 f fd ["_law_form_here", "_law_row"] spRead := by
  refine F.ok scRead (fun vs H Q E h => ?_) (fun cdv A outer s H vs Q E hr h => ?_)
  · obtain ⟨a, k, n, g, pt, b, row, rfl, _⟩ := h
    rfl
  · obtain ⟨a, k, n, g, pt, b, row, rfl, hA, h1, h2, hB, hl, qN, qS⟩ := h
    refine ⟨_, pss_cons (ps_set (i := 2) scRead.nd rfl (.inl rfl) pe_non)
      (pss_cons (ps_try_as (i := 3) (tb := fun W => tAsg (tTup (tCons (tC (.str "told")) (tCons (tCallS (spNumberOf C) (WE W) (tCons (tVar 0) (tCons (tVar 1) tNil))) tNil))) (gName 2)) (ts := t_suite C) (Wout := fun _ _ _ _ => False) rfl rfl scRead.nd rfl rfl ⟨rfl, by decide, Or.inl W.g⟩ takes0
          (fun W pn xe tk _ => pss_one (ps_set (i := 2) scRead.nd rfl (Or.inl rfl) (by exact (pe_tup (pa_cons pe_str (pa_cons (pe_calS C1 hr (fun σ => passAt tk σ) (by exact (pa_cons (pv 0) (pa_cons (pv 1) pa_nil)))) pa_nil))))))
          (fun a oe cls d pn hz hf => pss_one (ps_set (i := 2) scRead.nd rfl (Or.inl rfl) (by exact (pe_tup (pa_cons pe_str (pa_cons (pe_tup (pa_cons (pe_xf W.x W.noP hz hf (pv 3)) (pa_cons (pe_xf W.x W.noY hz hf (pv 3)) pa_nil))) pa_nil)))))))
      (pss_one (ps_ret (pv 2)))), ?_⟩
    refine ⟨_, rfl, _, rfl, a, k, n, g, pt, b, row, rfl, hA, h1, h2, hB, hl, fun R H1 s1 => ?_, fun i d R H1 e s1 he => ?_⟩
    · refine ⟨sz (by show 2 ≤ 1000; decide), fun p np => ⟨_, rfl, ?_⟩⟩
      exact qN R _ p (fun c x z => cy np (s1 _ _ z)) upd_same
    · refine ⟨true, W.te, fun _ a0 _ => ?_, fun q => Bool.noConfusion q⟩
      refine ⟨_, rfl, rfl, rfl, e, _, .int ((i : Nat) : Int), rfl, he, wf_place, _, rfl, rfl, rfl, e, _, dv d, rfl, he, wf_why, sz (by show 2 ≤ 1000; decide), fun t nt => ⟨sz (by show 2 ≤ 1000; decide), fun p np => ⟨_, rfl, ?_⟩⟩⟩
      exact qS i d R _ p t (fun c x z => cy np (cy nt (s1 _ _ z))) (cy np upd_same) upd_same
end
end K75

/-! flag_table, look_tables, half_looks, look_rows, check_rows. -/
namespace K75
open PySem PySem.Spec PyProof.Rows L2
theorem seqT {K : PySem.W.Frag} {H H' : Hp} {a : Addr} {xs : List V} (e : Same H H') (h : SqT K H a xs) : SqT K H' a xs := by
  rcases h with (h | ⟨o, h⟩) | h
  · exact .inl (.inl (e _ _ h))
  · exact .inl (.inr ⟨o, e _ _ h⟩)
  · exact .inr h
inductive Tabs (H : Hp) : List V → List (List Int) → Prop
  | nil : Tabs H [] []
  | cons {a : Addr} {t : List Int} {vs : List V} {ts : List (List Int)} (h : H a = some (.tup (t.map V.int))) (r : Tabs H vs ts) : Tabs H (.ref a :: vs) (t :: ts)
theorem Tabs.mono {H H' : Hp} (k : ∀ a xs, H a = some (.tup xs) → H' a = some (.tup xs)) : ∀ {vs : List V} {ts : List (List Int)}, Tabs H vs ts → Tabs H' vs ts
  | _, _, .nil => .nil
  | _, _, .cons h r => .cons (k _ _ h) (Tabs.mono k r)
theorem Tabs.snoc {H : Hp} {a : Addr} {t : List Int} (h : H a = some (.tup (t.map V.int))) : ∀ {vs : List V} {ts : List (List Int)}, Tabs H vs ts → Tabs H (vs ++ [.ref a]) (ts ++ [t])
  | _, _, .nil => .cons h .nil
  | _, _, .cons h' r => .cons h' (Tabs.snoc h r)
theorem Tabs.get {H : Hp} : ∀ {vs : List V} {ts : List (List Int)} {i : Nat} {t : List Int}, Tabs H vs ts → ts[i]? = some t → ∃ a, vs[i]? = some (.ref a) ∧ H a = some (.tup (t.map V.int))
  | _, _, i, t, .nil, e => by simp at e
  | _, _, 0, t, .cons (a := a) h _, e => by
    have q := Option.some.inj e
    rw [← q]
    exact ⟨a, rfl, h⟩
  | _, _, i + 1, t, .cons _ r, e => by
    obtain ⟨a, h1, h2⟩ := Tabs.get r (by simpa using e)
    exact ⟨a, by simpa using h1, h2⟩
theorem Tabs.len {H : Hp} : ∀ {vs : List V} {ts : List (List Int)}, Tabs H vs ts → vs.length = ts.length
  | _, _, .nil => rfl
  | _, _, .cons _ r => congrArg (· + 1) r.len
def rowV : Op → List V
  | .copy a b => [.str "copy", .int (a : Int), .int (b : Int)]
  | .look a b => [.str "look", .int (a : Int), .int (b : Int)]
  | .band a b => [.str "and", .int (a : Int), .int (b : Int)]
  | .bor a b => [.str "or", .int (a : Int), .int (b : Int)]
  | .put a k => [.str "put", .int (a : Int), .int k]
  | .mark k => [.str "mark", .int k]
inductive Rows (H : Hp) : List V → List Op → Prop
  | nil : Rows H [] []
  | cons {a : Addr} {o : Op} {vs : List V} {os : List Op} (h : H a = some (.tup (rowV o))) (r : Rows H vs os) : Rows H (.ref a :: vs) (o :: os)
theorem Rows.mono {H H' : Hp} (k : ∀ a xs, H a = some (.tup xs) → H' a = some (.tup xs)) : ∀ {vs : List V} {os : List Op}, Rows H vs os → Rows H' vs os
  | _, _, .nil => .nil
  | _, _, .cons h r => .cons (k _ _ h) (Rows.mono k r)
theorem Rows.app {H : Hp} {ws : List V} {ps : List Op} (s : Rows H ws ps) : ∀ {vs : List V} {os : List Op}, Rows H vs os → Rows H (vs ++ ws) (os ++ ps)
  | _, _, .nil => s
  | _, _, .cons h' r => .cons h' (Rows.app s r)
theorem Rows.get {H : Hp} : ∀ {vs : List V} {os : List Op} {i : Nat} {o : Op}, Rows H vs os → os[i]? = some o → ∃ a, vs[i]? = some (.ref a) ∧ H a = some (.tup (rowV o))
  | _, _, i, t, .nil, e => by simp at e
  | _, _, 0, t, .cons (a := a) h _, e => by
    have q := Option.some.inj e
    rw [← q]
    exact ⟨a, rfl, h⟩
  | _, _, i + 1, t, .cons _ r, e => by
    obtain ⟨a, h1, h2⟩ := Rows.get r (by simpa using e)
    exact ⟨a, by simpa using h1, h2⟩
theorem Rows.len {H : Hp} : ∀ {vs : List V} {os : List Op}, Rows H vs os → vs.length = os.length
  | _, _, .nil => rfl
  | _, _, .cons _ r => congrArg (· + 1) r.len
/-- a list stored leaves the tuples -/
theorem tup_up {H : Hp} {l : Addr} {xs : List V} {o : HO} (h : H l = some (.lst xs)) : ∀ a ys, H a = some (.tup ys) → upd H l o a = some (.tup ys) := fun a ys e => by
  have n : a ≠ l := fun z => by
    rw [z, h] at e
    cases e
  rw [upd_ne n]
  exact e
theorem any_eqV (gs : List Int) (h : Int) : inV (.int h) (gs.map V.int) = gs.any fun y => y == h := by
  unfold inV
  rw [List.any_map]
  rfl
section
variable {P : Program} {w : World} {K : PySem.W.Frag} {mg : Str → Option Value} {base : Heap}
/-! ### flag_table -/
abbrev sFlag : Stmt := topS 22
theorem scFlag : FnScope ["is_high", "good", "found", "byte", "half"] ["is_high", "good"] (defScope sFlag) := ⟨rfl, rfl, rfl, by decide +kernel, rfl, by decide +kernel, by decide +kernel⟩
def spFlag (K : PySem.W.Frag) : Sp := fun vs H Q _ => ∃ (hi : Bool) (ga : Addr) (gs : List Int), vs = [.bl hi, .ref ga] ∧ SqT K H ga (gs.map V.int) ∧
  ∀ H' p, Same H H' → H' p = some (.tup ((flagT hi gs).map V.int)) → Q (.ref p) H'
theorem flag_take {hi : Bool} {gs : List Int} {i : Nat} (h : i < 256) : (flagT hi gs).take (i + 1) = (flagT hi gs).take i ++ [if (gs.any fun y => y == hiHalf hi (i : Int)) = true then 0 else 255] := by
  refine take_more ?_
  unfold flagT
  rw [range_get h]
theorem ok_flag {f : Addr} {fd : FuncData} (F : Fun K "flag_table" "flag_table" sFlag f fd) (B : Bi mg) (A : GI mg "ALL_CELLS" 256) : FnOk P w K mg base CX0 1 f fd ["is_high", "good"] (spFlag K) := by
  refine F.ok scFlag (fun vs H Q E h => ?_) (fun cdv Ar outer s H vs Q E hr h => ?_)
  · obtain ⟨hi, ga, gs, rfl, _⟩ := h
    rfl
  · obtain ⟨hi, ga, gs, rfl, hG, q⟩ := h
    refine ⟨_, pss_cons (ps_set (i := 2) scFlag.nd rfl (.inl rfl) (pe_lst pa_nil))
      (pss_cons (ps_for PassesOwn.never rfl (pi_range1 rfl B.range (pa_cons (pe_gi A) pa_nil)) (pg_name (i := 3) scFlag.nd rfl (.inl rfl))
        (pss_cons (ps_set (i := 4) scFlag.nd rfl (.inl rfl) (pe_ifExp (pt_val (pv 0)) (pe_op op_fdiv (pv 3) pe_int) (pe_op op_mod (pv 3) pe_int)))
        (pss_one (ps_expr (pe_bm PySem.F.plainAttrs_list PySem.F.slot_list_append PySem.F.type_list_append mt_append (pv 2) (pa_cons (pe_ifExp (pt_cmpR op_in_seq (pv 4) (pv 1) (by rfl)) pe_int pe_int) pa_nil))))))
      (pss_one (ps_ret (pe_callTy call_tuple_of (by rfl) B.tuple (by decide +kernel) (pa_cons (pv 2) pa_nil))))), ?_⟩
    refine ⟨Nat.zero_le _, fun l nl => ⟨256, rfl, by decide, by decide, for_range (n := 256) (fun i σ H' => ∃ y3 y4, σ = [some (.bl hi), some (.ref ga), some (.ref l), y3, y4] ∧ Same H H' ∧ H' l = some (.lst (((flagT hi gs).take i).map V.int)))
      ⟨none, none, rfl, same_upd nl, upd_same⟩ (fun i σ H' hi' hP => ?_) (fun σ H' hP => ?_)⟩⟩
    · obtain ⟨y3, y4, rfl, s1, h1⟩ := hP
      have fin : ∀ (h : Int), h = hiHalf hi (i : Int) → tSeq (tAsg (tC (.int h)) (gName 4)) (tDrop (tBM K "list" rAppend (tVar 2) (tCons (tIf (tTest (tOp (rIn K false) (tVar 4) (tVar 1))) (tC (.int 0)) (tC (.int 255))) tNil)))
          { nx := fun σ H' => ∃ y3 y4, σ = [some (.bl hi), some (.ref ga), some (.ref l), y3, y4] ∧ Same H H' ∧ H' l = some (.lst (((flagT hi gs).take (i + 1)).map V.int)), rt := Q } [some (.bl hi), some (.ref ga), some (.ref l), some (.int (0 + (i : Int))), y4] H' := fun h eh => by
        refine ⟨_, rfl, .inl ⟨rfl, _, SqL.of h1⟩, _, rfl, _, rfl, ga, _, rfl, .inr (seqT s1 hG), rfl, ?_, _, rfl, ?_⟩
        · rw [List.all_map, List.all_eq_true]
          intro z _
          rfl
        have e : inV (.int h) (gs.map V.int) = gs.any fun y => y == hiHalf hi (i : Int) := by rw [any_eqV, eh]
        show if (if false = true then !inV (.int h) (gs.map V.int) else inV (.int h) (gs.map V.int)) = true then _ else _
        rw [if_neg Bool.false_ne_true, e]
        have ft := flag_take (hi := hi) (gs := gs) hi'
        have lz : (((flagT hi gs).take i).map V.int).length ≤ 1000 := by
          rw [List.length_map, List.length_take]
          omega
        by_cases c : (gs.any fun y => y == hiHalf hi (i : Int)) = true
        · rw [if_pos c] at ft ⊢
          refine ⟨l, _, _, rfl, rfl, h1, small1000 lz, some (.int (0 + (i : Int))), some (.int h), rfl, su s1 nl, ?_⟩
          rw [upd_same, ft, List.map_append]
          rfl
        · rw [if_neg c] at ft ⊢
          refine ⟨l, _, _, rfl, rfl, h1, small1000 lz, some (.int (0 + (i : Int))), some (.int h), rfl, su s1 nl, ?_⟩
          rw [upd_same, ft, List.map_append]
          rfl
      refine ⟨_, rfl, hi, rfl, ?_⟩
      cases hi with
      | true =>
        refine iteT ⟨_, rfl, _, _, rfl, rfl, ⟨by decide, by decide⟩, ?_⟩
        exact fin ((0 + (i : Int)) / 16) (by rw [Int.zero_add]; rfl)
      | false =>
        refine iteF ⟨_, rfl, _, _, rfl, rfl, (by show (0 : Int) < 16; decide), ?_⟩
        exact fin ((0 + (i : Int)) % 16) (by rw [Int.zero_add]; rfl)
    · obtain ⟨y3, y4, rfl, s1, h1⟩ := hP
      have ef : (flagT hi gs).take 256 = flagT hi gs := List.take_of_length_le (by unfold flagT; rw [List.length_map, List.length_range]; exact Nat.le_refl _)
      rw [ef] at h1
      refine ⟨_, rfl, l, _, rfl, .inl ⟨SqL.of h1, fun p np => ?_⟩⟩
      exact q _ p (fun c x e => cy np (s1 _ _ e)) upd_same
end
end K75

/-! look_tables, half_looks, look_rows, check_rows. -/
namespace K75
open PySem PySem.Spec PyProof.Rows L2
theorem tab8_get {i j : Nat} (hi : i < 2) (hj : j < 4) : tabs8[4 * i + j]? = some (flagT (decide (i = 0)) (goodsN j)) := by
  have h : i = 0 ∨ i = 1 := by omega
  have h' : j = 0 ∨ j = 1 ∨ j = 2 ∨ j = 3 := by omega
  rcases h with e | e <;> rcases h' with e' | e' | e' | e' <;> (rw [e, e']; rfl)
section
variable {P : Program} {w : World} {K : PySem.W.Frag} {mg : Str → Option Value} {base : Heap}
abbrev sTables : Stmt := topS 30
theorem scTables : FnScope ["found", "is_high", "good", "byte"] [] (defScope sTables) := ⟨rfl, rfl, rfl, by decide +kernel, rfl, by decide +kernel, by decide +kernel⟩
def spTables : Sp := fun vs H Q _ => vs = [] ∧ ∀ H' p ts, Same H H' → H' p = some (.tup ts) → Tabs H' ts tabs9 → Q (.ref p) H'
theorem ok_tables {f : Addr} {fd : FuncData} (F : Fun K "look_tables" "look_tables" sTables f fd) (B : Bi mg) (A : GI mg "ALL_CELLS" 256) (FG : GT K mg "FIGURES" ((goodsN 0).map V.int)) (SG : GT K mg "SIGNS" ((goodsN 1).map V.int))
    (C1 : Cal P w K mg base CX0 1 "flag_table" ["is_high", "good"] (spFlag K)) : FnOk P w K mg base CX0 2 f fd [] spTables := by
  refine F.ok scTables (fun vs H Q E h => ?_) (fun cdv Ar outer s H vs Q E hr h => ?_)
  · obtain ⟨rfl, _⟩ := h
    rfl
  · obtain ⟨rfl, q⟩ := h
    refine ⟨_, pss_cons (ps_set (i := 0) scTables.nd rfl (.inl rfl) (pe_lst pa_nil))
      (pss_cons (ps_for PassesOwn.never rfl (pi_tup (pe_tup (pa_cons pe_bl (pa_cons pe_bl pa_nil)))) (pg_name (i := 1) scTables.nd rfl (.inl rfl))
        (pss_one (ps_for PassesOwn.never rfl (pi_tup (pe_tup (pa_cons (pe_gt FG) (pa_cons (pe_gt SG) (pa_cons (pe_tup (pa_cons pe_int pa_nil)) (pa_cons (pe_tup (pa_cons pe_int pa_nil)) pa_nil)))))) (pg_name (i := 2) scTables.nd rfl (.inl rfl))
          (pss_one (ps_expr (pe_bm PySem.F.plainAttrs_list PySem.F.slot_list_append PySem.F.type_list_append mt_append (pv 0) (pa_cons (pe_cal C1 hr pass0 (pa_cons (pv 1) (pa_cons (pv 2) pa_nil))) pa_nil)))))))
      (pss_one (ps_ret (pe_callTy call_tuple_of (by rfl) B.tuple (by decide +kernel) (pa_cons (pe_op op_cat (pv 0) (pe_lst (pa_cons (pe_callTy call_tuple_of (by rfl) B.tuple (by decide +kernel) (pa_cons
          (pe_lc (own := [("byte", 3)]) (g := gName 3) (tt := tYes) (te := tOp (rI0 fun i j => .int (i - j)) (tC (.int 255)) (tVar 3)) rfl scTables.nd (pi_range1 rfl B.range (pa_cons (pe_gi A) pa_nil))
            (blkOk_by (own := [("byte", 3)]) (N := ["found", "is_high", "good", "byte"]) (sc := defScope sTables) (by decide +kernel)) (fun _ _ _ _ _ => pg_name (i := 3) scTables.nd rfl (Or.inl rfl)) (fun _ _ _ _ _ => pts_nil) (fun _ _ _ _ _ => pe_op op_sub pe_int (pv 3)))
          pa_nil)) pa_nil))) pa_nil))))), ?_⟩
    refine ⟨Nat.zero_le _, fun l nl => ⟨sz (by show 2 ≤ 1000; decide), fun tp ntp => ?_⟩⟩
    have hl0 : upd (upd H l (.lst [])) tp (.tup [.bl true, .bl false]) l = some (.lst []) := cy ntp upd_same
    refine ⟨tp, rfl, ⟨_, SqT.of upd_same⟩, for_tup (K := K) (a := tp) (xs := [.bl true, .bl false]) (fun i σ H' => ∃ fs y1 y2, σ = [some (.ref l), y1, y2, none] ∧ Same H H' ∧ H' l = some (.lst fs) ∧ Tabs H' fs (tabs8.take (4 * i)) ∧ H' tp = some (.tup [.bl true, .bl false]))
      ⟨[], none, none, rfl, fun c x e => cy ntp (cy nl e), hl0, .nil, upd_same⟩ (fun i σ H' _ hP => ?_) (fun i x σ H' hx hP => ?_) (fun σ H' hP => ?_)⟩
    · obtain ⟨fs, y1, y2, rfl, s1, h1, hT, htp⟩ := hP
      exact SqT.of htp
    · obtain ⟨fs, y1, y2, rfl, s1, h1, hT, htp⟩ := hP
      obtain ⟨hi, rfl⟩ : i < 2 ∧ x = .bl (decide (i = 0)) := by
        match i, hx with
        | 0, hx => exact ⟨by decide, (Option.some.inj hx).symm⟩
        | 1, hx => exact ⟨by decide, (Option.some.inj hx).symm⟩
        | i + 2, hx => simp at hx
      refine fun aF hF aS hS => ⟨sz (by show 1 ≤ 1000; decide), fun p0 n0 => ⟨sz (by show 1 ≤ 1000; decide), fun p1 n1 => ⟨sz (by show 4 ≤ 1000; decide), fun tq ntq => ?_⟩⟩⟩
      have kk : ∀ b o, H' b = some o → upd (upd (upd H' p0 (.tup [.int 0])) p1 (.tup [.int 15])) tq (.tup [.ref aF, .ref aS, .ref p0, .ref p1]) b = some o := fun b o e => cy ntq (cy n1 (cy n0 e))
      refine ⟨tq, rfl, ⟨_, SqT.of upd_same⟩, for_tup (K := K) (a := tq) (xs := [.ref aF, .ref aS, .ref p0, .ref p1]) (fun j σ H2 => ∃ fs y2, σ = [some (.ref l), some (.bl (decide (i = 0))), y2, none] ∧ Same H H2 ∧ H2 l = some (.lst fs) ∧ Tabs H2 fs (tabs8.take (4 * i + j)) ∧
        H2 tp = some (.tup [.bl true, .bl false]) ∧ H2 tq = some (.tup [.ref aF, .ref aS, .ref p0, .ref p1]) ∧ H2 p0 = some (.tup [.int 0]) ∧ H2 p1 = some (.tup [.int 15]))
        ⟨fs, y2, rfl, fun c z e => kk _ _ (s1 _ _ e), kk _ _ h1, hT.mono fun c z e => kk _ _ e, kk _ _ htp, upd_same, cy ntq (cy n1 upd_same), cy ntq upd_same⟩ (fun j σ H2 _ hP => ?_) (fun j x σ H2 hx hP => ?_) (fun σ H2 hP => ?_)⟩
      · obtain ⟨fs, y2, rfl, s2, h2, hT2, htp2, htq2, hp0, hp1⟩ := hP
        exact SqT.of htq2
      · obtain ⟨fs, y2, rfl, s2, h2, hT2, htp2, htq2, hp0, hp1⟩ := hP
        obtain ⟨hj, ga, rfl, hG⟩ : j < 4 ∧ ∃ ga, x = .ref ga ∧ SqT K H2 ga ((goodsN j).map V.int) := by
          match j, hx with
          | 0, hx => exact ⟨by decide, aF, (Option.some.inj hx).symm, hF _⟩
          | 1, hx => exact ⟨by decide, aS, (Option.some.inj hx).symm, hS _⟩
          | 2, hx => exact ⟨by decide, p0, (Option.some.inj hx).symm, SqT.of hp0⟩
          | 3, hx => exact ⟨by decide, p1, (Option.some.inj hx).symm, SqT.of hp1⟩
          | j + 4, hx => simp at hx
        refine ⟨_, rfl, .inl ⟨rfl, _, SqL.of h2⟩, _, rfl, _, rfl, decide (i = 0), ga, _, rfl, hG, fun H3 p s3 hp => ?_⟩
        have hl3 := s3 _ _ h2
        have lz := hT2.len
        rw [List.length_take] at lz
        refine ⟨l, _, _, rfl, rfl, hl3, small1000 (by omega), _, some (.ref ga), rfl, su (fun c z e => s3 _ _ (s2 _ _ e)) nl, upd_same, ?_, tup_up hl3 _ _ (s3 _ _ htp2), tup_up hl3 _ _ (s3 _ _ htq2), tup_up hl3 _ _ (s3 _ _ hp0), tup_up hl3 _ _ (s3 _ _ hp1)⟩
        rw [← Nat.add_assoc, take_more (tab8_get hi hj)]
        exact (Tabs.snoc hp (hT2.mono fun c z e => s3 _ _ e)).mono (tup_up hl3)
      · obtain ⟨fs, y2, rfl, s2, h2, hT2, htp2, _⟩ := hP
        exact ⟨fs, some (.bl (decide (i = 0))), y2, rfl, s2, h2, hT2, htp2⟩
    · obtain ⟨fs, y1, y2, rfl, s1, h1, hT, _⟩ := hP
      have e8 : tabs8.take (4 * [V.bl true, V.bl false].length) = tabs8 := rfl
      rw [e8] at hT
      have lz : fs.length = 8 := hT.len
      refine ⟨_, rfl, 256, rfl, by decide, by decide, fun D nD => lc_range (lo := 0) (n := 256) (fun i H2 => Same H' H2 ∧ H2 D = some (.lst ((turnT.take i).map V.int))) ⟨same_upd nD, upd_same⟩ (fun i H2 hi hP => ?_) (fun H2 hP => ?_)⟩
      · obtain ⟨s2, hD⟩ := hP
        refine ⟨rfl, ?_⟩
        refine iteT (B := Same H' H2 ∧ H2 D = some (.lst ((turnT.take (i + 1)).map V.int))) ?_
        refine ⟨_, rfl, _, _, rfl, rfl, _, hD, small1000 ?_, su s2 nD, ?_⟩
        · rw [List.length_map, List.length_take]
          omega
        · have et : turnT[i]? = some (255 - (i : Int)) := by
            unfold turnT
            rw [range_get hi]
          rw [upd_same, take_more et, List.map_append]
          show some (HO.lst ((turnT.take i).map V.int ++ [V.int (255 - (0 + (i : Int)))])) = _
          rw [Int.zero_add]
          rfl
      · obtain ⟨s2, hD⟩ := hP
        have ef : turnT.take 256 = turnT := List.take_of_length_le (by unfold turnT; rw [List.length_map, List.length_range]; exact Nat.le_refl _)
        rw [ef] at hD
        refine ⟨D, _, rfl, .inl ⟨SqL.of hD, fun pt npt => ⟨sz (by show 1 ≤ 1000; decide), fun l2 nl2 => ?_⟩⟩⟩
        refine ⟨l, l2, fs, _, rfl, rfl, cy nl2 (cy npt (s2 _ _ h1)), upd_same, sz (by show fs.length + 1 ≤ 1000; omega), fun c nc => ⟨c, _, rfl, .inl ⟨SqL.of upd_same, fun pp npp => ?_⟩⟩⟩
        refine q _ pp (fs ++ [.ref pt]) (fun x z e => cy npp (cy nc (cy nl2 (cy npt (s2 _ _ (s1 _ _ e)))))) upd_same ?_
        exact (Tabs.snoc (t := turnT) (upd_same (H := H2)) (hT.mono fun x z e => cy npt (s2 _ _ e))).mono fun x z e => cy npp (cy nc (cy nl2 e))
/-! ### half_looks -/
abbrev sLooks : Stmt := topS 31
theorem scLooks : FnScope ["form", "kind", "figures", "sign", "looks"] ["form"] (defScope sLooks) := ⟨rfl, rfl, rfl, by decide +kernel, rfl, by decide +kernel, by decide +kernel⟩
def lv (d : Duty) : V := .int (d.ix : Int)
def spLooks : Sp := fun vs H Q _ => ∃ (a : Addr) (k : Kd) (n : Nat) (g : Sg) (pt : Int), vs = [.ref a] ∧ H a = some (.tup (fm k n g pt)) ∧ 1 ≤ n ∧ n ≤ 12 ∧
  ∀ H' p, Same H H' → H' p = some (.lst ((due k n g).map lv)) → Q (.ref p) H'
theorem zf_lv (n : Nat) : (List.replicate n [V.int 3, V.int 0]).flatten = (zf n).map lv := by
  unfold zf
  rw [List.map_flatten, List.map_replicate]
  rfl
theorem lv_pk (n : Nat) (g : Sg) : List.replicate (pad n g) (V.int 2) ++ (List.replicate n (V.int 0) ++ List.replicate g.e (V.int 1)) = (due .pk n g).map lv := by
  unfold due
  rw [List.map_append, List.map_append, List.map_replicate, List.map_replicate, List.map_replicate]
  rfl
theorem lv_sp_en (n : Nat) : ((zf n).map lv).set (2 * n - 2) (V.int 1) = (due .sp n .en).map lv := by
  unfold due
  rw [if_pos rfl, List.map_set]
  rfl
theorem lv_sp (n : Nat) {g : Sg} (h : g ≠ .en) : (zf n).map lv = (due .sp n g).map lv := by
  unfold due
  rw [if_neg h]
theorem ok_looks {f : Addr} {fd : FuncData} (F : Fun K "half_looks" "half_looks" sLooks f fd) (B : Bi mg) (Z3 : GI mg "IS_ZONE" 3) (Z0 : GI mg "IS_FIGURE" 0) (Z1 : GI mg "IS_SIGN" 1) (Z2 : GI mg "IS_NOUGHT" 2) : FnOk P w K mg base CX0 1 f fd ["form"] spLooks := by
  refine F.ok scLooks (fun vs H Q E h => ?_) (fun cdv Ar outer s H vs Q E hr h => ?_)
  · obtain ⟨a, k, n, g, pt, rfl, _⟩ := h
    rfl
  · obtain ⟨a, k, n, g, pt, rfl, hA, h1, h2, q⟩ := h
    refine ⟨_, pss_cons (ps_asg (pe_slice sl_tup (pv 0) po_none (po_some pe_int)) (pg_tup rfl (pgs_cons (pg_name (i := 1) scLooks.nd rfl (.inl rfl)) (pgs_cons (pg_name (i := 2) scLooks.nd rfl (.inl rfl)) (pgs_cons (pg_name (i := 3) scLooks.nd rfl (.inl rfl)) pgs_nil)))))
      (pss_cons (ps_if (pt_cmpR op_eq (pv 1) pe_str (nomark _))
        (pss_cons (ps_set (i := 4) scLooks.nd rfl (.inl rfl) (pe_op op_rep (pe_lst (pa_cons (pe_gi Z3) (pa_cons (pe_gi Z0) pa_nil))) (pv 2)))
        (pss_cons (ps_if (pt_cmpR op_eq (pv 3) pe_str (nomark _)) (pss_one (ps_asg (pe_gi Z1) (pg_sub (pv 4) (pe_un un_neg pe_int) set_list))) pss_nil)
        (pss_one (ps_ret (pv 4))))) pss_nil)
      (pss_cons (ps_set (i := 4) scLooks.nd rfl (.inl rfl) (pe_op op_rep (pe_lst (pa_cons (pe_gi Z0) pa_nil)) (pv 2)))
      (pss_cons (ps_if (pt_cmpR op_eq (pv 3) pe_str (nomark _)) (pss_one (ps_expr (pe_bm PySem.F.plainAttrs_list PySem.F.slot_list_append PySem.F.type_list_append mt_append (pv 4) (pa_cons (pe_gi Z1) pa_nil)))) pss_nil)
      (pss_one (ps_ret (pe_op op_cat (pe_op op_rep (pe_lst (pa_cons (pe_gi Z2) pa_nil)) (pe_op op_mod (pe_callB call_len_seq (by rfl) B.len PySem.boot_len (pa_cons (pv 4) pa_nil)) pe_int)) (pv 4))))))), ?_⟩
    refine ⟨_, rfl, 3, rfl, a, _, rfl, SqT.of hA, (by show ¬ (0 = 0 ∧ 3 = 4); decide), fun t nt => ?_⟩
    refine ⟨t, [.str k.s, .int (n : Int), .str g.s], rfl, SqT.of upd_same, rfl, _, _, rfl, _, _, rfl, _, _, rfl, rfl, ?_⟩
    refine ⟨_, rfl, rfl, _, rfl, ?_⟩
    rw [d_sp]
    cases k with
    | sp =>
      refine ifT rfl ?_
      refine ⟨sz (by show 2 ≤ 1000; decide), fun l1 n1 => ⟨_, rfl, l1, _, _, rfl, rfl, upd_same, by omega, by omega, sz (by show 2 * n ≤ 1000; omega), fun r1 nr1 => ?_⟩⟩
      refine ⟨_, rfl, rfl, _, rfl, ?_⟩
      rw [d_en, show (n : Int).toNat = n from rfl, zf_lv]
      by_cases c : g = .en
      · subst c
        refine ifT rfl ?_
        refine ⟨_, rfl, 2, rfl, r1, _, _, 2 * n - 2, rfl, rfl, upd_same, ?_, _, rfl, ?_⟩
        · rw [List.length_map, zf_len]
          exact ix_neg2 h1
        · refine q _ r1 ?_ ?_
          · rw [upd_upd]
            exact fun b x e => cy nr1 (cy n1 (cy nt e))
          · rw [upd_same, lv_sp_en]
      · refine ifF (decide_eq_false c) ⟨_, rfl, ?_⟩
        refine q _ r1 (fun b x e => cy nr1 (cy n1 (cy nt e))) ?_
        rw [upd_same, lv_sp n c]
    | pk =>
      refine ifF rfl ?_
      refine ⟨sz (by show 1 ≤ 1000; decide), fun l1 n1 => ⟨_, rfl, l1, _, _, rfl, rfl, upd_same, by omega, by omega, sz (by show 1 * n ≤ 1000; omega), fun r1 nr1 => ?_⟩⟩
      refine ⟨_, rfl, rfl, _, rfl, ?_⟩
      rw [d_en, show (n : Int).toNat = n from rfl, rep1]
      -- what follows, from the list with the sign
      have tail : ∀ H2 : Hp, Same H H2 → H2 r1 = some (.lst (List.replicate n (V.int 0) ++ List.replicate g.e (V.int 1))) →
          tRet (tOp rCat (tOp rRep (tLst (tCons (tC (.int 2)) tNil)) (tOp (rI (fun _ j => 0 < j) fun i j => .int (i % j)) (tCB (fun xs H Q => ∃ p ys, xs = [.ref p] ∧ (SqL K H p ys ∨ SqT K H p ys) ∧ Q (.int ys.length) H) (tCons (tVar 4) tNil)) (tC (.int 2)))) (tVar 4))
            { nx := fun _ H' => Q .non H', rt := Q } [some (.ref a), some (.str Kd.pk.s), some (.int (n : Int)), some (.str g.s), some (.ref r1)] H2 := fun H2 s2 hr2 => by
        have hge := g.e_le
        have hln : (List.replicate n (V.int 0) ++ List.replicate g.e (V.int 1)).length = n + g.e := by rw [List.length_append, List.length_replicate, List.length_replicate]
        refine ⟨sz (by show 1 ≤ 1000; decide), fun l2 n2 => ⟨_, rfl, r1, _, rfl, .inl (SqL.of (cy n2 hr2)), _, _, rfl, rfl, (by show (0 : Int) < 2; decide), ?_⟩⟩
        have ep : (((List.replicate n (V.int 0) ++ List.replicate g.e (V.int 1)).length : Nat) : Int) % 2 = ((pad n g : Nat) : Int) := by
          rw [hln]
          unfold pad
          omega
        dsimp only
        rw [ep]
        have hpad : pad n g ≤ 1 := by unfold pad; omega
        refine ⟨l2, _, _, rfl, rfl, upd_same, by omega, by omega, sz (by show 1 * pad n g ≤ 1000; omega), fun r2 nr2 => ⟨_, rfl, r2, r1, _, _, rfl, rfl, upd_same, cy nr2 (cy n2 hr2), sz ?_, fun c nc => ?_⟩⟩
        · show (List.replicate (pad n g) [V.int 2]).flatten.length + _ ≤ 1000
          rw [rep1, hln, List.length_replicate]
          omega
        · refine q _ c (fun b x e => cy nc (cy nr2 (cy n2 (s2 _ _ e)))) ?_
          rw [upd_same, ← lv_pk]
          show some (HO.lst ((List.replicate (pad n g) [V.int 2]).flatten ++ _)) = _
          rw [rep1]
      have s3 : Same H (upd (upd (upd H t (.tup [.str Kd.pk.s, .int (n : Int), .str g.s])) l1 (.lst [.int 0])) r1 (.lst (List.replicate n (V.int 0)))) := fun b x e => cy nr1 (cy n1 (cy nt e))
      by_cases c : g = .en
      · refine ifT (decide_eq_true c) ?_
        refine ⟨_, rfl, .inl ⟨rfl, _, SqL.of upd_same⟩, r1, _, _, rfl, rfl, upd_same, small1000 (by rw [List.length_replicate]; omega), ?_⟩
        rw [upd_upd]
        refine tail _ (fun b x e => cy nr1 (cy n1 (cy nt e))) ?_
        rw [upd_same, c]
        rfl
      · refine ifF (decide_eq_false c) (tail _ s3 ?_)
        have ge : g.e = 0 := by cases g <;> first | rfl | exact absurd rfl c
        rw [upd_same, ge]
        show _ = some (HO.lst (List.replicate n (V.int 0) ++ []))
        rw [List.append_nil]
end
end K75

/-! look_rows, check_rows. -/
namespace K75
open PySem PySem.Spec PyProof.Rows L2
section
variable {P : Program} {w : World} {K : PySem.W.Frag} {mg : Str → Option Value} {base : Heap}
/-- the constants of the machine's rows -/
structure Cst (mg : Str → Option Value) : Prop where
  a : GI mg "ANSWER" 252
  f : GI mg "FLAG" 253
  o : GI mg "OTHER" 254
  b : GI mg "BLANK" 255
  t : GI mg "TURNED" 8
abbrev sLookRows : Stmt := topS 32
theorem scLookRows : FnScope ["place", "wanted", "table", "rows"] ["place", "wanted"] (defScope sLookRows) := ⟨rfl, rfl, rfl, by decide +kernel, rfl, by decide +kernel, by decide +kernel⟩
def spLookRows : Sp := fun vs H Q _ => ∃ (z : Int) (p : Nat) (d : Duty), vs = [.int z, .int (d.ix : Int)] ∧ z = (p : Int) ∧ p < 1000 ∧
  ∀ H' l rs, Same H H' → H' l = some (.lst rs) → Rows H' rs (lookOps p d) → Q (.ref l) H'
theorem ok_look_rows {f : Addr} {fd : FuncData} (F : Fun K "look_rows" "look_rows" sLookRows f fd) (G : Cst mg) : FnOk P w K mg base CX0 1 f fd ["place", "wanted"] spLookRows := by
  refine F.ok scLookRows (fun vs H Q E h => ?_) (fun cdv Ar outer s H vs Q E hr h => ?_)
  · obtain ⟨z, p, d, rfl, _⟩ := h
    rfl
  · obtain ⟨z, p, d, rfl, rfl, hp, q⟩ := h
    refine ⟨_, pss_cons (ps_set (i := 2) scLookRows.nd rfl (.inl rfl) (pe_op op_add (pv 1) (pe_op op_mul pe_int (pe_op op_mod (pv 0) pe_int))))
      (pss_cons (ps_set (i := 3) scLookRows.nd rfl (.inl rfl) (pe_lst
        (pa_cons (pe_tup (pa_cons pe_str (pa_cons (pe_gi G.f) (pa_cons (pe_op op_fdiv (pv 0) pe_int) pa_nil))))
        (pa_cons (pe_tup (pa_cons pe_str (pa_cons (pe_gi G.f) (pa_cons (pv 2) pa_nil))))
        (pa_cons (pe_tup (pa_cons pe_str (pa_cons (pe_gi G.o) (pa_cons (pe_gi G.f) pa_nil))))
        (pa_cons (pe_tup (pa_cons pe_str (pa_cons (pe_gi G.o) (pa_cons (pe_gi G.t) pa_nil)))) pa_nil))))))
      (pss_cons (ps_set (i := 3) scLookRows.nd rfl (.inl rfl) (pe_op op_cat (pv 3) (pe_lst
        (pa_cons (pe_tup (pa_cons pe_str (pa_cons (pe_gi G.a) (pa_cons (pe_gi G.o) pa_nil))))
        (pa_cons (pe_tup (pa_cons pe_str (pa_cons (pe_gi G.b) (pa_cons (pe_op op_add (pv 0) pe_int) pa_nil))))
        (pa_cons (pe_tup (pa_cons pe_str (pa_cons (pe_gi G.b) (pa_cons (pe_gi G.f) pa_nil)))) pa_nil))))))
      (pss_one (ps_ret (pe_op op_cat (pv 3) (pe_lst (pa_cons (pe_tup (pa_cons pe_str (pa_cons (pe_gi G.a) (pa_cons (pe_gi G.b) pa_nil)))) pa_nil))))))), ?_⟩
    have h3 : (3 : Nat) ≤ sizeLine := sz (by decide)
    refine ⟨_, rfl, _, rfl, _, _, rfl, rfl, (by show (0 : Int) < 2; decide), _, _, rfl, rfl, .inl ⟨by decide, by decide⟩, _, _, rfl, rfl, ?_⟩
    refine ⟨_, rfl, _, _, rfl, rfl, ⟨by decide, by decide⟩, h3, fun t1 m1 => ⟨_, rfl, h3, fun t2 m2 => ⟨h3, fun t3 m3 => ⟨h3, fun t4 m4 => ⟨sz (by show 4 ≤ 1000; decide), fun l1 n1 => ?_⟩⟩⟩⟩⟩
    refine ⟨_, rfl, h3, fun t5 m5 => ⟨_, rfl, _, _, rfl, rfl, h3, fun t6 m6 => ⟨h3, fun t7 m7 => ⟨sz (by show 3 ≤ 1000; decide), fun l2 n2 => ?_⟩⟩⟩⟩
    refine ⟨l1, l2, _, _, rfl, rfl, cy n2 (cy m7 (cy m6 (cy m5 upd_same))), upd_same, sz (by show 7 ≤ 1000; decide), fun c1 nc1 => ?_⟩
    refine ⟨_, rfl, h3, fun t8 m8 => ⟨sz (by show 1 ≤ 1000; decide), fun l3 n3 => ?_⟩⟩
    refine ⟨c1, l3, _, _, rfl, rfl, cy n3 (cy m8 upd_same), upd_same, sz (by show 8 ≤ 1000; decide), fun c2 nc2 => ?_⟩
    refine q _ c2 [.ref t1, .ref t2, .ref t3, .ref t4, .ref t5, .ref t6, .ref t7, .ref t8] (fun b x e => cy nc2 (cy n3 (cy m8 (cy nc1 (cy n2 (cy m7 (cy m6 (cy m5 (cy n1 (cy m4 (cy m3 (cy m2 (cy m1 e))))))))))))) upd_same ?_
    refine .cons (cy nc2 (cy n3 (cy m8 (cy nc1 (cy n2 (cy m7 (cy m6 (cy m5 (cy n1 (cy m4 (cy m3 (cy m2 upd_same)))))))))))) (.cons (cy nc2 (cy n3 (cy m8 (cy nc1 (cy n2 (cy m7 (cy m6 (cy m5 (cy n1 (cy m4 (cy m3 upd_same)))))))))))
      (.cons (cy nc2 (cy n3 (cy m8 (cy nc1 (cy n2 (cy m7 (cy m6 (cy m5 (cy n1 (cy m4 upd_same)))))))))) (.cons (cy nc2 (cy n3 (cy m8 (cy nc1 (cy n2 (cy m7 (cy m6 (cy m5 (cy n1 upd_same)))))))))
      (.cons (cy nc2 (cy n3 (cy m8 (cy nc1 (cy n2 (cy m7 (cy m6 upd_same))))))) (.cons (cy nc2 (cy n3 (cy m8 (cy nc1 (cy n2 (cy m7 upd_same)))))) (.cons (cy nc2 (cy n3 (cy m8 (cy nc1 (cy n2 upd_same))))) (.cons (cy nc2 (cy n3 upd_same)) .nil)))))))
/-! ### check_rows -/
abbrev sCheck : Stmt := topS 33
theorem scCheck : FnScope ["form", "looks", "rows", "place"] ["form"] (defScope sCheck) := ⟨rfl, rfl, rfl, by decide +kernel, rfl, by decide +kernel, by decide +kernel⟩
/-- a program of the machine: the nine tables and some rows -/
def ProgAt (H : Hp) (p : Addr) (os : List Op) : Prop := ∃ t r ts rs, H p = some (.tup [.ref t, .ref r]) ∧ H t = some (.tup ts) ∧ Tabs H ts tabs9 ∧ H r = some (.tup rs) ∧ Rows H rs os
theorem ProgAt.mono {H H' : Hp} {p : Addr} {os : List Op} (k : ∀ a xs, H a = some (.tup xs) → H' a = some (.tup xs)) (h : ProgAt H p os) : ProgAt H' p os := by
  obtain ⟨t, r, ts, rs, h1, h2, h3, h4, h5⟩ := h
  exact ⟨t, r, ts, rs, k _ _ h1, k _ _ h2, h3.mono k, k _ _ h4, h5.mono k⟩
theorem ProgAt.same {H H' : Hp} {p : Addr} {os : List Op} (s : Same H H') (h : ProgAt H p os) : ProgAt H' p os := h.mono fun a xs e => s _ _ e
def spCheck : Sp := fun vs H Q _ => ∃ (a : Addr) (k : Kd) (n : Nat) (g : Sg) (pt : Int), vs = [.ref a] ∧ H a = some (.tup (fm k n g pt)) ∧ 1 ≤ n ∧ n ≤ 12 ∧
  ∀ H' p, Same H H' → ProgAt H' p (checkOps (due k n g)) → Q (.ref p) H'
theorem ok_check {f : Addr} {fd : FuncData} (F : Fun K "check_rows" "check_rows" sCheck f fd) (B : Bi mg) (G : Cst mg) (C1 : Cal P w K mg base CX0 1 "half_looks" ["form"] spLooks) (C2 : Cal P w K mg base CX0 1 "look_rows" ["place", "wanted"] spLookRows)
    (C3 : Cal P w K mg base CX0 2 "look_tables" [] spTables) : FnOk P w K mg base CX0 3 f fd ["form"] spCheck := by
  refine F.ok scCheck (fun vs H Q E h => ?_) (fun cdv Ar outer s H vs Q E hr h => ?_)
  · obtain ⟨a, k, n, g, pt, rfl, _⟩ := h
    rfl
  · obtain ⟨a, k, n, g, pt, rfl, hA, h1, h2, q⟩ := h
    have hr1 : Room 1 _ := hr.mono (by decide)
    refine ⟨_, pss_cons (ps_set (i := 1) scCheck.nd rfl (.inl rfl) (pe_cal C1 hr1 pass0 (pa_cons (pv 0) pa_nil)))
      (pss_cons (ps_set (i := 2) scCheck.nd rfl (.inl rfl) (pe_lst (pa_cons (pe_tup (pa_cons pe_str (pa_cons (pe_gi G.a) (pa_cons pe_int pa_nil)))) pa_nil)))
      (pss_cons (ps_for PassesOwn.never rfl (pi_range3 rfl B.range (pa_cons (pe_op op_sub (pe_callB call_len_seq (by rfl) B.len PySem.boot_len (pa_cons (pv 1) pa_nil)) pe_int) (pa_cons (pe_un un_neg pe_int) (pa_cons (pe_un un_neg pe_int) pa_nil)))) (pg_name (i := 3) scCheck.nd rfl (.inl rfl))
        (pss_one (ps_expr (pe_bm PySem.F.plainAttrs_list PySem.F.slot_list_extend PySem.F.type_list_extend mt_extend (pv 2) (pa_cons (pe_cal C2 hr1 pass0 (pa_cons (pv 3) (pa_cons (pe_ix ix_list (pv 1) (pv 3) (fun _ _ => rfl)) pa_nil))) pa_nil)))))
      (pss_one (ps_ret (pe_tup (pa_cons (pe_cal0 C3 hr pass0) (pa_cons (pe_callTy call_tuple_of (by rfl) B.tuple (by decide +kernel) (pa_cons (pe_op op_cat (pv 2) (pe_lst
        (pa_cons (pe_tup (pa_cons pe_str (pa_cons pe_int (pa_cons (pe_gi G.a) pa_nil)))) (pa_cons (pe_tup (pa_cons pe_str (pa_cons pe_int pa_nil))) pa_nil)))) pa_nil)) pa_nil))))))), ?_⟩
    have h3 : (3 : Nat) ≤ sizeLine := sz (by decide)
    refine ⟨_, rfl, a, k, n, g, pt, rfl, hA, h1, h2, fun H1 pl s1 hL => ⟨h3, fun t1 m1 => ⟨sz (by show 1 ≤ 1000; decide), fun l nl => ?_⟩⟩⟩
    have dl := due_len k n g
    have wl := width_le (k := k) (g := g) h2
    have hL2 : upd (upd H1 t1 (.tup [.str "put", .int 252, .int 0])) l (.lst [.ref t1]) pl = some (.lst ((due k n g).map lv)) := cy nl (cy m1 hL)
    have nl' : (upd H1 t1 (.tup [.str "put", .int 252, .int 0])) l = none := nl
    have rg : RgC ((((due k n g).map lv).length : Int) - 1) (-1) (-1) (due k n g).length := by
      have r := RgC.neg (i := (((due k n g).map lv).length : Int) - 1) (j := -1) (by omega) (by rw [List.length_map]; omega) (by decide) (by decide)
      have e : ((((due k n g).map lv).length : Int) - 1 - -1).toNat = (due k n g).length := by rw [List.length_map]; omega
      rw [e] at r
      exact r
    refine ⟨_, rfl, pl, _, rfl, .inl (SqL.of hL2), _, _, rfl, rfl, 1, rfl, 1, rfl, (((due k n g).map lv).length : Int) - 1, -1, -1, (due k n g).length, rfl, rg, for_rangeC (lo := (((due k n g).map lv).length : Int) - 1) (c := -1) (n := (due k n g).length)
      (fun i σ H' => ∃ y rs, σ = [some (.ref a), some (.ref pl), some (.ref l), y] ∧ Same (upd H1 t1 (.tup [.str "put", .int 252, .int 0])) H' ∧ H' l = some (.lst rs) ∧ Rows H' rs (Op.put 252 0 :: bodyOps (due k n g) i))
      ⟨none, _, rfl, same_upd nl, upd_same, .cons (cy nl upd_same) .nil⟩ (fun i σ H' hi hP => ?_) (fun σ H' hP => ?_)⟩
    · obtain ⟨y, rs, rfl, s2, hl2, hR⟩ := hP
      obtain ⟨d, hd⟩ : ∃ d, (due k n g)[(due k n g).length - 1 - i]? = some d := ⟨_, List.getElem?_eq_getElem (by omega)⟩
      have ez : (((due k n g).map lv).length : Int) - 1 + (i : Nat) * -1 = (((due k n g).length - 1 - i : Nat) : Int) := by rw [List.length_map]; omega
      have hlen := hR.len
      rw [List.length_cons, bodyOps_len] at hlen
      refine ⟨_, rfl, .inl ⟨rfl, _, SqL.of hl2⟩, _, rfl, .ref pl, rfl, _, rfl, pl, _, _, lv d, rfl, rfl, SqL.of (s2 _ _ (cy m1 hL)), at_of ez (get_map hd), _, (due k n g).length - 1 - i, d, rfl, ez, by omega, fun H2 l2 rs2 s3 hl3 hR2 => ?_⟩
      have h8 := hR2.len
      rw [lookOps_len] at h8
      refine ⟨l, l2, _, _, rfl, rfl, s3 _ _ hl2, hl3, sz (by omega), some _, rs ++ rs2, rfl, su (fun b x e => s3 _ _ (s2 _ _ e)) nl', upd_same, ?_⟩
      have eg : (due k n g).getD ((due k n g).length - 1 - i) Duty.figure = d := by
        rw [List.getD_eq_getElem?_getD, hd]
        rfl
      rw [bodyOps_succ, eg, ← List.cons_append]
      exact (Rows.app hR2 (hR.mono fun b x e => s3 _ _ e)).mono (tup_up (s3 _ _ hl2))
    · obtain ⟨y, rs, rfl, s2, hl2, hR⟩ := hP
      have hlen := hR.len
      rw [List.length_cons, bodyOps_len] at hlen
      refine ⟨rfl, fun H2 pt2 ts s3 hT hTs => ⟨_, rfl, h3, fun t2 m2 => ⟨sz (by show 2 ≤ 1000; decide), fun t3 m3 => ⟨sz (by show 2 ≤ 1000; decide), fun l3 n3 => ?_⟩⟩⟩⟩
      have hl4 := cy (o := .lst [.ref t2, .ref t3]) n3 (cy m3 (cy m2 (s3 _ _ hl2)))
      refine ⟨l, l3, rs, _, rfl, rfl, hl4, upd_same, sz (by show rs.length + 2 ≤ 1000; omega), fun c nc => ⟨c, _, rfl, .inl ⟨SqL.of upd_same, fun pr npr => ⟨sz (by show 2 ≤ 1000; decide), fun pp npp => ?_⟩⟩⟩⟩
      refine q _ pp (fun b x e => cy npp (cy npr (cy nc (cy n3 (cy m3 (cy m2 (s3 _ _ (s2 _ _ (cy m1 (s1 _ _ e)))))))))) ?_
      have up : ∀ b o, H2 b = some o → _ := fun b o e => cy (o := .tup [.ref pt2, .ref pr]) npp (cy npr (cy nc (cy n3 (cy m3 (cy m2 e)))))
      refine ⟨pt2, pr, ts, rs ++ [.ref t2, .ref t3], upd_same, up _ _ hT, hTs.mono fun b x e => up _ _ e, cy npp upd_same, ?_⟩
      unfold checkOps
      exact Rows.app (.cons (cy npp (cy npr (cy nc (cy n3 (cy m3 upd_same))))) (.cons (cy npp (cy npr (cy nc (cy n3 upd_same)))) .nil)) (hR.mono fun b x e => up _ _ (s3 _ _ e))
end
end K75

/-! The law's draws: _law_cell, _law_mixed, _law_draws, _law_form, _law_ends, _law_number. -/
namespace K75
open PySem PySem.Spec PyProof.Rows L2
theorem ten_pos (n : Nat) : (0 : Int) < 10 ^ n := by
  induction n with
  | zero => decide
  | succ n ih =>
    rw [Int.pow_succ]
    omega
theorem ten_ge {n : Nat} (h : 1 ≤ n) : (10 : Int) ≤ 10 ^ n := by
  obtain ⟨m, rfl⟩ : ∃ m, n = m + 1 := ⟨n - 1, by omega⟩
  have := ten_pos m
  rw [Int.pow_succ]
  omega
section
variable {P : Program} {w : World} {K : PySem.W.Frag} {mg : Str → Option Value} {base : Heap}
/-! ### _law_cell -/
abbrev sCell : Stmt := topS 35
theorem scCell : FnScope ["_law_script", "_law_k"] ["_law_script", "_law_k"] (defScope sCell) := ⟨rfl, rfl, rfl, by decide +kernel, rfl, by decide +kernel, by decide +kernel⟩
def spCell (K : PySem.W.Frag) : Sp := fun vs H Q _ => ∃ (a : Addr) (ns : List Int) (z : Int) (k : Nat), vs = [.ref a, .int z] ∧ z = (k : Int) ∧ SqL K H a (ns.map V.int) ∧ ∀ v, Q (.int v) H
theorem ok_cell {f : Addr} {fd : FuncData} (F : Fun K "_law_cell" "_law_cell" sCell f fd) (B : Bi mg) : FnOk P w K mg base CX0 1 f fd ["_law_script", "_law_k"] (spCell K) := by
  refine F.ok scCell (fun vs H Q E h => ?_) (fun cdv Ar outer s H vs Q E hr h => ?_)
  · obtain ⟨a, ns, z, k, rfl, _⟩ := h
    rfl
  · obtain ⟨a, ns, z, k, rfl, rfl, hS, q⟩ := h
    refine ⟨_, pss_cons (ps_if (pt_cmpR op_lt (pv 1) (pe_callB call_len_seq (by rfl) B.len PySem.boot_len (pa_cons (pv 0) pa_nil)) (nomark _)) (pss_one (ps_ret (pe_ix ix_list (pv 0) (pv 1) (fun _ _ => rfl)))) pss_nil)
      (pss_cons (ps_if (pt_cmpR op_eq (pe_callB call_len_seq (by rfl) B.len PySem.boot_len (pa_cons (pv 0) pa_nil)) pe_int (nomark _)) (pss_one (ps_ret (pe_op op_mul pe_int (pe_op op_add (pv 1) pe_int)))) pss_nil)
      (pss_one (ps_ret (pe_op op_add (pe_ix ix_list (pv 0) (pe_op op_mod (pv 1) (pe_callB call_len_seq (by rfl) B.len PySem.boot_len (pa_cons (pv 0) pa_nil))) (fun _ _ => rfl)) (pe_op op_mul pe_int (pv 1)))))), ?_⟩
    refine ⟨_, rfl, _, rfl, a, _, rfl, .inl hS, _, _, rfl, rfl, _, rfl, ?_⟩
    by_cases c : (k : Int) < ((ns.map V.int).length : Int)
    · refine ifT (decide_eq_true c) ?_
      rw [List.length_map] at c
      obtain ⟨x, hx⟩ : ∃ x, ns[k]? = some x := ⟨_, List.getElem?_eq_getElem (by omega)⟩
      exact ⟨_, rfl, _, rfl, a, _, _, .int x, rfl, rfl, hS, atI_nat (get_map hx), q x⟩
    · refine ifF (decide_eq_false c) ?_
      refine ⟨_, rfl, a, _, rfl, .inl hS, rfl, _, rfl, ?_⟩
      by_cases c0 : ns.length = 0
      · refine ifT (decide_eq_true (by rw [List.length_map, c0]; rfl)) ?_
        exact ⟨_, rfl, _, _, rfl, rfl, _, _, rfl, rfl, .inl ⟨by decide, by decide⟩, q _⟩
      · refine ifF (decide_eq_false fun z => c0 ?_) ?_
        · have z' := V.int.inj z
          rw [List.length_map] at z'
          omega
        have hm : k % ns.length < ns.length := Nat.mod_lt _ (by omega)
        obtain ⟨x, hx⟩ : ∃ x, ns[k % ns.length]? = some x := ⟨_, List.getElem?_eq_getElem hm⟩
        refine ⟨_, rfl, _, rfl, _, rfl, a, _, rfl, .inl hS, _, _, rfl, rfl, ?_, a, _, _, .int x, rfl, rfl, hS, at_of (j := k % ns.length) ?_ (get_map hx), _, rfl, _, _, rfl, rfl, .inl ⟨by decide, by decide⟩, _, _, rfl, rfl, q _⟩
        · show (0 : Int) < ((ns.map V.int).length : Int)
          rw [List.length_map]
          omega
        · rw [List.length_map]
          rfl
/-! ### _law_mixed -/
abbrev sMixed : Stmt := topS 36
theorem scMixed : FnScope ["_law_cell_here", "_law_k", "_law_salt", "_law_primes", "_law_one", "_law_two"] ["_law_cell_here", "_law_k", "_law_salt"] (defScope sMixed) := ⟨rfl, rfl, rfl, by decide +kernel, rfl, by decide +kernel, by decide +kernel⟩
def spMixed : Sp := fun vs H Q _ => ∃ (c z s : Int) (k : Nat), vs = [.int c, .int z, .int s] ∧ z = (k : Int) ∧ ∀ H' v, Same H H' → Q (.int v) H'
def primesL : List Int := [2147483629, 2147483587, 2147483579, 2147483563, 2147483549, 2147483543, 2147483497, 2147483489]
theorem ok_mixed {f : Addr} {fd : FuncData} (F : Fun K "_law_mixed" "_law_mixed" sMixed f fd) : FnOk P w K mg base CX0 1 f fd ["_law_cell_here", "_law_k", "_law_salt"] spMixed := by
  refine F.ok scMixed (fun vs H Q E h => ?_) (fun cdv Ar outer s H vs Q E hr h => ?_)
  · obtain ⟨c, z, s, k, rfl, _⟩ := h
    rfl
  · obtain ⟨c, z, s, k, rfl, rfl, q⟩ := h
    refine ⟨_, pss_cons (ps_set (i := 3) scMixed.nd rfl (.inl rfl) (pe_lst (pa_cons pe_int (pa_cons pe_int (pa_cons pe_int (pa_cons pe_int (pa_cons pe_int (pa_cons pe_int (pa_cons pe_int (pa_cons pe_int pa_nil))))))))))
      (pss_cons (ps_set (i := 4) scMixed.nd rfl (.inl rfl) (pe_op op_mod (pe_op op_add (pe_op op_add (pe_op op_add (pv 0) (pe_op op_mul pe_int (pv 2))) (pe_op op_mul pe_int (pv 1))) pe_int) pe_int))
      (pss_cons (ps_set (i := 4) scMixed.nd rfl (.inl rfl) (pe_op op_mod (pe_op op_pow (pv 4) pe_int) (pe_ix ix_list (pv 3) (pe_op op_mod (pv 1) pe_int) (fun _ _ => rfl))))
      (pss_cons (ps_set (i := 5) scMixed.nd rfl (.inl rfl) (pe_op op_mod (pe_op op_add (pe_op op_add (pv 4) (pe_op op_mul pe_int (pv 2))) (pv 1)) pe_int))
      (pss_one (ps_ret (pe_op op_add (pe_op op_mul (pe_op op_mod (pe_op op_pow (pv 5) pe_int) pe_int) pe_int) (pv 4))))))), ?_⟩
    have pz : (0 : Int) < 2147483647 := by decide
    have small : ∀ x : Int, (x % 2147483647).natAbs < 2 ^ 64 := fun x => by omega
    refine ⟨sz (by show 8 ≤ 1000; decide), fun lp np => ?_⟩
    refine ⟨_, rfl, _, rfl, _, _, rfl, rfl, .inl ⟨by decide, by decide⟩, _, _, rfl, rfl, _, rfl, _, _, rfl, rfl, .inl ⟨by decide, by decide⟩, _, _, rfl, rfl, _, _, rfl, rfl, _, _, rfl, rfl, pz, ?_⟩
    obtain ⟨x, hx⟩ : ∃ x, primesL[k % 8]? = some x := ⟨_, List.getElem?_eq_getElem (Nat.mod_lt _ (by decide))⟩
    have px : 0 < x := (by decide : ∀ y ∈ primesL, 0 < y) x (List.mem_of_getElem? hx)
    refine ⟨_, rfl, _, _, rfl, rfl, ⟨by decide, by decide, small _⟩, .ref lp, rfl, _, rfl, _, _, rfl, rfl, (by show (0 : Int) < 8; decide), lp, primesL.map V.int, _, .int x, rfl, rfl, SqL.of upd_same, at_of (j := k % 8) rfl (get_map hx), _, _, rfl, rfl, px, ?_⟩
    refine ⟨_, rfl, _, rfl, _, _, rfl, rfl, .inl ⟨by decide, by decide⟩, _, _, rfl, rfl, _, rfl, _, _, rfl, rfl, _, _, rfl, rfl, pz, ?_⟩
    exact ⟨_, rfl, _, _, rfl, rfl, ⟨by decide, by decide, small _⟩, _, _, rfl, rfl, pz, _, _, rfl, rfl, .inr ⟨by decide, by decide⟩, _, rfl, _, _, rfl, rfl, q _ _ (same_upd np)⟩
/-! ### _law_draws -/
abbrev sDraws : Stmt := topS 37
theorem scDraws : FnScope ["_law_cell_here", "_law_salt", "_law_widths", "_law_found", "_law_left", "_law_k"] ["_law_cell_here", "_law_salt", "_law_widths"] (defScope sDraws) := ⟨rfl, rfl, rfl, by decide +kernel, rfl, by decide +kernel, by decide +kernel⟩
/-- each draw is below its width -/
def Below (ds ws : List Int) : Prop := ∀ (i : Nat) (d x : Int), ds[i]? = some d → ws[i]? = some x → 0 ≤ d ∧ d < x
def spDraws : Sp := fun vs H Q _ => ∃ (c s : Int) (a : Addr) (ws : List Int), vs = [.int c, .int s, .ref a] ∧ H a = some (.lst (ws.map V.int)) ∧ (∀ x ∈ ws, 0 < x ∧ x ≤ 10 ^ 15) ∧ ws.length ≤ 100 ∧
  ∀ H' p ds, Same H H' → H' p = some (.lst (ds.map V.int)) → ds.length = ws.length → Below ds ws → Q (.ref p) H'
theorem below_snoc {ds ws : List Int} {d x : Int} (h : Below ds ws) (hx : ws[ds.length]? = some x) (h0 : 0 ≤ d) (h1 : d < x) : Below (ds ++ [d]) ws := fun i e y q1 q2 => by
  by_cases hi : i < ds.length
  · rw [List.getElem?_append_left hi] at q1
    exact h i e y q1 q2
  · have hl := (List.getElem?_eq_some_iff.mp q1).1
    rw [List.length_append, List.length_singleton] at hl
    have ei : i = ds.length := by omega
    rw [ei] at q1 q2
    rw [List.getElem?_append_right (Nat.le_refl _), Nat.sub_self] at q1
    have e1 : d = e := Option.some.inj q1
    have e2 : x = y := Option.some.inj (hx.symm.trans q2)
    rw [← e1, ← e2]
    exact ⟨h0, h1⟩
theorem ok_draws {f : Addr} {fd : FuncData} (F : Fun K "_law_draws" "_law_draws" sDraws f fd) (B : Bi mg) (C1 : Cal P w K mg base CX0 1 "_law_mixed" ["_law_cell_here", "_law_k", "_law_salt"] spMixed) : FnOk P w K mg base CX0 2 f fd ["_law_cell_here", "_law_salt", "_law_widths"] spDraws := by
  refine F.ok scDraws (fun vs H Q E h => ?_) (fun cdv Ar outer s H vs Q E hr h => ?_)
  · obtain ⟨c, s, a, ws, rfl, _⟩ := h
    rfl
  · obtain ⟨c, sl, a, ws, rfl, hA, hw, hwl, q⟩ := h
    refine ⟨_, pss_cons (ps_set (i := 3) scDraws.nd rfl (.inl rfl) (pe_lst pa_nil))
      (pss_cons (ps_set (i := 4) scDraws.nd rfl (.inl rfl) pe_int)
      (pss_cons (ps_if (pt_cmpR op_ge (pe_callB call_abs (by rfl) B.abs (by decide +kernel) (pa_cons (pv 0) pa_nil)) (pe_op op_pow pe_int pe_int) (nomark _)) (pss_one (ps_set (i := 4) scDraws.nd rfl (.inl rfl) (pe_callB call_abs (by rfl) B.abs (by decide +kernel) (pa_cons (pv 0) pa_nil)))) pss_nil)
      (pss_cons (ps_for PassesOwn.never rfl (pi_range1 rfl B.range (pa_cons (pe_callB call_len_seq (by rfl) B.len PySem.boot_len (pa_cons (pv 2) pa_nil)) pa_nil)) (pg_name (i := 5) scDraws.nd rfl (.inl rfl))
        (pss_one (ps_if (pt_cmpR op_gt (pv 4) pe_int (nomark _))
          (pss_cons (ps_expr (pe_bm PySem.F.plainAttrs_list PySem.F.slot_list_append PySem.F.type_list_append mt_append (pv 3) (pa_cons (pe_op op_mod (pv 4) (pe_ix ix_list (pv 2) (pv 5) (fun _ _ => rfl))) pa_nil)))
            (pss_one (ps_set (i := 4) scDraws.nd rfl (.inl rfl) (pe_op op_fdivW (pv 4) (pe_ix ix_list (pv 2) (pv 5) (fun _ _ => rfl))))))
          (pss_one (ps_expr (pe_bm PySem.F.plainAttrs_list PySem.F.slot_list_append PySem.F.type_list_append mt_append (pv 3) (pa_cons (pe_op op_mod (pe_cal C1 hr pass0 (pa_cons (pv 0) (pa_cons (pv 5) (pa_cons (pv 1) pa_nil)))) (pe_ix ix_list (pv 2) (pv 5) (fun _ _ => rfl))) pa_nil)))))))
      (pss_one (ps_ret (pv 3)))))), ?_⟩
    refine ⟨Nat.zero_le _, fun l nl => ?_⟩
    -- the loop, from any left
    have loop : ∀ lf : Int, tFor (iRng1 (tCons (tCB (fun xs H Q => ∃ p ys, xs = [.ref p] ∧ (SqL K H p ys ∨ SqT K H p ys) ∧ Q (.int ys.length) H) (tCons (tVar 2) tNil)) tNil)) (gName 5)
        (tIfS (tTest (tOp (rI0 fun i j => .bl (decide (j < i))) (tVar 4) (tC (.int 0))))
          (tSeq (tDrop (tBM K "list" rAppend (tVar 3) (tCons (tOp (rI (fun _ j => 0 < j) fun i j => .int (i % j)) (tVar 4) (tOp (rIxL K) (tVar 2) (tVar 5))) tNil)))
            (tAsg (tOp (rI CDivW fun i j => .int (i / j)) (tVar 4) (tOp (rIxL K) (tVar 2) (tVar 5))) (gName 4)))
          (tDrop (tBM K "list" rAppend (tVar 3) (tCons (tOp (rI (fun _ j => 0 < j) fun i j => .int (i % j)) (tCall spMixed [] E0 (tCons (tVar 0) (tCons (tVar 5) (tCons (tVar 1) tNil)))) (tOp (rIxL K) (tVar 2) (tVar 5))) tNil))))
        { nx := tRet (tVar 3) { nx := fun _ H' => Q .non H', rt := Q }, rt := Q } [some (.int c), some (.int sl), some (.ref a), some (.ref l), some (.int lf), none] (upd H l (.lst [])) := fun lf => by
      refine ⟨_, rfl, a, _, rfl, .inl (SqL.of (cy nl hA)), (((ws.map V.int).length : Nat) : Int), rfl, by omega, by rw [List.length_map]; omega, for_range (n := (ws.map V.int).length)
        (fun i σ H' => ∃ lf y ds, σ = [some (.int c), some (.int sl), some (.ref a), some (.ref l), some (.int lf), y] ∧ Same H H' ∧ H' l = some (.lst (ds.map V.int)) ∧ ds.length = i ∧ Below ds ws)
        ⟨lf, none, [], rfl, same_upd nl, upd_same, rfl, fun i d x q => by simp at q⟩ (fun i σ H' hi hP => ?_) (fun σ H' hP => ?_)⟩
      · obtain ⟨lf, y, ds, rfl, s1, hl, hd, hb⟩ := hP
        rw [List.length_map] at hi
        obtain ⟨x, hx⟩ : ∃ x, ws[i]? = some x := ⟨_, List.getElem?_eq_getElem hi⟩
        obtain ⟨x0, x1⟩ := hw x (List.mem_of_getElem? hx)
        have hx' : ws[ds.length]? = some x := by rw [hd]; exact hx
        have hS := SqL.of (K := K) (s1 _ _ hA)
        have ai : atI (ws.map V.int) (0 + (i : Int)) = some (V.int x) := at_of (j := i) (by omega) (get_map hx)
        have lz : (ds.map V.int).length ≤ 1000 := by rw [List.length_map]; omega
        refine ⟨_, rfl, _, _, rfl, rfl, _, rfl, ?_⟩
        by_cases c0 : 0 < lf
        · refine ifT (decide_eq_true c0) ?_
          refine ⟨_, rfl, .inl ⟨rfl, _, SqL.of hl⟩, _, rfl, _, rfl, _, rfl, a, _, _, .int x, rfl, rfl, hS, ai, _, _, rfl, rfl, x0, l, _, _, rfl, rfl, hl, small1000 lz, ?_⟩
          have s2 : Same H (upd H' l (.lst (ds.map V.int ++ [.int (lf % x)]))) := su s1 nl
          refine ⟨_, rfl, _, rfl, _, rfl, a, _, _, .int x, rfl, rfl, SqL.of (s2 _ _ hA), ai, _, _, rfl, rfl, wide_div (b := 60) x0 ?_ (by decide) (by decide), lf / x, some (.int (0 + (i : Int))), ds ++ [lf % x], rfl, s2, ?_, ?_, below_snoc hb hx' (Int.emod_nonneg _ (by omega)) (Int.emod_lt_of_pos _ x0)⟩
          · omega
          · rw [upd_same, List.map_append]
            rfl
          · rw [List.length_append, hd]
            rfl
        · refine ifF (decide_eq_false c0) ?_
          refine ⟨_, rfl, .inl ⟨rfl, _, SqL.of hl⟩, _, rfl, _, rfl, _, rfl, c, 0 + (i : Int), sl, i, rfl, by omega, fun H2 v s2 => ⟨_, rfl, _, rfl, a, _, _, .int x, rfl, rfl, SqL.of (s2 _ _ (s1 _ _ hA)), ai, _, _, rfl, rfl, x0, ?_⟩⟩
          refine ⟨l, _, _, rfl, rfl, s2 _ _ hl, small1000 lz, lf, some (.int (0 + (i : Int))), ds ++ [v % x], rfl, su (fun b y e => s2 _ _ (s1 _ _ e)) nl, ?_, ?_, below_snoc hb hx' (Int.emod_nonneg _ (by omega)) (Int.emod_lt_of_pos _ x0)⟩
          · rw [upd_same, List.map_append]
            rfl
          · rw [List.length_append, hd]
            rfl
      · obtain ⟨lf, y, ds, rfl, s1, hl, hd, hb⟩ := hP
        rw [List.length_map] at hd
        exact ⟨_, rfl, q _ l ds s1 hl hd hb⟩
    refine ⟨_, rfl, _, rfl, _, _, rfl, rfl, ⟨by decide, by decide, by decide⟩, _, _, rfl, rfl, _, rfl, ite2 (fun _ => ?_) (fun _ => ?_)⟩
    · exact ⟨_, rfl, _, rfl, loop _⟩
    · exact loop _
/-! ### _law_form -/
abbrev sForm : Stmt := topS 39
theorem scForm : FnScope ["_law_kind", "_law_many", "_law_sign", "_law_point"] ["_law_kind", "_law_many", "_law_sign"] (defScope sForm) := ⟨rfl, rfl, rfl, by decide +kernel, rfl, by decide +kernel, by decide +kernel⟩
def Kd.i : Kd → Nat
  | .pk => 0
  | .sp => 1
def Sg.i : Sg → Nat
  | .no => 0
  | .en => 1
  | .te => 2
def spForm : Sp := fun vs H Q _ => ∃ (k : Kd) (m : Nat) (g : Sg), vs = [.int (k.i : Int), .int (m : Int), .int (g.i : Int)] ∧ ∀ H' p pt, Same H H' → H' p = some (.tup (fm k (m + 1) g pt)) → Q (.ref p) H'
theorem ok_form {f : Addr} {fd : FuncData} (F : Fun K "_law_form" "_law_form" sForm f fd) : FnOk P w K mg base CX0 1 f fd ["_law_kind", "_law_many", "_law_sign"] spForm := by
  refine F.ok scForm (fun vs H Q E h => ?_) (fun cdv Ar outer s H vs Q E hr h => ?_)
  · obtain ⟨k, m, g, rfl, _⟩ := h
    rfl
  · obtain ⟨k, m, g, rfl, q⟩ := h
    refine ⟨_, pss_cons (ps_set (i := 3) scForm.nd rfl (.inl rfl) (pe_op op_mod (pe_op op_add (pe_op op_add (pe_op op_mul pe_int (pv 1)) (pe_op op_mul pe_int (pv 0))) (pv 2)) (pe_op op_add (pv 1) pe_int)))
      (pss_one (ps_ret (pe_tup (pa_cons (pe_ix ix_list (pe_lst (pa_cons pe_str (pa_cons pe_str pa_nil))) (pv 0) (fun _ _ => rfl)) (pa_cons (pe_op op_add pe_int (pv 1))
        (pa_cons (pe_ix ix_list (pe_lst (pa_cons pe_str (pa_cons pe_str (pa_cons pe_str pa_nil)))) (pv 2) (fun _ _ => rfl)) (pa_cons (pv 3) pa_nil)))))))
    , ?_⟩
    refine ⟨_, rfl, _, _, rfl, rfl, .inl ⟨by decide, by decide⟩, _, rfl, _, _, rfl, rfl, .inl ⟨by decide, by decide⟩, _, _, rfl, rfl, _, rfl, _, _, rfl, rfl, _, rfl, _, _, rfl, rfl, _, _, rfl, rfl, (by show (0 : Int) < (m : Int) + 2; omega), ?_⟩
    refine ⟨sz (by show 2 ≤ 1000; decide), fun l1 n1 => ⟨_, rfl, l1, _, _, .str k.s, rfl, rfl, SqL.of upd_same, atI_nat (j := k.i) (by cases k <;> rfl), _, rfl, _, _, rfl, rfl, sz (by show 3 ≤ 1000; decide), fun l2 n2 => ⟨_, rfl, l2, _, _, .str g.s, rfl, rfl, SqL.of upd_same, atI_nat (j := g.i) (by cases g <;> rfl), _, rfl, sz (by show 4 ≤ 1000; decide), fun p np => ?_⟩⟩⟩
    refine q _ p ((7 * (m : Int) + 3 * (k.i : Int) + (g.i : Int)) % ((m : Int) + 2)) (fun b x e => cy np (cy n2 (cy n1 e))) (Eq.trans upd_same ?_)
    have e : (1 : Int) + (m : Int) = ((m + 1 : Nat) : Int) := by omega
    show some (HO.tup [.str k.s, .int (1 + (m : Int)), .str g.s, _]) = _
    rw [e]
    rfl
/-! ### _law_ends -/
abbrev sEnds : Stmt := topS 40
theorem scEnds : FnScope ["_law_form_here", "_law_ten"] ["_law_form_here"] (defScope sEnds) := ⟨rfl, rfl, rfl, by decide +kernel, rfl, by decide +kernel, by decide +kernel⟩
def spEnds : Sp := fun vs H Q _ => ∃ (a : Addr) (k : Kd) (n : Nat) (g : Sg) (pt : Int), vs = [.ref a] ∧ H a = some (.tup (fm k n g pt)) ∧ 1 ≤ n ∧ n ≤ 12 ∧
  ∀ H' p lo hi, Same H H' → H' p = some (.tup [.int lo, .int hi]) → lo ≤ hi → Q (.ref p) H'
theorem ok_ends {f : Addr} {fd : FuncData} (F : Fun K "_law_ends" "_law_ends" sEnds f fd) (C1 : Cal P w K mg base CX0 1 "_law_power" ["_law_base", "_law_many"] spPower) : FnOk P w K mg base CX0 2 f fd ["_law_form_here"] spEnds := by
  refine F.ok scEnds (fun vs H Q E h => ?_) (fun cdv Ar outer s H vs Q E hr h => ?_)
  · obtain ⟨a, k, n, g, pt, rfl, _⟩ := h
    rfl
  · obtain ⟨a, k, n, g, pt, rfl, hA, h1, h2, q⟩ := h
    refine ⟨_, pss_cons (ps_set (i := 1) scEnds.nd rfl (.inl rfl) (pe_cal C1 hr pass0 (pa_cons pe_int (pa_cons (pe_ix ix_tup (pv 0) pe_int (fun _ _ => rfl)) pa_nil))))
      (pss_cons (ps_if (pt_cmpR op_eq (pe_ix ix_tup (pv 0) pe_int (fun _ _ => rfl)) pe_str (nomark _)) (pss_one (ps_ret (pe_tup (pa_cons pe_int (pa_cons (pe_op op_sub (pv 1) pe_int) pa_nil))))) pss_nil)
      (pss_cons (ps_if (pt_cmpR op_eq (pe_ix ix_tup (pv 0) pe_int (fun _ _ => rfl)) pe_str (nomark _)) (pss_one (ps_ret (pe_tup (pa_cons (pe_op op_sub pe_int (pv 1)) (pa_cons (pe_op op_sub (pv 1) pe_int) pa_nil))))) pss_nil)
      (pss_one (ps_ret (pe_tup (pa_cons (pe_op op_sub pe_int (pe_op op_fdiv (pv 1) pe_int)) (pa_cons (pe_op op_sub (pe_op op_fdiv (pv 1) pe_int) pe_int) pa_nil))))))), ?_⟩
    have tg := ten_ge h1
    have h2' : (2 : Nat) ≤ sizeLine := sz (by decide)
    refine ⟨_, rfl, a, _, 1, .int (n : Int), rfl, rfl, SqT.of hA, atI_nat (j := 1) rfl, n, rfl, by omega, ?_⟩
    refine ⟨_, rfl, a, _, 2, .str g.s, rfl, rfl, SqT.of hA, atI_nat (j := 2) rfl, rfl, _, rfl, ite2 (fun _ => ?_) (fun _ => ?_)⟩
    · exact ⟨_, rfl, _, _, rfl, rfl, h2', fun p np => q _ p _ _ (same_upd np) upd_same (by show (0 : Int) ≤ 10 ^ n - 1; omega)⟩
    · refine ⟨_, rfl, a, _, 2, .str g.s, rfl, rfl, SqT.of hA, atI_nat (j := 2) rfl, rfl, _, rfl, ite2 (fun _ => ?_) (fun _ => ?_)⟩
      · exact ⟨_, rfl, _, _, rfl, rfl, _, rfl, _, _, rfl, rfl, h2', fun p np => q _ p _ _ (same_upd np) upd_same (by show 1 - (10 : Int) ^ n ≤ 10 ^ n - 1; omega)⟩
      · exact ⟨_, rfl, _, _, rfl, rfl, ⟨by decide, by decide⟩, _, _, rfl, rfl, _, rfl, _, _, rfl, rfl, ⟨by decide, by decide⟩, _, _, rfl, rfl, h2', fun p np => q _ p _ _ (same_upd np) upd_same (by show 0 - (10 : Int) ^ n / 2 ≤ 10 ^ n / 2 - 1; omega)⟩
/-! ### _law_number -/
abbrev sNumber : Stmt := topS 45
theorem scNumber : FnScope ["_law_form_here", "_law_way", "_law_far", "_law_low", "_law_high", "_law_size", "_law_some", "_law_number_here"] ["_law_form_here", "_law_way", "_law_far"] (defScope sNumber) := ⟨rfl, rfl, rfl, by decide +kernel, rfl, by decide +kernel, by decide +kernel⟩
def spNumber : Sp := fun vs H Q _ => ∃ (a : Addr) (k : Kd) (n : Nat) (g : Sg) (pt : Int) (way far : Nat), vs = [.ref a, .int (way : Int), .int (far : Int)] ∧ H a = some (.tup (fm k n g pt)) ∧ 1 ≤ n ∧ n ≤ 12 ∧ ∀ H' v, Same H H' → Q (.int v) H'
theorem ok_number {f : Addr} {fd : FuncData} (F : Fun K "_law_number" "_law_number" sNumber f fd) (B : Bi mg) (C1 : Cal P w K mg base CX0 2 "_law_ends" ["_law_form_here"] spEnds) (C2 : Cal P w K mg base CX0 1 "_law_power" ["_law_base", "_law_many"] spPower) : FnOk P w K mg base CX0 3 f fd ["_law_form_here", "_law_way", "_law_far"] spNumber := by
  refine F.ok scNumber (fun vs H Q E h => ?_) (fun cdv Ar outer s H vs Q E hr h => ?_)
  · obtain ⟨a, k, n, g, pt, way, far, rfl, _⟩ := h
    rfl
  · obtain ⟨a, k, n, g, pt, way, far, rfl, hA, h1, h2, q⟩ := h
    have hr1 : Room 1 _ := hr.mono (by decide)
    refine ⟨_, pss_cons (ps_asg (pe_cal C1 hr pass0 (pa_cons (pv 0) pa_nil)) (pg_tup rfl (pgs_cons (pg_name (i := 3) scNumber.nd rfl (.inl rfl)) (pgs_cons (pg_name (i := 4) scNumber.nd rfl (.inl rfl)) pgs_nil))))
      (pss_cons (ps_if (pt_cmpR op_gt (pv 1) pe_int (nomark _)) (pss_one (ps_ret (pe_op op_add (pv 3) (pe_op op_mod (pv 2) (pe_op op_add (pe_op op_sub (pv 4) (pv 3)) pe_int))))) pss_nil)
      (pss_cons (ps_set (i := 5) scNumber.nd rfl (.inl rfl) (pe_cal C2 hr1 pass0 (pa_cons pe_int (pa_cons (pe_op op_mod (pv 2) (pe_ix ix_tup (pv 0) pe_int (fun _ _ => rfl))) pa_nil))))
      (pss_cons (ps_set (i := 6) scNumber.nd rfl (.inl rfl) (pe_lst (pa_cons pe_int (pa_cons pe_int (pa_cons (pv 4) (pa_cons (pv 3) (pa_cons (pv 5) (pa_cons (pe_op op_sub (pv 5) pe_int) (pa_cons (pe_op op_mul pe_int (pv 5)) (pa_cons (pe_op op_mul pe_int (pv 5)) (pa_cons (pe_op op_add (pv 5) pe_int) pa_nil)))))))))))
      (pss_cons (ps_expr (pe_bm PySem.F.plainAttrs_list PySem.F.slot_list_append PySem.F.type_list_append mt_append (pv 6) (pa_cons (pe_op op_mod (pe_op op_fdiv (pv 2) pe_int) (pe_op op_mul pe_int (pv 5))) pa_nil)))
      (pss_cons (ps_set (i := 7) scNumber.nd rfl (.inl rfl) (pe_ix ix_list (pv 6) (pv 1) (fun _ _ => rfl)))
      (pss_cons (ps_if (PW.pt (pw_and (pt_cmpR op_lt (pv 3) pe_int (nomark _)) (pw_and1 (pt_cmpR op_eq (pe_op op_mod (pe_op op_fdiv (pv 2) pe_int) pe_int) pe_int (nomark _)))))
          (pss_one (ps_set (i := 7) scNumber.nd rfl (.inl rfl) (pe_op op_sub pe_int (pv 7)))) pss_nil)
      (pss_one (ps_ret (pe_callB (call_max2 rfl) (by rfl) B.max (by decide +kernel) (pa_cons (pv 3) (pa_cons (pe_callB (call_min2 rfl) (by rfl) B.min (by decide +kernel) (pa_cons (pv 4) (pa_cons (pv 7) pa_nil))) pa_nil))))))))))), ?_⟩
    refine ⟨_, rfl, a, k, n, g, pt, rfl, hA, h1, h2, fun H1 p lo hi s1 hp hle => ?_⟩
    refine ⟨p, _, rfl, SqT.of hp, rfl, _, _, rfl, _, _, rfl, rfl, ?_⟩
    refine ⟨_, rfl, _, _, rfl, rfl, _, rfl, ?_⟩
    by_cases c : (9 : Int) < (way : Int)
    · refine ifT (decide_eq_true c) ?_
      exact ⟨_, rfl, _, rfl, _, rfl, _, rfl, _, _, rfl, rfl, _, _, rfl, rfl, _, _, rfl, rfl, (by show 0 < hi - lo + 1; omega), _, _, rfl, rfl, q _ _ s1⟩
    · refine ifF (decide_eq_false c) ?_
      have tp := ten_pos (far % n)
      have fn : far % n < n := Nat.mod_lt _ (by omega)
      refine ⟨_, rfl, _, rfl, a, _, 1, .int (n : Int), rfl, rfl, SqT.of (s1 _ _ hA), atI_nat (j := 1) rfl, _, _, rfl, rfl, (by show (0 : Int) < (n : Int); omega), far % n, rfl, by omega, ?_⟩
      refine ⟨_, rfl, _, rfl, _, rfl, _, rfl, _, _, rfl, rfl, _, rfl, _, _, rfl, rfl, .inl ⟨by decide, by decide⟩, _, rfl, _, _, rfl, rfl, .inl ⟨by decide, by decide⟩, _, rfl, _, _, rfl, rfl, sz (by show 9 ≤ 1000; decide), fun l nl => ?_⟩
      refine ⟨_, rfl, .inl ⟨rfl, _, SqL.of upd_same⟩, _, rfl, _, _, rfl, rfl, ⟨by decide, by decide⟩, _, rfl, _, _, rfl, rfl, .inl ⟨by decide, by decide⟩, _, _, rfl, rfl, (by show (0 : Int) < 10 * 10 ^ (far % n); omega), l, _, _, rfl, rfl, upd_same, small1000 (by show 9 ≤ 1000; decide), ?_⟩
      rw [upd_upd]
      -- some[way], and what follows
      have tail : ∀ v : Int, tRet (tCB (fun xs H Q => ∃ i j, xs = [.int i, .int j] ∧ Q (.int (if j > i then j else i)) H) (tCons (tVar 3) (tCons (tCB (fun xs H Q => ∃ i j, xs = [.int i, .int j] ∧ Q (.int (if j < i then j else i)) H) (tCons (tVar 4) (tCons (tVar 7) tNil))) tNil)))
          { nx := fun _ H' => Q .non H', rt := Q } [some (.ref a), some (.int (way : Int)), some (.int (far : Int)), some (.int lo), some (.int hi), some (.int (10 ^ (far % n))), some (.ref l), some (.int v)]
          (upd H1 l (.lst [.int 0, .int 1, .int hi, .int lo, .int (10 ^ (far % n)), .int (10 ^ (far % n) - 1), .int (5 * 10 ^ (far % n)), .int (9 * 10 ^ (far % n)), .int (10 ^ (far % n) + 1), .int ((far : Int) / 16 % (10 * 10 ^ (far % n)))])) := fun v => by
        exact ⟨_, rfl, _, rfl, _, rfl, _, _, rfl, _, _, rfl, q _ _ (fun b x e => cy nl (s1 _ _ e))⟩
      obtain ⟨v, hv⟩ : ∃ v, ([0, 1, hi, lo, 10 ^ (far % n), 10 ^ (far % n) - 1, 5 * 10 ^ (far % n), 9 * 10 ^ (far % n), 10 ^ (far % n) + 1, (far : Int) / 16 % (10 * 10 ^ (far % n))] : List Int)[way]? = some v := ⟨_, List.getElem?_eq_getElem (by show way < 10; omega)⟩
      refine ⟨_, rfl, _, rfl, l, _, _, .int v, rfl, rfl, SqL.of upd_same, atI_nat (get_map (f := V.int) hv), ?_⟩
      refine ⟨_, rfl, _, _, rfl, rfl, _, rfl, ite2 (fun _ => ?_) (fun _ => iteF (tail v))⟩
      refine ⟨_, rfl, _, _, rfl, rfl, ⟨by decide, by decide⟩, _, _, rfl, rfl, (by show (0 : Int) < 2; decide), rfl, _, rfl, ite2 (fun _ => ?_) (fun _ => tail v)⟩
      exact ⟨_, rfl, _, _, rfl, rfl, tail _⟩
end
end K75

/-! The law's row of bytes: _law_figures, _law_by_halves, _law_row_with, _law_dressed. -/
namespace K75
open PySem PySem.Spec PyProof.Rows L2
/-- a comprehension over a range with a step -/
theorem lc_rangeC {lo c : Int} {n : Nat} {g : TG} {tt : TT} {te : TE} {vs : List Nat} {σ : L2.St} {H1 : Hp} {D : Addr} {Qd : Hp → Prop} (Pv : Nat → Hp → Prop) (h0 : Pv 0 (upd H1 D (.lst [])))
    (hs : ∀ i H, i < n → Pv i H → g (.int (lo + (i : Nat) * c)) (wipe σ vs) H fun σ2 H2 => wipe σ2 vs = wipe σ vs ∧ tt σ2 H2 fun b H3 =>
      if b = true then te σ2 H3 fun y H4 => ∃ acc, H4 D = some (.lst acc) ∧ acc.length < sizeLine ∧ Pv (i + 1) (upd H4 D (.lst (acc ++ [y]))) else Pv (i + 1) H3) (hd : ∀ H, Pv n H → Qd H) :
    ∃ W : Nat → Nat → Hp → Prop, (∃ m, W 0 m (upd H1 D (.lst []))) ∧ ∀ i m H, W i m H →
      ((Itc lo c n).stop i H ∧ Qd H) ∨ ((Itc lo c n).go i H ∧ ∃ Nx : Hp → Prop, (∀ H', Nx H' → ∃ m', m' < m ∧ W (i + 1) m' H') ∧ ∀ x H', (Itc lo c n).yld i H x H' → g x (wipe σ vs) H' fun σ2 H2 => wipe σ2 vs = wipe σ vs ∧ tt σ2 H2 fun b H3 =>
        if b = true then te σ2 H3 fun y H4 => ∃ acc, H4 D = some (.lst acc) ∧ acc.length < sizeLine ∧ Nx (upd H4 D (.lst (acc ++ [y]))) else Nx H3) := by
  refine ⟨fun i m H => m = n - i ∧ i ≤ n ∧ Pv i H, ⟨n, by simp, Nat.zero_le _, h0⟩, ?_⟩
  rintro i m H ⟨rfl, hi, p⟩
  by_cases hlt : i < n
  · refine .inr ⟨hlt, Pv (i + 1), fun H' p' => ⟨n - (i + 1), by omega, rfl, hlt, p'⟩, fun x H' y => ?_⟩
    obtain ⟨e, y⟩ := y
    subst e y
    exact hs i _ hlt p
  · have e : i = n := by omega
    subst e
    exact .inl ⟨Nat.le_refl _, hd H p⟩
/-- a comprehension over zip of two lists of one length -/
theorem lc_zipL {K : PySem.W.Frag} {a b : Addr} {xs ys : List V} {g : TG} {tt : TT} {te : TE} {vs : List Nat} {σ : L2.St} {H1 : Hp} {D : Addr} {Qd : Hp → Prop} (hl : xs.length = ys.length) (Pv : Nat → Hp → Prop) (h0 : Pv 0 (upd H1 D (.lst []))) (hq : ∀ i H, Pv i H → SqL K H a xs ∧ SqL K H b ys)
    (hs : ∀ (i : Nat) (x y : V) (T : Addr) (H : Hp), xs[i]? = some x → ys[i]? = some y → Pv i H → H T = none → g (.ref T) (wipe σ vs) (upd H T (.tup [x, y])) fun σ2 H2 => wipe σ2 vs = wipe σ vs ∧ tt σ2 H2 fun b H3 =>
      if b = true then te σ2 H3 fun y H4 => ∃ acc, H4 D = some (.lst acc) ∧ acc.length < sizeLine ∧ Pv (i + 1) (upd H4 D (.lst (acc ++ [y]))) else Pv (i + 1) H3) (hd : ∀ H, Pv xs.length H → Qd H) :
    ∃ W : Nat → Nat → Hp → Prop, (∃ m, W 0 m (upd H1 D (.lst []))) ∧ ∀ i m H, W i m H →
      ((Itz K a b).stop i H ∧ Qd H) ∨ ((Itz K a b).go i H ∧ ∃ Nx : Hp → Prop, (∀ H', Nx H' → ∃ m', m' < m ∧ W (i + 1) m' H') ∧ ∀ x H', (Itz K a b).yld i H x H' → g x (wipe σ vs) H' fun σ2 H2 => wipe σ2 vs = wipe σ vs ∧ tt σ2 H2 fun b H3 =>
        if b = true then te σ2 H3 fun y H4 => ∃ acc, H4 D = some (.lst acc) ∧ acc.length < sizeLine ∧ Nx (upd H4 D (.lst (acc ++ [y]))) else Nx H3) := by
  refine ⟨fun i m H => m = xs.length - i ∧ i ≤ xs.length ∧ Pv i H, ⟨xs.length, rfl, Nat.zero_le _, h0⟩, ?_⟩
  rintro i m H ⟨rfl, hi, p⟩
  obtain ⟨qx, qy⟩ := hq i H p
  by_cases hlt : i < xs.length
  · have hx : xs[i]? = some xs[i] := List.getElem?_eq_getElem hlt
    have hlt2 : i < ys.length := by omega
    have hy : ys[i]? = some ys[i] := List.getElem?_eq_getElem hlt2
    refine .inr ⟨⟨xs, ys, _, _, qx, qy, hx, hy⟩, Pv (i + 1), fun H' p' => ⟨xs.length - (i + 1), by omega, rfl, hlt, p'⟩, fun v H' y => ?_⟩
    obtain ⟨T, x', y', rfl, hT, rfl, f1, f2⟩ := y
    exact hs i x' y' T _ (f1 xs qx) (f2 ys qy) p hT
  · have e : i = xs.length := by omega
    subst e
    exact .inl ⟨⟨xs, ys, qx, qy, Or.inl (Nat.le_refl _)⟩, hd H p⟩
theorem rg2_all : ∀ m : Fin 13, Builtin.Range.small 0 (((2 * m : Nat)) : Int) 2 = true ∧ Builtin.Range.rangeSize 0 ((2 * m : Nat) : Int) 2 = ((m : Nat) : Int) := by decide +kernel
theorem rg2 {m : Nat} (h : m ≤ 12) : RgC 0 ((2 * m : Nat) : Int) 2 m := by
  obtain ⟨a, b⟩ := rg2_all ⟨m, by omega⟩
  exact ⟨by decide, by decide, a, b⟩
section
variable {P : Program} {w : World} {K : PySem.W.Frag} {mg : Str → Option Value} {base : Heap}
/-! ### _law_figures -/
abbrev sFigures : Stmt := topS 41
theorem scFigures : FnScope ["_law_form_here", "_law_number_here", "_law_size", "_law_found", "_law_k"] ["_law_form_here", "_law_number_here"] (defScope sFigures) := ⟨rfl, rfl, rfl, by decide +kernel, rfl, by decide +kernel, by decide +kernel⟩
def spFigures : Sp := fun vs H Q _ => ∃ (a : Addr) (k : Kd) (n : Nat) (g : Sg) (pt num : Int), vs = [.ref a, .int num] ∧ H a = some (.tup (fm k n g pt)) ∧ 1 ≤ n ∧ n ≤ 12 ∧
  ∀ H' p (ds : List Int), Same H H' → H' p = some (.lst (ds.map V.int)) → ds.length = n → (∀ d ∈ ds, 0 ≤ d ∧ d < 10) → Q (.ref p) H'
theorem ok_figures {f : Addr} {fd : FuncData} (F : Fun K "_law_figures" "_law_figures" sFigures f fd) (B : Bi mg) (C1 : Cal P w K mg base CX0 1 "_law_power" ["_law_base", "_law_many"] spPower) : FnOk P w K mg base CX0 2 f fd ["_law_form_here", "_law_number_here"] spFigures := by
  refine F.ok scFigures (fun vs H Q E h => ?_) (fun cdv Ar outer s H vs Q E hr h => ?_)
  · obtain ⟨a, k, n, g, pt, num, rfl, _⟩ := h
    rfl
  · obtain ⟨a, k, n, g, pt, num, rfl, hA, h1, h2, q⟩ := h
    refine ⟨_, pss_cons (ps_set (i := 2) scFigures.nd rfl (.inl rfl) (pe_callB call_abs (by rfl) B.abs (by decide +kernel) (pa_cons (pv 1) pa_nil)))
      (pss_cons (ps_if (pt_cmpR op_eq (pe_ix ix_tup (pv 0) pe_int (fun _ _ => rfl)) pe_str (nomark _)) (pss_one (ps_set (i := 2) scFigures.nd rfl (.inl rfl) (pe_op op_mod (pv 1) (pe_cal C1 hr pass0 (pa_cons pe_int (pa_cons (pe_ix ix_tup (pv 0) pe_int (fun _ _ => rfl)) pa_nil)))))) pss_nil)
      (pss_cons (ps_set (i := 3) scFigures.nd rfl (.inl rfl) (pe_lst pa_nil))
      (pss_cons (ps_for PassesOwn.never rfl (pi_range1 rfl B.range (pa_cons (pe_ix ix_tup (pv 0) pe_int (fun _ _ => rfl)) pa_nil)) (pg_name (i := 4) scFigures.nd rfl (.inl rfl))
        (pss_cons (ps_expr (pe_bm PySem.F.plainAttrs_list PySem.F.slot_list_append PySem.F.type_list_append mt_append (pv 3) (pa_cons (pe_op op_mod (pv 2) pe_int) pa_nil)))
        (pss_one (ps_set (i := 2) scFigures.nd rfl (.inl rfl) (pe_op op_fdiv (pv 2) pe_int)))))
      (pss_one (ps_ret (pe_revL (pv 3))))))), ?_⟩
    have tail : ∀ sz0 : Int, tSeq (tAsg (tLst tNil) (gName 3)) (tSeq (tFor (iRng1 (tCons (tOp (rIxT K) (tVar 0) (tC (.int 1))) tNil)) (gName 4)
        (tSeq (tDrop (tBM K "list" rAppend (tVar 3) (tCons (tOp (rI (fun _ j => 0 < j) fun i j => .int (i % j)) (tVar 2) (tC (.int 10))) tNil))) (tAsg (tOp (rI CDiv fun i j => .int (i / j)) (tVar 2) (tC (.int 10))) (gName 2))))
        (tRet (tRevL K (tVar 3)))) { nx := fun _ H' => Q .non H', rt := Q } [some (.ref a), some (.int num), some (.int sz0), none, none] H := fun sz0 => by
      refine ⟨Nat.zero_le _, fun l nl => ?_⟩
      refine ⟨_, rfl, a, _, 1, .int (n : Int), rfl, rfl, SqT.of (cy nl hA), atI_nat (j := 1) rfl, (n : Int), rfl, by omega, by omega, for_range (n := n)
        (fun i σ H' => ∃ sz1 y ds, σ = [some (.ref a), some (.int num), some (.int sz1), some (.ref l), y] ∧ Same H H' ∧ H' l = some (.lst (ds.map V.int)) ∧ ds.length = i ∧ (∀ d ∈ ds, (0 : Int) ≤ d ∧ d < 10))
        ⟨sz0, none, [], rfl, same_upd nl, upd_same, rfl, fun d q => by cases q⟩ (fun i σ H' hi hP => ?_) (fun σ H' hP => ?_)⟩
      · obtain ⟨sz1, y, ds, rfl, s1, hl, hd, hb⟩ := hP
        refine ⟨_, rfl, .inl ⟨rfl, _, SqL.of hl⟩, _, rfl, _, _, rfl, rfl, (by show (0 : Int) < 10; decide), l, _, _, rfl, rfl, hl, small1000 (by rw [List.length_map]; omega), ?_⟩
        refine ⟨_, rfl, _, _, rfl, rfl, ⟨by decide, by decide⟩, sz1 / 10, some (.int (0 + (i : Int))), ds ++ [sz1 % 10], rfl, su s1 nl, ?_, ?_, fun d q => ?_⟩
        · rw [upd_same, List.map_append]
          rfl
        · rw [List.length_append, hd]
          rfl
        · rcases List.mem_append.mp q with q | q
          · exact hb d q
          · rw [List.mem_singleton.mp q]
            exact ⟨Int.emod_nonneg _ (by decide), Int.emod_lt_of_pos _ (by decide)⟩
      · obtain ⟨sz1, y, ds, rfl, s1, hl, hd, hb⟩ := hP
        refine ⟨_, rfl, l, _, rfl, SqL.of hl, fun p np => ?_⟩
        refine q _ p ds.reverse (fun b x e => cy np (s1 _ _ e)) ?_ (by rw [List.length_reverse, hd]) fun d z => hb d (List.mem_reverse.mp z)
        rw [upd_same, List.map_reverse]
    refine ⟨_, rfl, _, rfl, ?_⟩
    refine ⟨_, rfl, a, _, 2, .str g.s, rfl, rfl, SqT.of hA, atI_nat (j := 2) rfl, rfl, _, rfl, ite2 (fun _ => ?_) (fun _ => tail _)⟩
    have tp := ten_pos n
    exact ⟨_, rfl, _, rfl, a, _, 1, .int (n : Int), rfl, rfl, SqT.of hA, atI_nat (j := 1) rfl, n, rfl, by omega, _, _, rfl, rfl, tp, tail _⟩
/-! ### _law_by_halves -/
abbrev sByHalves : Stmt := topS 42
theorem scByHalves : FnScope ["_law_halves", "_law_k"] ["_law_halves"] (defScope sByHalves) := ⟨rfl, rfl, rfl, by decide +kernel, rfl, by decide +kernel, by decide +kernel⟩
def spByHalves : Sp := fun vs H Q _ => ∃ (a : Addr) (hs : List Int) (m : Nat), vs = [.ref a] ∧ H a = some (.lst (hs.map V.int)) ∧ hs.length = 2 * m ∧ m ≤ 12 ∧ (∀ h ∈ hs, 0 ≤ h ∧ h < 16) ∧
  ∀ H' p (row : List Int), Same H H' → H' p = some (.tup (row.map V.int)) → row.length = m → Bytes row → Q (.ref p) H'
theorem ok_by_halves {f : Addr} {fd : FuncData} (F : Fun K "_law_by_halves" "_law_by_halves" sByHalves f fd) (B : Bi mg) : FnOk P w K mg base CX0 1 f fd ["_law_halves"] spByHalves := by
  refine F.ok scByHalves (fun vs H Q E h => ?_) (fun cdv Ar outer s H vs Q E hr h => ?_)
  · obtain ⟨a, hs, m, rfl, _⟩ := h
    rfl
  · obtain ⟨a, hs, m, rfl, hA, hl, hm, hb, q⟩ := h
    refine ⟨_, pss_one (ps_ret (pe_callTy call_tuple_of (by rfl) B.tuple (by decide +kernel) (pa_cons
        (pe_lc (own := [("_law_k", 1)]) (g := gName 1) (tt := tYes) (te := tOp (rI0 fun i j => .int (i + j)) (tOp (rI CMul fun i j => .int (i * j)) (tC (.int 16)) (tOp (rIxL K) (tVar 0) (tVar 1))) (tOp (rIxL K) (tVar 0) (tOp (rI0 fun i j => .int (i + j)) (tVar 1) (tC (.int 1))))) rfl scByHalves.nd
          (pi_range3 rfl B.range (pa_cons pe_int (pa_cons (pe_callB call_len_seq (by rfl) B.len PySem.boot_len (pa_cons (pv 0) pa_nil)) (pa_cons pe_int pa_nil))))
          (blkOk_by (own := [("_law_k", 1)]) (N := ["_law_halves", "_law_k"]) (sc := defScope sByHalves) (by decide +kernel)) (fun _ _ _ _ _ => pg_name (i := 1) scByHalves.nd rfl (Or.inl rfl)) (fun _ _ _ _ _ => pts_nil)
          (fun _ _ _ _ _ => pe_op op_add (pe_op op_mul pe_int (pe_ix ix_list (pv 0) (pv 1) (fun _ _ => rfl))) (pe_ix ix_list (pv 0) (pe_op op_add (pv 1) pe_int) (fun _ _ => rfl)))) pa_nil))), ?_⟩
    have rg := rg2 hm
    rw [← hl] at rg
    have rg' : RgC 0 (((hs.map V.int).length : Nat) : Int) 2 m := by rw [List.length_map]; exact rg
    refine ⟨_, rfl, a, _, rfl, .inl (SqL.of hA), 0, _, 2, m, rfl, rg', fun D nD => lc_rangeC (lo := 0) (c := 2) (n := m) (fun i H' => ∃ row : List Int, Same H H' ∧ H' D = some (.lst (row.map V.int)) ∧ row.length = i ∧ Bytes row)
      ⟨[], same_upd nD, upd_same, rfl, fun b z => by cases z⟩ (fun i H' hi hP => ?_) (fun H' hP => ?_)⟩
    · obtain ⟨row, s1, hD, hrl, hrb⟩ := hP
      obtain ⟨x, hx⟩ : ∃ x, hs[2 * i]? = some x := ⟨_, List.getElem?_eq_getElem (by omega)⟩
      obtain ⟨y, hy⟩ : ∃ y, hs[2 * i + 1]? = some y := ⟨_, List.getElem?_eq_getElem (by omega)⟩
      obtain ⟨x0, x1⟩ := hb x (List.mem_of_getElem? hx)
      obtain ⟨y0, y1⟩ := hb y (List.mem_of_getElem? hy)
      refine ⟨rfl, ?_⟩
      refine iteT (B := ∃ row : List Int, Same H H' ∧ H' D = some (.lst (row.map V.int)) ∧ row.length = i + 1 ∧ Bytes row) ?_
      refine ⟨_, rfl, _, rfl, a, _, _, .int x, rfl, rfl, SqL.of (s1 _ _ hA), at_of (j := 2 * i) (by omega) (get_map hx), _, _, rfl, rfl, .inl ⟨by decide, by decide⟩, _, rfl, _, rfl, _, _, rfl, rfl, a, _, _, .int y, rfl, rfl, SqL.of (s1 _ _ hA), at_of (j := 2 * i + 1) (by omega) (get_map hy), _, _, rfl, rfl, _, hD,
        small1000 (by rw [List.length_map]; omega), row ++ [16 * x + y], su s1 nD, ?_, ?_, fun b z => ?_⟩
      · rw [upd_same, List.map_append]
        rfl
      · rw [List.length_append, hrl]
        rfl
      · rcases List.mem_append.mp z with z | z
        · exact hrb b z
        · rw [List.mem_singleton.mp z]
          omega
    · obtain ⟨row, s1, hD, hrl, hrb⟩ := hP
      refine ⟨D, _, rfl, .inl ⟨SqL.of hD, fun p np => ?_⟩⟩
      exact q _ p row (fun b x e => cy np (s1 _ _ e)) upd_same hrl hrb
end
end K75

/-! _law_row_with, _law_dressed. -/
namespace K75
open PySem PySem.Spec PyProof.Rows L2
theorem ix_neg1 {n : Nat} (h : 1 ≤ n) : ixN n (-1) = some (n - 1) := by
  unfold ixN
  rw [if_neg (by decide), if_pos (by omega)]
  congr 1
  omega
section
variable {P : Program} {w : World} {K : PySem.W.Frag} {mg : Str → Option Value} {base : Heap}
abbrev sRowWith : Stmt := topS 43
theorem scRowWith : FnScope ["_law_form_here", "_law_number_here", "_law_half", "_law_halves", "_law_zones", "_law_zone", "_law_figure"] ["_law_form_here", "_law_number_here", "_law_half"] (defScope sRowWith) := ⟨rfl, rfl, rfl, by decide +kernel, rfl, by decide +kernel, by decide +kernel⟩
def spRowWith : Sp := fun vs H Q _ => ∃ (a : Addr) (k : Kd) (n : Nat) (g : Sg) (pt num half : Int), vs = [.ref a, .int num, .int half] ∧ H a = some (.tup (fm k n g pt)) ∧ 1 ≤ n ∧ n ≤ 12 ∧ 0 ≤ half ∧ half < 16 ∧
  ∀ H' p (row : List Int), Same H H' → H' p = some (.tup (row.map V.int)) → row.length = width k n g → Bytes row → Q (.ref p) H'
theorem ok_row_with {f : Addr} {fd : FuncData} (F : Fun K "_law_row_with" "_law_row_with" sRowWith f fd) (B : Bi mg) (C1 : Cal P w K mg base CX0 2 "_law_figures" ["_law_form_here", "_law_number_here"] spFigures)
    (C2 : Cal P w K mg base CX0 1 "_law_by_halves" ["_law_halves"] spByHalves) : FnOk P w K mg base CX0 3 f fd ["_law_form_here", "_law_number_here", "_law_half"] spRowWith := by
  refine F.ok scRowWith (fun vs H Q E h => ?_) (fun cdv Ar outer s H vs Q E hr h => ?_)
  · obtain ⟨a, k, n, g, pt, num, half, rfl, _⟩ := h
    rfl
  · obtain ⟨a, k, n, g, pt, num, half, rfl, hA, h1, h2, b0, b1, q⟩ := h
    have hr1 : Room 1 _ := hr.mono (by decide)
    refine ⟨_, pss_cons (ps_set (i := 3) scRowWith.nd rfl (.inl rfl) (pe_cal C1 hr pass0 (pa_cons (pv 0) (pa_cons (pv 1) pa_nil))))
      (pss_cons (ps_if (pt_cmpR op_eq (pe_ix ix_tup (pv 0) pe_int (fun _ _ => rfl)) pe_str (nomark _))
        (pss_cons (ps_if (pt_cmpR op_eq (pe_ix ix_tup (pv 0) pe_int (fun _ _ => rfl)) pe_str (nomark _)) (pss_one (ps_set (i := 3) scRowWith.nd rfl (.inl rfl) (pe_op op_cat (pv 3) (pe_lst (pa_cons (pv 2) pa_nil))))) pss_nil)
        (pss_one (ps_ret (pe_cal C2 hr1 pass0 (pa_cons (pe_op op_cat (pe_op op_rep (pe_lst (pa_cons pe_int pa_nil)) (pe_op op_mod (pe_callB call_len_seq (by rfl) B.len PySem.boot_len (pa_cons (pv 3) pa_nil)) pe_int)) (pv 3)) pa_nil))))) pss_nil)
      (pss_cons (ps_set (i := 4) scRowWith.nd rfl (.inl rfl) (pe_op op_rep (pe_lst (pa_cons pe_int pa_nil)) (pe_ix ix_tup (pv 0) pe_int (fun _ _ => rfl))))
      (pss_cons (ps_if (pt_cmpR op_eq (pe_ix ix_tup (pv 0) pe_int (fun _ _ => rfl)) pe_str (nomark _)) (pss_one (ps_asg (pv 2) (pg_sub (pv 4) (pe_un un_neg pe_int) set_list))) pss_nil)
      (pss_one (ps_ret (pe_callTy call_tuple_of (by rfl) B.tuple (by decide +kernel) (pa_cons
        (pe_lc (own := [("_law_zone", 5), ("_law_figure", 6)]) (g := gTup K 2 (gCons (gName 5) (gCons (gName 6) gNil))) (tt := tYes) (te := tOp (rI0 fun i j => .int (i + j)) (tOp (rI CMul fun i j => .int (i * j)) (tC (.int 16)) (tVar 5)) (tVar 6)) rfl scRowWith.nd
          (pi_zip (by rfl) B.zip (pa_cons (pv 4) (pa_cons (pv 3) pa_nil)))
          (blkOk_by (own := [("_law_zone", 5), ("_law_figure", 6)]) (N := ["_law_form_here", "_law_number_here", "_law_half", "_law_halves", "_law_zones", "_law_zone", "_law_figure"]) (sc := defScope sRowWith) (by decide +kernel))
          (fun _ _ _ _ _ => pg_tup rfl (pgs_cons (pg_name (i := 5) scRowWith.nd rfl (Or.inl rfl)) (pgs_cons (pg_name (i := 6) scRowWith.nd rfl (Or.inl rfl)) pgs_nil))) (fun _ _ _ _ _ => pts_nil)
          (fun _ _ _ _ _ => pe_op op_add (pe_op op_mul pe_int (pv 5)) (pv 6))) pa_nil))))))), ?_⟩
    refine ⟨_, rfl, _, rfl, a, k, n, g, pt, num, rfl, hA, h1, h2, fun H1 pd ds s1 hD hdl hdb => ?_⟩
    have hA1 := s1 _ _ hA
    refine ⟨_, rfl, a, _, 0, .str k.s, rfl, rfl, SqT.of hA1, atI_nat (j := 0) rfl, rfl, _, rfl, ?_⟩
    rw [d_pk]
    have hge := g.e_le
    have wl := width_le (k := k) (g := g) h2
    cases k with
    | pk =>
      refine ifT rfl ?_
      refine ⟨_, rfl, a, _, 2, .str g.s, rfl, rfl, SqT.of hA1, atI_nat (j := 2) rfl, rfl, _, rfl, ?_⟩
      rw [d_en]
      have tail : ∀ (H2 : Hp) (l : Addr) (hs : List Int), Same H H2 → H2 l = some (.lst (hs.map V.int)) → hs.length = n + g.e → (∀ h ∈ hs, 0 ≤ h ∧ h < 16) →
          tRet (tCall spByHalves [] E0 (tCons (tOp rCat (tOp rRep (tLst (tCons (tC (.int 0)) tNil)) (tOp (rI (fun _ j => 0 < j) fun i j => .int (i % j)) (tCB (fun xs H Q => ∃ p ys, xs = [.ref p] ∧ (SqL K H p ys ∨ SqT K H p ys) ∧ Q (.int ys.length) H) (tCons (tVar 3) tNil)) (tC (.int 2)))) (tVar 3)) tNil))
            { nx := fun _ H' => Q .non H', rt := Q } [some (.ref a), some (.int num), some (.int half), some (.ref l), none, none, none] H2 := fun H2 l hs s2 hl hln hbd => by
        refine ⟨sz (by show 1 ≤ 1000; decide), fun l2 n2 => ⟨_, rfl, l, _, rfl, .inl (SqL.of (cy n2 hl)), _, _, rfl, rfl, (by show (0 : Int) < 2; decide), ?_⟩⟩
        have ep : (((hs.map V.int).length : Nat) : Int) % 2 = ((pad n g : Nat) : Int) := by
          rw [List.length_map, hln]
          unfold pad
          omega
        dsimp only
        rw [ep]
        have hpad : pad n g ≤ 1 := by unfold pad; omega
        have ev : (List.replicate ((pad n g : Nat) : Int).toNat [V.int 0]).flatten ++ hs.map V.int = (List.replicate (pad n g) 0 ++ hs).map V.int := by
          show (List.replicate (pad n g) [V.int 0]).flatten ++ hs.map V.int = _
          rw [rep1, List.map_append, List.map_replicate]
        refine ⟨l2, _, _, rfl, rfl, upd_same, by omega, by omega, sz (by show 1 * pad n g ≤ 1000; omega), fun r2 nr2 => ⟨_, rfl, r2, l, _, _, rfl, rfl, upd_same, cy nr2 (cy n2 hl), sz ?_, fun c nc => ?_⟩⟩
        · show (List.replicate (pad n g) [V.int 0]).flatten.length + _ ≤ 1000
          rw [rep1, List.length_replicate, List.length_map]
          omega
        · refine ⟨c, List.replicate (pad n g) 0 ++ hs, width .pk n g, rfl, ?_, ?_, wl, fun h z => ?_, fun H3 p row s3 hp hrl hrb => ?_⟩
          · rw [upd_same, ev]
          · rw [width_pk, List.length_append, List.length_replicate, hln]
          · rcases List.mem_append.mp z with z | z
            · rw [(List.mem_replicate.mp z).2]
              decide
            · exact hbd h z
          · exact q _ p row (fun b x e => s3 _ _ (cy nc (cy nr2 (cy n2 (s2 _ _ e))))) hp hrl hrb
      have hd16 : ∀ h ∈ ds, 0 ≤ h ∧ h < 16 := fun h z => by
        have := hdb h z
        omega
      by_cases c : g = .en
      · refine ifT (decide_eq_true c) ?_
        refine ⟨_, rfl, _, rfl, sz (by show 1 ≤ 1000; decide), fun l2 n2 => ⟨pd, l2, _, _, rfl, rfl, cy n2 hD, upd_same, sz (by show (ds.map V.int).length + 1 ≤ 1000; rw [List.length_map]; omega), fun cc ncc => ?_⟩⟩
        refine tail _ cc (ds ++ [half]) (fun b x e => cy ncc (cy n2 (s1 _ _ e))) ?_ ?_ fun h z => ?_
        · rw [upd_same, List.map_append]
          rfl
        · rw [List.length_append, hdl, c]
          rfl
        · rcases List.mem_append.mp z with z | z
          · exact hd16 h z
          · rw [List.mem_singleton.mp z]
            exact ⟨b0, b1⟩
      · have ge : g.e = 0 := by cases g <;> first | rfl | exact absurd rfl c
        exact ifF (decide_eq_false c) (tail _ pd ds s1 hD (by omega) hd16)
    | sp =>
      refine ifF rfl ?_
      refine ⟨sz (by show 1 ≤ 1000; decide), fun l1 n1 => ⟨_, rfl, a, _, 1, .int (n : Int), rfl, rfl, SqT.of (cy n1 hA1), atI_nat (j := 1) rfl, l1, _, _, rfl, rfl, upd_same, by omega, by omega, sz (by show 1 * n ≤ 1000; omega), fun z1 nz1 => ?_⟩⟩
      refine ⟨_, rfl, a, _, 2, .str g.s, rfl, rfl, SqT.of (cy nz1 (cy n1 hA1)), atI_nat (j := 2) rfl, rfl, _, rfl, ?_⟩
      rw [d_en, show (n : Int).toNat = n from rfl, rep1]
      have tail : ∀ (H2 : Hp) (zs : List Int), Same H H2 → H2 z1 = some (.lst (zs.map V.int)) → H2 pd = some (.lst (ds.map V.int)) → zs.length = n → (∀ h ∈ zs, 0 ≤ h ∧ h < 16) →
          tRet (tCB (fun xs H Q => ∃ p ys, xs = [.ref p] ∧ ((SqL K H p ys ∧ ∀ l, H l = none → Q (.ref l) (upd H l (.tup ys))) ∨ (SqT K H p ys ∧ Q (.ref p) H)))
            (tCons (tLc (iZip K (tCons (tVar 4) (tCons (tVar 3) tNil))) (gTup K 2 (gCons (gName 5) (gCons (gName 6) gNil))) tYes (tOp (rI0 fun i j => .int (i + j)) (tOp (rI CMul fun i j => .int (i * j)) (tC (.int 16)) (tVar 5)) (tVar 6)) [5, 6]) tNil))
            { nx := fun _ H' => Q .non H', rt := Q } [some (.ref a), some (.int num), some (.int half), some (.ref pd), some (.ref z1), none, none] H2 := fun H2 zs s2 hz hd2 hzl hzb => by
        refine ⟨_, rfl, _, rfl, z1, pd, _, _, rfl, SqL.of hz, SqL.of hd2, fun D nD => lc_zipL (K := K) (a := z1) (b := pd) (xs := zs.map V.int) (ys := ds.map V.int) (by rw [List.length_map, List.length_map]; omega)
          (fun i H' => ∃ row : List Int, Same H2 H' ∧ H' D = some (.lst (row.map V.int)) ∧ row.length = i ∧ Bytes row) ⟨[], same_upd nD, upd_same, rfl, fun b z => by cases z⟩ (fun i H' hP => ?_) (fun i x y T H' hx hy hP nT => ?_) (fun H' hP => ?_)⟩
        · obtain ⟨row, s3, _⟩ := hP
          exact ⟨SqL.of (s3 _ _ hz), SqL.of (s3 _ _ hd2)⟩
        · obtain ⟨row, s3, hDD, hrl, hrb⟩ := hP
          obtain ⟨zz, hzz, rfl⟩ := map_get hx
          obtain ⟨dd, hdd, rfl⟩ := map_get hy
          obtain ⟨z0, z15⟩ := hzb zz (List.mem_of_getElem? hzz)
          obtain ⟨d0, d10⟩ := hdb dd (List.mem_of_getElem? hdd)
          have il : i < zs.length := (List.getElem?_eq_some_iff.mp hzz).1
          refine ⟨T, [.int zz, .int dd], rfl, SqT.of upd_same, rfl, _, _, rfl, _, _, rfl, rfl, rfl, ?_⟩
          refine iteT (B := ∃ row : List Int, Same H2 (upd H' T (.tup [.int zz, .int dd])) ∧ (upd H' T (.tup [.int zz, .int dd])) D = some (.lst (row.map V.int)) ∧ row.length = i + 1 ∧ Bytes row) ?_
          refine ⟨_, rfl, _, _, rfl, rfl, .inl ⟨by decide, by decide⟩, _, rfl, _, _, rfl, rfl, _, cy nT hDD, small1000 (by rw [List.length_map]; omega), row ++ [16 * zz + dd], su (fun b x e => cy nT (s3 _ _ e)) nD, ?_, ?_, fun b z => ?_⟩
          · rw [upd_same, List.map_append]
            rfl
          · rw [List.length_append, hrl]
            rfl
          · rcases List.mem_append.mp z with z | z
            · exact hrb b z
            · rw [List.mem_singleton.mp z]
              omega
        · obtain ⟨row, s3, hDD, hrl, hrb⟩ := hP
          refine ⟨D, _, rfl, .inl ⟨SqL.of hDD, fun p np => ?_⟩⟩
          refine q _ p row (fun b x e => cy np (s3 _ _ (s2 _ _ e))) upd_same ?_ hrb
          rw [hrl, List.length_map, hzl]
          rfl
      have s3 : Same H (upd (upd H1 l1 (.lst [.int 15])) z1 (.lst (List.replicate n (V.int 15)))) := fun b x e => cy nz1 (cy n1 (s1 _ _ e))
      by_cases c : g = .en
      · refine ifT (decide_eq_true c) ?_
        refine ⟨_, rfl, _, rfl, 1, rfl, z1, _, _, n - 1, rfl, rfl, upd_same, ?_, ?_⟩
        · rw [List.length_replicate]
          exact ix_neg1 h1
        rw [upd_upd]
        refine tail _ ((List.replicate n 15).set (n - 1) half) (fun b x e => cy nz1 (cy n1 (s1 _ _ e))) ?_ (cy nz1 (cy n1 hD)) ?_ fun h z => ?_
        · rw [upd_same, List.map_set, List.map_replicate]
        · rw [List.length_set, List.length_replicate]
        · rcases List.mem_or_eq_of_mem_set z with z | z
          · rw [(List.mem_replicate.mp z).2]
            decide
          · rw [z]
            exact ⟨b0, b1⟩
      · refine ifF (decide_eq_false c) (tail _ (List.replicate n 15) s3 ?_ (cy nz1 (cy n1 hD)) ?_ fun h z => ?_)
        · rw [upd_same, List.map_replicate]
        · rw [List.length_replicate]
        · rw [(List.mem_replicate.mp z).2]
          decide
/-! ### _law_dressed -/
abbrev sDressed : Stmt := topS 44
theorem scDressed : FnScope ["_law_form_here", "_law_number_here", "_law_digit", "_law_some"] ["_law_form_here", "_law_number_here", "_law_digit"] (defScope sDressed) := ⟨rfl, rfl, rfl, by decide +kernel, rfl, by decide +kernel, by decide +kernel⟩
def spDressed : Sp := fun vs H Q _ => ∃ (a : Addr) (k : Kd) (n : Nat) (g : Sg) (pt num : Int) (dg : Nat), vs = [.ref a, .int num, .int (dg : Int)] ∧ H a = some (.tup (fm k n g pt)) ∧ 1 ≤ n ∧ n ≤ 12 ∧
  ∀ H' p (row : List Int), Same H H' → H' p = some (.tup (row.map V.int)) → row.length = width k n g → Bytes row → Q (.ref p) H'
theorem ok_dressed {f : Addr} {fd : FuncData} (F : Fun K "_law_dressed" "_law_dressed" sDressed f fd) (B : Bi mg) (C1 : Cal P w K mg base CX0 3 "_law_row_with" ["_law_form_here", "_law_number_here", "_law_half"] spRowWith) : FnOk P w K mg base CX0 4 f fd ["_law_form_here", "_law_number_here", "_law_digit"] spDressed := by
  refine F.ok scDressed (fun vs H Q E h => ?_) (fun cdv Ar outer s H vs Q E hr h => ?_)
  · obtain ⟨a, k, n, g, pt, num, dg, rfl, _⟩ := h
    rfl
  · obtain ⟨a, k, n, g, pt, num, dg, rfl, hA, h1, h2, q⟩ := h
    refine ⟨_, pss_cons (ps_set (i := 3) scDressed.nd rfl (.inl rfl) (pe_lst (pa_cons pe_int (pa_cons pe_int (pa_cons pe_int (pa_cons pe_int (pa_cons pe_int (pa_cons pe_int pa_nil))))))))
      (pss_cons (ps_if (pt_cmpR op_gt (pv 1) pe_int (nomark _)) (pss_one (ps_set (i := 3) scDressed.nd rfl (.inl rfl) (pe_lst (pa_cons pe_int (pa_cons pe_int (pa_cons pe_int (pa_cons pe_int pa_nil))))))) pss_nil)
      (pss_cons (ps_if (pt_cmpR op_lt (pv 1) pe_int (nomark _)) (pss_one (ps_set (i := 3) scDressed.nd rfl (.inl rfl) (pe_lst (pa_cons pe_int (pa_cons pe_int pa_nil))))) pss_nil)
      (pss_one (ps_ret (pe_cal C1 hr pass0 (pa_cons (pv 0) (pa_cons (pv 1) (pa_cons (pe_ix ix_list (pv 3) (pe_op op_mod (pv 2) (pe_callB call_len_seq (by rfl) B.len PySem.boot_len (pa_cons (pv 3) pa_nil))) (fun _ _ => rfl)) pa_nil)))))))), ?_⟩
    have tail : ∀ (H1 : Hp) (l : Addr) (ss : List Int), Same H H1 → H1 l = some (.lst (ss.map V.int)) → 0 < ss.length → (∀ x ∈ ss, 0 ≤ x ∧ x < 16) →
        tRet (tCall spRowWith [] E0 (tCons (tVar 0) (tCons (tVar 1) (tCons (tOp (rIxL K) (tVar 3) (tOp (rI (fun _ j => 0 < j) fun i j => .int (i % j)) (tVar 2) (tCB (fun xs H Q => ∃ p ys, xs = [.ref p] ∧ (SqL K H p ys ∨ SqT K H p ys) ∧ Q (.int ys.length) H) (tCons (tVar 3) tNil)))) tNil))))
          { nx := fun _ H' => Q .non H', rt := Q } [some (.ref a), some (.int num), some (.int (dg : Int)), some (.ref l)] H1 := fun H1 l ss s1 hl h0 hb => by
      have hm : dg % ss.length < ss.length := Nat.mod_lt _ h0
      obtain ⟨x, hx⟩ : ∃ x, ss[dg % ss.length]? = some x := ⟨_, List.getElem?_eq_getElem hm⟩
      obtain ⟨x0, x1⟩ := hb x (List.mem_of_getElem? hx)
      refine ⟨_, rfl, _, rfl, _, rfl, _, rfl, _, rfl, l, _, rfl, .inl (SqL.of hl), _, _, rfl, rfl, ?_, l, _, _, .int x, rfl, rfl, SqL.of hl, at_of (j := dg % ss.length) ?_ (get_map hx), a, k, n, g, pt, num, x, rfl, s1 _ _ hA, h1, h2, x0, x1, fun H2 p row s2 hp hrl hrb => q _ p row (fun b y e => s2 _ _ (s1 _ _ e)) hp hrl hrb⟩
      · show (0 : Int) < ((ss.map V.int).length : Int)
        rw [List.length_map]
        omega
      · rw [List.length_map]
        rfl
    refine ⟨sz (by show 6 ≤ 1000; decide), fun l0 n0 => ?_⟩
    refine ⟨_, rfl, _, _, rfl, rfl, _, rfl, ite2 (fun cp => ?_) (fun cp => ?_)⟩
    · refine ⟨sz (by show 4 ≤ 1000; decide), fun l1 n1 => ⟨_, rfl, _, _, rfl, rfl, _, rfl, ifF (decide_eq_false (by have := of_decide_eq_true cp; omega)) ?_⟩⟩
      exact tail _ l1 [12, 10, 14, 15] (fun b x e => cy n1 (cy n0 e)) upd_same (by decide) (by decide)
    · refine ⟨_, rfl, _, _, rfl, rfl, _, rfl, ite2 (fun cm => ?_) (fun cm => ?_)⟩
      · refine ⟨sz (by show 2 ≤ 1000; decide), fun l1 n1 => ?_⟩
        exact tail _ l1 [13, 11] (fun b x e => cy n1 (cy n0 e)) upd_same (by decide) (by decide)
      · exact tail _ l0 [12, 13, 10, 11, 14, 15] (same_upd n0) upd_same (by decide) (by decide)
end
end K75

/-! The law's own machine: _law_run, _law_filled, _law_after. -/
namespace K75
open PySem PySem.Spec PyProof.Rows L2
theorem get_lt {l : List Int} {b : Nat} (h : b < l.length) : l[b]? = some (getI l b) := by
  unfold getI
  rw [List.getElem?_eq_getElem h, List.getD_eq_getElem?_getD, List.getElem?_eq_getElem h]
  rfl
theorem ix_nat {n a : Nat} (h : a < n) : ixN n (a : Int) = some a := by
  unfold ixN
  rw [if_pos (by omega), if_pos (by omega), Int.toNat_natCast]
theorem flag_len (hi : Bool) (gs : List Int) : (flagT hi gs).length = 256 := by
  unfold flagT
  rw [List.length_map, List.length_range]
theorem tabs_len : ∀ t ∈ tabs9, t.length = 256 := fun t h => by
  unfold tabs9 at h
  rcases List.mem_append.mp h with h | h
  · unfold tabs8 at h
    obtain ⟨m, _, rfl⟩ := List.mem_map.mp h
    exact flag_len _ _
  · rw [List.mem_singleton.mp h]
    unfold turnT
    rw [List.length_map, List.length_range]
theorem cut_from (xs : List V) (n : Nat) : cutV xs (some (n : Int)) none = xs.drop n := by
  unfold cutV
  rw [HT.sIx_nat, HT.sIx_none]
  by_cases h : n ≤ xs.length
  · rw [Nat.min_eq_left h, List.take_of_length_le (by rw [List.length_drop]; exact Nat.le_refl _)]
  · rw [Nat.min_eq_right (by omega), List.drop_of_length_le (Nat.le_refl _), List.drop_of_length_le (by omega), List.take_nil]
theorem cut_to (xs : List V) (n : Nat) : cutV xs none (some (n : Int)) = xs.take n := by
  unfold cutV
  rw [HT.sIx_nat, HT.sIx_none, List.drop_zero, Nat.sub_zero]
  by_cases h : n ≤ xs.length
  · rw [Nat.min_eq_left h]
  · rw [Nat.min_eq_right (by omega), List.take_of_length_le (Nat.le_refl _), List.take_of_length_le (by omega)]
section
variable {P : Program} {w : World} {K : PySem.W.Frag} {mg : Str → Option Value} {base : Heap}
abbrev sRun : Stmt := topS 46
theorem scRun : FnScope ["_law_program", "_law_cells", "_law_mark", "_law_tables", "_law_rows", "_law_row", "_law_word", "_law_a", "_law_total"] ["_law_program", "_law_cells", "_law_mark"] (defScope sRun) := ⟨rfl, rfl, rfl, by decide +kernel, rfl, by decide +kernel, by decide +kernel⟩
def spRun (K : PySem.W.Frag) : Sp := fun vs H Q _ => ∃ (p c : Addr) (os : List Op) (cells : List Int) (m : Int), vs = [.ref p, .ref c, .int m] ∧ ProgAt H p os ∧ SqL K H c (cells.map V.int) ∧ cells.length = 256 ∧ okRun (cells, m) os ∧
  ∀ H' t l, Same H H' → H' t = some (.tup [.ref l, .int (runM (cells, m) os).2]) → H' l = some (.lst ((runM (cells, m) os).1.map V.int)) → Q (.ref t) H'
theorem ok_run {f : Addr} {fd : FuncData} (F : Fun K "_law_run" "_law_run" sRun f fd) (B : Bi mg) : FnOk P w K mg base CX0 1 f fd ["_law_program", "_law_cells", "_law_mark"] (spRun K) := by
  refine F.ok scRun (fun vs H Q E h => ?_) (fun cdv Ar outer s H vs Q E hr h => ?_)
  · obtain ⟨p, c, os, cells, m, rfl, _⟩ := h
    rfl
  · obtain ⟨p, c, os, cells, m, rfl, ⟨t, r, ts, rs, hp, ht, hT, hrr, hR⟩, hC, hcl, hok, q⟩ := h
    refine ⟨_, pss_cons (ps_asg (pv 0) (pg_tup rfl (pgs_cons (pg_name (i := 3) scRun.nd rfl (.inl rfl)) (pgs_cons (pg_name (i := 4) scRun.nd rfl (.inl rfl)) pgs_nil))))
      (pss_cons (ps_set (i := 1) scRun.nd rfl (.inl rfl) (pe_callTy call_list_of (by rfl) B.list (by decide +kernel) (pa_cons (pv 1) pa_nil)))
      (pss_cons (ps_for PassesOwn.never rfl (pi_tup (pv 4)) (pg_name (i := 5) scRun.nd rfl (.inl rfl))
        (pss_cons (ps_set (i := 6) scRun.nd rfl (.inl rfl) (pe_ix ix_tup (pv 5) pe_int (fun _ _ => rfl)))
        (pss_cons (ps_set (i := 7) scRun.nd rfl (.inl rfl) (pe_ix ix_tup (pv 5) pe_int (fun _ _ => rfl)))
        (pss_one (ps_if (pt_cmpR op_eq (pv 6) pe_str (nomark _)) (pss_one (ps_asg (pe_ix ix_list (pv 1) (pe_ix ix_tup (pv 5) pe_int (fun _ _ => rfl)) (fun _ _ => rfl)) (pg_sub (pv 1) (pv 7) set_list)))
        (pss_one (ps_if (pt_cmpR op_eq (pv 6) pe_str (nomark _)) (pss_one (ps_asg (pe_ix ix_tup (pe_ix ix_tup (pv 3) (pe_ix ix_tup (pv 5) pe_int (fun _ _ => rfl)) (fun _ _ => rfl)) (pe_ix ix_list (pv 1) (pv 7) (fun _ _ => rfl)) (fun _ _ => rfl)) (pg_sub (pv 1) (pv 7) set_list)))
        (pss_one (ps_if (PW.pt (pw_or (pt_cmpR op_eq (pv 6) pe_str (nomark _)) (pw_or1 (pt_cmpR op_eq (pv 6) pe_str (nomark _))))) pss_never
        (pss_one (ps_if (pt_cmpR op_eq (pv 6) pe_str (nomark _)) (pss_one (ps_asg (pe_ix ix_tup (pv 5) pe_int (fun _ _ => rfl)) (pg_sub (pv 1) (pv 7) set_list)))
        (pss_one (ps_if (pt_cmpR op_eq (pv 6) pe_str (nomark _)) (pss_one (ps_asg (pe_op op_and (pe_ix ix_list (pv 1) (pv 7) (fun _ _ => rfl)) (pe_ix ix_list (pv 1) (pe_ix ix_tup (pv 5) pe_int (fun _ _ => rfl)) (fun _ _ => rfl))) (pg_sub (pv 1) (pv 7) set_list)))
        (pss_one (ps_if (pt_cmpR op_eq (pv 6) pe_str (nomark _)) (pss_one (ps_asg (pe_op op_or (pe_ix ix_list (pv 1) (pv 7) (fun _ _ => rfl)) (pe_ix ix_list (pv 1) (pe_ix ix_tup (pv 5) pe_int (fun _ _ => rfl)) (fun _ _ => rfl))) (pg_sub (pv 1) (pv 7) set_list)))
        (pss_one (ps_if (pt_cmpR op_eq (pv 6) pe_str (nomark _)) pss_never
        (pss_one (ps_if (pt_cmpR op_eq (pv 6) pe_str (nomark _)) pss_never
        (pss_one (ps_set (i := 2) scRun.nd rfl (.inl rfl) (pv 7))))))))))))))))))))))
      (pss_one (ps_ret (pe_tup (pa_cons (pv 1) (pa_cons (pv 2) pa_nil))))))), ?_⟩
    refine ⟨_, rfl, p, _, rfl, SqT.of hp, rfl, _, _, rfl, _, _, rfl, rfl, ?_⟩
    refine ⟨_, rfl, c, _, rfl, .inl hC, fun l nl => ?_⟩
    refine ⟨_, rfl, r, rfl, ⟨_, SqT.of (cy nl hrr)⟩, for_tup (K := K) (a := r) (xs := rs) (fun i σ H' => ∃ y5 y6 y7, σ = [some (.ref p), some (.ref l), some (.int (runM (cells, m) (os.take i)).2), some (.ref t), some (.ref r), y5, y6, y7, none] ∧ Same H H' ∧
      H' l = some (.lst ((runM (cells, m) (os.take i)).1.map V.int))) ⟨none, none, none, rfl, same_upd nl, upd_same⟩ (fun i σ H' _ hP => ?_) (fun i x σ H' hx hP => ?_) (fun σ H' hP => ?_)⟩
    · obtain ⟨y5, y6, y7, rfl, s1, hl⟩ := hP
      exact SqT.of (s1 _ _ hrr)
    · obtain ⟨y5, y6, y7, rfl, s1, hl⟩ := hP
      have irs : i < rs.length := (List.getElem?_eq_some_iff.mp hx).1
      obtain ⟨o, ho⟩ : ∃ o, os[i]? = some o := ⟨_, List.getElem?_eq_getElem (by rw [← hR.len]; exact irs)⟩
      obtain ⟨ra, hra, hro⟩ := hR.get ho
      obtain rfl : x = .ref ra := Option.some.inj (hx.symm.trans hra)
      have hro1 := s1 _ _ hro
      have ok := okRun_drop hok ho
      have e := runM_take (s := (cells, m)) ho
      have sl : (runM (cells, m) (os.take i)).1.length = 256 := (run_len _ _).trans hcl
      generalize hst : runM (cells, m) (os.take i) = st at ok e sl hl
      obtain ⟨cs, mk⟩ := st
      have sl : cs.length = 256 := sl
      have cl : (cs.map V.int).length = 256 := by rw [List.length_map]; exact sl
      have SR := SqT.of (K := K) hro1
      -- a cell stored
      have store : ∀ (a : Nat) (v : Int) (y5 y6 y7 : Option V), a < 256 → stepM (cs, mk) o = (cs.set a v, mk) →
          rSetL (.ref l) (.int (a : Int)) (.int v) H' fun H3 => ∃ y5' y6' y7', [some (V.ref p), some (.ref l), some (.int mk), some (.ref t), some (.ref r), y5, y6, y7, none] = [some (V.ref p), some (.ref l), some (.int (runM (cells, m) (os.take (i + 1))).2), some (.ref t), some (.ref r), y5', y6', y7', none] ∧ Same H H3 ∧
            H3 l = some (.lst ((runM (cells, m) (os.take (i + 1))).1.map V.int)) := fun a v y5 y6 y7 ha es => by
        rw [e, es]
        refine ⟨l, _, _, a, rfl, rfl, hl, by rw [cl]; exact ix_nat ha, y5, y6, y7, rfl, su s1 nl, ?_⟩
        rw [upd_same, List.map_set]
      cases o with
      | copy a b =>
        obtain ⟨ha, hb⟩ := ok
        have gb := get_lt (l := cs) (b := b) (by omega)
        refine ⟨_, rfl, ra, _, 0, .str "copy", rfl, rfl, SR, atI_nat (j := 0) rfl, _, rfl, ra, _, 1, .int (a : Int), rfl, rfl, SR, atI_nat (j := 1) rfl, _, rfl, rfl, _, rfl, ifT (by decide +kernel) ?_⟩
        exact ⟨_, rfl, _, rfl, ra, _, 2, .int (b : Int), rfl, rfl, SR, atI_nat (j := 2) rfl, l, _, _, .int (getI cs b), rfl, rfl, SqL.of hl, atI_nat (get_map gb), _, rfl, _, rfl, store a _ _ _ _ ha rfl⟩
      | look a tb =>
        obtain ⟨ha, htb, v0, v1⟩ := ok
        have ga := get_lt (l := cs) (b := a) (by omega)
        obtain ⟨tab, htab⟩ : ∃ tab, tabs9[tb]? = some tab := ⟨_, List.getElem?_eq_getElem (by show tb < 9; exact htb)⟩
        obtain ⟨ta, hta, hta2⟩ := hT.get htab
        have tl := tabs_len tab (List.mem_of_getElem? htab)
        obtain ⟨x, hx2⟩ : ∃ x, tab[(getI cs a).toNat]? = some x := ⟨_, List.getElem?_eq_getElem (by rw [tl]; have : getI cs a < 256 := v1; omega)⟩
        have es : stepM (cs, mk) (.look a tb) = (cs.set a x, mk) := by
          show (cs.set a ((tabs9.getD tb []).getD (getI cs a).toNat 0), mk) = _
          rw [List.getD_eq_getElem?_getD, List.getD_eq_getElem?_getD, htab]
          show (cs.set a ((tab[(getI cs a).toNat]?).getD 0), mk) = _
          rw [hx2]
          rfl
        refine ⟨_, rfl, ra, _, 0, .str "look", rfl, rfl, SR, atI_nat (j := 0) rfl, _, rfl, ra, _, 1, .int (a : Int), rfl, rfl, SR, atI_nat (j := 1) rfl, _, rfl, rfl, _, rfl, ifF (by decide +kernel) ⟨_, rfl, rfl, _, rfl, ifT (by decide +kernel) ?_⟩⟩
        exact ⟨_, rfl, _, rfl, ra, _, 2, .int (tb : Int), rfl, rfl, SR, atI_nat (j := 2) rfl, t, _, _, .ref ta, rfl, rfl, SqT.of (s1 _ _ ht), atI_nat hta, _, rfl, _, rfl, l, _, _, .int (getI cs a), rfl, rfl, SqL.of hl, atI_nat (get_map ga),
          ta, _, _, .int x, rfl, rfl, SqT.of (s1 _ _ hta2), at_of (j := (getI cs a).toNat) (by have : 0 ≤ getI cs a := v0; omega) (get_map hx2), _, rfl, _, rfl, store a _ _ _ _ ha es⟩
      | put a k =>
        refine ⟨_, rfl, ra, _, 0, .str "put", rfl, rfl, SR, atI_nat (j := 0) rfl, _, rfl, ra, _, 1, .int (a : Int), rfl, rfl, SR, atI_nat (j := 1) rfl, _, rfl, rfl, _, rfl, ifF (by decide +kernel) ⟨_, rfl, rfl, _, rfl, ifF (by decide +kernel)
          ⟨_, rfl, rfl, _, rfl, ifF (by decide +kernel) ⟨_, rfl, rfl, _, rfl, ifF (by decide +kernel) ⟨_, rfl, rfl, _, rfl, ifT (by decide +kernel) ?_⟩⟩⟩⟩⟩
        exact ⟨_, rfl, ra, _, 2, .int k, rfl, rfl, SR, atI_nat (j := 2) rfl, _, rfl, _, rfl, store a _ _ _ _ ok rfl⟩
      | band a b =>
        obtain ⟨ha, hb⟩ := ok
        have ga := get_lt (l := cs) (b := a) (by omega)
        have gb := get_lt (l := cs) (b := b) (by omega)
        refine ⟨_, rfl, ra, _, 0, .str "and", rfl, rfl, SR, atI_nat (j := 0) rfl, _, rfl, ra, _, 1, .int (a : Int), rfl, rfl, SR, atI_nat (j := 1) rfl, _, rfl, rfl, _, rfl, ifF (by decide +kernel) ⟨_, rfl, rfl, _, rfl, ifF (by decide +kernel)
          ⟨_, rfl, rfl, _, rfl, ifF (by decide +kernel) ⟨_, rfl, rfl, _, rfl, ifF (by decide +kernel) ⟨_, rfl, rfl, _, rfl, ifF (by decide +kernel) ⟨_, rfl, rfl, _, rfl, ifT (by decide +kernel) ?_⟩⟩⟩⟩⟩⟩
        exact ⟨_, rfl, _, rfl, l, _, _, .int (getI cs a), rfl, rfl, SqL.of hl, atI_nat (get_map ga), _, rfl, _, rfl, ra, _, 2, .int (b : Int), rfl, rfl, SR, atI_nat (j := 2) rfl, l, _, _, .int (getI cs b), rfl, rfl, SqL.of hl, atI_nat (get_map gb), _, _, rfl, rfl, _, rfl, _, rfl, store a _ _ _ _ ha rfl⟩
      | bor a b =>
        obtain ⟨ha, hb⟩ := ok
        have ga := get_lt (l := cs) (b := a) (by omega)
        have gb := get_lt (l := cs) (b := b) (by omega)
        refine ⟨_, rfl, ra, _, 0, .str "or", rfl, rfl, SR, atI_nat (j := 0) rfl, _, rfl, ra, _, 1, .int (a : Int), rfl, rfl, SR, atI_nat (j := 1) rfl, _, rfl, rfl, _, rfl, ifF (by decide +kernel) ⟨_, rfl, rfl, _, rfl, ifF (by decide +kernel)
          ⟨_, rfl, rfl, _, rfl, ifF (by decide +kernel) ⟨_, rfl, rfl, _, rfl, ifF (by decide +kernel) ⟨_, rfl, rfl, _, rfl, ifF (by decide +kernel) ⟨_, rfl, rfl, _, rfl, ifF (by decide +kernel) ⟨_, rfl, rfl, _, rfl, ifT (by decide +kernel) ?_⟩⟩⟩⟩⟩⟩⟩
        exact ⟨_, rfl, _, rfl, l, _, _, .int (getI cs a), rfl, rfl, SqL.of hl, atI_nat (get_map ga), _, rfl, _, rfl, ra, _, 2, .int (b : Int), rfl, rfl, SR, atI_nat (j := 2) rfl, l, _, _, .int (getI cs b), rfl, rfl, SqL.of hl, atI_nat (get_map gb), _, _, rfl, rfl, _, rfl, _, rfl, store a _ _ _ _ ha rfl⟩
      | mark k =>
        refine ⟨_, rfl, ra, _, 0, .str "mark", rfl, rfl, SR, atI_nat (j := 0) rfl, _, rfl, ra, _, 1, .int k, rfl, rfl, SR, atI_nat (j := 1) rfl, _, rfl, rfl, _, rfl, ifF (by decide +kernel) ⟨_, rfl, rfl, _, rfl, ifF (by decide +kernel)
          ⟨_, rfl, rfl, _, rfl, ifF (by decide +kernel) ⟨_, rfl, rfl, _, rfl, ifF (by decide +kernel) ⟨_, rfl, rfl, _, rfl, ifF (by decide +kernel) ⟨_, rfl, rfl, _, rfl, ifF (by decide +kernel) ⟨_, rfl, rfl, _, rfl, ifF (by decide +kernel)
            ⟨_, rfl, rfl, _, rfl, ifF (by decide +kernel) ⟨_, rfl, rfl, _, rfl, ifF (by decide +kernel) ⟨_, rfl, ?_⟩⟩⟩⟩⟩⟩⟩⟩⟩⟩
        rw [e]
        exact ⟨_, _, _, rfl, s1, hl⟩
    · obtain ⟨y5, y6, y7, rfl, s1, hl⟩ := hP
      rw [hR.len, List.take_length] at hl ⊢
      refine ⟨_, rfl, _, rfl, sz (by show 2 ≤ 1000; decide), fun tt ntt => ?_⟩
      exact q _ tt l (fun b x e => cy ntt (s1 _ _ e)) upd_same (cy ntt hl)
end
end K75

/-! _law_filled, _law_after. -/
namespace K75
open PySem PySem.Spec PyProof.Rows L2
section
variable {P : Program} {w : World} {K : PySem.W.Frag} {mg : Str → Option Value} {base : Heap}
abbrev sFilled : Stmt := topS 47
theorem scFilled : FnScope ["_law_cell_here", "_law_salt", "_law_front", "_law_draws_here", "_law_rest", "_law_k", "_law_one"] ["_law_cell_here", "_law_salt", "_law_front"] (defScope sFilled) := ⟨rfl, rfl, rfl, by decide +kernel, rfl, by decide +kernel, by decide +kernel⟩
def spFilled : Sp := fun vs H Q _ => ∃ (c s : Int) (b : Addr) (row : List Int), vs = [.int c, .int s, .ref b] ∧ H b = some (.tup (row.map V.int)) ∧ row.length ≤ 100 ∧
  ∀ H' p l (cells : List Int) (m : Int), Same H H' → H' p = some (.tup [.ref l, .int m]) → H' l = some (.lst (cells.map V.int)) → cells.length = 256 → (∀ i, i < row.length → getI cells i = row.getD i 0) → Q (.ref p) H'
/-- return (list(front) + rest[len(front):], draws[0]) -/
def tFillRet (K : PySem.W.Frag) : TS := tRet (tTup (tCons (tOp rCat (tCB (fun xs H Q => ∃ p ys, xs = [.ref p] ∧ (SqL K H p ys ∨ SqT K H p ys) ∧ ∀ l, H l = none → Q (.ref l) (upd H l (.lst ys))) (tCons (tVar 2) tNil))
          (tSl (rSlL K) (tVar 4) (tPart (tCB (fun xs H Q => ∃ p ys, xs = [.ref p] ∧ (SqL K H p ys ∨ SqT K H p ys) ∧ Q (.int ys.length) H) (tCons (tVar 2) tNil))) tNoPart)) (tCons (tOp (rIxL K) (tVar 3) (tC (.int 0))) tNil)))
/-- if draws[1] > 2: .. and what follows -/
def tFill3 (K : PySem.W.Frag) : TS := tSeq (tIfS (tTest (tOp (rI0 fun i j => .bl (decide (j < i))) (tOp (rIxL K) (tVar 3) (tC (.int 1))) (tC (.int 2))))
          (tSeq (tAsg (tLst tNil) (gName 4)) (tFor (iRng1 (tCons (tC (.int 256)) tNil)) (gName 5)
            (tSeq (tAsg (tOp (rI0 fun i j => .int (i + j)) (tOp (rI CMul fun i j => .int (i * j)) (tOp (rI0 fun i j => .int (i + j)) (tOp (rI CMul fun i j => .int (i * j)) (tOp (rIxL K) (tVar 3) (tC (.int 3))) (tVar 5)) (tOp (rIxL K) (tVar 3) (tC (.int 4)))) (tVar 5)) (tOp (rIxL K) (tVar 3) (tC (.int 5)))) (gName 6))
              (tDrop (tBM K "list" rAppend (tVar 4) (tCons (tOp (rI (fun _ j => 0 < j) fun i j => .int (i % j)) (tOp (rI CDiv fun i j => .int (i / j)) (tOp (rI (fun _ j => 0 < j) fun i j => .int (i % j)) (tVar 6) (tC (.int 65519))) (tC (.int 7))) (tC (.int 256))) tNil)))))) tNext)
          (tFillRet K)
theorem ok_filled {f : Addr} {fd : FuncData} (F : Fun K "_law_filled" "_law_filled" sFilled f fd) (B : Bi mg) (C1 : Cal P w K mg base CX0 2 "_law_draws" ["_law_cell_here", "_law_salt", "_law_widths"] spDraws) : FnOk P w K mg base CX0 3 f fd ["_law_cell_here", "_law_salt", "_law_front"] spFilled := by
  refine F.ok scFilled (fun vs H Q E h => ?_) (fun cdv Ar outer s H vs Q E hr h => ?_)
  · obtain ⟨c, s, b, row, rfl, _⟩ := h
    rfl
  · obtain ⟨c, sa, b, row, rfl, hB, hl, q⟩ := h
    refine ⟨_, pss_cons (ps_set (i := 3) scFilled.nd rfl (.inl rfl) (pe_cal C1 hr pass0 (pa_cons (pv 0) (pa_cons (pv 1) (pa_cons (pe_lst (pa_cons pe_int (pa_cons pe_int (pa_cons pe_int (pa_cons pe_int (pa_cons pe_int (pa_cons pe_int pa_nil))))))) pa_nil)))))
      (pss_cons (ps_set (i := 4) scFilled.nd rfl (.inl rfl) (pe_op op_rep (pe_lst (pa_cons pe_int pa_nil)) pe_int))
      (pss_cons (ps_if (pt_cmpR op_eq (pe_ix ix_list (pv 3) pe_int (fun _ _ => rfl)) pe_int (nomark _)) (pss_one (ps_set (i := 4) scFilled.nd rfl (.inl rfl) (pe_op op_rep (pe_lst (pa_cons pe_int pa_nil)) pe_int))) pss_nil)
      (pss_cons (ps_if (pt_cmpR op_eq (pe_ix ix_list (pv 3) pe_int (fun _ _ => rfl)) pe_int (nomark _)) (pss_one (ps_set (i := 4) scFilled.nd rfl (.inl rfl) (pe_op op_rep (pe_lst (pa_cons (pe_ix ix_list (pv 3) pe_int (fun _ _ => rfl)) pa_nil)) pe_int))) pss_nil)
      (pss_cons (ps_if (pt_cmpR op_gt (pe_ix ix_list (pv 3) pe_int (fun _ _ => rfl)) pe_int (nomark _))
        (pss_cons (ps_set (i := 4) scFilled.nd rfl (.inl rfl) (pe_lst pa_nil))
        (pss_one (ps_for PassesOwn.never rfl (pi_range1 rfl B.range (pa_cons pe_int pa_nil)) (pg_name (i := 5) scFilled.nd rfl (.inl rfl))
          (pss_cons (ps_set (i := 6) scFilled.nd rfl (.inl rfl) (pe_op op_add (pe_op op_mul (pe_op op_add (pe_op op_mul (pe_ix ix_list (pv 3) pe_int (fun _ _ => rfl)) (pv 5)) (pe_ix ix_list (pv 3) pe_int (fun _ _ => rfl))) (pv 5)) (pe_ix ix_list (pv 3) pe_int (fun _ _ => rfl))))
          (pss_one (ps_expr (pe_bm PySem.F.plainAttrs_list PySem.F.slot_list_append PySem.F.type_list_append mt_append (pv 4) (pa_cons (pe_op op_mod (pe_op op_fdiv (pe_op op_mod (pv 6) pe_int) pe_int) pe_int) pa_nil)))))))) pss_nil)
      (pss_one (ps_ret (pe_tup (pa_cons (pe_op op_cat (pe_callTy call_list_of (by rfl) B.list (by decide +kernel) (pa_cons (pv 2) pa_nil)) (pe_slice sl_list (pv 4) (po_some (pe_callB call_len_seq (by rfl) B.len PySem.boot_len (pa_cons (pv 2) pa_nil))) po_none)) (pa_cons (pe_ix ix_list (pv 3) pe_int (fun _ _ => rfl)) pa_nil))))))))), ?_⟩
    refine ⟨_, rfl, _, rfl, sz (by show 6 ≤ 1000; decide), fun lw nw => ⟨c, sa, lw, [2, 5, 256, 65519, 65519, 65519], rfl, upd_same, by decide, by decide, fun H1 pd ds s1 hD hdl _ => ?_⟩⟩
    -- the six draws
    obtain ⟨d0, d1, d2, d3, d4, d5, rfl⟩ : ∃ d0 d1 d2 d3 d4 d5, ds = [d0, d1, d2, d3, d4, d5] := by
      match ds, hdl with
      | [d0, d1, d2, d3, d4, d5], _ => exact ⟨_, _, _, _, _, _, rfl⟩
    have s1' : Same H H1 := fun x y e => s1 _ _ (cy nw e)
    -- what follows the cells' making
    have tail : ∀ (H2 : Hp) (lr : Addr) (rest : List Int) (y5 y6 : Option V), Same H1 H2 → H2 lr = some (.lst (rest.map V.int)) → rest.length = 256 →
        tFillRet K
          { nx := fun _ H' => Q .non H', rt := Q } [some (.int c), some (.int sa), some (.ref b), some (.ref pd), some (.ref lr), y5, y6] H2 := fun H2 lr rest y5 y6 s2 hr2 hrl => by
      have hB2 := s2 _ _ (s1' _ _ hB)
      refine ⟨_, rfl, b, _, rfl, .inr (SqT.of hB2), fun l1 n1 => ⟨_, rfl, _, rfl, b, _, rfl, .inr (SqT.of (cy n1 hB2)), _, rfl, lr, _, rfl, SqL.of (cy n1 hr2), fun l2 n2 => ?_⟩⟩
      have lm : (row.map V.int).length = row.length := List.length_map ..
      have ec : cutV (rest.map V.int) (some (((row.map V.int).length : Nat) : Int)) none = (rest.drop row.length).map V.int := by rw [cut_from, lm, List.map_drop]
      rw [ec]
      refine ⟨l1, l2, _, _, rfl, rfl, cy n2 upd_same, upd_same, sz ?_, fun cc ncc => ⟨_, rfl, pd, _, 0, .int d0, rfl, rfl, SqL.of (cy ncc (cy n2 (cy n1 (s2 _ _ hD)))), atI_nat (j := 0) rfl, sz (by show 2 ≤ 1000; decide), fun p np => ?_⟩⟩
      · rw [lm, List.length_map, List.length_drop, hrl]
        omega
      · refine q _ p cc (row ++ rest.drop row.length) d0 (fun x y e => cy np (cy ncc (cy n2 (cy n1 (s2 _ _ (s1' _ _ e)))))) upd_same ?_ ?_ fun i hi => ?_
        · refine cy np ?_
          rw [upd_same, List.map_append]
        · rw [List.length_append, List.length_drop, hrl]
          omega
        · unfold getI
          rw [List.getD_eq_getElem?_getD, List.getElem?_append_left hi, List.getD_eq_getElem?_getD]
    have rep_is : ∀ z : Int, (List.replicate ((256 : Int)).toNat [V.int z]).flatten = (List.replicate 256 z).map V.int := fun z => by
      rw [rep1, List.map_replicate]
      rfl
    have l256 : ∀ z : Int, (List.replicate 256 z).length = 256 := fun z => List.length_replicate
    refine ⟨sz (by show 1 ≤ 1000; decide), fun l0 n0 => ⟨l0, _, _, rfl, rfl, upd_same, by decide, by decide, sz (by show 1 * 256 ≤ 1000; decide), fun r0 nr0 => ?_⟩⟩
    rw [rep_is]
    -- if draws[1] == 1, == 2, > 2
    have k0 : Same H1 (upd (upd H1 l0 (.lst [.int 0])) r0 (.lst ((List.replicate 256 0).map V.int))) := fun x y e => cy nr0 (cy n0 e)
    have third : ∀ (H2 : Hp) (lr : Addr) (rest : List Int), Same H1 H2 → H2 lr = some (.lst (rest.map V.int)) → rest.length = 256 →
        tFill3 K
          { nx := fun _ H' => Q .non H', rt := Q } [some (.int c), some (.int sa), some (.ref b), some (.ref pd), some (.ref lr), none, none] H2 := fun H2 lr rest s2 hr2 hrl => by
      refine ⟨_, rfl, pd, _, 1, .int d1, rfl, rfl, SqL.of (s2 _ _ hD), atI_nat (j := 1) rfl, _, _, rfl, rfl, _, rfl, ite2 (fun _ => ?_) (fun _ => tail H2 lr rest none none s2 hr2 hrl)⟩
      refine ⟨Nat.zero_le _, fun l3 n3 => ⟨256, rfl, by decide, by decide, for_range (n := 256) (fun i σ H3 => ∃ y5 y6 rs, σ = [some (.int c), some (.int sa), some (.ref b), some (.ref pd), some (.ref l3), y5, y6] ∧ Same H2 H3 ∧ H3 l3 = some (.lst (rs.map V.int)) ∧ rs.length = i)
        ⟨none, none, [], rfl, same_upd n3, upd_same, rfl⟩ (fun i σ H3 hi hP => ?_) (fun σ H3 hP => ?_)⟩⟩
      · obtain ⟨y5, y6, rs, rfl, s3, h3, hrs⟩ := hP
        have SD := SqL.of (K := K) (s3 _ _ (s2 _ _ hD))
        refine ⟨_, rfl, pd, _, 3, .int d3, rfl, rfl, SD, atI_nat (j := 3) rfl, _, rfl, _, _, rfl, rfl, .inr ⟨by omega, by omega⟩, _, rfl, pd, _, 4, .int d4, rfl, rfl, SD, atI_nat (j := 4) rfl, _, _, rfl, rfl, _, rfl, _, _, rfl, rfl, .inr ⟨by omega, by omega⟩, _, rfl, pd, _, 5, .int d5, rfl, rfl, SD, atI_nat (j := 5) rfl, _, _, rfl, rfl, ?_⟩
        refine ⟨_, rfl, .inl ⟨rfl, _, SqL.of h3⟩, _, rfl, _, _, rfl, rfl, (by show (0 : Int) < 65519; decide), _, _, rfl, rfl, ⟨by decide, by decide⟩, _, _, rfl, rfl, (by show (0 : Int) < 256; decide), l3, _, _, rfl, rfl, h3, small1000 (by rw [List.length_map]; omega),
          some (.int (0 + (i : Int))), some (.int ((d3 * (0 + (i : Int)) + d4) * (0 + (i : Int)) + d5)), rs ++ [((d3 * (0 + (i : Int)) + d4) * (0 + (i : Int)) + d5) % 65519 / 7 % 256], rfl, su s3 n3, ?_, ?_⟩
        · rw [upd_same, List.map_append]
          rfl
        · rw [List.length_append, hrs]
          rfl
      · obtain ⟨y5, y6, rs, rfl, s3, h3, hrs⟩ := hP
        exact tail H3 l3 rs y5 y6 (fun x y e => s3 _ _ (s2 _ _ e)) h3 hrs
    have join : ∀ (H2 : Hp) (lr : Addr) (rest : List Int), Same H1 H2 → H2 lr = some (.lst (rest.map V.int)) → rest.length = 256 →
        tIfS (tTest (tOp rEq (tOp (rIxL K) (tVar 3) (tC (.int 1))) (tC (.int 2)))) (tAsg (tOp rRep (tLst (tCons (tOp (rIxL K) (tVar 3) (tC (.int 2))) tNil)) (tC (.int 256))) (gName 4)) tNext
          { nx := tFill3 K { nx := fun _ H' => Q .non H', rt := Q }, rt := Q } [some (.int c), some (.int sa), some (.ref b), some (.ref pd), some (.ref lr), none, none] H2 := fun H2 lr rest s2 hr2 hrl => by
      refine ⟨_, rfl, pd, _, 1, .int d1, rfl, rfl, SqL.of (s2 _ _ hD), atI_nat (j := 1) rfl, rfl, _, rfl, ite2 (fun _ => ?_) (fun _ => third H2 lr rest s2 hr2 hrl)⟩
      refine ⟨_, rfl, pd, _, 2, .int d2, rfl, rfl, SqL.of (s2 _ _ hD), atI_nat (j := 2) rfl, sz (by show 1 ≤ 1000; decide), fun l1 n1 => ⟨l1, _, _, rfl, rfl, upd_same, by decide, by decide, sz (by show 1 * 256 ≤ 1000; decide), fun r1 nr1 => ?_⟩⟩
      rw [rep_is]
      exact third _ r1 (List.replicate 256 d2) (fun x y e => cy nr1 (cy n1 (s2 _ _ e))) upd_same (l256 _)
    refine ⟨_, rfl, pd, _, 1, .int d1, rfl, rfl, SqL.of (k0 _ _ hD), atI_nat (j := 1) rfl, rfl, _, rfl, ite2 (fun _ => ?_) (fun _ => ?_)⟩
    · refine ⟨sz (by show 1 ≤ 1000; decide), fun l1 n1 => ⟨l1, _, _, rfl, rfl, upd_same, by decide, by decide, sz (by show 1 * 256 ≤ 1000; decide), fun r1 nr1 => ?_⟩⟩
      rw [rep_is]
      exact join _ r1 (List.replicate 256 255) (fun x y e => cy nr1 (cy n1 (k0 _ _ e))) upd_same (l256 _)
    · exact join _ r0 (List.replicate 256 0) k0 upd_same (l256 _)
end
end K75

/-! _law_after, _law_just; xs[1::2]. -/
namespace K75
open PySem PySem.Spec PyProof.Rows L2
/-! ### xs[1::2] -/
def oddsA {α : Type} : List α → List α
  | _ :: b :: r => b :: oddsA r
  | _ => []
theorem oddsA_len {α : Type} : ∀ l : List α, (oddsA l).length ≤ l.length
  | [] => Nat.le_refl 0
  | [_] => Nat.zero_le _
  | a :: b :: r => by
    have ih := oddsA_len r
    show (oddsA r).length + 1 ≤ r.length + 1 + 1
    omega
theorem odds_pick {α : Type} : ∀ l : List α, ((List.range (l.length / 2)).map fun k => 1 + 2 * k).filterMap (fun i => l[i]?) = oddsA l
  | [] => by
    have e : ([] : List α).length / 2 = 0 := by
      show 0 / 2 = 0
      decide
    rw [e]
    rfl
  | [a] => by
    have e : [a].length / 2 = 0 := by
      show 1 / 2 = 0
      decide
    rw [e]
    rfl
  | a :: b :: r => by
    have ih := odds_pick r
    have e : (a :: b :: r).length / 2 = r.length / 2 + 1 := by
      show (r.length + 1 + 1) / 2 = _
      omega
    rw [e, List.range_succ_eq_map, List.map_cons, List.filterMap_cons]
    show b :: List.filterMap (fun i => (a :: b :: r)[i]?) (List.map (fun k => 1 + 2 * k) (List.map Nat.succ (List.range (r.length / 2)))) = b :: oddsA r
    rw [← ih, List.map_map, List.filterMap_map, List.filterMap_map]
    congr 1
theorem odds_slice (items : Array Value) : slicePick items (some 1) none (some 2) = (oddsA items.toList).toArray := by
  unfold slicePick
  have hb : sliceBounds (some 1) none (some 2) items.size = (max 0 (min 1 (items.size : Int)), (items.size : Int), 2) := rfl
  rw [hb]
  have hr : sliceRange (max 0 (min 1 (items.size : Int))) (items.size : Int) 2 = (List.range (items.size / 2)).map fun k => 1 + 2 * k := by
    unfold sliceRange
    rw [if_pos (by decide)]
    by_cases h : 2 ≤ items.size
    · have e1 : max 0 (min 1 (items.size : Int)) = 1 := by omega
      rw [e1, if_pos (by omega)]
      have e2 : (((items.size : Int) - 1 + 2 - 1) / 2).toNat = items.size / 2 := by omega
      show List.map (fun k : Nat => (1 + 2 * (k : Int)).toNat) (List.range (((items.size : Int) - 1 + 2 - 1) / 2).toNat) = _
      rw [e2]
      apply List.map_congr_left
      intro k _
      omega
    · have e0 : items.size / 2 = 0 := by omega
      rw [if_neg (by omega), e0]
      rfl
  show ((sliceRange (max 0 (min 1 (items.size : Int))) (items.size : Int) 2).filterMap (items[·]?)).toArray = _
  rw [hr]
  have q := odds_pick items.toList
  rw [Array.length_toList] at q
  rw [← q]
  have ef : (fun i : Nat => items[i]?) = fun i : Nat => items.toList[i]? := funext fun i => (Array.getElem?_toList ..).symm
  rw [ef]
theorem vals_odds : ∀ {xs : List V} {us : List Value}, Vals xs us → Vals (oddsA xs) (oddsA us)
  | _, _, .nil => .nil
  | _, _, .cons _ .nil => .nil
  | _, _, .cons _ (.cons r t) => .cons r (vals_odds t)
def tOdds (K : PySem.W.Frag) (te : TE) : TE := fun σ H Q => te σ H fun x H1 => ∃ a xs, x = .ref a ∧ SqL K H1 a xs ∧ ∀ p, H1 p = none → Q (.ref p) (upd H1 p (.lst (oddsA xs)))
theorem pe_odds {X : Cx} {e : Expr} {te : TE} {k1 k2 : Nat} {p1 p2 p3 pos : Pos} (he : PE X e te) : PE X (.Subscript e (.Slice (some (.Constant (.int 1) k1 p1)) none (some (.Constant (.int 2) k2 p2)) p3) pos) (tOdds X.K te) := by
  refine ⟨fun pins s σ H Q I h => ?_⟩
  refine Subscript_ (thn (he.run pins s σ H _ I h) fun v s1 ⟨x, H1, I1, r1, q1⟩ => ?_)
  obtain ⟨a, xs, ex, hx, q⟩ := q1
  subst ex
  cases r1
  have hlo : PO X (some (.Constant (.int 1) k1 p1)) (tPart (tC (.int 1))) := po_some pe_int
  have hst : PO X (some (.Constant (.int 2) k2 p2)) (tPart (tC (.int 2))) := po_some pe_int
  refine wpAny_Slice (thn (hlo.run pins s1 σ H1 (fun o H2 => o = some 1 ∧ H2 = H1) I1 ⟨1, rfl, rfl, rfl⟩) fun vl s2 ⟨l, H2, I2, pl, el, e2⟩ => ?_)
  subst el e2
  refine thn (po_none.run pins s2 σ H2 (fun o H3 => o = none ∧ H3 = H2) I2 ⟨rfl, rfl⟩) fun vu s3 ⟨u, H3, I3, pu, eu, e3⟩ => ?_
  subst eu e3
  refine thn (hst.run pins s3 σ H3 (fun o H4 => o = some 2 ∧ H4 = H3) I3 ⟨2, rfl, rfl, rfl⟩) fun vs s4 ⟨o, H4, I4, ps, eo, e4⟩ => ?_
  subst eo e4
  have I5 : Inv X pins σ H4 { s4 with heap := s4.heap.push { cls := .type "slice", data := .fields #[vl, vu, vs] } } := I4.kept (t' := s4.toks) fun b ob q => Heap.get?_push_of_some _ q
  obtain ⟨its, r, ht, hz⟩ := I5.list hx
  have hlen := r.length
  show wpAny (model X.prog X.w) X.A (subscriptTail e (.Slice (some (.Constant (.int 1) k1 p1)) none (some (.Constant (.int 2) k2 p2)) p3) (.ref a) (.ref s4.heap.objs.size)) (EP X pins σ Q) X.xe { s4 with heap := s4.heap.push { cls := .type "slice", data := .fields #[vl, vu, vs] } }
  refine tail_any (ops := [.ref a, .ref s4.heap.objs.size]) ht.isList.typeIs (PySem.slot_list_getitem.lookup) ?_ (by with_unfolding_all rfl)
  refine wpAny_getItem_list_slice ht.isList (Heap.IsSliceOf.new _ vl vu vs) pl pu ps (by decide) ?_ (by rw [List.size_toArray]; omega)
  rw [odds_slice]
  have r' : Vals (oddsA xs) (oddsA its.toArray.toList) := vals_odds r
  refine ⟨.ref _, _, I5.laid (t' := s4.toks) (o := .lst (oddsA xs)) (fun b ob q => Heap.get?_push_of_some _ q) (Nat.le_refl _) ?_, rfl, q _ (I5.hok.fresh (Nat.le_refl _))⟩
  exact ⟨Nat.le_trans (oddsA_len xs) hz, _, 0, r', Heap.get?_push_size _ rfl⟩
/-- a comprehension over zip of two tuples of one length -/
theorem lc_zipT {K : PySem.W.Frag} {a b : Addr} {xs ys : List V} {g : TG} {tt : TT} {te : TE} {vs : List Nat} {σ : L2.St} {H1 : Hp} {D : Addr} {Qd : Hp → Prop} (hl : xs.length = ys.length) (Pv : Nat → Hp → Prop) (h0 : Pv 0 (upd H1 D (.lst []))) (hq : ∀ i H, Pv i H → SqT K H a xs ∧ SqT K H b ys)
    (hs : ∀ (i : Nat) (x y : V) (T : Addr) (H : Hp), xs[i]? = some x → ys[i]? = some y → Pv i H → H T = none → g (.ref T) (wipe σ vs) (upd H T (.tup [x, y])) fun σ2 H2 => wipe σ2 vs = wipe σ vs ∧ tt σ2 H2 fun b H3 =>
      if b = true then te σ2 H3 fun y H4 => ∃ acc, H4 D = some (.lst acc) ∧ acc.length < sizeLine ∧ Pv (i + 1) (upd H4 D (.lst (acc ++ [y]))) else Pv (i + 1) H3) (hd : ∀ H, Pv xs.length H → Qd H) :
    ∃ W : Nat → Nat → Hp → Prop, (∃ m, W 0 m (upd H1 D (.lst []))) ∧ ∀ i m H, W i m H →
      ((RZ.ItzT K a b).stop i H ∧ Qd H) ∨ ((RZ.ItzT K a b).go i H ∧ ∃ Nx : Hp → Prop, (∀ H', Nx H' → ∃ m', m' < m ∧ W (i + 1) m' H') ∧ ∀ x H', (RZ.ItzT K a b).yld i H x H' → g x (wipe σ vs) H' fun σ2 H2 => wipe σ2 vs = wipe σ vs ∧ tt σ2 H2 fun b H3 =>
        if b = true then te σ2 H3 fun y H4 => ∃ acc, H4 D = some (.lst acc) ∧ acc.length < sizeLine ∧ Nx (upd H4 D (.lst (acc ++ [y]))) else Nx H3) := by
  refine ⟨fun i m H => m = xs.length - i ∧ i ≤ xs.length ∧ Pv i H, ⟨xs.length, rfl, Nat.zero_le _, h0⟩, ?_⟩
  rintro i m H ⟨rfl, hi, p⟩
  obtain ⟨qx, qy⟩ := hq i H p
  by_cases hlt : i < xs.length
  · have hx : xs[i]? = some xs[i] := List.getElem?_eq_getElem hlt
    have hlt2 : i < ys.length := by omega
    have hy : ys[i]? = some ys[i] := List.getElem?_eq_getElem hlt2
    refine .inr ⟨⟨xs, ys, _, _, qx, qy, hx, hy⟩, Pv (i + 1), fun H' p' => ⟨xs.length - (i + 1), by omega, rfl, hlt, p'⟩, fun v H' y => ?_⟩
    obtain ⟨T, x', y', rfl, hT, rfl, f1, f2⟩ := y
    exact hs i x' y' T _ (f1 xs qx) (f2 ys qy) p hT
  · have e : i = xs.length := by omega
    subst e
    exact .inl ⟨⟨xs, ys, qx, qy, Or.inl (Nat.le_refl _)⟩, hd H p⟩
section
variable {P : Program} {w : World} {K : PySem.W.Frag} {mg : Str → Option Value} {base : Heap}
/-! ### _law_after -/
abbrev sAfter : Stmt := topS 48
theorem scAfter : FnScope ["_law_program", "_law_front", "_law_cell_here", "_law_salt", "_law_many", "_law_cells", "_law_mark"] ["_law_program", "_law_front", "_law_cell_here", "_law_salt", "_law_many"] (defScope sAfter) := ⟨rfl, rfl, rfl, by decide +kernel, rfl, by decide +kernel, by decide +kernel⟩
def spAfter : Sp := fun vs H Q _ => ∃ (p b : Addr) (c s : Int) (ds : List Duty) (row : List Int), vs = [.ref p, .ref b, .int c, .int s, .int 1] ∧ ProgAt H p (checkOps ds) ∧ H b = some (.tup (row.map V.int)) ∧ ds.length = 2 * row.length ∧ row.length ≤ 100 ∧ Bytes row ∧
  ∀ H' q t, Same H H' → H' t = some (.tup [.int (codeM (caughtM ds (halves row) 0))]) → H' q = some (.tup [.ref t, .int 0]) → Q (.ref q) H'
theorem ok_after {f : Addr} {fd : FuncData} (F : Fun K "_law_after" "_law_after" sAfter f fd) (B : Bi mg) (C1 : Cal P w K mg base CX0 3 "_law_filled" ["_law_cell_here", "_law_salt", "_law_front"] spFilled)
    (C2 : Cal P w K mg base CX0 1 "_law_run" ["_law_program", "_law_cells", "_law_mark"] (spRun K)) : FnOk P w K mg base CX0 4 f fd ["_law_program", "_law_front", "_law_cell_here", "_law_salt", "_law_many"] spAfter := by
  refine F.ok scAfter (fun vs H Q E h => ?_) (fun cdv Ar outer s H vs Q E hr h => ?_)
  · obtain ⟨p, b, c, s, ds, row, rfl, _⟩ := h
    rfl
  · obtain ⟨p, b, c, sa, ds, row, rfl, hP, hB, hdl, hrl, hby, q⟩ := h
    have hr1 : Room 1 _ := hr.mono (by decide)
    refine ⟨_, pss_cons (ps_asg (pe_cal C1 hr pass0 (pa_cons (pv 2) (pa_cons (pv 3) (pa_cons (pv 1) pa_nil)))) (pg_tup rfl (pgs_cons (pg_name (i := 5) scAfter.nd rfl (.inl rfl)) (pgs_cons (pg_name (i := 6) scAfter.nd rfl (.inl rfl)) pgs_nil))))
      (pss_cons (ps_asg (pe_cal C2 hr1 pass0 (pa_cons (pv 0) (pa_cons (pv 5) (pa_cons (pv 6) pa_nil)))) (pg_tup rfl (pgs_cons (pg_name (i := 5) scAfter.nd rfl (.inl rfl)) (pgs_cons (pg_name (i := 6) scAfter.nd rfl (.inl rfl)) pgs_nil))))
      (pss_one (ps_ret (pe_tup (pa_cons (pe_callTy call_tuple_of (by rfl) B.tuple (by decide +kernel) (pa_cons (pe_slice sl_list (pv 5) po_none (po_some (pv 4))) pa_nil)) (pa_cons (pv 6) pa_nil)))))), ?_⟩
    refine ⟨_, rfl, _, rfl, _, rfl, c, sa, b, row, rfl, hB, hrl, fun H1 pf l cells m s1 hpf hl hcl hci => ?_⟩
    refine ⟨pf, _, rfl, SqT.of hpf, rfl, _, _, rfl, _, _, rfl, rfl, ?_⟩
    obtain ⟨k1, k2, k3⟩ := check_run (ds := ds) (row := row) (cells := cells) (m := m) hcl hdl hrl hby hci
    refine ⟨_, rfl, _, rfl, _, rfl, p, l, checkOps ds, cells, m, rfl, hP.same s1, SqL.of hl, hcl, k1, fun H2 t2 l2 s2 ht2 hl2 => ?_⟩
    refine ⟨t2, _, rfl, SqT.of ht2, rfl, _, _, rfl, _, _, rfl, rfl, ?_⟩
    have len2 : (runM (cells, m) (checkOps ds)).1.length = 256 := (run_len _ _).trans hcl
    have e1 : cutV ((runM (cells, m) (checkOps ds)).1.map V.int) none (some 1) = [.int (codeM (caughtM ds (halves row) 0))] := by
      rw [show (some (1 : Int)) = some ((1 : Nat) : Int) from rfl, cut_to, ← k2]
      cases hc : (runM (cells, m) (checkOps ds)).1 with
      | nil =>
        rw [hc] at len2
        cases len2
      | cons x r => rfl
    refine ⟨_, rfl, .int 1, rfl, 1, rfl, l2, _, rfl, SqL.of hl2, fun l3 n3 => ?_⟩
    rw [e1]
    refine ⟨l3, _, rfl, .inl ⟨SqL.of upd_same, fun t3 nt3 => ⟨_, rfl, sz (by show 2 ≤ 1000; decide), fun qq nq => ?_⟩⟩⟩
    rw [k3]
    exact q _ qq t3 (fun x y e => cy nq (cy nt3 (cy n3 (s2 _ _ (s1 _ _ e))))) (cy nq upd_same) upd_same
end
end K75

/-! _law_just. -/
namespace K75
open PySem PySem.Spec PyProof.Rows L2
/-- ints, texts, None -/
inductive Leaf : V → Prop
  | int (i : Int) : Leaf (.int i)
  | str (z : Str) : Leaf (.str z)
  | non : Leaf .non
section
variable {P : Program} {w : World} {K : PySem.W.Frag} {mg : Str → Option Value} {base : Heap}
abbrev sJust : Stmt := topS 49
theorem scJust : FnScope ["_law_found", "_law_due", "_law_part", "_law_wanted"] ["_law_found", "_law_due"] (defScope sJust) := ⟨rfl, rfl, rfl, by decide +kernel, rfl, by decide +kernel, by decide +kernel⟩
def spJust1 : Sp := fun vs H Q _ => ∃ x, vs = [x, x] ∧ Leaf x ∧ Q (.bl true) H
def spJust2 : Sp := fun vs H Q _ => ∃ (a b : Addr) (x y : V), vs = [.ref a, .ref b] ∧ H a = some (.tup [x, y]) ∧ H b = some (.tup [x, y]) ∧ Leaf x ∧ Leaf y ∧ ∀ H', Same H H' → Q (.bl true) H'
theorem pe_isi {X : Cx} {e : Expr} {te : TE} {T : String} {nm : Str} {p p1 pos : Pos} (he : PE X e te) (hm : X.mg "isinstance" = none) (hT : X.mg nm = none) (hv : bootBuiltins nm = some (.type T)) (hg : Gl X "isinstance" := by rfl) (hgT : Gl X nm := by rfl)
    (hn : nm ≠ "__name__" := by decide) (hd : (nm == ("__debug__" : Str)) = false := by decide)
    (hs : starEach (e :: [.Name nm p1]) X.env = (false, eval e X.env) :: starEach [.Name nm p1] X.env := by rfl) (hpl : (backTo pos (starEach [.Name nm p1] X.env)).any (·.1) = false := by rfl) (hs1 : starEach ((.Name nm p1) :: []) X.env = (false, eval (.Name nm p1) X.env) :: starEach [] X.env := by rfl) :
    PE X (.Call (.Name "isinstance" p) [e, .Name nm p1] [] pos) (tCB (rIsi X.K) (tCons te (tCons (tC (.ty T)) tNil))) :=
  pe_callB call_isi hg hm PyProof.Rows.boot_isinstance (pa_cons he (pa_cons (pe_bltn hgT hT hv rfl hn hd) pa_nil hs1) hs) (by decide) (by decide) hs hpl
theorem ok_just1 {f : Addr} {fd : FuncData} (F : Fun K "_law_just" "_law_just" sJust f fd) (B : Bi mg) : FnOk P w K mg base CX0 1 f fd ["_law_found", "_law_due"] spJust1 := by
  refine F.ok scJust (fun vs H Q E h => ?_) (fun cdv Ar outer s H vs Q E hr h => ?_)
  · obtain ⟨x, rfl, _⟩ := h
    rfl
  · obtain ⟨x, rfl, lx, q⟩ := h
    refine ⟨_, pss_cons (ps_if (pt_val (pe_isi (pv 1) B.isinstance B.tuple PyProof.Rows.boot_tuple)) pss_never pss_nil)
      (pss_cons (ps_if (PW.pt (pw_or (pt_val (pe_isi (pv 1) B.isinstance B.str PyProof.Rows.boot_str)) (pw_or1 (pt_cmp (pc_isN (pv 1))))))
        (pss_one (ps_ret (pe_and (pe_cmpR op_eq (pe_isi (pv 0) B.isinstance B.str PyProof.Rows.boot_str) (pe_isi (pv 1) B.isinstance B.str PyProof.Rows.boot_str) (nomark _)) (pe_one (pe_cmpR op_eq (pv 0) (pv 1) (nomark _)))))) pss_nil)
      (pss_cons (ps_if (PW.pt (pw_or (pt_not (pt_val (pe_isi (pv 0) B.isinstance B.int PyProof.Rows.boot_int))) (pw_or1 (pt_cmpR op_ne (pe_isi (pv 0) B.isinstance B.bool PyProof.Rows.boot_bool) (pe_isi (pv 1) B.isinstance B.bool PyProof.Rows.boot_bool) (nomark _)))))
        pss_never pss_nil)
      (pss_one (ps_ret (pe_cmpR op_eq (pv 0) (pv 1) (nomark _)))))), ?_⟩
    cases lx with
    | int i =>
      have ti : TyX K H (.int i) (.type "int") := .base (.int i)
      refine ⟨_, rfl, _, _, _, _, false, rfl, .ty "tuple", ti, kit_ty (by decide +kernel), _, rfl, iteF ?_⟩
      refine ⟨_, rfl, _, _, _, _, false, rfl, .ty "str", ti, kit_ty (by decide +kernel), _, rfl, iteF ⟨_, rfl, _, rfl, iteF ?_⟩⟩
      refine ⟨_, rfl, _, _, _, _, true, rfl, .ty "int", ti, kit_ty (by decide +kernel), _, rfl, iteF ⟨_, rfl, _, _, _, _, false, rfl, .ty "bool", ti, kit_ty (by decide +kernel), _, rfl, _, _, _, _, false, rfl, .ty "bool", ti, kit_ty (by decide +kernel), rfl, _, rfl, iteF ?_⟩⟩
      refine ⟨_, rfl, _, rfl, rfl, ?_⟩
      rw [decide_eq_true rfl]
      exact q
    | str z =>
      have ti : TyX K H (.str z) (.type "str") := .base (.str z)
      refine ⟨_, rfl, _, _, _, _, false, rfl, .ty "tuple", ti, kit_ty (by decide +kernel), _, rfl, iteF ?_⟩
      refine ⟨_, rfl, _, _, _, _, true, rfl, .ty "str", ti, kit_ty (by decide +kernel), _, rfl, iteT (iteT ?_)⟩
      refine ⟨_, rfl, _, _, _, _, true, rfl, .ty "str", ti, kit_ty (by decide +kernel), _, rfl, _, _, _, _, true, rfl, .ty "str", ti, kit_ty (by decide +kernel), rfl, _, rfl, iteT ⟨_, rfl, _, rfl, rfl, ?_⟩⟩
      rw [decide_eq_true rfl]
      exact q
    | non =>
      have ti : TyX K H .non (.type "NoneType") := .base .non
      refine ⟨_, rfl, _, _, _, _, false, rfl, .ty "tuple", ti, kit_ty (by decide +kernel), _, rfl, iteF ?_⟩
      refine ⟨_, rfl, _, _, _, _, false, rfl, .ty "str", ti, kit_ty (by decide +kernel), _, rfl, iteF ⟨_, rfl, _, rfl, iteT ?_⟩⟩
      refine ⟨_, rfl, _, _, _, _, false, rfl, .ty "str", ti, kit_ty (by decide +kernel), _, rfl, _, _, _, _, false, rfl, .ty "str", ti, kit_ty (by decide +kernel), rfl, _, rfl, iteT ⟨_, rfl, _, rfl, rfl, ?_⟩⟩
      exact q
theorem ok_just2 {f : Addr} {fd : FuncData} (F : Fun K "_law_just" "_law_just" sJust f fd) (B : Bi mg) (C1 : Cal P w K mg base CX0 1 "_law_just" ["_law_found", "_law_due"] spJust1) : FnOk P w K mg base CX0 2 f fd ["_law_found", "_law_due"] spJust2 := by
  refine F.ok scJust (fun vs H Q E h => ?_) (fun cdv Ar outer s H vs Q E hr h => ?_)
  · obtain ⟨a, b, x, y, rfl, _⟩ := h
    rfl
  · obtain ⟨a, b, x, y, rfl, hA, hB, lx, ly, q⟩ := h
    refine ⟨_, pss_cons (ps_if (pt_val (pe_isi (pv 1) B.isinstance B.tuple PyProof.Rows.boot_tuple))
        (pss_cons (ps_if (PW.pt (pw_or (pt_not (pt_val (pe_isi (pv 0) B.isinstance B.tuple PyProof.Rows.boot_tuple))) (pw_or1 (pt_cmpR op_ne (pe_callB call_len_seq (by rfl) B.len PySem.boot_len (pa_cons (pv 0) pa_nil)) (pe_callB call_len_seq (by rfl) B.len PySem.boot_len (pa_cons (pv 1) pa_nil)) (nomark _))))) pss_never pss_nil)
        (pss_one (ps_ret (pe_callB (cr_all rfl) (by rfl) B.all PyProof.Rows.boot_all (pa_cons
          (pe_lc (own := [("_law_part", 2), ("_law_wanted", 3)]) (g := gTup K 2 (gCons (gName 2) (gCons (gName 3) gNil))) (tt := tYes) (te := tCall spJust1 [] E0 (tCons (tVar 2) (tCons (tVar 3) tNil))) rfl scJust.nd
            (RZ.pi_zipA (by rfl) B.zip (pa_cons (pv 0) (pa_cons (pv 1) pa_nil)))
            (blkOk_by (own := [("_law_part", 2), ("_law_wanted", 3)]) (N := ["_law_found", "_law_due", "_law_part", "_law_wanted"]) (sc := defScope sJust) (by decide +kernel))
            (fun _ _ _ _ _ => pg_tup rfl (pgs_cons (pg_name (i := 2) scJust.nd rfl (Or.inl rfl)) (pgs_cons (pg_name (i := 3) scJust.nd rfl (Or.inl rfl)) pgs_nil))) (fun _ _ _ _ _ => pts_nil)
            (fun _ _ _ _ _ => pe_cal C1 hr pass0 (pa_cons (pv 2) (pa_cons (pv 3) pa_nil)))) pa_nil))))) pss_nil) pss_never, ?_⟩
    refine ⟨_, rfl, _, _, _, _, true, rfl, .ty "tuple", .base (.tup hB), kit_ty (by decide +kernel), _, rfl, iteT ?_⟩
    refine ⟨_, rfl, _, _, _, _, true, rfl, .ty "tuple", .base (.tup hA), kit_ty (by decide +kernel), _, rfl, iteF ⟨_, rfl, a, _, rfl, .inr (SqT.of hA), _, rfl, b, _, rfl, .inr (SqT.of hB), rfl, _, rfl, iteF ?_⟩⟩
    refine ⟨_, rfl, _, rfl, a, b, [x, y], [x, y], rfl, .inr ⟨SqT.of hA, SqT.of hB, fun D nD => lc_zipT (K := K) (a := a) (b := b) (xs := [x, y]) (ys := [x, y]) rfl
      (fun i H' => Same H H' ∧ H' D = some (.lst ((List.replicate i true).map V.bl))) ⟨same_upd nD, upd_same⟩ (fun i H' hP => ⟨SqT.of (hP.1 _ _ hA), SqT.of (hP.1 _ _ hB)⟩) (fun i u v T H' hu hv hP nT => ?_) (fun H' hP => ?_)⟩⟩
    · obtain ⟨s1, hD⟩ := hP
      obtain rfl : u = v := Option.some.inj (hu.symm.trans hv)
      have lu : Leaf u := by
        match i, hu with
        | 0, hu =>
          have e : x = u := Option.some.inj hu
          rw [← e]
          exact lx
        | 1, hu =>
          have e : y = u := Option.some.inj hu
          rw [← e]
          exact ly
        | i + 2, hu => simp at hu
      have il : i < 2 := (List.getElem?_eq_some_iff.mp hu).1
      refine ⟨T, [u, u], rfl, SqT.of upd_same, rfl, _, _, rfl, _, _, rfl, rfl, rfl, ?_⟩
      refine iteT (B := Same H (upd H' T (.tup [u, u])) ∧ (upd H' T (.tup [u, u])) D = some (.lst ((List.replicate (i + 1) true).map V.bl))) ?_
      refine ⟨_, rfl, _, rfl, u, rfl, lu, _, cy nT hD, small1000 (by rw [List.length_map, List.length_replicate]; omega), su (fun b x e => cy nT (s1 _ _ e)) nD, ?_⟩
      rw [upd_same, List.replicate_succ', List.map_append]
      rfl
    · obtain ⟨s1, hD⟩ := hP
      refine ⟨D, [true, true], rfl, SqL.of hD, ?_⟩
      exact q _ s1
end
end K75

/-! _law_caught. -/
namespace K75
open PySem PySem.Spec PyProof.Rows L2
/-- a statement, then the rest from a word J of what stands between -/
def tCut (t u : TS) : TS := fun D σ H => ∃ J : L2.St → Hp → Prop, t { D with nx := J } σ H ∧ ∀ σ' H', J σ' H' → u D σ' H'
theorem pss_mid {X : Cx} {st : Stmt} {rest : List Stmt} {t u : TS} (h1 : PS X st t) (h2 : PSs X rest u) : PSs X (st :: rest) (tCut t u) := by
  refine ⟨fun pins s σ H D I h => ?_⟩
  obtain ⟨J, ht, hu⟩ := h
  refine wpAny_execs_cons (thn (h1.run pins s σ H { D with nx := J } I ht) fun f s1 q => ?_)
  cases f with
  | next =>
    obtain ⟨σ', H', I', q⟩ := q
    exact h2.run pins s1 σ' H' D I' (hu σ' H' q)
  | ret v => exact q
  | brk => exact q
  | cont => exact q
def lowB : Duty → Int
  | .ahead => 0
  | .figure => 0
  | .zone => 15
  | .sign => 10
def highB : Duty → Int
  | .ahead => 0
  | .figure => 9
  | .zone => 15
  | .sign => 15
theorem bounds_right {d : Duty} {h : Int} (h0 : 0 ≤ h) (h1 : h < 16) : rightB d h = (decide (lowB d ≤ h) && decide (h ≤ highB d)) := by
  cases d <;> (unfold rightB lowB highB; rw [Bool.eq_iff_iff]; simp only [Bool.and_eq_true, decide_eq_true_eq]; omega)
section
variable {P : Program} {w : World} {K : PySem.W.Frag} {mg : Str → Option Value} {base : Heap}
abbrev sLCaught : Stmt := topS 50
theorem scLCaught : FnScope ["_law_form_here", "_law_row", "_law_due", "_law_halves", "_law_byte", "_law_bounds", "_law_place", "_law_low", "_law_high"] ["_law_form_here", "_law_row"] (defScope sLCaught) := ⟨rfl, rfl, rfl, by decide +kernel, rfl, by decide +kernel, by decide +kernel⟩
def spLCaught : Sp := fun vs H Q _ => ∃ (a : Addr) (k : Kd) (n : Nat) (g : Sg) (pt : Int) (b : Addr) (row : List Int), vs = [.ref a, .ref b] ∧ H a = some (.tup (fm k n g pt)) ∧ 1 ≤ n ∧ n ≤ 12 ∧ H b = some (.tup (row.map V.int)) ∧ row.length = width k n g ∧ Bytes row ∧
  (caughtM (due k n g) (halves row) 0 = none → ∀ H', Same H H' → Q .non H') ∧
  (∀ i d, caughtM (due k n g) (halves row) 0 = some (i, d) → ∀ H' p, Same H H' → H' p = some (.tup [.int ((i : Nat) : Int), dv d]) → Q (.ref p) H')
/-- the dict of bounds: its pairs -/
def bkvs (t1 t2 t3 t4 : Addr) : List (Key × V) := [(Sum.inr "ahead", .ref t1), (Sum.inr "figure", .ref t2), (Sum.inr "zone", .ref t3), (Sum.inr "sign", .ref t4)]
theorem bkvs_merge (t1 t2 t3 t4 : Addr) : mergeK [] (bkvs t1 t2 t3 t4) = bkvs t1 t2 t3 t4 := by
  rfl
theorem ok_lcaught {f : Addr} {fd : FuncData} (F : Fun K "_law_caught" "_law_caught" sLCaught f fd) (B : Bi mg) : FnOk P w K mg base CX0 1 f fd ["_law_form_here", "_law_row"] spLCaught := by
  refine F.ok scLCaught (fun vs H Q E h => ?_) (fun cdv Ar outer s H vs Q E hr h => ?_)
  · obtain ⟨a, k, n, g, pt, b, row, rfl, _⟩ := h
    rfl
  · obtain ⟨a, k, n, g, pt, b, row, rfl, hA, h1, h2, hB, hl, hby, qN, qS⟩ := h
    refine ⟨_, pss_cons (ps_set (i := 2) scLCaught.nd rfl (.inl rfl) (pe_op op_rep (pe_lst (pa_cons pe_str pa_nil)) (pe_ix ix_tup (pv 0) pe_int (fun _ _ => rfl))))
      (pss_mid (ps_if (pt_cmpR op_eq (pe_ix ix_tup (pv 0) pe_int (fun _ _ => rfl)) pe_str (nomark _)) (pss_one (ps_expr (pe_bm PySem.F.plainAttrs_list PySem.F.slot_list_append PySem.F.type_list_append mt_append (pv 2) (pa_cons pe_str pa_nil)))) pss_nil)
      (pss_cons (ps_set (i := 2) scLCaught.nd rfl (.inl rfl) (pe_op op_cat (pe_op op_rep (pe_lst (pa_cons pe_str pa_nil)) (pe_op op_mod (pe_callB call_len_seq (by rfl) B.len PySem.boot_len (pa_cons (pv 2) pa_nil)) pe_int)) (pv 2)))
      (pss_mid (ps_if (pt_cmpR op_eq (pe_ix ix_tup (pv 0) pe_int (fun _ _ => rfl)) pe_str (nomark _))
        (pss_cons (ps_set (i := 2) scLCaught.nd rfl (.inl rfl) (pe_op op_rep (pe_lst (pa_cons pe_str (pa_cons pe_str pa_nil))) (pe_ix ix_tup (pv 0) pe_int (fun _ _ => rfl))))
        (pss_one (ps_if (pt_cmpR op_eq (pe_ix ix_tup (pv 0) pe_int (fun _ _ => rfl)) pe_str (nomark _)) (pss_one (ps_asg pe_str (pg_sub (pv 2) (pe_un un_neg pe_int) set_list))) pss_nil))) pss_nil)
      (pss_cons (ps_set (i := 3) scLCaught.nd rfl (.inl rfl) (pe_lst pa_nil))
      (pss_cons (ps_for PassesOwn.never rfl (pi_tup (pv 1)) (pg_name (i := 4) scLCaught.nd rfl (.inl rfl))
        (pss_one (ps_set (i := 3) scLCaught.nd rfl (.inl rfl) (pe_op op_cat (pv 3) (pe_lst (pa_cons (pe_op op_fdiv (pv 4) pe_int) (pa_cons (pe_op op_mod (pv 4) pe_int) pa_nil)))))))
      (pss_cons (ps_set (i := 5) scLCaught.nd rfl (.inl rfl) (pe_disp (pps_cons pe_str (pe_tup (pa_cons pe_int (pa_cons pe_int pa_nil))) (pps_cons pe_str (pe_tup (pa_cons pe_int (pa_cons pe_int pa_nil))) (pps_cons pe_str (pe_tup (pa_cons pe_int (pa_cons pe_int pa_nil))) (pps_cons pe_str (pe_tup (pa_cons pe_int (pa_cons pe_int pa_nil))) pps_nil)))) (by rfl) (by rfl) (fun z => by cases z) (by decide)))
      (pss_cons (ps_for PassesOwn.never rfl (pi_range1 rfl B.range (pa_cons (pe_callB call_len_seq (by rfl) B.len PySem.boot_len (pa_cons (pv 2) pa_nil)) pa_nil)) (pg_name (i := 6) scLCaught.nd rfl (.inl rfl))
        (pss_cons (ps_if (pt_cmpR op_ge (pv 6) (pe_callB call_len_seq (by rfl) B.len PySem.boot_len (pa_cons (pv 3) pa_nil)) (nomark _)) pss_never pss_nil)
        (pss_cons (ps_asg (pe_dget (hu_of hr) (pv 5) (pe_ix ix_list (pv 2) (pv 6) (fun _ _ => rfl)) (fun _ _ => rfl)) (pg_tup rfl (pgs_cons (pg_name (i := 7) scLCaught.nd rfl (.inl rfl)) (pgs_cons (pg_name (i := 8) scLCaught.nd rfl (.inl rfl)) pgs_nil))))
        (pss_one (ps_if (pt_not (pt_chain op_le op_le (pv 7) (pe_ix ix_list (pv 3) (pv 6) (fun _ _ => rfl)) (pv 8)))
          (pss_one (ps_ret (pe_tup (pa_cons (pv 6) (pa_cons (pe_ix ix_list (pv 2) (pv 6) (fun _ _ => rfl)) pa_nil))))) pss_nil)))))
      (pss_cons (ps_if (pt_cmpR op_gt (pe_callB call_len_seq (by rfl) B.len PySem.boot_len (pa_cons (pv 3) pa_nil)) (pe_callB call_len_seq (by rfl) B.len PySem.boot_len (pa_cons (pv 2) pa_nil)) (nomark _)) pss_never pss_nil)
      (pss_one (ps_ret pe_non)))))))))), ?_⟩
    have wl := width_le (k := k) (g := g) h2
    have dl := due_len k n g
    have hge := g.e_le
    -- due = ['figure'] * n
    refine ⟨sz (by show 1 ≤ 1000; decide), fun l1 n1 => ⟨_, rfl, a, _, 1, .int (n : Int), rfl, rfl, SqT.of (cy n1 hA), atI_nat (j := 1) rfl, l1, _, _, rfl, rfl, upd_same, by omega, by omega, sz (by show 1 * n ≤ 1000; omega), fun r1 nr1 => ?_⟩⟩
    rw [show (n : Int).toNat = n from rfl, rep1]
    have s1 : Same H (upd (upd H l1 (.lst [.str "figure"])) r1 (.lst (List.replicate n (V.str "figure")))) := fun x y e => cy nr1 (cy n1 e)
    -- if end: append
    refine ⟨fun σ H' => ∃ l, σ = [some (.ref a), some (.ref b), some (.ref l), none, none, none, none, none, none] ∧ Same H H' ∧ H' l = some (.lst (List.replicate n (V.str "figure") ++ List.replicate g.e (V.str "sign"))), ?_, fun σ H' hJ => ?_⟩
    · refine ⟨_, rfl, a, _, 2, .str g.s, rfl, rfl, SqT.of (s1 _ _ hA), atI_nat (j := 2) rfl, rfl, _, rfl, ?_⟩
      rw [d_en]
      by_cases c : g = .en
      · refine ifT (decide_eq_true c) ⟨_, rfl, .inl ⟨rfl, _, SqL.of upd_same⟩, r1, _, _, rfl, rfl, upd_same, small1000 (by rw [List.length_replicate]; omega), ?_⟩
        rw [upd_upd]
        refine ⟨r1, rfl, fun x y e => cy nr1 (cy n1 e), ?_⟩
        rw [upd_same, c]
        rfl
      · refine ifF (decide_eq_false c) ⟨r1, rfl, s1, ?_⟩
        have ge : g.e = 0 := by cases g <;> first | rfl | exact absurd rfl c
        rw [upd_same, ge]
        show _ = some (HO.lst (List.replicate n (V.str "figure") ++ []))
        rw [List.append_nil]
    obtain ⟨l, rfl, s2, hL⟩ := hJ
    -- due = ['ahead'] * (len(due) % 2) + due
    have hln : (List.replicate n (V.str "figure") ++ List.replicate g.e (V.str "sign")).length = n + g.e := by rw [List.length_append, List.length_replicate, List.length_replicate]
    refine ⟨sz (by show 1 ≤ 1000; decide), fun l2 n2 => ⟨_, rfl, l, _, rfl, .inl (SqL.of (cy n2 hL)), _, _, rfl, rfl, (by show (0 : Int) < 2; decide), ?_⟩⟩
    have ep : (((List.replicate n (V.str "figure") ++ List.replicate g.e (V.str "sign")).length : Nat) : Int) % 2 = ((pad n g : Nat) : Int) := by
      rw [hln]
      unfold pad
      omega
    dsimp only
    rw [ep]
    have hpad : pad n g ≤ 1 := by unfold pad; omega
    refine ⟨l2, _, _, rfl, rfl, upd_same, by omega, by omega, sz (by show 1 * pad n g ≤ 1000; omega), fun r2 nr2 => ⟨_, rfl, r2, l, _, _, rfl, rfl, upd_same, cy nr2 (cy n2 hL), sz ?_, fun c1 nc1 => ?_⟩⟩
    · show (List.replicate (pad n g) [V.str "ahead"]).flatten.length + _ ≤ 1000
      rw [rep1, hln, List.length_replicate]
      omega
    -- if spread: ..
    refine ⟨fun σ H' => ∃ l, σ = [some (.ref a), some (.ref b), some (.ref l), none, none, none, none, none, none] ∧ Same H H' ∧ H' l = some (.lst ((due k n g).map dv)), ?_, fun σ H3 hJ => ?_⟩
    · have kk : ∀ x y, H' x = some y → _ := fun x y e => cy (o := .lst ((List.replicate ((pad n g : Nat) : Int).toNat [V.str "ahead"]).flatten ++ (List.replicate n (V.str "figure") ++ List.replicate g.e (V.str "sign")))) nc1 (cy nr2 (cy n2 e))
      refine ⟨_, rfl, a, _, 0, .str k.s, rfl, rfl, SqT.of (kk _ _ (s2 _ _ hA)), atI_nat (j := 0) rfl, rfl, _, rfl, ?_⟩
      rw [d_sp]
      cases k with
      | pk =>
        refine ifF rfl ⟨c1, rfl, fun x y e => kk _ _ (s2 _ _ e), ?_⟩
        rw [upd_same, ← due_pk, List.append_assoc]
        show some (HO.lst ((List.replicate (pad n g) [V.str "ahead"]).flatten ++ _)) = _
        rw [rep1]
      | sp =>
        refine ifT rfl ?_
        refine ⟨sz (by show 2 ≤ 1000; decide), fun l3 n3 => ⟨_, rfl, a, _, 1, .int (n : Int), rfl, rfl, SqT.of (cy n3 (kk _ _ (s2 _ _ hA))), atI_nat (j := 1) rfl, l3, _, _, rfl, rfl, upd_same, by omega, by omega, sz (by show 2 * n ≤ 1000; omega), fun r3 nr3 => ?_⟩⟩
        refine ⟨_, rfl, a, _, 2, .str g.s, rfl, rfl, SqT.of (cy nr3 (cy n3 (kk _ _ (s2 _ _ hA)))), atI_nat (j := 2) rfl, rfl, _, rfl, ?_⟩
        rw [d_en, show (n : Int).toNat = n from rfl, zf_dv]
        by_cases c : g = .en
        · subst c
          refine ifT (decide_eq_true rfl) ⟨_, rfl, 2, rfl, r3, _, _, 2 * n - 2, rfl, rfl, upd_same, ?_, ?_⟩
          · rw [List.length_map, zf_len]
            exact ix_neg2 h1
          rw [upd_upd]
          refine ⟨r3, rfl, fun x y e => cy nr3 (cy n3 (kk _ _ (s2 _ _ e))), ?_⟩
          rw [upd_same, due_sp_en]
        · refine ifF (decide_eq_false c) ⟨r3, rfl, fun x y e => cy nr3 (cy n3 (kk _ _ (s2 _ _ e))), ?_⟩
          rw [upd_same, due_sp n c]
    obtain ⟨pd, rfl, s3, hD⟩ := hJ
    -- halves
    refine ⟨Nat.zero_le _, fun lh nh => ?_⟩
    have hlh : (halves row).length = 2 * width k n g := by rw [halves_len, hl]
    refine ⟨_, rfl, b, rfl, ⟨_, SqT.of (cy nh (s3 _ _ hB))⟩, for_tup (K := K) (a := b) (xs := row.map V.int) (fun i σ H' => ∃ y ph, σ = [some (.ref a), some (.ref b), some (.ref pd), some (.ref ph), y, none, none, none, none] ∧ Same H3 H' ∧ H' ph = some (.lst ((halves (row.take i)).map V.int)))
      ⟨none, lh, rfl, same_upd nh, upd_same⟩ (fun i σ H' _ hP => ?_) (fun i x σ H' hx hP => ?_) (fun σ H' hP => ?_)⟩
    · obtain ⟨y, ph, rfl, s4, _⟩ := hP
      exact SqT.of (s4 _ _ (s3 _ _ hB))
    · obtain ⟨y, ph, rfl, s4, hph⟩ := hP
      obtain ⟨bb, hbb, rfl⟩ := map_get hx
      refine ⟨_, rfl, _, rfl, _, _, rfl, rfl, ⟨by decide, by decide⟩, _, rfl, _, _, rfl, rfl, (by show (0 : Int) < 16; decide), sz (by show 2 ≤ 1000; decide), fun l4 n4 => ?_⟩
      refine ⟨ph, l4, _, _, rfl, rfl, cy n4 hph, upd_same, sz ?_, fun c4 nc4 => ⟨some (.int bb), c4, rfl, fun x y e => cy nc4 (cy n4 (s4 _ _ e)), ?_⟩⟩
      · rw [List.length_map, halves_len, List.length_take]
        show 2 * min i row.length + 2 ≤ 1000
        omega
      · rw [upd_same, halves_take hbb, List.map_append]
        rfl
    obtain ⟨y, ph, rfl, s4, hph⟩ := hP
    rw [List.length_map, List.take_length] at hph
    have hD4 := s4 _ _ hD
    -- bounds
    intro pb npb
    refine ⟨sz (by show 2 ≤ 1000; decide), fun t1 m1 => ⟨sz (by show 2 ≤ 1000; decide), fun t2 m2 => ⟨sz (by show 2 ≤ 1000; decide), fun t3 m3 => ⟨sz (by show 2 ≤ 1000; decide), fun t4 m4 => ?_⟩⟩⟩⟩
    refine ⟨cy m4 (cy m3 (cy m2 (cy m1 upd_same))), bkvs t1 t2 t3 t4, rfl, by show 4 ≤ 15; decide, ?_⟩
    rw [bkvs_merge]
    have up : ∀ x y, x ≠ pb → upd (upd (upd (upd (upd H' pb (.dK [])) t1 (.tup [.int 0, .int 0])) t2 (.tup [.int 0, .int 9])) t3 (.tup [.int 15, .int 15])) t4 (.tup [.int 10, .int 15]) x = some y →
      upd (upd (upd (upd (upd (upd H' pb (.dK [])) t1 (.tup [.int 0, .int 0])) t2 (.tup [.int 0, .int 9])) t3 (.tup [.int 15, .int 15])) t4 (.tup [.int 10, .int 15])) pb (.dK (bkvs t1 t2 t3 t4)) x = some y := fun x y nx e => by
      rw [upd_ne nx]
      exact e
    have np1 : t1 ≠ pb := fun e => by
      rw [e, upd_same] at m1
      cases m1
    have np2 : t2 ≠ pb := fun e => by
      rw [e, cy m1 upd_same] at m2
      cases m2
    have np3 : t3 ≠ pb := fun e => by
      rw [e, cy m2 (cy m1 upd_same)] at m3
      cases m3
    have np4 : t4 ≠ pb := fun e => by
      rw [e, cy m3 (cy m2 (cy m1 upd_same))] at m4
      cases m4
    generalize hH5 : upd (upd (upd (upd (upd (upd H' pb (.dK [])) t1 (.tup [.int 0, .int 0])) t2 (.tup [.int 0, .int 9])) t3 (.tup [.int 15, .int 15])) t4 (.tup [.int 10, .int 15])) pb (.dK (bkvs t1 t2 t3 t4)) = H5
    have s5 : Same H' H5 := fun x y e => by
      rw [← hH5]
      exact up x y (ne_of_none e npb) (cy m4 (cy m3 (cy m2 (cy m1 (cy npb e)))))
    have b1 : H5 t1 = some (.tup [.int 0, .int 0]) := by
      rw [← hH5]
      exact up _ _ np1 (cy m4 (cy m3 (cy m2 upd_same)))
    have b2 : H5 t2 = some (.tup [.int 0, .int 9]) := by
      rw [← hH5]
      exact up _ _ np2 (cy m4 (cy m3 upd_same))
    have b3 : H5 t3 = some (.tup [.int 15, .int 15]) := by
      rw [← hH5]
      exact up _ _ np3 (cy m4 upd_same)
    have b4 : H5 t4 = some (.tup [.int 10, .int 15]) := by
      rw [← hH5]
      exact up _ _ np4 upd_same
    have bb : H5 pb = some (.dK (bkvs t1 t2 t3 t4)) := by
      rw [← hH5]
      exact upd_same
    have hD5 := s5 _ _ hD4
    have hph5 := s5 _ _ hph
    have fin : ∀ {H6 : Hp}, Same H5 H6 → Same H H6 := fun {H6} s6 x y e => s6 _ _ (s5 _ _ (s4 _ _ (s3 _ _ e)))
    have get : ∀ d : Duty, ∃ t, valV (bkvs t1 t2 t3 t4) (Sum.inr d.s) = some (.ref t) ∧ H5 t = some (.tup [.int (lowB d), .int (highB d)]) := fun d => by
      cases d with
      | ahead => exact ⟨t1, rfl, b1⟩
      | figure => exact ⟨t2, rfl, b2⟩
      | zone => exact ⟨t3, rfl, b3⟩
      | sign => exact ⟨t4, rfl, b4⟩
    -- the loop
    refine ⟨_, rfl, pd, _, rfl, .inl (SqL.of hD5), ((((due k n g).map dv).length : Nat) : Int), rfl, by omega, by rw [List.length_map]; omega, for_range (n := ((due k n g).map dv).length)
      (fun i σ H6 => ∃ y6 y7 y8, σ = [some (.ref a), some (.ref b), some (.ref pd), some (.ref ph), y, some (.ref pb), y6, y7, y8] ∧ Same H5 H6 ∧ caughtM (due k n g) (halves row) 0 = caughtM ((due k n g).drop i) ((halves row).drop i) i)
      ⟨none, none, none, rfl, Same.refl _, rfl⟩ (fun i σ H6 hi hP => ?_) (fun σ H6 hP => ?_)⟩
    · obtain ⟨y6, y7, y8, rfl, s6, ec⟩ := hP
      rw [List.length_map] at hi
      obtain ⟨d, hd⟩ : ∃ d, (due k n g)[i]? = some d := ⟨_, List.getElem?_eq_getElem hi⟩
      obtain ⟨h, hh⟩ : ∃ h, (halves row)[i]? = some h := ⟨_, List.getElem?_eq_getElem (by omega)⟩
      obtain ⟨h0, h16⟩ := halves_bd hby h (List.mem_of_getElem? hh)
      obtain ⟨t, ht, hT⟩ := get d
      have SD := SqL.of (K := K) (s6 _ _ hD5)
      have SH := SqL.of (K := K) (s6 _ _ hph5)
      have ad : atI ((due k n g).map dv) (0 + (i : Int)) = some (dv d) := at_of (j := i) (by omega) (get_map hd)
      have ah : atI ((halves row).map V.int) (0 + (i : Int)) = some (V.int h) := at_of (j := i) (by omega) (get_map hh)
      refine ⟨_, rfl, _, rfl, ph, _, rfl, .inl SH, _, _, rfl, rfl, _, rfl, ifF (decide_eq_false ?_) ?_⟩
      · rw [List.length_map]
        omega
      have dg : DGet H6 pb (dv d) (some (.ref t)) := by
        have q := DGet.k (k := Sum.inr d.s) (s6 _ _ bb)
        rw [ht] at q
        exact q
      refine ⟨_, rfl, _, rfl, _, rfl, pd, _, _, dv d, rfl, rfl, SD, ad, pb, .ref t, rfl, dg, ?_⟩
      refine ⟨t, _, rfl, SqT.of (s6 _ _ hT), rfl, _, _, rfl, _, _, rfl, rfl, ?_⟩
      rw [caught_step hd hh] at ec
      have br := bounds_right (d := d) h0 h16
      refine ⟨_, rfl, _, rfl, _, rfl, ph, _, _, .int h, rfl, rfl, SH, ah, _, _, rfl, rfl, _, rfl, ?_⟩
      have wrong : rightB d h = false → tRet (tTup (tCons (tVar 6) (tCons (tOp (rIxL K) (tVar 2) (tVar 6)) tNil))) { nx := fun _ H' => Q .non H', rt := Q }
          [some (.ref a), some (.ref b), some (.ref pd), some (.ref ph), y, some (.ref pb), some (.int (0 + (i : Int))), some (.int (lowB d)), some (.int (highB d))] H6 := fun hw => by
        rw [if_neg (by rw [hw]; decide)] at ec
        refine ⟨_, rfl, _, rfl, _, rfl, pd, _, _, dv d, rfl, rfl, SD, ad, sz (by show 2 ≤ 1000; decide), fun p np => ?_⟩
        refine qS i d ec _ p (fun x y e => cy np (fin s6 _ _ e)) ?_
        rw [upd_same, Int.zero_add]
      by_cases c1 : lowB d ≤ h
      · refine ifT (decide_eq_true c1) ⟨_, rfl, _, _, rfl, rfl, _, rfl, ?_⟩
        rw [decide_eq_true c1, Bool.true_and] at br
        rw [← br]
        by_cases c2 : rightB d h = true
        · rw [if_pos c2] at ec
          exact ifF (by rw [c2]; rfl) ⟨_, _, _, rfl, s6, ec⟩
        · exact ifT (by rw [Bool.eq_false_iff.mpr c2]; rfl) (wrong (Bool.eq_false_iff.mpr c2))
      · refine ifF (decide_eq_false c1) ⟨_, rfl, ifT rfl ?_⟩
        rw [decide_eq_false c1, Bool.false_and] at br
        exact wrong br
    · obtain ⟨y6, y7, y8, rfl, s6, ec⟩ := hP
      rw [List.length_map, caught_end (Nat.le_refl _)] at ec
      refine ⟨_, rfl, ph, _, rfl, .inl (SqL.of (s6 _ _ hph5)), _, rfl, pd, _, rfl, .inl (SqL.of (s6 _ _ hD5)), _, _, rfl, rfl, _, rfl, ifF (decide_eq_false ?_) ?_⟩
      · rw [List.length_map, List.length_map]
        omega
      · exact qN ec H6 (fin s6)
end
end K75

/-! _law_read_row. -/
namespace K75
open PySem PySem.Spec PyProof.Rows L2
theorem odds_int : ∀ l : List Int, oddsA (l.map V.int) = (odds l).map V.int
  | [] => rfl
  | [_] => rfl
  | a :: b :: r => by
    show V.int b :: oddsA (r.map V.int) = V.int b :: (odds r).map V.int
    rw [odds_int r]
theorem cut_last (xs : List V) : cutV xs none (some (-1)) = xs.dropLast := by
  unfold cutV
  rw [HT.sIx_none, List.drop_zero, Nat.sub_zero, List.dropLast_eq_take]
  have e : HT.sIx xs.length xs.length (some (-1)) = xs.length - 1 := by
    show (if (-1 : Int) < 0 then (-1 + (xs.length : Int)).toNat else min (-1 : Int).toNat xs.length) = _
    rw [if_pos (by decide)]
    omega
  rw [e]
section
variable {P : Program} {w : World} {K : PySem.W.Frag} {mg : Str → Option Value} {base : Heap}
abbrev sReadRow : Stmt := topS 51
theorem scReadRow : FnScope ["_law_form_here", "_law_row", "_law_halves", "_law_byte", "_law_half", "_law_number_here", "_law_figure"] ["_law_form_here", "_law_row"] (defScope sReadRow) := ⟨rfl, rfl, rfl, by decide +kernel, rfl, by decide +kernel, by decide +kernel⟩
def spReadRow : Sp := fun vs H Q _ => ∃ (a : Addr) (k : Kd) (n : Nat) (g : Sg) (pt : Int) (b : Addr) (row : List Int), vs = [.ref a, .ref b] ∧ H a = some (.tup (fm k n g pt)) ∧ 1 ≤ n ∧ n ≤ 12 ∧ H b = some (.tup (row.map V.int)) ∧ row.length = width k n g ∧
  ∀ H', Same H H' → Q (.int (lawNum k n g (halves row))) H'
theorem ok_read_row {f : Addr} {fd : FuncData} (F : Fun K "_law_read_row" "_law_read_row" sReadRow f fd) (C1 : Cal P w K mg base CX0 1 "_law_power" ["_law_base", "_law_many"] spPower) : FnOk P w K mg base CX0 2 f fd ["_law_form_here", "_law_row"] spReadRow := by
  refine F.ok scReadRow (fun vs H Q E h => ?_) (fun cdv Ar outer s H vs Q E hr h => ?_)
  · obtain ⟨a, k, n, g, pt, b, row, rfl, _⟩ := h
    rfl
  · obtain ⟨a, k, n, g, pt, b, row, rfl, hA, h1, h2, hB, hl, q⟩ := h
    refine ⟨_, pss_cons (ps_set (i := 2) scReadRow.nd rfl (.inl rfl) (pe_lst pa_nil))
      (pss_cons (ps_for PassesOwn.never rfl (pi_tup (pv 1)) (pg_name (i := 3) scReadRow.nd rfl (.inl rfl))
        (pss_one (ps_set (i := 2) scReadRow.nd rfl (.inl rfl) (pe_op op_cat (pv 2) (pe_lst (pa_cons (pe_op op_fdiv (pv 3) pe_int) (pa_cons (pe_op op_mod (pv 3) pe_int) pa_nil)))))))
      (pss_cons (ps_set (i := 4) scReadRow.nd rfl (.inl rfl) pe_int)
      (pss_mid (ps_if (pt_cmpR op_eq (pe_ix ix_tup (pv 0) pe_int (fun _ _ => rfl)) pe_str (nomark _))
        (pss_cons (ps_if (pt_cmpR op_eq (pe_ix ix_tup (pv 0) pe_int (fun _ _ => rfl)) pe_str (nomark _)) (pss_one (ps_set (i := 4) scReadRow.nd rfl (.inl rfl) (pe_ix ix_list (pv 2) (pe_un un_neg pe_int) (fun _ _ => rfl)))) pss_nil)
        (pss_one (ps_set (i := 2) scReadRow.nd rfl (.inl rfl) (pe_odds (pv 2)))))
        (pss_one (ps_if (pt_cmpR op_eq (pe_ix ix_tup (pv 0) pe_int (fun _ _ => rfl)) pe_str (nomark _))
          (pss_cons (ps_set (i := 4) scReadRow.nd rfl (.inl rfl) (pe_ix ix_list (pv 2) (pe_un un_neg pe_int) (fun _ _ => rfl)))
          (pss_one (ps_set (i := 2) scReadRow.nd rfl (.inl rfl) (pe_slice sl_list (pv 2) po_none (po_some (pe_un un_neg pe_int)))))) pss_nil)))
      (pss_cons (ps_set (i := 5) scReadRow.nd rfl (.inl rfl) pe_int)
      (pss_cons (ps_for PassesOwn.never rfl (pi_list (pv 2)) (pg_name (i := 6) scReadRow.nd rfl (.inl rfl))
        (pss_one (ps_set (i := 5) scReadRow.nd rfl (.inl rfl) (pe_op op_add (pe_op op_mul pe_int (pv 5)) (pv 6)))))
      (pss_cons (ps_if (pt_cmpR op_in_seq (pv 4) (pe_tup (pa_cons pe_int (pa_cons pe_int pa_nil))) (by rfl)) (pss_one (ps_ret (pe_op op_sub pe_int (pv 5)))) pss_nil)
      (pss_cons (ps_if (PW.pt (pw_and (pt_cmpR op_eq (pe_ix ix_tup (pv 0) pe_int (fun _ _ => rfl)) pe_str (nomark _))
          (pw_and1 (pt_cmpR op_ge (pv 5) (pe_op op_mul pe_int (pe_cal C1 hr pass0 (pa_cons pe_int (pa_cons (pe_op op_sub (pe_ix ix_tup (pv 0) pe_int (fun _ _ => rfl)) pe_int) pa_nil)))) (nomark _)))))
          (pss_one (ps_ret (pe_op op_sub (pv 5) (pe_cal C1 hr pass0 (pa_cons pe_int (pa_cons (pe_ix ix_tup (pv 0) pe_int (fun _ _ => rfl)) pa_nil)))))) pss_nil)
      (pss_one (ps_ret (pv 5)))))))))), ?_⟩
    have wl := width_le (k := k) (g := g) h2
    have hlh : (halves row).length = 2 * width k n g := by rw [halves_len, hl]
    -- halves
    refine ⟨Nat.zero_le _, fun lh nh => ?_⟩
    refine ⟨_, rfl, b, rfl, ⟨_, SqT.of (cy nh hB)⟩, for_tup (K := K) (a := b) (xs := row.map V.int) (fun i σ H' => ∃ y ph, σ = [some (.ref a), some (.ref b), some (.ref ph), y, none, none, none] ∧ Same H H' ∧ H' ph = some (.lst ((halves (row.take i)).map V.int)))
      ⟨none, lh, rfl, same_upd nh, upd_same⟩ (fun i σ H' _ hP => ?_) (fun i x σ H' hx hP => ?_) (fun σ H1 hP => ?_)⟩
    · obtain ⟨y, ph, rfl, s4, _⟩ := hP
      exact SqT.of (s4 _ _ hB)
    · obtain ⟨y, ph, rfl, s4, hph⟩ := hP
      obtain ⟨bb, hbb, rfl⟩ := map_get hx
      refine ⟨_, rfl, _, rfl, _, _, rfl, rfl, ⟨by decide, by decide⟩, _, rfl, _, _, rfl, rfl, (by show (0 : Int) < 16; decide), sz (by show 2 ≤ 1000; decide), fun l4 n4 => ?_⟩
      refine ⟨ph, l4, _, _, rfl, rfl, cy n4 hph, upd_same, sz ?_, fun c4 nc4 => ⟨some (.int bb), c4, rfl, fun x y e => cy nc4 (cy n4 (s4 _ _ e)), ?_⟩⟩
      · rw [List.length_map, halves_len, List.length_take]
        show 2 * min i row.length + 2 ≤ 1000
        omega
      · rw [upd_same, halves_take hbb, List.map_append]
        rfl
    obtain ⟨y, ph, rfl, s1, hph⟩ := hP
    rw [List.length_map, List.take_length] at hph
    have hA1 := s1 _ _ hA
    have hml : ((halves row).map V.int).length = 2 * width k n g := by rw [List.length_map, hlh]
    -- the sign's half, the figures
    refine ⟨fun σ H' => ∃ pf, σ = [some (.ref a), some (.ref b), some (.ref pf), y, some (.int (lawHalf k n g (halves row))), none, none] ∧ Same H H' ∧ H' pf = some (.lst ((lawFigs k g (halves row)).map V.int)), ?_, fun σ H2 hJ => ?_⟩
    · refine ⟨_, rfl, a, _, 0, .str k.s, rfl, rfl, SqT.of hA1, atI_nat (j := 0) rfl, rfl, _, rfl, ?_⟩
      rw [d_sp]
      cases k with
      | sp =>
        refine ifT rfl ?_
        refine ⟨_, rfl, a, _, 2, .str g.s, rfl, rfl, SqT.of hA1, atI_nat (j := 2) rfl, rfl, _, rfl, ?_⟩
        rw [d_en]
        have odd : ∀ v : Int, v = lawHalf .sp n g (halves row) → tAsg (tOdds K (tVar 2)) (gName 2)
            { nx := fun σ H' => ∃ pf, σ = [some (.ref a), some (.ref b), some (.ref pf), y, some (.int (lawHalf .sp n g (halves row))), none, none] ∧ Same H H' ∧ H' pf = some (.lst ((lawFigs .sp g (halves row)).map V.int)), rt := Q }
            [some (.ref a), some (.ref b), some (.ref ph), y, some (.int v), none, none] H1 := fun v ev => by
          refine ⟨_, rfl, ph, _, rfl, SqL.of hph, fun p np => ⟨p, by rw [← ev]; rfl, fun x y e => cy np (s1 _ _ e), ?_⟩⟩
          rw [upd_same, odds_int]
          rfl
        by_cases c : g = .en
        · refine ifT (decide_eq_true c) ?_
          have wn : width .sp n g = n := rfl
          obtain ⟨x, hx⟩ : ∃ x, (halves row)[2 * n - 2]? = some x := ⟨_, List.getElem?_eq_getElem (by omega)⟩
          have at2 : atI ((halves row).map V.int) (-2) = some (.int x) := by
            unfold atI
            rw [hml, wn, ix_neg2 h1]
            exact get_map hx
          refine ⟨_, rfl, 2, rfl, ph, _, _, .int x, rfl, rfl, SqL.of hph, at2, odd x ?_⟩
          unfold lawHalf
          rw [if_pos c]
          exact (getD_of hx).symm
        · refine ifF (decide_eq_false c) (odd 12 ?_)
          unfold lawHalf
          rw [if_neg c]
      | pk =>
        refine ifF rfl ?_
        refine ⟨_, rfl, a, _, 2, .str g.s, rfl, rfl, SqT.of hA1, atI_nat (j := 2) rfl, rfl, _, rfl, ?_⟩
        rw [d_en]
        by_cases c : g = .en
        · refine ifT (decide_eq_true c) ?_
          have wp := width_pk (n := n) (g := g)
          have ge : g.e = 1 := by rw [c]; rfl
          obtain ⟨x, hx⟩ : ∃ x, (halves row)[pad n g + n]? = some x := ⟨_, List.getElem?_eq_getElem (by omega)⟩
          have at1 : atI ((halves row).map V.int) (-1) = some (.int x) := by
            unfold atI
            rw [hml, ix_neg1 (by omega)]
            have e : 2 * width .pk n g - 1 = pad n g + n := by omega
            rw [e]
            exact get_map hx
          refine ⟨_, rfl, 1, rfl, ph, _, _, .int x, rfl, rfl, SqL.of hph, at1, ?_⟩
          refine ⟨_, rfl, 1, rfl, _, rfl, ph, _, rfl, SqL.of hph, fun p np => ?_⟩
          refine ⟨p, ?_, fun x y e => cy np (s1 _ _ e), ?_⟩
          · have ev : x = lawHalf .pk n g (halves row) := by
              unfold lawHalf
              rw [if_pos c]
              exact (getD_of hx).symm
            rw [← ev]
            rfl
          · rw [upd_same]
            show some (HO.lst (cutV ((halves row).map V.int) none (some (-1)))) = _
            rw [cut_last]
            show _ = some (HO.lst ((if g = .en then (halves row).dropLast else halves row).map V.int))
            rw [if_pos c, List.map_dropLast]
        · refine ifF (decide_eq_false c) ⟨ph, ?_, s1, ?_⟩
          · unfold lawHalf
            rw [if_neg c]
            rfl
          · rw [hph]
            show _ = some (HO.lst ((if g = .en then (halves row).dropLast else halves row).map V.int))
            rw [if_neg c]
    obtain ⟨pf, rfl, s2, hpf⟩ := hJ
    have hA2 := s2 _ _ hA
    -- the number
    refine ⟨_, rfl, pf, rfl, ⟨_, SqL.of hpf⟩, for_list (K := K) (a := pf) (xs := (lawFigs k g (halves row)).map V.int) (fun i σ H' => ∃ y6, σ = [some (.ref a), some (.ref b), some (.ref pf), y, some (.int (lawHalf k n g (halves row))), some (.int (numBy ((lawFigs k g (halves row)).take i))), y6] ∧ H' = H2)
      ⟨none, rfl, rfl⟩ (fun i σ H' _ hP => ?_) (fun i x σ H' hx hP => ?_) (fun σ H' hP => ?_)⟩
    · obtain ⟨y6, rfl, rfl⟩ := hP
      exact SqL.of hpf
    · obtain ⟨y6, rfl, rfl⟩ := hP
      obtain ⟨d, hd, rfl⟩ := map_get hx
      refine ⟨_, rfl, _, _, rfl, rfl, .inl ⟨by decide, by decide⟩, _, rfl, _, _, rfl, rfl, some (.int d), ?_, rfl⟩
      rw [numBy_take hd, Int.mul_comm (numBy _) 10]
      rfl
    obtain ⟨y6, rfl, rfl⟩ := hP
    rw [List.length_map, List.take_length]
    -- if half in (11, 13)
    refine ⟨_, rfl, sz (by show 2 ≤ 1000; decide), fun p np => ⟨p, _, rfl, .inr (SqT.of upd_same), rfl, rfl, _, rfl, ?_⟩⟩
    have s3 : ∀ {x : HO}, Same H (upd H' p x) := fun {x} b y e => cy np (s2 _ _ e)
    have hA3 : ∀ {x : HO}, upd H' p x a = some (.tup (fm k n g pt)) := fun {x} => cy np hA2
    by_cases c : lawHalf k n g (halves row) = 11 ∨ lawHalf k n g (halves row) = 13
    · refine ifT ?_ ⟨_, rfl, _, _, rfl, rfl, ?_⟩
      · rcases c with e | e <;> (rw [e]; decide +kernel)
      · have q' := q _ (s3 (x := .tup [.int 11, .int 13]))
        unfold lawNum at q'
        rw [if_pos c] at q'
        exact q'
    · refine ifF ?_ ?_
      · show (11 == lawHalf k n g (halves row) || (13 == lawHalf k n g (halves row) || false)) = false
        have e1 : (11 == lawHalf k n g (halves row)) = false := by simpa using fun z => c (.inl z.symm)
        have e2 : (13 == lawHalf k n g (halves row)) = false := by simpa using fun z => c (.inr z.symm)
        rw [e1, e2]
        rfl
      refine ⟨_, rfl, a, _, 2, .str g.s, rfl, rfl, SqT.of hA3, atI_nat (j := 2) rfl, rfl, _, rfl, ?_⟩
      rw [d_te]
      have q' := q _ (s3 (x := .tup [.int 11, .int 13]))
      unfold lawNum at q'
      rw [if_neg c] at q'
      by_cases ct : g = .te
      · refine ifT (decide_eq_true ct) ?_
        have en : (n : Int) - 1 = ((n - 1 : Nat) : Int) := by omega
        refine ⟨_, rfl, _, rfl, a, _, 1, .int (n : Int), rfl, rfl, SqT.of hA3, atI_nat (j := 1) rfl, _, _, rfl, rfl, n - 1, by show [V.int 10, V.int ((n : Int) - 1)] = _; rw [en], by omega, _, _, rfl, rfl, .inl ⟨by decide, by decide⟩, _, _, rfl, rfl, _, rfl, ?_⟩
        by_cases c5 : 5 * 10 ^ (n - 1) ≤ numBy (lawFigs k g (halves row))
        · rw [if_pos ⟨ct, c5⟩] at q'
          refine ifT (decide_eq_true c5) ⟨_, rfl, _, rfl, a, _, 1, .int (n : Int), rfl, rfl, SqT.of hA3, atI_nat (j := 1) rfl, n, rfl, by omega, _, _, rfl, rfl, q'⟩
        · rw [if_neg (fun z => c5 z.2)] at q'
          exact ifF (decide_eq_false c5) ⟨_, rfl, q'⟩
      · rw [if_neg (fun z => ct z.1)] at q'
        exact ifF (decide_eq_false ct) (iteF ⟨_, rfl, q'⟩)
end
end K75

/-! _law_right. -/
namespace K75
open PySem PySem.Spec PyProof.Rows L2
section
variable {P : Program} {w : World} {K : PySem.W.Frag} {mg : Str → Option Value} {base : Heap}
def spJust : Sp := fun vs H Q E => spJust1 vs H Q E ∨ spJust2 vs H Q E
theorem ok_just {f : Addr} {fd : FuncData} (F : Fun K "_law_just" "_law_just" sJust f fd) (B : Bi mg) (C1 : Cal P w K mg base CX0 1 "_law_just" ["_law_found", "_law_due"] spJust1) : FnOk P w K mg base CX0 2 f fd ["_law_found", "_law_due"] spJust := by
  have F1 : FnOk P w K mg base CX0 1 f fd ["_law_found", "_law_due"] spJust1 := ok_just1 F B
  have F2 : FnOk P w K mg base CX0 2 f fd ["_law_found", "_law_due"] spJust2 := ok_just2 F B C1
  refine ⟨fun vs H Q E h => ?_, fun A outer s H args us vs Q E hr e0 hb hv h => ?_⟩
  · rcases h with h | h
    · exact F1.len _ _ _ _ h
    · exact F2.len _ _ _ _ h
  · rcases h with h | h
    · exact F1.run A outer s H args us vs Q E (hr.mono (by decide)) e0 hb hv h
    · exact F2.run A outer s H args us vs Q E hr e0 hb hv h
theorem shaped_wrong (i : Int) (d : Duty) : SeqAt.shaped (.tuple [.str "wrong", .tuple [.int i, .str d.s]]) = true := by
  have o1 : PyData.canLay0 (.str "wrong") = true := by decide +kernel
  have o2 : PyData.canLay0 (.str d.s) = true := by cases d <;> decide +kernel
  have o3 : PyData.canLay0 (.tuple [.str "wrong", .tuple [.int i, .str d.s]]) = true := by
    show (PyData.canLay0 (.str "wrong") && (((PyData.canLay0 (.int i)) && (PyData.canLay0 (.str d.s) && true)) && true)) = true
    rw [o1, o2]
    rfl
  unfold SeqAt.shaped
  rw [o3]
  rfl
abbrev sRight : Stmt := topS 53
theorem scRight : FnScope ["_law_form_here", "_law_program", "_law_row", "_law_cell_here", "_law_salt", "_law_amiss", "_law_due", "_law_number_here"] ["_law_form_here", "_law_program", "_law_row", "_law_cell_here", "_law_salt"] (defScope sRight) := ⟨rfl, rfl, rfl, by decide +kernel, rfl, by decide +kernel, by decide +kernel⟩
def spRight : Sp := fun vs H Q _ => ∃ (a : Addr) (k : Kd) (n : Nat) (g : Sg) (pt : Int) (p b : Addr) (row : List Int) (c s : Int), vs = [.ref a, .ref p, .ref b, .int c, .int s] ∧ H a = some (.tup (fm k n g pt)) ∧ 1 ≤ n ∧ n ≤ 12 ∧ ProgAt H p (checkOps (due k n g)) ∧
  H b = some (.tup (row.map V.int)) ∧ row.length = width k n g ∧ Bytes row ∧ ∀ H', Same H H' → Q (.bl true) H'
theorem ok_right {f : Addr} {fd : FuncData} (F : Fun K "_law_right" "_law_right" sRight f fd) (C1 : Cal P w K mg base CX0 3 "caught" ["form", "row"] spCaught) (C2 : Cal P w K mg base CX0 2 "_law_just" ["_law_found", "_law_due"] spJust)
    (C3 : Cal P w K mg base CX0 1 "_law_caught" ["_law_form_here", "_law_row"] spLCaught) (C4 : Cal P w K mg base CX0 5 "_law_read" ["_law_form_here", "_law_row"] spRead) (C5 : Cal P w K mg base CX0 2 "_law_read_row" ["_law_form_here", "_law_row"] spReadRow)
    (C6 : Cal P w K mg base CX0 4 "_law_after" ["_law_program", "_law_front", "_law_cell_here", "_law_salt", "_law_many"] spAfter) : FnOk P w K mg base CX0 6 f fd ["_law_form_here", "_law_program", "_law_row", "_law_cell_here", "_law_salt"] spRight := by
  refine F.ok scRight (fun vs H Q E h => ?_) (fun cdv Ar outer s H vs Q E hr h => ?_)
  · obtain ⟨a, k, n, g, pt, p, b, row, c, s, rfl, _⟩ := h
    rfl
  · obtain ⟨a, k, n, g, pt, p, b, row, c, sa, rfl, hA, h1, h2, hP, hB, hl, hby, q⟩ := h
    have hr1 : Room 1 _ := hr.mono (by decide)
    have hr2 : Room 2 _ := hr.mono (by decide)
    have hr3 : Room 3 _ := hr.mono (by decide)
    have hr4 : Room 4 _ := hr.mono (by decide)
    refine ⟨_, pss_cons (ps_set (i := 5) scRight.nd rfl (.inl rfl) (pe_cal C1 hr3 pass0 (pa_cons (pv 0) (pa_cons (pv 2) pa_nil))))
      (pss_cons (ps_if (pt_not (pt_val (pe_cal C2 hr2 pass0 (pa_cons (pv 5) (pa_cons (pe_cal C3 hr1 pass0 (pa_cons (pv 0) (pa_cons (pv 2) pa_nil))) pa_nil))))) pss_never pss_nil)
      (pss_cons (ps_set (i := 6) scRight.nd rfl (.inl rfl) pe_int)
      (pss_cons (ps_set (i := 7) scRight.nd rfl (.inl rfl) (pe_cal C4 hr pass0 (pa_cons (pv 0) (pa_cons (pv 2) pa_nil))))
      (pss_mid (ps_if (pt_cmp (pc_isN (pv 5)))
        (pss_one (ps_if (pt_not (pt_val (pe_cal C2 hr2 pass0 (pa_cons (pv 7) (pa_cons (pe_tup (pa_cons pe_str (pa_cons (pe_cal C5 hr2 pass0 (pa_cons (pv 0) (pa_cons (pv 2) pa_nil))) pa_nil))) pa_nil))))) pss_never pss_nil))
        (pss_cons (ps_set (i := 6) scRight.nd rfl (.inl rfl) (pe_op op_add pe_int (pe_ix ix_tup (pv 5) pe_int (fun _ _ => rfl))))
        (pss_one (ps_if (pt_cmpR (op_neD hr.units) (pv 7) (pe_tup (pa_cons pe_str (pa_cons (pv 5) pa_nil))) (nomark _)) pss_never pss_nil))))
      (pss_one (ps_ret (pe_cmpR (op_eqD hr.units) (pe_cal C6 hr4 pass0 (pa_cons (pv 1) (pa_cons (pv 2) (pa_cons (pv 3) (pa_cons (pv 4) (pa_cons pe_int pa_nil)))))) (pe_tup (pa_cons (pe_tup (pa_cons (pv 6) pa_nil)) (pa_cons pe_int pa_nil))) (nomark _)))))))), ?_⟩
    have wl := width_le (k := k) (g := g) h2
    have dl := due_len k n g
    have hlh : (halves row).length = 2 * width k n g := by rw [halves_len, hl]
    -- the end, from the code that is due
    have tail : ∀ (H2 : Hp) (y5 y7 : Option V), Same H H2 → tRet (tOp (rEqD K) (tCall spAfter [] E0 (tCons (tVar 1) (tCons (tVar 2) (tCons (tVar 3) (tCons (tVar 4) (tCons (tC (.int 1)) tNil)))))) (tTup (tCons (tTup (tCons (tVar 6) tNil)) (tCons (tC (.int 0)) tNil))))
        { nx := fun _ H' => Q .non H', rt := Q } [some (.ref a), some (.ref p), some (.ref b), some (.int c), some (.int sa), y5, some (.int (codeM (caughtM (due k n g) (halves row) 0))), y7] H2 := fun H2 y5 y7 s2 => by
      refine ⟨_, rfl, _, rfl, _, rfl, _, rfl, p, b, c, sa, due k n g, row, rfl, hP.same s2, s2 _ _ hB, by omega, by omega, hby, fun H3 qq t s3 ht hq => ?_⟩
      refine ⟨_, rfl, sz (by show 1 ≤ 1000; decide), fun t1 n1 => ⟨sz (by show 2 ≤ 1000; decide), fun t2 n2 => ?_⟩⟩
      refine ⟨.tuple [.tuple [.int (codeM (caughtM (due k n g) (halves row) 0))], .int 0], .tuple [.tuple [.int (codeM (caughtM (due k n g) (halves row) 0))], .int 0],
        .tup (SqT.of (cy n2 (cy n1 hq))) (.cons (.tup (SqT.of (cy n2 (cy n1 ht))) (.cons (.int _) .nil)) (.cons (.int _) .nil)),
        .tup (SqT.of upd_same) (.cons (.tup (SqT.of (cy n2 upd_same)) (.cons (.int _) .nil)) (.cons (.int _) .nil)), rfl, rfl, ?_⟩
      rw [SeqAt.eqv_refl _ rfl]
      exact q _ (fun x y e => cy n2 (cy n1 (s3 _ _ (s2 _ _ e))))
    refine ⟨_, rfl, _, rfl, a, k, n, g, pt, b, row, rfl, hA, h1, h2, hB, hl, fun R H1 s1 => ?_, fun i d R H1 p1 s1 hp1 => ?_⟩
    · -- good
      refine ⟨_, rfl, _, rfl, _, rfl, a, k, n, g, pt, b, row, rfl, s1 _ _ hA, h1, h2, s1 _ _ hB, hl, hby, fun _ H2 s2 => ?_, fun i d R2 => (by rw [R] at R2; cases R2)⟩
      refine .inl ⟨.non, rfl, .non, _, rfl, iteF ?_⟩
      have s12 : Same H H2 := fun x y e => s2 _ _ (s1 _ _ e)
      refine ⟨_, rfl, _, rfl, a, k, n, g, pt, b, row, rfl, s12 _ _ hA, h1, h2, s12 _ _ hB, hl, fun _ H3 pr s3 hpr => ?_, fun i d R2 => (by rw [R] at R2; cases R2)⟩
      have s13 : Same H H3 := fun x y e => s3 _ _ (s12 _ _ e)
      refine ⟨fun σ H' => ∃ y5 y7, σ = [some (.ref a), some (.ref p), some (.ref b), some (.int c), some (.int sa), y5, some (.int (codeM (caughtM (due k n g) (halves row) 0))), y7] ∧ Same H H', ?_, fun σ H4 hJ => ?_⟩
      · refine ⟨_, rfl, _, rfl, iteT ?_⟩
        refine ⟨_, rfl, _, rfl, _, rfl, a, k, n, g, pt, b, row, rfl, s13 _ _ hA, h1, h2, s13 _ _ hB, hl, fun H4 s4 => ⟨sz (by show 2 ≤ 1000; decide), fun t nt => ?_⟩⟩
        have en := nums_same (k := k) (g := g) h1 hlh (fun x hx => (halves_bd hby x hx).1) R
        refine .inr ⟨pr, t, .str "told", .int (progNum k n g (halves row)), rfl, cy nt (s4 _ _ hpr), ?_, .str _, .int _, fun H5 s5 => ⟨_, rfl, iteF ⟨some .non, some (.ref pr), ?_, fun x y e => s5 _ _ (cy nt (s4 _ _ (s13 _ _ e)))⟩⟩⟩
        · rw [upd_same, en]
        · rw [R]
          rfl
      · obtain ⟨y5, y7, rfl, s4⟩ := hJ
        exact tail H4 y5 y7 s4
    · -- amiss at i
      refine ⟨_, rfl, _, rfl, _, rfl, a, k, n, g, pt, b, row, rfl, s1 _ _ hA, h1, h2, s1 _ _ hB, hl, hby, fun R2 => (by rw [R] at R2; cases R2), fun i2 d2 R2 H2 p2 s2 hp2 => ?_⟩
      have e2 : i = i2 ∧ d = d2 := by
        rw [R] at R2
        injection R2 with R2
        injection R2 with e1 e2
        exact ⟨e1, e2⟩
      rw [← e2.1, ← e2.2] at hp2
      refine .inr ⟨p1, p2, .int ((i : Nat) : Int), dv d, rfl, s2 _ _ hp1, hp2, .int _, .str _, fun H3 s3 => ⟨_, rfl, iteF ?_⟩⟩
      have s13 : Same H H3 := fun x y e => s3 _ _ (s2 _ _ (s1 _ _ e))
      refine ⟨_, rfl, _, rfl, a, k, n, g, pt, b, row, rfl, s13 _ _ hA, h1, h2, s13 _ _ hB, hl, fun R2 => (by rw [R] at R2; cases R2), fun i3 d3 R3 H4 pr t s4 ht hpr => ?_⟩
      have e3 : i = i3 ∧ d = d3 := by
        rw [R] at R3
        injection R3 with R3
        injection R3 with e1 e2
        exact ⟨e1, e2⟩
      rw [← e3.1, ← e3.2] at ht
      have hp14 := s4 _ _ (s3 _ _ (s2 _ _ hp1))
      refine ⟨fun σ H' => ∃ y5 y7, σ = [some (.ref a), some (.ref p), some (.ref b), some (.int c), some (.int sa), y5, some (.int (codeM (caughtM (due k n g) (halves row) 0))), y7] ∧ Same H H', ?_, fun σ H5 hJ => ?_⟩
      · refine ⟨_, rfl, _, rfl, iteF ?_⟩
        refine ⟨_, rfl, p1, _, 0, .int ((i : Nat) : Int), rfl, rfl, SqT.of hp14, atI_nat (j := 0) rfl, _, _, rfl, rfl, ?_⟩
        refine ⟨_, rfl, _, rfl, sz (by show 2 ≤ 1000; decide), fun t2 n2 => ?_⟩
        have sh := shaped_wrong ((i : Nat) : Int) d
        refine ⟨.tuple [.str "wrong", .tuple [.int ((i : Nat) : Int), .str d.s]], .tuple [.str "wrong", .tuple [.int ((i : Nat) : Int), .str d.s]],
          .tup (SqT.of (cy n2 hpr)) (.cons (.str _) (.cons (.tup (SqT.of (cy n2 ht)) (.cons (.int _) (.cons (.str _) .nil))) .nil)),
          .tup (SqT.of upd_same) (.cons (.str _) (.cons (.tup (SqT.of (cy n2 hp14)) (.cons (.int _) (.cons (.str _) .nil))) .nil)), sh, sh, _, rfl, ?_⟩
        rw [SeqAt.eqv_refl _ (SeqAt.canLay_of_shaped sh)]
        refine iteF ⟨some (.ref p1), some (.ref pr), ?_, fun x y e => cy n2 (s4 _ _ (s13 _ _ e))⟩
        rw [R]
        rfl
      · obtain ⟨y5, y7, rfl, s5⟩ := hJ
        exact tail H5 y5 y7 s5
end
end K75

/-! law. -/
namespace K75
open PySem PySem.Spec PyProof.Rows L2
/-- t + u, tracked tuples, u not empty: whichever object it is -/
theorem catA_of {K : PySem.W.Frag} {H : Hp} {Q : VK} {a b : Addr} {xs ys : List V} (ha : H a = some (.tup xs)) (hb : H b = some (.tup ys)) (hz : xs.length + ys.length ≤ sizeLine)
    (h : ∀ H' p, Same H H' → H' p = some (.tup (xs ++ ys)) → Q (.ref p) H') : rCatA K (.ref a) (.ref b) H Q := by
  refine ⟨a, b, xs, ys, rfl, rfl, SqT.of ha, SqT.of hb, hz, fun e => ?_, fun _ e => ?_, fun _ _ p np => h _ p (same_upd np) upd_same⟩
  · refine h H b (Same.refl _) ?_
    rw [e]
    exact hb
  · refine h H a (Same.refl _) ?_
    rw [e, List.append_nil]
    exact ha
/-- t[lo:hi] of a tracked tuple: whichever object it is -/
theorem slA_of {K : PySem.W.Frag} {H : Hp} {Q : VK} {a : Addr} {xs : List V} {lo hi : Option Int} (ha : H a = some (.tup xs)) (h : ∀ H' p, Same H H' → H' p = some (.tup (cutV xs lo hi)) → Q (.ref p) H') : rSlA K (.ref a) lo hi H Q := by
  refine ⟨a, xs, rfl, SqT.of ha, fun e => h H a (Same.refl _) ?_, fun _ p np => h _ p (same_upd np) upd_same⟩
  rw [ha]
  unfold cutV
  rw [e.1, e.2, List.drop_zero, Nat.sub_zero, List.take_length]
theorem spoilt_bytes {row : List Int} {i : Nat} {fr : Int} (hb : Bytes row) (h0 : 0 ≤ fr) (h1 : fr < 256) : Bytes (row.take i ++ [fr] ++ row.drop (i + 1)) := fun b hm => by
  rcases List.mem_append.mp hm with hm | hm
  · rcases List.mem_append.mp hm with hm | hm
    · exact hb b (List.mem_of_mem_take hm)
    · rw [List.mem_singleton.mp hm]
      exact ⟨h0, h1⟩
  · exact hb b (List.mem_of_mem_drop hm)
section
variable {P : Program} {w : World} {K : PySem.W.Frag} {mg : Str → Option Value} {base : Heap}
abbrev sLaw : Stmt := topS 54
abbrev lawN : List Str := ["_law_script", "_law_kind", "_law_many", "_law_sign", "_law_name", "_law_dress", "_law_half", "_law_far", "_law_quarter", "_law_form_here", "_law_row", "_law_program", "_law_at", "_law_byte", "_law_fresh", "_law_spoilt", "_law_cell_here"]
theorem scLaw : FnScope lawN ["_law_script"] (defScope sLaw) := ⟨rfl, rfl, rfl, by decide +kernel, rfl, by decide +kernel, by decide +kernel⟩
def spLaw (K : PySem.W.Frag) : Sp := fun vs H Q _ => ∃ (a : Addr) (ns : List Int), vs = [.ref a] ∧ SqL K H a (ns.map V.int) ∧ ns.length ≤ 63 ∧ ∀ H', Q (.bl true) H'
theorem ok_law {f : Addr} {fd : FuncData} (F : Fun K "law" "law" sLaw f fd) (B : Bi mg) (C1 : Cal P w K mg base CX0 2 "_law_draws" ["_law_cell_here", "_law_salt", "_law_widths"] spDraws) (C2 : Cal P w K mg base CX0 1 "_law_cell" ["_law_script", "_law_k"] (spCell K))
    (C3 : Cal P w K mg base CX0 1 "_law_form" ["_law_kind", "_law_many", "_law_sign"] spForm) (C4 : Cal P w K mg base CX0 4 "_law_dressed" ["_law_form_here", "_law_number_here", "_law_digit"] spDressed)
    (C5 : Cal P w K mg base CX0 3 "_law_number" ["_law_form_here", "_law_way", "_law_far"] spNumber) (C6 : Cal P w K mg base CX0 3 "check_rows" ["form"] spCheck)
    (C7 : Cal P w K mg base CX0 6 "_law_right" ["_law_form_here", "_law_program", "_law_row", "_law_cell_here", "_law_salt"] spRight) : FnOk P w K mg base CX0 7 f fd ["_law_script"] (spLaw K) := by
  refine F.ok scLaw (fun vs H Q E h => ?_) (fun cdv Ar outer s H vs Q E hr h => ?_)
  · obtain ⟨a, ns, rfl, _⟩ := h
    rfl
  · obtain ⟨a, ns, rfl, hS, hlen, q⟩ := h
    have hr1 : Room 1 _ := hr.mono (by decide)
    have hr2 : Room 2 _ := hr.mono (by decide)
    have hr3 : Room 3 _ := hr.mono (by decide)
    have hr4 : Room 4 _ := hr.mono (by decide)
    refine ⟨_, pss_cons (ps_asg (pe_cal C1 hr2 pass0 (pa_cons (pe_cal C2 hr1 pass0 (pa_cons (pv 0) (pa_cons pe_int pa_nil))) (pa_cons pe_int (pa_cons (pe_lst (pa_cons pe_int (pa_cons pe_int (pa_cons pe_int (pa_cons pe_int (pa_cons pe_int (pa_cons pe_int pa_nil))))))) pa_nil))))
        (pg_lst rfl (pgs_cons (pg_name (i := 1) scLaw.nd rfl (.inl rfl)) (pgs_cons (pg_name (i := 2) scLaw.nd rfl (.inl rfl)) (pgs_cons (pg_name (i := 3) scLaw.nd rfl (.inl rfl)) (pgs_cons (pg_name (i := 4) scLaw.nd rfl (.inl rfl)) (pgs_cons (pg_name (i := 5) scLaw.nd rfl (.inl rfl)) (pgs_cons (pg_name (i := 6) scLaw.nd rfl (.inl rfl)) pgs_nil))))))))
      (pss_cons (ps_asg (pe_cal C1 hr2 pass0 (pa_cons (pe_cal C2 hr1 pass0 (pa_cons (pv 0) (pa_cons pe_int pa_nil))) (pa_cons pe_int (pa_cons (pe_lst (pa_cons (pe_op op_pow pe_int pe_int) (pa_cons pe_int pa_nil))) pa_nil))))
        (pg_lst rfl (pgs_cons (pg_name (i := 7) scLaw.nd rfl (.inl rfl)) (pgs_cons (pg_name (i := 8) scLaw.nd rfl (.inl rfl)) pgs_nil))))
      (pss_cons (ps_set (i := 9) scLaw.nd rfl (.inl rfl) (pe_cal C3 hr1 pass0 (pa_cons (pv 1) (pa_cons (pv 2) (pa_cons (pv 3) pa_nil)))))
      (pss_cons (ps_set (i := 10) scLaw.nd rfl (.inl rfl) (pe_cal C4 hr4 pass0 (pa_cons (pv 9) (pa_cons (pe_cal C5 hr3 pass0 (pa_cons (pv 9) (pa_cons (pv 4) (pa_cons (pv 7) pa_nil)))) (pa_cons (pv 5) pa_nil)))))
      (pss_cons (ps_set (i := 11) scLaw.nd rfl (.inl rfl) (pe_cal C6 hr3 pass0 (pa_cons (pv 9) pa_nil)))
      (pss_cons (ps_if (pt_not (pt_val (pe_cal C7 hr pass0 (pa_cons (pv 9) (pa_cons (pv 11) (pa_cons (pv 10) (pa_cons (pe_cal C2 hr1 pass0 (pa_cons (pv 0) (pa_cons pe_int pa_nil))) (pa_cons pe_int pa_nil)))))))) pss_never pss_nil)
      (pss_cons (ps_for PassesOwn.never rfl (pi_range1 rfl B.range (pa_cons (pe_op op_mul pe_int (pe_callB call_len_seq (by rfl) B.len PySem.boot_len (pa_cons (pv 10) pa_nil))) pa_nil)) (pg_name (i := 12) scLaw.nd rfl (.inl rfl))
        (pss_cons (ps_set (i := 13) scLaw.nd rfl (.inl rfl) (pe_ix ix_tup (pv 10) (pe_op op_fdiv (pv 12) pe_int) (fun _ _ => rfl)))
        (pss_cons (ps_set (i := 14) scLaw.nd rfl (.inl rfl) (pe_ix ix_list (pe_lst (pa_cons (pe_op op_add (pe_op op_mul pe_int (pv 6)) (pe_op op_mod (pv 13) pe_int)) (pa_cons (pe_op op_add (pe_op op_sub (pv 13) (pe_op op_mod (pv 13) pe_int)) (pv 6)) pa_nil))) (pe_op op_mod (pv 12) pe_int) (fun _ _ => rfl)))
        (pss_cons (ps_set (i := 15) scLaw.nd rfl (.inl rfl) (pe_op op_catA (pe_op op_catA (pe_slice sl_tupA (pv 10) po_none (po_some (pe_op op_fdiv (pv 12) pe_int))) (pe_tup (pa_cons (pv 14) pa_nil))) (pe_slice sl_tupA (pv 10) (po_some (pe_op op_add (pe_op op_fdiv (pv 12) pe_int) pe_int)) po_none)))
        (pss_cons (ps_set (i := 16) scLaw.nd rfl (.inl rfl) (pe_cal C2 hr1 pass0 (pa_cons (pv 0) (pa_cons (pe_op op_add pe_int (pv 12)) pa_nil))))
        (pss_one (ps_if (PW.pt (pw_and (pt_cmpR op_eq (pe_op op_mod (pv 12) pe_int) (pv 8) (nomark _)) (pw_and1 (pt_not (pt_val (pe_cal C7 hr pass0 (pa_cons (pv 9) (pa_cons (pv 11) (pa_cons (pv 15) (pa_cons (pv 16) (pa_cons (pe_op op_add pe_int (pv 12)) pa_nil)))))))))))
          pss_never pss_nil)))))))
      (pss_one (ps_ret pe_bl)))))))), ?_⟩
    -- the six draws
    refine ⟨_, rfl, a, ns, 0, 0, rfl, rfl, hS, fun c0 => ⟨sz (by show 6 ≤ 1000; decide), fun lw nw => ⟨c0, 435, lw, [2, 12, 3, 16, 12, 16], rfl, upd_same, by decide, by decide, fun H1 pd ds s1 hD hdl hbl => ?_⟩⟩⟩
    obtain ⟨d0, d1, d2, d3, d4, d5, rfl⟩ : ∃ d0 d1 d2 d3 d4 d5, ds = [d0, d1, d2, d3, d4, d5] := by
      match ds, hdl with
      | [d0, d1, d2, d3, d4, d5], _ => exact ⟨_, _, _, _, _, _, rfl⟩
    obtain ⟨k, rfl⟩ : ∃ k : Kd, d0 = (k.i : Int) := by
      have := hbl 0 d0 2 rfl rfl
      have h : d0 = 0 ∨ d0 = 1 := by omega
      rcases h with h | h
      · exact ⟨.pk, h⟩
      · exact ⟨.sp, h⟩
    obtain ⟨m, rfl, hm⟩ : ∃ m : Nat, d1 = (m : Int) ∧ m < 12 := by
      have := hbl 1 d1 12 rfl rfl
      exact ⟨d1.toNat, by omega, by omega⟩
    obtain ⟨g, rfl⟩ : ∃ g : Sg, d2 = (g.i : Int) := by
      have := hbl 2 d2 3 rfl rfl
      have h : d2 = 0 ∨ d2 = 1 ∨ d2 = 2 := by omega
      rcases h with h | h | h
      · exact ⟨.no, h⟩
      · exact ⟨.en, h⟩
      · exact ⟨.te, h⟩
    obtain ⟨nm, rfl⟩ : ∃ nm : Nat, d3 = (nm : Int) := by
      have := hbl 3 d3 16 rfl rfl
      exact ⟨d3.toNat, by omega⟩
    obtain ⟨dr, rfl⟩ : ∃ dr : Nat, d4 = (dr : Int) := by
      have := hbl 4 d4 12 rfl rfl
      exact ⟨d4.toNat, by omega⟩
    have hhalf := hbl 5 d5 16 rfl rfl
    have s01 : Same H H1 := fun x y e => s1 _ _ (cy nw e)
    refine ⟨pd, _, rfl, SqL.of hD, rfl, _, _, rfl, _, _, rfl, _, _, rfl, _, _, rfl, _, _, rfl, _, _, rfl, rfl, ?_⟩
    -- the two draws
    refine ⟨_, rfl, a, ns, 1, 1, rfl, rfl, s01.seq hS, fun c1 => ⟨_, _, rfl, rfl, ⟨by decide, by decide, by decide⟩, sz (by show 2 ≤ 1000; decide), fun lw2 nw2 => ⟨c1, 437, lw2, [10 ^ 14, 4], rfl, upd_same, by decide, by decide, fun H2 pd2 ds2 s2 hD2 hdl2 hbl2 => ?_⟩⟩⟩
    obtain ⟨f0, f1, rfl⟩ : ∃ f0 f1, ds2 = [f0, f1] := by
      match ds2, hdl2 with
      | [f0, f1], _ => exact ⟨_, _, rfl⟩
    obtain ⟨far, rfl⟩ : ∃ far : Nat, f0 = (far : Int) := by
      have := hbl2 0 f0 (10 ^ 14) rfl rfl
      exact ⟨f0.toNat, by omega⟩
    have s02 : Same H H2 := fun x y e => s2 _ _ (cy nw2 (s01 _ _ e))
    refine ⟨pd2, _, rfl, SqL.of hD2, rfl, _, _, rfl, _, _, rfl, rfl, ?_⟩
    -- the shape, the row, the program
    refine ⟨_, rfl, _, rfl, _, rfl, k, m, g, rfl, fun H3 pf pt s3 hF => ?_⟩
    have hm1 : 1 ≤ m + 1 := by omega
    have hm12 : m + 1 ≤ 12 := by omega
    refine ⟨_, rfl, _, rfl, _, rfl, _, rfl, pf, k, m + 1, g, pt, nm, far, rfl, hF, hm1, hm12, fun H4 num s4 => ⟨_, rfl, pf, k, m + 1, g, pt, num, dr, rfl, s4 _ _ hF, hm1, hm12, fun H5 pr row s5 hR hrl hby => ?_⟩⟩
    have hF5 := s5 _ _ (s4 _ _ hF)
    refine ⟨_, rfl, pf, k, m + 1, g, pt, rfl, hF5, hm1, hm12, fun H6 pp s6 hP => ?_⟩
    have s06 : Same H H6 := fun x y e => s6 _ _ (s5 _ _ (s4 _ _ (s3 _ _ (s02 _ _ e))))
    have hF6 := s6 _ _ hF5
    have hR6 := s6 _ _ hR
    refine ⟨_, rfl, _, rfl, _, rfl, _, rfl, a, ns, 2, 2, rfl, rfl, s06.seq hS, fun c2 => ⟨pf, k, m + 1, g, pt, pp, pr, row, c2, 439, rfl, hF6, hm1, hm12, hP, hR6, hrl, hby, fun H7 s7 => ⟨_, rfl, iteF ?_⟩⟩⟩
    have wl := width_le (k := k) (g := g) hm12
    have lm : (row.map V.int).length = row.length := List.length_map ..
    -- the loop over the halves
    refine ⟨_, rfl, pr, _, rfl, .inr (SqT.of (s7 _ _ hR6)), _, _, rfl, rfl, .inl ⟨by decide, by decide⟩, ((2 * row.length : Nat) : Int), by rw [lm]; rfl, by omega, by omega, for_range (n := 2 * row.length)
      (fun i σ H' => ∃ y12 y13 y14 y15 y16, σ = [some (.ref a), some (.int (k.i : Int)), some (.int (m : Int)), some (.int (g.i : Int)), some (.int (nm : Int)), some (.int (dr : Int)), some (.int d5), some (.int (far : Int)), some (.int f1), some (.ref pf), some (.ref pr), some (.ref pp), y12, y13, y14, y15, y16] ∧ Same H6 H')
      ⟨none, none, none, none, none, rfl, s7⟩ (fun i σ H8 hi hPv => ?_) (fun σ H8 hPv => ?_)⟩
    · obtain ⟨y12, y13, y14, y15, y16, rfl, s8⟩ := hPv
      have hR8 := s8 _ _ hR6
      have e2 : (0 + (i : Int)) / 2 = ((i / 2 : Nat) : Int) := by omega
      have em : (0 + (i : Int)) % 2 = ((i % 2 : Nat) : Int) := by omega
      obtain ⟨bb, hbb⟩ : ∃ bb, row[i / 2]? = some bb := ⟨_, List.getElem?_eq_getElem (by omega)⟩
      obtain ⟨b0, b1⟩ := hby bb (List.mem_of_getElem? hbb)
      -- byte
      refine ⟨_, rfl, _, rfl, _, _, rfl, rfl, ⟨by decide, by decide⟩, pr, _, _, .int bb, rfl, rfl, SqT.of hR8, at_of e2 (get_map hbb), ?_⟩
      -- fresh
      obtain ⟨fr, hfr, fr0, fr1⟩ : ∃ fr : Int, ([16 * d5 + bb % 16, bb - bb % 16 + d5] : List Int)[i % 2]? = some fr ∧ 0 ≤ fr ∧ fr < 256 := by
        have h2 : i % 2 = 0 ∨ i % 2 = 1 := by omega
        rcases h2 with h | h
        · exact ⟨_, by rw [h]; rfl, by omega, by omega⟩
        · exact ⟨_, by rw [h]; rfl, by omega, by omega⟩
      refine ⟨_, rfl, _, _, rfl, rfl, .inl ⟨by decide, by decide⟩, _, rfl, _, _, rfl, rfl, (by show (0 : Int) < 16; decide), _, _, rfl, rfl, _, rfl, _, rfl, _, _, rfl, rfl, (by show (0 : Int) < 16; decide), _, _, rfl, rfl, _, rfl, _, _, rfl, rfl, sz (by show 2 ≤ 1000; decide), fun lf nf => ?_⟩
      refine ⟨_, rfl, _, _, rfl, rfl, (by show (0 : Int) < 2; decide), lf, _, _, .int fr, rfl, rfl, SqL.of upd_same, at_of em (get_map (f := V.int) hfr), ?_⟩
      have hR9 := cy (o := .lst (([16 * d5 + bb % 16, bb - bb % 16 + d5] : List Int).map V.int)) nf hR8
      -- spoilt
      refine ⟨_, rfl, _, rfl, _, _, rfl, rfl, ⟨by decide, by decide⟩, _, rfl, slA_of hR9 fun H10 q1 s10 hq1 => ⟨_, rfl, sz (by show 1 ≤ 1000; decide), fun q2 n2 => catA_of (cy n2 hq1) upd_same ?_ fun H11 q3 s11 hq3 => ?_⟩⟩
      · have := cutV_length (row.map V.int) none (some ((0 + (i : Int)) / 2))
        exact sz (by show (cutV (row.map V.int) none (some ((0 + (i : Int)) / 2))).length + 1 ≤ 1000; omega)
      have hR11 := s11 _ _ (cy n2 (s10 _ _ hR9))
      refine ⟨_, rfl, _, rfl, _, _, rfl, rfl, ⟨by decide, by decide⟩, _, _, rfl, rfl, _, rfl, ?_⟩
      dsimp only [tNoPart]
      refine slA_of hR11 fun H12 q4 s12 hq4 => catA_of (s12 _ _ hq3) hq4 ?_ fun H13 q5 s13 hq5 => ?_
      · have c1 := cutV_length (row.map V.int) none (some ((0 + (i : Int)) / 2))
        have c2 := cutV_length (row.map V.int) (some ((0 + (i : Int)) / 2 + 1)) none
        refine sz ?_
        rw [List.length_append]
        show _ + 1 + _ ≤ 1000
        omega
      have e3 : (0 + (i : Int)) / 2 + 1 = ((i / 2 + 1 : Nat) : Int) := by omega
      have esp : (cutV (row.map V.int) none (some ((0 + (i : Int)) / 2)) ++ [V.int fr]) ++ cutV (row.map V.int) (some ((0 + (i : Int)) / 2 + 1)) none = (row.take (i / 2) ++ [fr] ++ row.drop (i / 2 + 1)).map V.int := by
        rw [e3, e2, cut_to, cut_from, List.map_append, List.map_append, List.map_take, List.map_drop]
        rfl
      have hq6 : H13 q5 = some (.tup ((row.take (i / 2) ++ [fr] ++ row.drop (i / 2 + 1)).map V.int)) := by
        rw [← esp]
        exact hq5
      have s813 : Same H8 H13 := fun x y e => s13 _ _ (s12 _ _ (s11 _ _ (cy n2 (s10 _ _ (cy nf e)))))
      have s613 : Same H6 H13 := fun x y e => s813 _ _ (s8 _ _ e)
      have hlsp : (row.take (i / 2) ++ [fr] ++ row.drop (i / 2 + 1)).length = width k (m + 1) g := by
        rw [List.length_append, List.length_append, List.length_take, List.length_drop, List.length_singleton]
        omega
      -- cell_here
      refine ⟨_, rfl, _, rfl, _, _, rfl, rfl, a, ns, _, 3 + i, rfl, by omega, s613.seq (s06.seq hS), fun c3 => ?_⟩
      -- the test
      refine ⟨_, rfl, _, _, rfl, rfl, (by show (0 : Int) < 4; decide), _, rfl, rfl, _, rfl, ite2 (fun _ => ?_) (fun _ => iteF ?_)⟩
      · refine ⟨_, rfl, _, rfl, _, rfl, _, rfl, _, rfl, _, _, rfl, rfl, pf, k, m + 1, g, pt, pp, q5, _, c3, _, rfl, s613 _ _ hF6, hm1, hm12, hP.same s613, hq6, hlsp, spoilt_bytes hby fr0 fr1, fun H14 s14 => ⟨_, rfl, iteF ?_⟩⟩
        exact ⟨some (.int (0 + (i : Int))), some (.int bb), some (.int fr), some (.ref q5), some (.int c3), rfl, fun x y e => s14 _ _ (s613 _ _ e)⟩
      · exact ⟨some (.int (0 + (i : Int))), some (.int bb), some (.int fr), some (.ref q5), some (.int c3), rfl, s613⟩
    · obtain ⟨y12, y13, y14, y15, y16, rfl, s8⟩ := hPv
      exact q H8
end
end K75

/-! What the top has written, and every def's promise from it. -/
namespace K75
open PySem PySem.Spec PyProof.Rows L2
/-- the def st stands at the global x -/
def DefG (K : PySem.W.Frag) (x : Str) (st : Stmt) : Prop := ∃ (f : Addr) (oc : Value) (od : Option Addr) (kV doc pm : Value) (an : Option Addr) (cdv ct : Value) (osl : Array (Option Value)),
  PySem.W.nsIn K mainGlobals x = some (some (.ref f)) ∧ K.lookup f = some ⟨oc, od, .func (PySem.W.fnOf x x (defArgs st) (defBody st) (defScope st) .none kV doc pm an cdv ct), osl⟩ ∧ PySem.W.codeIn K cdv x = true ∧ PySem.W.keepIn K (.ref f) = true
theorem defG_mk {K : PySem.W.Frag} {x : Str} {st : Stmt} {f : Addr} {oc : Value} {od : Option Addr} {kV doc pm : Value} {an : Option Addr} {cdv ct : Value} {osl : Array (Option Value)} (h1 : PySem.W.nsIn K mainGlobals x = some (some (.ref f))) (h2 : K.lookup f = some ⟨oc, od, .func (PySem.W.fnOf x x (defArgs st) (defBody st) (defScope st) .none kV doc pm an cdv ct), osl⟩) (h3 : PySem.W.codeIn K cdv x = true) (h4 : PySem.W.keepIn K (.ref f) = true) : DefG K x st := ⟨_, _, _, _, _, _, _, _, _, _, h1, h2, h3, h4⟩
theorem cal_mk {P : Program} {w : World} {K : PySem.W.Frag} {mg : Str → Option Value} {base h : Heap} {CX : CXT} {k : Nat} {x : Str} {st : Stmt} {ps : List Str} {sp : Sp} (D : DefG K x st) (X : K.In h) (G : h.Ns mainGlobals mg)
    (ok : ∀ f fd, Fun K x x st f fd → FnOk P w K mg base CX k f fd ps sp)
    (b : ∀ (kV doc pm : Value) (an : Option Addr) (cdv ct : Value) (us : List Value), us.length = ps.length → bindArgs (PySem.W.fnOf x x (defArgs st) (defBody st) (defScope st) .none kV doc pm an cdv ct) ⟨us, []⟩ = pure (ps.zip us)) : Cal P w K mg base CX k x ps sp := by
  obtain ⟨f, oc, od, kV, doc, pm, an, cdv, ct, osl, a, l, c, kp⟩ := D
  have F := fun_mk (st := st) l c kp
  exact ⟨f, _, ok f _ F, PySem.W.mg_of X G a, kp, F.binds b⟩
theorem gi_mk {K : PySem.W.Frag} {mg : Str → Option Value} {h : Heap} {x : Str} {i : Int} {t : Tok} (X : K.In h) (G : h.Ns mainGlobals mg) (a : PySem.W.nsIn K mainGlobals x = some (some (.int i t))) : GI mg x i := ⟨t, PySem.W.mg_of X G a⟩
theorem gt_mk {K : PySem.W.Frag} {mg : Str → Option Value} {h : Heap} {x : Str} {a : Addr} {od : Option Addr} {its : Array Value} {n : Nat} {sl : Array (Option Value)} {xs : List V} (X : K.In h) (G : h.Ns mainGlobals mg) (ha : PySem.W.nsIn K mainGlobals x = some (some (.ref a)))
    (l : K.lookup a = some ⟨.type "tuple", od, .seq its n, sl⟩) (v : Vals xs its.toList) (z : its.size ≤ sizeLine) : GT K mg x xs := ⟨a, PySem.W.mg_of X G ha, fun H => .inr ⟨_, its, n, l, rfl, rfl, z, v⟩⟩
/-- an error of the class at S is what «except S» names -/
theorem exm_self {K : PySem.W.Frag} {S : Addr} (h1 : PySem.W.subIn K (.ref S) (.type "BaseException") = some true) (h2 : PySem.W.isClsIn K S = true) (h3 : PySem.W.typeIn K (.ref S) = some (.type "type")) (h4 : PySem.W.subIn K (.ref S) (.ref S) = some true) :
    PySem.W.exmOne K (.ref S) (.ref S) = some true := by
  have e1 : (PySem.W.subIn K (.ref S) (.type "BaseException") == some true) = true := by rw [h1] <;> rfl
  have e2 : ((PySem.W.clsIn K S).isSome && PySem.W.typeIn K (.ref S) == some (.type "type")) = true := by
    have h2' : (PySem.W.clsIn K S).isSome = true := h2
    rw [h2', h3] <;> rfl
  show (if (PySem.W.subIn K (.ref S) (.type "BaseException") == some true) = true then (if ((PySem.W.clsIn K S).isSome && PySem.W.typeIn K (.ref S) == some (.type "type")) = true then PySem.W.subIn K (.ref S) (.ref S) else none) else none) = some true
  rw [if_pos e1, if_pos e2]
  exact h4
/-- the module's constants -/
structure Cn (K : PySem.W.Frag) (mg : Str → Option Value) : Prop where
  cst : Cst mg
  zone : GI mg "ZONE_HALF" 15
  cells : GI mg "ALL_CELLS" 256
  z0 : GI mg "IS_FIGURE" 0
  z1 : GI mg "IS_SIGN" 1
  z2 : GI mg "IS_NOUGHT" 2
  z3 : GI mg "IS_ZONE" 3
  minus : GT K mg "MINUS_HALVES" [.int 11, .int 13]
  figures : GT K mg "FIGURES" ((goodsN 0).map V.int)
  signs : GT K mg "SIGNS" ((goodsN 1).map V.int)
theorem all_mk {l : PySem.W.OpenLaw} {w : World} {K : PySem.W.Frag} {h : Heap} {mg : Str → Option Value} {fa C C0 fI N : Addr} (X : K.In h) (G : h.Ns mainGlobals mg) (hfa : mg "law" = some (.ref fa))
    {nm q : Str} {bs : List Value} {sn : List Str} {sub : List Value} {ab : Bool} {col : Option Bool} {dd : Option Addr} {m0 m1 m2 m3 m5 : Option Value} {oc kV doc pm cdv ct : Value} {od an : Option Addr} {osl : Array (Option Value)}
    {k_iz k_ic k_ia k_if_ k_io k_ib k_it k_i0 k_i1 k_i2 k_i3 : Tok} {a_tM a_tF a_tS : Addr} {d_tM d_tF d_tS : Option Addr} {s_tM s_tF s_tS : Array Value} {n_tM n_tF n_tS : Nat} {o_tM o_tF o_tS : Array (Option Value)}
    (D_halves_of : DefG K "halves_of" sHalvesOf)
    (D_power : DefG K "power" sPower)
    (D_number_by : DefG K "number_by" sNumberBy)
    (D_halves_in : DefG K "halves_in" sHalvesIn)
    (D_duties : DefG K "duties" sDuties)
    (D_half_right : DefG K "half_right" sHalfRight)
    (D_caught : DefG K "caught" sCaught)
    (D_number_of : DefG K "number_of" sNumberOf)
    (D_flag_table : DefG K "flag_table" sFlag)
    (D_look_tables : DefG K "look_tables" sTables)
    (D_half_looks : DefG K "half_looks" sLooks)
    (D_look_rows : DefG K "look_rows" sLookRows)
    (D_check_rows : DefG K "check_rows" sCheck)
    (D__law_cell : DefG K "_law_cell" sCell)
    (D__law_mixed : DefG K "_law_mixed" sMixed)
    (D__law_draws : DefG K "_law_draws" sDraws)
    (D__law_power : DefG K "_law_power" sLPower)
    (D__law_form : DefG K "_law_form" sForm)
    (D__law_ends : DefG K "_law_ends" sEnds)
    (D__law_figures : DefG K "_law_figures" sFigures)
    (D__law_by_halves : DefG K "_law_by_halves" sByHalves)
    (D__law_row_with : DefG K "_law_row_with" sRowWith)
    (D__law_dressed : DefG K "_law_dressed" sDressed)
    (D__law_number : DefG K "_law_number" sNumber)
    (D__law_run : DefG K "_law_run" sRun)
    (D__law_filled : DefG K "_law_filled" sFilled)
    (D__law_after : DefG K "_law_after" sAfter)
    (D__law_just : DefG K "_law_just" sJust)
    (D__law_caught : DefG K "_law_caught" sLCaught)
    (D__law_read_row : DefG K "_law_read_row" sReadRow)
    (D__law_read : DefG K "_law_read" sRead)
    (D__law_right : DefG K "_law_right" sRight)
    (D_law : DefG K "law" sLaw)
    (z_len : PySem.W.nsIn K mainGlobals "len" = some none)
    (z_range : PySem.W.nsIn K mainGlobals "range" = some none)
    (z_int : PySem.W.nsIn K mainGlobals "int" = some none)
    (z_abs : PySem.W.nsIn K mainGlobals "abs" = some none)
    (z_tuple : PySem.W.nsIn K mainGlobals "tuple" = some none)
    (z_list : PySem.W.nsIn K mainGlobals "list" = some none)
    (z_zip : PySem.W.nsIn K mainGlobals "zip" = some none)
    (z_enumerate : PySem.W.nsIn K mainGlobals "enumerate" = some none)
    (z_isinstance : PySem.W.nsIn K mainGlobals "isinstance" = some none)
    (z_all : PySem.W.nsIn K mainGlobals "all" = some none)
    (z_max : PySem.W.nsIn K mainGlobals "max" = some none)
    (z_min : PySem.W.nsIn K mainGlobals "min" = some none)
    (z_str : PySem.W.nsIn K mainGlobals "str" = some none)
    (z_bool : PySem.W.nsIn K mainGlobals "bool" = some none)
    (g_iz : PySem.W.nsIn K mainGlobals "ZONE_HALF" = some (some (.int 15 k_iz)))
    (g_ic : PySem.W.nsIn K mainGlobals "ALL_CELLS" = some (some (.int 256 k_ic)))
    (g_ia : PySem.W.nsIn K mainGlobals "ANSWER" = some (some (.int 252 k_ia)))
    (g_if_ : PySem.W.nsIn K mainGlobals "FLAG" = some (some (.int 253 k_if_)))
    (g_io : PySem.W.nsIn K mainGlobals "OTHER" = some (some (.int 254 k_io)))
    (g_ib : PySem.W.nsIn K mainGlobals "BLANK" = some (some (.int 255 k_ib)))
    (g_it : PySem.W.nsIn K mainGlobals "TURNED" = some (some (.int 8 k_it)))
    (g_i0 : PySem.W.nsIn K mainGlobals "IS_FIGURE" = some (some (.int 0 k_i0)))
    (g_i1 : PySem.W.nsIn K mainGlobals "IS_SIGN" = some (some (.int 1 k_i1)))
    (g_i2 : PySem.W.nsIn K mainGlobals "IS_NOUGHT" = some (some (.int 2 k_i2)))
    (g_i3 : PySem.W.nsIn K mainGlobals "IS_ZONE" = some (some (.int 3 k_i3)))
    (g_tM : PySem.W.nsIn K mainGlobals "MINUS_HALVES" = some (some (.ref a_tM))) (l_tM : K.lookup a_tM = some ⟨.type "tuple", d_tM, .seq s_tM n_tM, o_tM⟩) (v_tM : Vals [V.int 11, V.int 13] s_tM.toList) (y_tM : s_tM.size ≤ sizeLine)
    (g_tF : PySem.W.nsIn K mainGlobals "FIGURES" = some (some (.ref a_tF))) (l_tF : K.lookup a_tF = some ⟨.type "tuple", d_tF, .seq s_tF n_tF, o_tF⟩) (v_tF : Vals [V.int 0, V.int 1, V.int 2, V.int 3, V.int 4, V.int 5, V.int 6, V.int 7, V.int 8, V.int 9] s_tF.toList) (y_tF : s_tF.size ≤ sizeLine)
    (g_tS : PySem.W.nsIn K mainGlobals "SIGNS" = some (some (.ref a_tS))) (l_tS : K.lookup a_tS = some ⟨.type "tuple", d_tS, .seq s_tS n_tS, o_tS⟩) (v_tS : Vals [V.int 10, V.int 11, V.int 12, V.int 13, V.int 14, V.int 15] s_tS.toList) (y_tS : s_tS.size ≤ sizeLine)
    (aW : PySem.W.nsIn K mainGlobals "Wrong" = some (some (.ref C))) (aL : PySem.W.nsIn K mainGlobals "LoftError" = some (some (.ref C0)))
    (xL : K.lookup C = some (excClassObj nm q C N bs [.ref C0, .type "ValueError", .type "Exception", .type "BaseException", .type "object"] true sn sub ab col dd m0 m1 m2 m3 m5 "ValueError.__new__"))
    (sa : PySem.W.findIn K (.ref C) "__setattr__" = some (some (.builtin "object.__setattr__"))) (ga : PySem.W.findIn K (.ref C) "__getattribute__" = some (some (.builtin "BaseException.__getattribute__"))) (gg : PySem.W.findIn K (.ref C) "__getattr__" = some none)
    (nP : PySem.W.findIn K (.ref C) "place" = some none) (nY : PySem.W.findIn K (.ref C) "why" = some none) (kC : PySem.W.keepIn K (.ref C) = true) (eC : PySem.W.subIn K (.ref C) (.type "BaseException") = some true) (tC : PySem.W.typeIn K (.ref C) = some (.type "type"))
    (hC : PySem.W.hasDictIn K C = true) (iS : PySem.W.isClsIn K C = true) (sC : PySem.W.subIn K (.ref C) (.ref C) = some true)
    (rd : PySem.W.readsIn K C0 (.type "type") = true) (gLoft : PySem.W.specialIn K (.ref C0) "__getattribute__" = some (some (.builtin "type.__getattribute__"))) (fLoft : PySem.W.findCls K (.ref C0) (.type "type") "__init__" = some (.val (.builtin "ValueError.__init__")))
    (iC : PySem.W.findIn K (.ref C) "__init__" = some (some (.ref fI))) (tI : PySem.W.typeIn K (.ref fI) = some (.type "function")) (lI : K.lookup fI = some ⟨oc, od, .func (PySem.W.fnOf "__init__" "Wrong.__init__" (defArgs sInit) (defBody sInit) (defScope sInit) .none kV doc pm an cdv ct), osl⟩) (cI : PySem.W.codeIn K cdv "Wrong.__init__" = true) (kI : PySem.W.keepIn K (.ref fI) = true) :
    ∃ fd : FuncData, (∀ (s : Shared) (v : Value), BindsTo s fd ⟨[v], []⟩ [("_law_script", v)]) ∧ ∀ base : Heap, K.In base → base.Ns mainGlobals mg → FnOk l.prog w K mg base CX0 7 fa fd ["_law_script"] (spLaw K) := by
  obtain ⟨f, oc2, od2, kV2, doc2, pm2, an2, cdv2, ct2, osl2, a2, l2, c2, kp2⟩ := D_law
  have e := hfa.symm.trans (PySem.W.mg_of X G a2)
  cases e
  have B : Bi mg := ⟨PySem.W.mg_none_of X G z_len, PySem.W.mg_none_of X G z_range, PySem.W.mg_none_of X G z_int, PySem.W.mg_none_of X G z_abs, PySem.W.mg_none_of X G z_tuple, PySem.W.mg_none_of X G z_list, PySem.W.mg_none_of X G z_zip, PySem.W.mg_none_of X G z_enumerate, PySem.W.mg_none_of X G z_isinstance, PySem.W.mg_none_of X G z_all, PySem.W.mg_none_of X G z_max, PySem.W.mg_none_of X G z_min, PySem.W.mg_none_of X G z_str, PySem.W.mg_none_of X G z_bool⟩
  have T : Cn K mg := ⟨⟨gi_mk X G g_ia, gi_mk X G g_if_, gi_mk X G g_io, gi_mk X G g_ib, gi_mk X G g_it⟩, gi_mk X G g_iz, gi_mk X G g_ic, gi_mk X G g_i0, gi_mk X G g_i1, gi_mk X G g_i2, gi_mk X G g_i3, gt_mk X G g_tM l_tM v_tM y_tM, gt_mk X G g_tF l_tF v_tF y_tF, gt_mk X G g_tS l_tS v_tS y_tS⟩
  have LC : LoftC K mg C0 := ⟨PySem.W.mg_of X G aL, rd, gLoft, fLoft⟩
  have W : WrC K mg C := ⟨PySem.W.mg_of X G aW, ⟨⟨nm, q, N, bs, _, sn, sub, ab, col, dd, m0, m1, m2, m3, m5, xL, rfl⟩, sa, eC, tC, kC⟩, ⟨ga, gg, eC, hC⟩, nP, nY, exm_self eC iS tC sC⟩
  have FnI := fun_mk (st := sInit) lI cI kI
  have bI := FnI.binds (ps := ["self", "place", "why"]) fun _ _ _ _ _ _ us hl => match us, hl with | [_, _, _], _ => rfl
  refine ⟨PySem.W.fnOf "law" "law" (defArgs sLaw) (defBody sLaw) (defScope sLaw) .none kV2 doc2 pm2 an2 cdv2 ct2, fun s v => .of_eq rfl, fun base _ _ => ?_⟩
  have FI : FnOk l.prog w K mg base CX0 1 fI _ ["self", "place", "why"] (spInit C) := ok_init FnI LC W
  have c_halves_of := cal_mk (P := l.prog) (w := w) (base := base) (ps := ["form"]) D_halves_of X G (fun f fd F => ok_halves_of F B) (fun _ _ _ _ _ _ us hl => match us, hl with | [_], _ => rfl)
  have c_power := cal_mk (P := l.prog) (w := w) (base := base) (ps := ["base", "many"]) D_power X G (fun f fd F => ok_power F B) (fun _ _ _ _ _ _ us hl => match us, hl with | [_, _], _ => rfl)
  have c_number_by := cal_mk (P := l.prog) (w := w) (base := base) (ps := ["base", "digits"]) D_number_by X G (fun f fd F => ok_number_by F) (fun _ _ _ _ _ _ us hl => match us, hl with | [_, _], _ => rfl)
  have c_halves_in := cal_mk (P := l.prog) (w := w) (base := base) (ps := ["row"]) D_halves_in X G (fun f fd F => ok_halves_in F) (fun _ _ _ _ _ _ us hl => match us, hl with | [_], _ => rfl)
  have c_duties := cal_mk (P := l.prog) (w := w) (base := base) (ps := ["form"]) D_duties X G (fun f fd F => ok_duties F B c_halves_of) (fun _ _ _ _ _ _ us hl => match us, hl with | [_], _ => rfl)
  have c_half_right := cal_mk (P := l.prog) (w := w) (base := base) (ps := ["duty", "half"]) D_half_right X G (fun f fd F => ok_half_right F T.zone) (fun _ _ _ _ _ _ us hl => match us, hl with | [_, _], _ => rfl)
  have c_caught := cal_mk (P := l.prog) (w := w) (base := base) (ps := ["form", "row"]) D_caught X G (fun f fd F => ok_caught F B c_duties c_halves_in c_half_right) (fun _ _ _ _ _ _ us hl => match us, hl with | [_, _], _ => rfl)
  have c_number_of := cal_mk (P := l.prog) (w := w) (base := base) (ps := ["form", "row"]) D_number_of X G (fun f fd F => ok_number_of F B W iC tI FI bI T.minus c_caught c_duties c_halves_in c_number_by c_power) (fun _ _ _ _ _ _ us hl => match us, hl with | [_, _], _ => rfl)
  have c_flag_table := cal_mk (P := l.prog) (w := w) (base := base) (ps := ["is_high", "good"]) D_flag_table X G (fun f fd F => ok_flag F B T.cells) (fun _ _ _ _ _ _ us hl => match us, hl with | [_, _], _ => rfl)
  have c_look_tables := cal_mk (P := l.prog) (w := w) (base := base) (ps := []) D_look_tables X G (fun f fd F => ok_tables F B T.cells T.figures T.signs c_flag_table) (fun _ _ _ _ _ _ us hl => match us, hl with | [], _ => rfl)
  have c_half_looks := cal_mk (P := l.prog) (w := w) (base := base) (ps := ["form"]) D_half_looks X G (fun f fd F => ok_looks F B T.z3 T.z0 T.z1 T.z2) (fun _ _ _ _ _ _ us hl => match us, hl with | [_], _ => rfl)
  have c_look_rows := cal_mk (P := l.prog) (w := w) (base := base) (ps := ["place", "wanted"]) D_look_rows X G (fun f fd F => ok_look_rows F T.cst) (fun _ _ _ _ _ _ us hl => match us, hl with | [_, _], _ => rfl)
  have c_check_rows := cal_mk (P := l.prog) (w := w) (base := base) (ps := ["form"]) D_check_rows X G (fun f fd F => ok_check F B T.cst c_half_looks c_look_rows c_look_tables) (fun _ _ _ _ _ _ us hl => match us, hl with | [_], _ => rfl)
  have c__law_cell := cal_mk (P := l.prog) (w := w) (base := base) (ps := ["_law_script", "_law_k"]) D__law_cell X G (fun f fd F => ok_cell F B) (fun _ _ _ _ _ _ us hl => match us, hl with | [_, _], _ => rfl)
  have c__law_mixed := cal_mk (P := l.prog) (w := w) (base := base) (ps := ["_law_cell_here", "_law_k", "_law_salt"]) D__law_mixed X G (fun f fd F => ok_mixed F) (fun _ _ _ _ _ _ us hl => match us, hl with | [_, _, _], _ => rfl)
  have c__law_draws := cal_mk (P := l.prog) (w := w) (base := base) (ps := ["_law_cell_here", "_law_salt", "_law_widths"]) D__law_draws X G (fun f fd F => ok_draws F B c__law_mixed) (fun _ _ _ _ _ _ us hl => match us, hl with | [_, _, _], _ => rfl)
  have c__law_power := cal_mk (P := l.prog) (w := w) (base := base) (ps := ["_law_base", "_law_many"]) D__law_power X G (fun f fd F => ok_lpower F B) (fun _ _ _ _ _ _ us hl => match us, hl with | [_, _], _ => rfl)
  have c__law_form := cal_mk (P := l.prog) (w := w) (base := base) (ps := ["_law_kind", "_law_many", "_law_sign"]) D__law_form X G (fun f fd F => ok_form F) (fun _ _ _ _ _ _ us hl => match us, hl with | [_, _, _], _ => rfl)
  have c__law_ends := cal_mk (P := l.prog) (w := w) (base := base) (ps := ["_law_form_here"]) D__law_ends X G (fun f fd F => ok_ends F c__law_power) (fun _ _ _ _ _ _ us hl => match us, hl with | [_], _ => rfl)
  have c__law_figures := cal_mk (P := l.prog) (w := w) (base := base) (ps := ["_law_form_here", "_law_number_here"]) D__law_figures X G (fun f fd F => ok_figures F B c__law_power) (fun _ _ _ _ _ _ us hl => match us, hl with | [_, _], _ => rfl)
  have c__law_by_halves := cal_mk (P := l.prog) (w := w) (base := base) (ps := ["_law_halves"]) D__law_by_halves X G (fun f fd F => ok_by_halves F B) (fun _ _ _ _ _ _ us hl => match us, hl with | [_], _ => rfl)
  have c__law_row_with := cal_mk (P := l.prog) (w := w) (base := base) (ps := ["_law_form_here", "_law_number_here", "_law_half"]) D__law_row_with X G (fun f fd F => ok_row_with F B c__law_figures c__law_by_halves) (fun _ _ _ _ _ _ us hl => match us, hl with | [_, _, _], _ => rfl)
  have c__law_dressed := cal_mk (P := l.prog) (w := w) (base := base) (ps := ["_law_form_here", "_law_number_here", "_law_digit"]) D__law_dressed X G (fun f fd F => ok_dressed F B c__law_row_with) (fun _ _ _ _ _ _ us hl => match us, hl with | [_, _, _], _ => rfl)
  have c__law_number := cal_mk (P := l.prog) (w := w) (base := base) (ps := ["_law_form_here", "_law_way", "_law_far"]) D__law_number X G (fun f fd F => ok_number F B c__law_ends c__law_power) (fun _ _ _ _ _ _ us hl => match us, hl with | [_, _, _], _ => rfl)
  have c__law_run := cal_mk (P := l.prog) (w := w) (base := base) (ps := ["_law_program", "_law_cells", "_law_mark"]) D__law_run X G (fun f fd F => ok_run F B) (fun _ _ _ _ _ _ us hl => match us, hl with | [_, _, _], _ => rfl)
  have c__law_filled := cal_mk (P := l.prog) (w := w) (base := base) (ps := ["_law_cell_here", "_law_salt", "_law_front"]) D__law_filled X G (fun f fd F => ok_filled F B c__law_draws) (fun _ _ _ _ _ _ us hl => match us, hl with | [_, _, _], _ => rfl)
  have c__law_after := cal_mk (P := l.prog) (w := w) (base := base) (ps := ["_law_program", "_law_front", "_law_cell_here", "_law_salt", "_law_many"]) D__law_after X G (fun f fd F => ok_after F B c__law_filled c__law_run) (fun _ _ _ _ _ _ us hl => match us, hl with | [_, _, _, _, _], _ => rfl)
  have c1__law_just : Cal l.prog w K mg base CX0 1 "_law_just" ["_law_found", "_law_due"] spJust1 := cal_mk D__law_just X G (fun f fd F => ok_just1 F B) (fun _ _ _ _ _ _ us hl => match us, hl with | [_, _], _ => rfl)
  have c__law_just : Cal l.prog w K mg base CX0 2 "_law_just" ["_law_found", "_law_due"] spJust := cal_mk D__law_just X G (fun f fd F => ok_just F B c1__law_just) (fun _ _ _ _ _ _ us hl => match us, hl with | [_, _], _ => rfl)
  have c__law_caught := cal_mk (P := l.prog) (w := w) (base := base) (ps := ["_law_form_here", "_law_row"]) D__law_caught X G (fun f fd F => ok_lcaught F B) (fun _ _ _ _ _ _ us hl => match us, hl with | [_, _], _ => rfl)
  have c__law_read_row := cal_mk (P := l.prog) (w := w) (base := base) (ps := ["_law_form_here", "_law_row"]) D__law_read_row X G (fun f fd F => ok_read_row F c__law_power) (fun _ _ _ _ _ _ us hl => match us, hl with | [_, _], _ => rfl)
  have c__law_read := cal_mk (P := l.prog) (w := w) (base := base) (ps := ["_law_form_here", "_law_row"]) D__law_read X G (fun f fd F => ok_read F W c_number_of) (fun _ _ _ _ _ _ us hl => match us, hl with | [_, _], _ => rfl)
  have c__law_right := cal_mk (P := l.prog) (w := w) (base := base) (ps := ["_law_form_here", "_law_program", "_law_row", "_law_cell_here", "_law_salt"]) D__law_right X G (fun f fd F => ok_right F c_caught c__law_just c__law_caught c__law_read c__law_read_row c__law_after) (fun _ _ _ _ _ _ us hl => match us, hl with | [_, _, _, _, _], _ => rfl)
  exact ok_law (fun_mk (st := sLaw) l2 c2 kp2) B c__law_draws c__law_cell c__law_form c__law_dressed c__law_number c_check_rows c__law_right
end K75

open PySem PySem.W PyProof.Rows
set_option maxRecDepth 100000 in
set_option maxHeartbeats 0 in
theorem PySem.Challenge.cw_tensloft_k75_whole_caught_three_ways_holds : PySem.Challenge.rw_tensloft_k75_whole_caught_three_ways.Holds := by
  w_on; o_law; k_head; (case hw => w_witness2)
  k_fill
  refine L2.walk_of (l := PySem.Challenge.rw_tensloft_k75_whole_caught_three_ways) (n := 63) (k := 7) (x := "_law_script") (CX := fun _ => L2.CX0) (sp := fun w => K75.spLaw _) rfl (by decide) rfl ⟨rfl, by decide, by decide⟩ (fun w h Y => PySem.W.kIn_of Y) ?F (fun _ _ a ns hl _ hS => ⟨a, ns, rfl, hS, hl, fun _ => rfl⟩) (fun _ _ _ _ _ h => h)
  case F =>
    intro w mg fa h KX G hmg
    refine' K75.all_mk KX G hmg ?D_halves_of ?D_power ?D_number_by ?D_halves_in ?D_duties ?D_half_right ?D_caught ?D_number_of ?D_flag_table ?D_look_tables ?D_half_looks ?D_look_rows ?D_check_rows ?D__law_cell ?D__law_mixed ?D__law_draws ?D__law_power ?D__law_form ?D__law_ends ?D__law_figures ?D__law_by_halves ?D__law_row_with ?D__law_dressed ?D__law_number ?D__law_run ?D__law_filled ?D__law_after ?D__law_just ?D__law_caught ?D__law_read_row ?D__law_read ?D__law_right ?D_law ?z_len ?z_range ?z_int ?z_abs ?z_tuple ?z_list ?z_zip ?z_enumerate ?z_isinstance ?z_all ?z_max ?z_min ?z_str ?z_bool ?g_iz ?g_ic ?g_ia ?g_if_ ?g_io ?g_ib ?g_it ?g_i0 ?g_i1 ?g_i2 ?g_i3 ?g_tM ?l_tM ?v_tM ?y_tM ?g_tF ?l_tF ?v_tF ?y_tF ?g_tS ?l_tS ?v_tS ?y_tS ?aW ?aL ?xL ?sa ?ga ?gg ?nP ?nY ?kC ?eC ?tC ?hC ?iS ?sC ?rd ?gLoft ?fLoft ?iC ?tI ?lI ?cI ?kI
    (case D_halves_of => (refine' K75.defG_mk ?h1 ?h2 ?h3 ?h4; (case h1 => k_is); (case h2 => k_is); (case h3 => k_is); (case h4 => k_is)))
    (case D_power => (refine' K75.defG_mk ?h1 ?h2 ?h3 ?h4; (case h1 => k_is); (case h2 => k_is); (case h3 => k_is); (case h4 => k_is)))
    (case D_number_by => (refine' K75.defG_mk ?h1 ?h2 ?h3 ?h4; (case h1 => k_is); (case h2 => k_is); (case h3 => k_is); (case h4 => k_is)))
    (case D_halves_in => (refine' K75.defG_mk ?h1 ?h2 ?h3 ?h4; (case h1 => k_is); (case h2 => k_is); (case h3 => k_is); (case h4 => k_is)))
    (case D_duties => (refine' K75.defG_mk ?h1 ?h2 ?h3 ?h4; (case h1 => k_is); (case h2 => k_is); (case h3 => k_is); (case h4 => k_is)))
    (case D_half_right => (refine' K75.defG_mk ?h1 ?h2 ?h3 ?h4; (case h1 => k_is); (case h2 => k_is); (case h3 => k_is); (case h4 => k_is)))
    (case D_caught => (refine' K75.defG_mk ?h1 ?h2 ?h3 ?h4; (case h1 => k_is); (case h2 => k_is); (case h3 => k_is); (case h4 => k_is)))
    (case D_number_of => (refine' K75.defG_mk ?h1 ?h2 ?h3 ?h4; (case h1 => k_is); (case h2 => k_is); (case h3 => k_is); (case h4 => k_is)))
    (case D_flag_table => (refine' K75.defG_mk ?h1 ?h2 ?h3 ?h4; (case h1 => k_is); (case h2 => k_is); (case h3 => k_is); (case h4 => k_is)))
    (case D_look_tables => (refine' K75.defG_mk ?h1 ?h2 ?h3 ?h4; (case h1 => k_is); (case h2 => k_is); (case h3 => k_is); (case h4 => k_is)))
    (case D_half_looks => (refine' K75.defG_mk ?h1 ?h2 ?h3 ?h4; (case h1 => k_is); (case h2 => k_is); (case h3 => k_is); (case h4 => k_is)))
    (case D_look_rows => (refine' K75.defG_mk ?h1 ?h2 ?h3 ?h4; (case h1 => k_is); (case h2 => k_is); (case h3 => k_is); (case h4 => k_is)))
    (case D_check_rows => (refine' K75.defG_mk ?h1 ?h2 ?h3 ?h4; (case h1 => k_is); (case h2 => k_is); (case h3 => k_is); (case h4 => k_is)))
    (case D__law_cell => (refine' K75.defG_mk ?h1 ?h2 ?h3 ?h4; (case h1 => k_is); (case h2 => k_is); (case h3 => k_is); (case h4 => k_is)))
    (case D__law_mixed => (refine' K75.defG_mk ?h1 ?h2 ?h3 ?h4; (case h1 => k_is); (case h2 => k_is); (case h3 => k_is); (case h4 => k_is)))
    (case D__law_draws => (refine' K75.defG_mk ?h1 ?h2 ?h3 ?h4; (case h1 => k_is); (case h2 => k_is); (case h3 => k_is); (case h4 => k_is)))
    (case D__law_power => (refine' K75.defG_mk ?h1 ?h2 ?h3 ?h4; (case h1 => k_is); (case h2 => k_is); (case h3 => k_is); (case h4 => k_is)))
    (case D__law_form => (refine' K75.defG_mk ?h1 ?h2 ?h3 ?h4; (case h1 => k_is); (case h2 => k_is); (case h3 => k_is); (case h4 => k_is)))
    (case D__law_ends => (refine' K75.defG_mk ?h1 ?h2 ?h3 ?h4; (case h1 => k_is); (case h2 => k_is); (case h3 => k_is); (case h4 => k_is)))
    (case D__law_figures => (refine' K75.defG_mk ?h1 ?h2 ?h3 ?h4; (case h1 => k_is); (case h2 => k_is); (case h3 => k_is); (case h4 => k_is)))
    (case D__law_by_halves => (refine' K75.defG_mk ?h1 ?h2 ?h3 ?h4; (case h1 => k_is); (case h2 => k_is); (case h3 => k_is); (case h4 => k_is)))
    (case D__law_row_with => (refine' K75.defG_mk ?h1 ?h2 ?h3 ?h4; (case h1 => k_is); (case h2 => k_is); (case h3 => k_is); (case h4 => k_is)))
    (case D__law_dressed => (refine' K75.defG_mk ?h1 ?h2 ?h3 ?h4; (case h1 => k_is); (case h2 => k_is); (case h3 => k_is); (case h4 => k_is)))
    (case D__law_number => (refine' K75.defG_mk ?h1 ?h2 ?h3 ?h4; (case h1 => k_is); (case h2 => k_is); (case h3 => k_is); (case h4 => k_is)))
    (case D__law_run => (refine' K75.defG_mk ?h1 ?h2 ?h3 ?h4; (case h1 => k_is); (case h2 => k_is); (case h3 => k_is); (case h4 => k_is)))
    (case D__law_filled => (refine' K75.defG_mk ?h1 ?h2 ?h3 ?h4; (case h1 => k_is); (case h2 => k_is); (case h3 => k_is); (case h4 => k_is)))
    (case D__law_after => (refine' K75.defG_mk ?h1 ?h2 ?h3 ?h4; (case h1 => k_is); (case h2 => k_is); (case h3 => k_is); (case h4 => k_is)))
    (case D__law_just => (refine' K75.defG_mk ?h1 ?h2 ?h3 ?h4; (case h1 => k_is); (case h2 => k_is); (case h3 => k_is); (case h4 => k_is)))
    (case D__law_caught => (refine' K75.defG_mk ?h1 ?h2 ?h3 ?h4; (case h1 => k_is); (case h2 => k_is); (case h3 => k_is); (case h4 => k_is)))
    (case D__law_read_row => (refine' K75.defG_mk ?h1 ?h2 ?h3 ?h4; (case h1 => k_is); (case h2 => k_is); (case h3 => k_is); (case h4 => k_is)))
    (case D__law_read => (refine' K75.defG_mk ?h1 ?h2 ?h3 ?h4; (case h1 => k_is); (case h2 => k_is); (case h3 => k_is); (case h4 => k_is)))
    (case D__law_right => (refine' K75.defG_mk ?h1 ?h2 ?h3 ?h4; (case h1 => k_is); (case h2 => k_is); (case h3 => k_is); (case h4 => k_is)))
    (case D_law => (refine' K75.defG_mk ?h1 ?h2 ?h3 ?h4; (case h1 => k_is); (case h2 => k_is); (case h3 => k_is); (case h4 => k_is)))
    (case z_len => k_is)
    (case z_range => k_is)
    (case z_int => k_is)
    (case z_abs => k_is)
    (case z_tuple => k_is)
    (case z_list => k_is)
    (case z_zip => k_is)
    (case z_enumerate => k_is)
    (case z_isinstance => k_is)
    (case z_all => k_is)
    (case z_max => k_is)
    (case z_min => k_is)
    (case z_str => k_is)
    (case z_bool => k_is)
    (case g_iz => k_is)
    (case g_ic => k_is)
    (case g_ia => k_is)
    (case g_if_ => k_is)
    (case g_io => k_is)
    (case g_ib => k_is)
    (case g_it => k_is)
    (case g_i0 => k_is)
    (case g_i1 => k_is)
    (case g_i2 => k_is)
    (case g_i3 => k_is)
    (case g_tM => k_is)
    (case l_tM => k_is)
    (case v_tM => exact (.cons ⟨_, rfl⟩ (.cons ⟨_, rfl⟩ .nil)))
    (case y_tM => exact (by show 2 ≤ sizeLine; decide))
    (case g_tF => k_is)
    (case l_tF => k_is)
    (case v_tF => exact (.cons ⟨_, rfl⟩ (.cons ⟨_, rfl⟩ (.cons ⟨_, rfl⟩ (.cons ⟨_, rfl⟩ (.cons ⟨_, rfl⟩ (.cons ⟨_, rfl⟩ (.cons ⟨_, rfl⟩ (.cons ⟨_, rfl⟩ (.cons ⟨_, rfl⟩ (.cons ⟨_, rfl⟩ .nil)))))))))))
    (case y_tF => exact (by show 10 ≤ sizeLine; decide))
    (case g_tS => k_is)
    (case l_tS => k_is)
    (case v_tS => exact (.cons ⟨_, rfl⟩ (.cons ⟨_, rfl⟩ (.cons ⟨_, rfl⟩ (.cons ⟨_, rfl⟩ (.cons ⟨_, rfl⟩ (.cons ⟨_, rfl⟩ .nil)))))))
    (case y_tS => exact (by show 6 ≤ sizeLine; decide))
    (case aW => k_is)
    (case aL => k_is)
    (case xL => k_is)
    (case sa => k_is)
    (case ga => k_is)
    (case gg => k_is)
    (case nP => k_is)
    (case nY => k_is)
    (case kC => k_is)
    (case eC => k_is)
    (case tC => k_is)
    (case hC => k_is)
    (case iS => k_is)
    (case sC => first | rfl | k_is)
    (case rd => k_is)
    (case gLoft => k_is)
    (case fLoft => k_is)
    (case iC => k_is)
    (case tI => k_is)
    (case lI => k_is)
    (case cI => k_is)
    (case kI => k_is)
#print axioms PySem.Challenge.cw_tensloft_k75_whole_caught_three_ways_holds
