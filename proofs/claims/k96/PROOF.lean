import PyProof.Rows.All
import Wide.All
import OpenK.AllK
import Wide.FinOn
import KE.KStateDown
import HandS.ForMost
import HandS.Exc
import HandS.Defaults
import HandS.More
import HandS.Flow
import HandS.Style
import HandS.Wide
import HandS.CallLocal
import HandS.SetKeys
import HandS.Zip
import HandS.Rev
import HandS.NoneIn
import HandS.TupAny
import HandS.FStr
import HandS.IsInst
import HandS.Conv
import HandS.Deep
import HandS.Small
import HandS.Head0
import HandS.Head1
import HandS.Head2
import HandS.HeadEnd
import HandS.HeadHook1
import HandS.HeadHook2
import HandS.HeadHook3
import HandS.Walk
import HandS.Replace
import HandS.Strs
import KE.GoesEnum
import PySem.Challenge.RW_tensloft_k96_whole_desk_and_rows
set_option Elab.async false
set_option linter.all false
/-! Tensloft: the builder and the machine in plain Lean -/
namespace TL
/-! ### numbers by figures -/
def num (ds : List Nat) : Nat := ds.foldl (fun a d => 10 * a + d) 0
def digs : Nat → Nat → List Nat
  | 0, _ => []
  | k + 1, x => digs k (x / 10) ++ [x % 10]
def Dg (ds : List Nat) : Prop := ∀ d ∈ ds, d ≤ 9
theorem foldl_num (ds : List Nat) (a : Nat) : ds.foldl (fun a d => 10 * a + d) a = a * 10 ^ ds.length + num ds := by
  unfold num
  induction ds generalizing a with
  | nil => simp
  | cons d ds ih =>
    rw [List.foldl_cons, List.foldl_cons, ih, ih (10 * 0 + d), List.length_cons, Nat.pow_succ, Nat.add_mul]
    have e : 10 * a * 10 ^ ds.length = a * (10 ^ ds.length * 10) := by
      rw [Nat.mul_comm 10 a, Nat.mul_assoc, Nat.mul_comm 10 (10 ^ ds.length)]
    simp only [Nat.mul_zero, Nat.zero_add]
    omega
theorem num_nil : num [] = 0 := rfl
theorem num_cons (d : Nat) (ds : List Nat) : num (d :: ds) = d * 10 ^ ds.length + num ds := by
  have h := foldl_num ds (10 * 0 + d)
  simp only [Nat.mul_zero, Nat.zero_add] at h
  show List.foldl _ _ _ = _
  rw [List.foldl_cons]
  simpa using h
theorem num_append (xs ys : List Nat) : num (xs ++ ys) = num xs * 10 ^ ys.length + num ys := by
  show List.foldl _ _ _ = _
  rw [List.foldl_append, foldl_num ys]
  rfl
theorem num_snoc (xs : List Nat) (d : Nat) : num (xs ++ [d]) = 10 * num xs + d := by
  rw [num_append]
  simp [num]
  omega
theorem num_lt {ds : List Nat} (h : Dg ds) : num ds < 10 ^ ds.length := by
  induction ds with
  | nil => simp [num]
  | cons d ds ih =>
    rw [num_cons, List.length_cons, Nat.pow_succ]
    have h1 : d ≤ 9 := h d (by simp)
    have h2 := ih (fun x hx => h x (by simp [hx]))
    have h3 : d * 10 ^ ds.length ≤ 9 * 10 ^ ds.length := Nat.mul_le_mul_right _ h1
    omega
theorem digs_length (k x : Nat) : (digs k x).length = k := by
  induction k generalizing x with
  | zero => rfl
  | succ k ih => simp [digs, ih]
theorem digs_dg (k x : Nat) : Dg (digs k x) := by
  induction k generalizing x with
  | zero => intro d h; simp [digs] at h
  | succ k ih =>
    intro d h
    simp only [digs, List.mem_append, List.mem_singleton] at h
    rcases h with h | h
    · exact ih _ d h
    · omega
theorem num_digs (k x : Nat) : num (digs k x) = x % 10 ^ k := by
  induction k generalizing x with
  | zero => simp [digs, num, Nat.mod_one]
  | succ k ih =>
    rw [digs, num_snoc, ih, Nat.pow_succ, Nat.mul_comm (10 ^ k) 10, Nat.mod_mul]
    omega
theorem num_inj : ∀ {xs ys : List Nat}, Dg xs → Dg ys → xs.length = ys.length → num xs = num ys → xs = ys
  | [], [], _, _, _, _ => rfl
  | [], _ :: _, _, _, h, _ => by simp at h
  | _ :: _, [], _, _, h, _ => by simp at h
  | x :: xs, y :: ys, hx, hy, hl, hn => by
    have hl' : xs.length = ys.length := by simpa using hl
    have dx : Dg xs := fun d h => hx d (by simp [h])
    have dy : Dg ys := fun d h => hy d (by simp [h])
    have lx := num_lt dx
    have ly := num_lt dy
    rw [num_cons, num_cons, hl'] at hn
    rw [hl'] at lx
    have hp : 0 < 10 ^ ys.length := Nat.pow_pos (by decide)
    have e : x = y := by
      have a1 : (x * 10 ^ ys.length + num xs) / 10 ^ ys.length = x := by
        rw [Nat.add_comm, Nat.add_mul_div_right _ _ hp, Nat.div_eq_of_lt lx, Nat.zero_add]
      have a2 : (y * 10 ^ ys.length + num ys) / 10 ^ ys.length = y := by
        rw [Nat.add_comm, Nat.add_mul_div_right _ _ hp, Nat.div_eq_of_lt ly, Nat.zero_add]
      rw [← a1, ← a2, hn]
    subst e
    rw [num_inj dx dy hl' (by omega)]
theorem digs_num {ds : List Nat} (h : Dg ds) : digs ds.length (num ds) = ds :=
  num_inj (digs_dg _ _) h (digs_length _ _) (by rw [num_digs, Nat.mod_eq_of_lt (num_lt h)])
theorem digs_of {ds : List Nat} {k x : Nat} (h : Dg ds) (hl : ds.length = k) (hn : num ds = x % 10 ^ k) : ds = digs k x :=
  num_inj h (digs_dg _ _) (by rw [hl, digs_length]) (by rw [num_digs, hn])
/-! ### worths, rows, the machine -/
inductive Wo where
  | hi | lo | hup | last | ahead | nine | tenOr | oneOr | oneOf | five | signB | one2 | low2 | ordB | prod | six
  deriving DecidableEq, Repr
def Wo.ap : Wo → Nat → Nat
  | .hi, x => x / 16
  | .lo, x => x % 16
  | .hup, x => x % 16 * 16
  | .last, x => x % 10
  | .ahead, x => x / 10
  | .nine, x => if 9 < x ∧ x < 20 then 19 - x else x
  | .tenOr, x => if 0 < x then 10 else 0
  | .oneOr, x => if 0 < x then 1 else 0
  | .oneOf, x => if x = 0 then 1 else 0
  | .five, x => if 4 < x then 1 else 0
  | .signB, x => if x % 16 = 11 ∨ x % 16 = 13 then 1 else 0
  | .one2, x => if x % 4 = 1 ∨ x % 4 = 2 then 1 else 0
  | .low2, x => x % 2
  | .ordB, x => [1, 2, 1, 0].getD (x % 4) 0
  | .prod, x => x / 16 * (x % 16)
  | .six, x => if 5 < x then 1 else 0
inductive SR where
  | put (a k : Nat) | copy (a b : Nat) | add (a b : Nat) | and_ (a b : Nat) | or_ (a b : Nat) | look (a : Nat) (w : Wo) | right (a : Nat)
  deriving DecidableEq, Repr
structure S where
  c : Nat → Nat
  m : Nat
def cset (f : Nat → Nat) (a v : Nat) : Nat → Nat := fun i => if i = a then v else f i
theorem cset_same (f : Nat → Nat) (a v : Nat) : cset f a v a = v := if_pos rfl
theorem cset_ne {f : Nat → Nat} {a v i : Nat} (h : i ≠ a) : cset f a v i = f i := if_neg h
def step : SR → S → S
  | .put a k, s => ⟨cset s.c a k, s.m⟩
  | .copy a b, s => ⟨cset s.c a (s.c b), s.m⟩
  | .add a b, s => ⟨cset s.c a ((s.c a + s.c b) % 256), (s.c a + s.c b) / 256⟩
  | .and_ a b, s => ⟨cset s.c a (s.c a &&& s.c b), s.m⟩
  | .or_ a b, s => ⟨cset s.c a (s.c a ||| s.c b), s.m⟩
  | .look a w, s => ⟨cset s.c a (w.ap (s.c a)), s.m⟩
  | .right a, s => ⟨cset s.c a ((s.c a + 256 * s.m) / 2), (s.c a + 256 * s.m) % 2⟩
def exec (rs : List SR) (s : S) : S := rs.foldl (fun s r => step r s) s
/-! ### the builder -/
structure BS where
  rows : List SR
  free : Nat
def bCell (s : BS) : Nat × BS := (s.free, ⟨s.rows, s.free + 1⟩)
def bRow (r : SR) (s : BS) : BS := ⟨s.rows ++ [r], s.free⟩
def bPut (k : Nat) (s : BS) : Nat × BS := (s.free, bRow (.put s.free k) (bCell s).2)
def bLook (c : Nat) (w : Wo) (s : BS) : BS := bRow (.look c w) s
def bCopied (c : Nat) (s : BS) : Nat × BS := (s.free, bRow (.copy s.free c) (bCell s).2)
def bLooked (c : Nat) (w : Wo) (s : BS) : Nat × BS := ((bCopied c s).1, bLook (bCopied c s).1 w (bCopied c s).2)
def bBack (n : Nat) (s : BS) : BS := ⟨s.rows, n⟩
def bEnded (c : Nat) (s : BS) : BS := bRow (.right (bCopied c s).1) (bCopied c s).2
/-- a list made turn by turn -/
def bMap {α : Type} (f : α → BS → Nat × BS) (xs : List α) (s : BS) : List Nat × BS :=
  xs.foldl (fun p x => (p.1 ++ [(f x p.2).1], (f x p.2).2)) ([], s)
def bEach {α : Type} (f : α → BS → BS) (xs : List α) (s : BS) : BS := xs.foldl (fun s x => f x s) s
/-- from the right -/
def bBackward {α : Type} (f : α → BS → BS) (xs : List α) (s : BS) : BS := xs.foldr f s
def bNoughts (many : Nat) (s : BS) : List Nat × BS := bMap (fun _ => bPut 0) (List.range many) s
def bTaken (cells : List Nat) (s : BS) : List Nat × BS := bMap bCopied cells s
def bAnyOf (cells : List Nat) (s : BS) : Nat × BS :=
  let p := bPut 0 s
  let s2 := bEach (fun c => bRow (.or_ p.1 c)) cells p.2
  (p.1, bLook p.1 .oneOr s2)
def bBoth (one other : Nat) (s : BS) : Nat × BS :=
  let p := bCopied one s
  (p.1, bRow (.and_ p.1 other) p.2)
def bCarried (cell carry : Nat) (s : BS) : BS :=
  bLook cell .last (bLook carry .ahead (bRow (.copy carry cell) (bRow (.add cell carry) s)))
def bAddTo (figures other : List Nat) (carry : Nat) (s : BS) : BS :=
  bBackward (fun p s => bCarried p.1 carry (bRow (.add p.1 p.2) s)) (figures.zip other) s
def bTurnBy (figures : List Nat) (flag : Nat) (s : BS) : BS :=
  let p := bLooked flag .tenOr s
  let q := bCopied flag p.2
  bBackward (fun f s => bCarried f q.1 (bLook f .nine (bRow (.add f p.1) s))) figures q.2
/-! ### forms -/
inductive Sg where
  | none | end_ | tens
  deriving DecidableEq, Repr
structure Form where
  packed : Bool
  n : Nat
  sg : Sg
  pt : Nat
  deriving DecidableEq, Repr
def Form.e (f : Form) : Nat := if f.sg = .end_ then 1 else 0
def Form.halves (f : Form) : Nat := f.n + f.e + (f.n + f.e) % 2
def Form.ahead (f : Form) : Nat := (f.n + f.e) % 2
def Form.width (f : Form) : Nat := if f.packed then f.halves / 2 else f.n
def bLoadFig (f : Form) (at_ : Nat) (k : Nat) (s : BS) : Nat × BS :=
  if f.packed then bLooked (at_ + (k + f.ahead) / 2) (if (k + f.ahead) % 2 = 0 then .hi else .lo) s
  else bLooked (at_ + k) .lo s
def bLoaded (f : Form) (at_ : Nat) (s : BS) : (List Nat × Nat) × BS :=
  let p := bMap (bLoadFig f at_) (List.range f.n) s
  match f.sg with
  | .none =>
    let q := bPut 0 p.2
    ((p.1, q.1), q.2)
  | .tens =>
    let q := bLooked (p.1.getD 0 0) .five p.2
    ((p.1, q.1), bTurnBy p.1 q.1 q.2)
  | .end_ =>
    let q := bCopied (at_ + f.width - 1) p.2
    let s3 := if f.packed then q.2 else bLook q.1 .hi q.2
    ((p.1, q.1), bLook q.1 .signB s3)
def bJoined (one other to : Nat) (s : BS) : BS :=
  let p := bLooked one .hup s
  bRow (.copy to p.1) (bRow (.or_ p.1 other) p.2)
def bStoreSpread (f : Form) (figures : List Nat) (sign zone at_ : Nat) (k : Nat) (s : BS) : BS :=
  let s1 := bRow (.copy (at_ + k) (figures.getD k 0)) s
  if k + 1 < f.n ∨ f.sg ≠ .end_ then bRow (.or_ (at_ + k) zone) s1
  else bJoined sign (figures.getD k 0) (at_ + k) s1
/-- turn j of the packed loop: halves 2 j and 2 j + 1 -/
def bStorePacked (halves : List Nat) (at_ : Nat) (j : Nat) (s : BS) : BS :=
  bJoined (halves.getD (2 * j) 0) (halves.getD (2 * j + 1) 0) (at_ + j) s
def bStored (f : Form) (figures : List Nat) (below at_ : Nat) (s : BS) : BS :=
  let p := bPut 12 s
  let s1 := bRow (.add p.1 below) p.2
  if f.packed then
    let q := bNoughts f.ahead s1
    let hs := q.1 ++ figures ++ (if f.sg = .end_ then [p.1] else [])
    bEach (bStorePacked hs at_) (List.range (f.halves / 2)) q.2
  else
    let z := bPut 240 s1
    bEach (bStoreSpread f figures p.1 z.1 at_) (List.range f.n) z.2
/-- the last n -/
def lastN (n : Nat) (xs : List Nat) : List Nat := xs.drop (xs.length - n)
def bFinished (f : Form) (figures : List Nat) (below at_ : Nat) (s : BS) : Nat × BS :=
  let p := bNoughts (f.n - figures.length) s
  let q := bTaken (lastN f.n figures) p.2
  let lower := p.1 ++ q.1
  let m := bAnyOf (figures.take (figures.length - f.n)) q.2
  let a := bAnyOf figures m.2
  let r := bBoth a.1 below a.2
  match f.sg with
  | .end_ =>
    let a2 := bAnyOf lower r.2
    let r2 := bBoth a2.1 below a2.2
    (m.1, bStored f lower r2.1 at_ r2.2)
  | .tens =>
    let s1 := bTurnBy lower r.1 r.2
    let sn := bLooked (lower.getD 0 0) .five s1
    let s2 := bRow (.or_ m.1 sn.1) (bLook sn.1 .one2 (bRow (.add sn.1 r.1) (bRow (.add sn.1 r.1) sn.2)))
    (m.1, bStored f lower below at_ s2)
  | .none =>
    let s1 := bTurnBy lower r.1 r.2
    (m.1, bStored f lower below at_ (bRow (.or_ m.1 r.1) s1))
def bTogether (one : List Nat) (below : Nat) (other : List Nat) (beyond : Nat) (s : BS) : (List Nat × Nat) × BS :=
  let a := bNoughts 1 s
  let b := bTaken one a.2
  let first := a.1 ++ b.1
  let c := bNoughts 1 b.2
  let d := bTaken other c.2
  let second := c.1 ++ d.1
  let s1 := bTurnBy first below d.2
  let s2 := bTurnBy second beyond s1
  let z := bPut 0 s2
  let s3 := bAddTo first second z.1 z.2
  let u := bLooked (first.getD 0 0) .five s3
  ((first, u.1), bTurnBy first u.1 u.2)
def bStart : BS := ⟨[], 32⟩
def bSum (f : Form) : BS :=
  let p := bLoaded f 0 bStart
  let q := bLoaded f f.width p.2
  let t := bTogether p.1.1 p.1.2 q.1.1 q.1.2 q.2
  let r := bFinished f t.1.1 t.1.2 0 t.2
  bEnded r.1 r.2
def bDifferenceIn (f : Form) (s : BS) : (List Nat × Nat) × BS :=
  let p := bLoaded f 0 s
  let q := bLoaded f f.width p.2
  bTogether p.1.1 p.1.2 q.1.1 q.1.2 (bLook q.1.2 .oneOf q.2)
def bDifference (f : Form) : BS :=
  let t := bDifferenceIn f bStart
  let r := bFinished f t.1.1 t.1.2 0 t.2
  bEnded r.1 r.2
def bCompare (f : Form) : BS :=
  let t := bDifferenceIn f bStart
  let a := bAnyOf t.1.1 t.2
  let l := bBoth t.1.2 a.1 a.2
  let s1 := bRow (.copy 0 a.1) (bLook a.1 .ordB (bRow (.add a.1 l.1) (bRow (.add a.1 l.1) l.2)))
  let z := bPut 0 s1
  bEnded z.1 z.2
def bRekept (f g : Form) : BS :=
  let p := bLoaded f 0 bStart
  let r := bFinished g p.1.1 p.1.2 0 p.2
  bEnded r.1 r.2
inductive Rule where
  | cut | up | half | even | floor | ceil
  deriving DecidableEq, Repr
def bPastHalf (first : Nat) (rest : List Nat) (last : Option Nat) (s : BS) : Nat × BS :=
  let h := bLooked first .five s
  let m := bAnyOf rest h.2
  let s1 := match last with
    | some l => bRow (.or_ m.1 (bLooked l .low2 m.2).1) (bLooked l .low2 m.2).2
    | none => m.2
  let r := bBoth h.1 m.1 s1
  let x := bLooked first .six r.2
  (r.1, bRow (.or_ r.1 x.1) x.2)
def bAddedBy (left lost : List Nat) (below : Nat) (rule : Rule) (s : BS) : Nat × BS :=
  match rule with
  | .cut => bPut 0 s
  | .half => bLooked (lost.getD 0 0) .five s
  | .even => bPastHalf (lost.getD 0 0) (lost.drop 1) left.getLast? s
  | .floor => let a := bAnyOf lost s; bBoth a.1 below a.2
  | .ceil =>
    let a := bAnyOf lost s
    let l := bLooked below .oneOf a.2
    bBoth a.1 l.1 l.2
  | .up => bAnyOf lost s
def bMoved (f : Form) (by_ : Int) (rule : Rule) : BS :=
  let p := bLoaded f 0 bStart
  if 0 ≤ by_ then
    let z := bNoughts by_.toNat p.2
    let r := bFinished f (p.1.1 ++ z.1) p.1.2 0 z.2
    bEnded r.1 r.2
  else
    let k := f.n - (-by_).toNat
    let left := p.1.1.take k
    let c := bAddedBy left (p.1.1.drop k) p.1.2 rule p.2
    let z := bNoughts 1 c.2
    let size := z.1 ++ left
    let s1 := bBackward (fun x => bCarried x c.1) size z.2
    let r := bFinished f size p.1.2 0 s1
    bEnded r.1 r.2
def bColumn (columns : List Nat) (place first second carry : Nat) (s : BS) : BS :=
  let p := bCopied first s
  bCarried (columns.getD place 0) carry (bRow (.add (columns.getD place 0) p.1) (bLook p.1 .prod (bRow (.or_ p.1 second) p.2)))
def bColumnsOf (one other : List Nat) (s : BS) : List Nat × BS :=
  let c := bNoughts (one.length + other.length) s
  let h := bMap (fun x => bLooked x .hup) one c.2
  let k := bCell h.2
  (c.1, bBackward (fun j s => bRow (.copy (c.1.getD j 0) k.1)
    (bBackward (fun i s => bBack k.2.free (bColumn c.1 (i + j + 1) (h.1.getD i 0) (other.getD j 0) k.1 s)) (List.range one.length) (bRow (.put k.1 0) s)))
    (List.range other.length) k.2)
def bProduct (f : Form) (m : Nat) : BS :=
  let p := bLoaded f 0 bStart
  let q := bLoaded ⟨f.packed, m, f.sg, 0⟩ f.width p.2
  let u := bCopied p.1.2 q.2
  let s1 := bLook u.1 .low2 (bRow (.add u.1 q.1.2) u.2)
  let c := bColumnsOf p.1.1 q.1.1 s1
  let r := bFinished ⟨f.packed, f.n + m, f.sg, 0⟩ c.1 u.1 0 c.2
  bEnded r.1 r.2
end TL
namespace TL
/-! ### what each piece of the builder does to the machine's cells -/
variable {z : S}
def at_ (z : S) (s : BS) : S := exec s.rows z
def C (z : S) (s : BS) (i : Nat) : Nat := (at_ z s).c i
theorem at_row (r : SR) (s : BS) : at_ z (bRow r s) = step r (at_ z s) := by
  unfold at_ exec bRow
  rw [List.foldl_append]
  rfl
theorem C_put (a k : Nat) (s : BS) (i : Nat) : C z (bRow (.put a k) s) i = if i = a then k else C z s i := by
  unfold C; rw [at_row]; rfl
theorem C_copy (a b : Nat) (s : BS) (i : Nat) : C z (bRow (.copy a b) s) i = if i = a then C z s b else C z s i := by
  unfold C; rw [at_row]; rfl
theorem C_add (a b : Nat) (s : BS) (i : Nat) : C z (bRow (.add a b) s) i = if i = a then (C z s a + C z s b) % 256 else C z s i := by
  unfold C; rw [at_row]; rfl
theorem C_and (a b : Nat) (s : BS) (i : Nat) : C z (bRow (.and_ a b) s) i = if i = a then C z s a &&& C z s b else C z s i := by
  unfold C; rw [at_row]; rfl
theorem C_or (a b : Nat) (s : BS) (i : Nat) : C z (bRow (.or_ a b) s) i = if i = a then C z s a ||| C z s b else C z s i := by
  unfold C; rw [at_row]; rfl
theorem C_look (a : Nat) (w : Wo) (s : BS) (i : Nat) : C z (bLook a w s) i = if i = a then w.ap (C z s a) else C z s i := by
  unfold C bLook; rw [at_row]; rfl
theorem C_free (s : BS) (n i : Nat) : C z ⟨s.rows, n⟩ i = C z s i := rfl
theorem C_cell (s : BS) (i : Nat) : C z (bCell s).2 i = C z s i := rfl
theorem C_back (s : BS) (n i : Nat) : C z (bBack n s) i = C z s i := rfl
@[simp] theorem free_row (r : SR) (s : BS) : (bRow r s).free = s.free := rfl
@[simp] theorem free_look (a : Nat) (w : Wo) (s : BS) : (bLook a w s).free = s.free := rfl
@[simp] theorem free_cell (s : BS) : (bCell s).2.free = s.free + 1 := rfl
@[simp] theorem put_1 (k : Nat) (s : BS) : (bPut k s).1 = s.free := rfl
@[simp] theorem put_free (k : Nat) (s : BS) : (bPut k s).2.free = s.free + 1 := rfl
@[simp] theorem copied_1 (k : Nat) (s : BS) : (bCopied k s).1 = s.free := rfl
@[simp] theorem copied_free (k : Nat) (s : BS) : (bCopied k s).2.free = s.free + 1 := rfl
@[simp] theorem looked_1 (k : Nat) (w : Wo) (s : BS) : (bLooked k w s).1 = s.free := rfl
@[simp] theorem looked_free (k : Nat) (w : Wo) (s : BS) : (bLooked k w s).2.free = s.free + 1 := rfl
theorem C_bPut (k : Nat) (s : BS) (i : Nat) : C z (bPut k s).2 i = if i = s.free then k else C z s i := by
  unfold bPut; rw [C_put, C_cell]
theorem C_bCopied (c : Nat) (s : BS) (i : Nat) : C z (bCopied c s).2 i = if i = s.free then C z s c else C z s i := by
  unfold bCopied; rw [C_copy, C_cell, C_cell]
theorem C_bLooked (c : Nat) (w : Wo) (s : BS) (i : Nat) : C z (bLooked c w s).2 i = if i = s.free then w.ap (C z s c) else C z s i := by
  unfold bLooked
  rw [C_look, C_bCopied, C_bCopied, copied_1, if_pos rfl]
  split <;> rfl
/-- behind s all cells below s.free but the named stand as they stood -/
structure Chg (z : S) (ms : List Nat) (s s' : BS) : Prop where
  le : s.free ≤ s'.free
  same : ∀ i, i < s.free → i ∉ ms → C z s' i = C z s i
theorem Chg.refl (s : BS) : Chg z [] s s := ⟨Nat.le_refl _, fun _ _ _ => rfl⟩
theorem Chg.trans {a b : List Nat} {s s1 s2 : BS} (h : Chg z a s s1) (k : Chg z b s1 s2) {c : List Nat} (ha : ∀ i ∈ a, i < s.free → i ∈ c) (hb : ∀ i ∈ b, i < s.free → i ∈ c) : Chg z c s s2 :=
  ⟨Nat.le_trans h.le k.le, fun i hi hn => by
    rw [k.same i (Nat.lt_of_lt_of_le hi h.le) (fun q => hn (hb i q hi)), h.same i hi (fun q => hn (ha i q hi))]⟩
theorem Chg.mono {a c : List Nat} {s s1 : BS} (h : Chg z a s s1) (ha : ∀ i ∈ a, i < s.free → i ∈ c) : Chg z c s s1 :=
  ⟨h.le, fun i hi hn => h.same i hi fun q => hn (ha i q hi)⟩
theorem Chg.tr0 {s s1 s2 : BS} (h : Chg z [] s s1) (k : Chg z [] s1 s2) : Chg z [] s s2 := h.trans k (fun _ q _ => q) (fun _ q _ => q)
def Below (s : BS) (cs : List Nat) : Prop := ∀ c ∈ cs, c < s.free
def vals (z : S) (s : BS) (cs : List Nat) : List Nat := cs.map (C z s)
theorem vals_length (s : BS) (cs : List Nat) : (vals z s cs).length = cs.length := List.length_map _
theorem Below.le {s s' : BS} {cs : List Nat} (h : Below s cs) (l : s.free ≤ s'.free) : Below s' cs := fun c q => Nat.lt_of_lt_of_le (h c q) l
theorem Chg.valsE {ms cs : List Nat} {s s' : BS} (h : Chg z ms s s') (b : Below s cs) (d : ∀ c ∈ cs, c ∉ ms) : TL.vals z s' cs = TL.vals z s cs :=
  List.map_congr_left fun c q => h.same c (b c q) (d c q)
theorem Chg.vals0 {cs : List Nat} {s s' : BS} (h : Chg z [] s s') (b : Below s cs) : TL.vals z s' cs = TL.vals z s cs := h.valsE b (fun _ _ q => nomatch q)
theorem Chg.C0 {s s' : BS} (h : Chg z [] s s') {c : Nat} (b : c < s.free) : C z s' c = C z s c := h.same c b (fun q => by cases q)
/-- new cells -/
structure New (s s' : BS) (cs : List Nat) : Prop where
  lo : ∀ c ∈ cs, s.free ≤ c
  hi : Below s' cs
  nd : cs.Nodup
theorem chg_put (k : Nat) (s : BS) : Chg z [] s (bPut k s).2 := ⟨by simp, fun i hi _ => by rw [C_bPut, if_neg (by omega)]⟩
theorem chg_copied (k : Nat) (s : BS) : Chg z [] s (bCopied k s).2 := ⟨by simp, fun i hi _ => by rw [C_bCopied, if_neg (by omega)]⟩
theorem chg_looked (k : Nat) (w : Wo) (s : BS) : Chg z [] s (bLooked k w s).2 := ⟨by simp, fun i hi _ => by rw [C_bLooked, if_neg (by omega)]⟩
theorem chg_row_put (a b : Nat) (s : BS) : Chg z [a] s (bRow (.put a b) s) := ⟨Nat.le_refl _, fun i _ hn => by rw [C_put, if_neg (by simpa using hn)]⟩
theorem chg_row_copy (a b : Nat) (s : BS) : Chg z [a] s (bRow (.copy a b) s) := ⟨Nat.le_refl _, fun i _ hn => by rw [C_copy, if_neg (by simpa using hn)]⟩
theorem chg_row_add (a b : Nat) (s : BS) : Chg z [a] s (bRow (.add a b) s) := ⟨Nat.le_refl _, fun i _ hn => by rw [C_add, if_neg (by simpa using hn)]⟩
theorem chg_row_or (a b : Nat) (s : BS) : Chg z [a] s (bRow (.or_ a b) s) := ⟨Nat.le_refl _, fun i _ hn => by rw [C_or, if_neg (by simpa using hn)]⟩
theorem chg_row_and (a b : Nat) (s : BS) : Chg z [a] s (bRow (.and_ a b) s) := ⟨Nat.le_refl _, fun i _ hn => by rw [C_and, if_neg (by simpa using hn)]⟩
theorem chg_look (a : Nat) (w : Wo) (s : BS) : Chg z [a] s (bLook a w s) := ⟨Nat.le_refl _, fun i _ hn => by rw [C_look, if_neg (by simpa using hn)]⟩

/-! ### lists of new cells -/
theorem bMap_snoc {α : Type} (f : α → BS → Nat × BS) (xs : List α) (x : α) (s : BS) : bMap f (xs ++ [x]) s = ((bMap f xs s).1 ++ [(f x (bMap f xs s).2).1], (f x (bMap f xs s).2).2) := by
  unfold bMap
  rw [List.foldl_append]
  rfl
theorem map_new {α : Type} {f : α → BS → Nat × BS} {v : α → Nat} {s : BS} : ∀ (xs : List α), (∀ x ∈ xs, ∀ s', Chg z [] s s' → (f x s').1 = s'.free ∧ (f x s').2.free = s'.free + 1 ∧ ∀ i, C z (f x s').2 i = if i = s'.free then v x else C z s' i) →
    Chg z [] s (bMap f xs s).2 ∧ New s (bMap f xs s).2 (bMap f xs s).1 ∧ (bMap f xs s).1.length = xs.length ∧ vals z (bMap f xs s).2 (bMap f xs s).1 = xs.map v := by
  intro xs
  suffices H : ∀ (ys : List α), (∀ x ∈ ys.reverse, ∀ s', Chg z [] s s' → (f x s').1 = s'.free ∧ (f x s').2.free = s'.free + 1 ∧ ∀ i, C z (f x s').2 i = if i = s'.free then v x else C z s' i) →
    Chg z [] s (bMap f ys.reverse s).2 ∧ New s (bMap f ys.reverse s).2 (bMap f ys.reverse s).1 ∧ (bMap f ys.reverse s).1.length = ys.reverse.length ∧ vals z (bMap f ys.reverse s).2 (bMap f ys.reverse s).1 = ys.reverse.map v by
    have h := H xs.reverse
    rw [List.reverse_reverse] at h
    exact h
  intro ys
  induction ys with
  | nil => intro _; exact ⟨Chg.refl s, New.mk (fun c q => nomatch q) (fun c q => nomatch q) List.nodup_nil, rfl, rfl⟩
  | cons y ys ih =>
    intro h
    rw [List.reverse_cons] at h ⊢
    obtain ⟨c0, n0, l0, v0⟩ := ih (fun x hx => h x (by simp [List.mem_reverse.mp hx]))
    rw [bMap_snoc]
    obtain ⟨e1, e2, e3⟩ := h y (by simp) _ c0
    have c1 : Chg z [] (bMap f ys.reverse s).2 (f y (bMap f ys.reverse s).2).2 := ⟨by omega, fun i hi _ => by rw [e3, if_neg (by omega)]⟩
    refine ⟨c0.tr0 c1, ⟨?_, ?_, ?_⟩, by simp [l0], ?_⟩
    · intro c hc
      rcases List.mem_append.mp hc with hc | hc
      · exact n0.lo c hc
      · rw [List.mem_singleton.mp hc, e1]; exact c0.le
    · intro c hc
      rcases List.mem_append.mp hc with hc | hc
      · exact Nat.lt_of_lt_of_le (n0.hi c hc) c1.le
      · rw [List.mem_singleton.mp hc, e1, e2]; omega
    · rw [List.nodup_append]
      refine ⟨n0.nd, by simp, fun a ha b hb => ?_⟩
      have h1 := n0.hi a ha
      rw [List.mem_singleton.mp hb, e1]
      omega
    · show vals z _ (_ ++ _) = _
      unfold vals
      rw [List.map_append, List.map_append]
      have a1 : List.map (C z (f y (bMap f ys.reverse s).2).2) (bMap f ys.reverse s).1 = List.map v ys.reverse := by
        rw [← v0]
        exact c1.vals0 n0.hi
      rw [a1]
      simp only [List.map_cons, List.map_nil]
      rw [e3, if_pos e1]
theorem noughts_ok (k : Nat) (s : BS) : Chg z [] s (bNoughts k s).2 ∧ New s (bNoughts k s).2 (bNoughts k s).1 ∧ (bNoughts k s).1.length = k ∧ vals z (bNoughts k s).2 (bNoughts k s).1 = List.replicate k 0 := by
  have h := map_new (z := z) (f := fun _ => bPut 0) (v := fun _ => 0) (s := s) (List.range k) (fun x _ s' _ => ⟨rfl, rfl, fun i => C_bPut 0 s' i⟩)
  obtain ⟨a, b, c, d⟩ := h
  refine ⟨a, b, by rw [List.length_range] at c; exact c, ?_⟩
  have e : (List.range k).map (fun _ => 0) = List.replicate k 0 := by
    rw [List.map_const', List.length_range]
  rw [← e]
  exact d
theorem taken_ok {cells : List Nat} {s : BS} (h : Below s cells) : Chg z [] s (bTaken cells s).2 ∧ New s (bTaken cells s).2 (bTaken cells s).1 ∧ (bTaken cells s).1.length = cells.length ∧ vals z (bTaken cells s).2 (bTaken cells s).1 = vals z s cells := by
  have g := map_new (z := z) (f := bCopied) (v := C z s) (s := s) cells (fun x hx s' hc => ⟨rfl, rfl, fun i => by rw [C_bCopied, hc.C0 (h x hx)]⟩)
  exact g
end TL
namespace TL
variable {z : S}
/-! ### any, both -/
def anyN (ds : List Nat) : Nat := if ds.all (· == 0) then 0 else 1
theorem or_zero {a b : Nat} : a ||| b = 0 ↔ a = 0 ∧ b = 0 := Nat.or_eq_zero_iff
theorem each_or {r : Nat} : ∀ (cells : List Nat) (s : BS), r < s.free → (∀ c ∈ cells, c < s.free ∧ c ≠ r) →
    Chg z [r] s (bEach (fun c => bRow (.or_ r c)) cells s) ∧ (bEach (fun c => bRow (.or_ r c)) cells s).free = s.free ∧
    (C z (bEach (fun c => bRow (.or_ r c)) cells s) r = 0 ↔ C z s r = 0 ∧ ∀ c ∈ cells, C z s c = 0)
  | [], s, _, _ => ⟨(Chg.refl s).mono (fun _ q => nomatch q), rfl, ⟨fun h => ⟨h, fun _ q => nomatch q⟩, fun h => h.1⟩⟩
  | c :: cs, s, hr, h => by
    have hc := h c (by simp)
    obtain ⟨a, b, d⟩ := each_or (r := r) cs (bRow (.or_ r c) s) hr (fun x hx => h x (by simp [hx]))
    have c1 := chg_row_or (z := z) r c s
    refine ⟨c1.trans a (fun _ q _ => q) (fun _ q _ => q), b, ?_⟩
    show C z (bEach (fun c => bRow (.or_ r c)) cs (bRow (.or_ r c) s)) r = 0 ↔ _
    rw [d, C_or, if_pos rfl, or_zero]
    constructor
    · rintro ⟨⟨h1, h2⟩, h3⟩
      refine ⟨h1, fun x hx => ?_⟩
      rcases List.mem_cons.mp hx with rfl | hx
      · exact h2
      · have := h3 x hx
        rw [c1.same x (h x (by simp [hx])).1 (by simpa using (h x (by simp [hx])).2)] at this
        exact this
    · rintro ⟨h1, h2⟩
      refine ⟨⟨h1, h2 c (by simp)⟩, fun x hx => ?_⟩
      rw [c1.same x (h x (by simp [hx])).1 (by simpa using (h x (by simp [hx])).2)]
      exact h2 x (by simp [hx])
theorem anyOf_ok {cells : List Nat} {s : BS} (h : Below s cells) : Chg z [] s (bAnyOf cells s).2 ∧ (bAnyOf cells s).1 = s.free ∧ (bAnyOf cells s).2.free = s.free + 1 ∧ C z (bAnyOf cells s).2 s.free = anyN (vals z s cells) := by
  have c0 := chg_put (z := z) 0 s
  obtain ⟨a, b, d⟩ := each_or (z := z) (r := s.free) cells (bPut 0 s).2 (by simp) (fun c hc => ⟨Nat.lt_of_lt_of_le (h c hc) c0.le, Nat.ne_of_lt (h c hc)⟩)
  have c2 := chg_look (z := z) s.free .oneOr (bEach (fun c => bRow (.or_ s.free c)) cells (bPut 0 s).2)
  refine ⟨?_, rfl, ?_, ?_⟩
  · exact (c0.trans (c := []) (a.trans c2 (c := [s.free]) (fun _ q _ => q) (fun _ q _ => q)) (fun _ q _ => q) (fun i q hi => by simp at q; omega))
  · show (bEach (fun c => bRow (.or_ s.free c)) cells (bPut 0 s).2).free = s.free + 1
    rw [b]; rfl
  · show C z (bLook s.free .oneOr (bEach (fun c => bRow (.or_ s.free c)) cells (bPut 0 s).2)) s.free = _
    rw [C_look, if_pos rfl]
    have e : C z (bEach (fun c => bRow (.or_ s.free c)) cells (bPut 0 s).2) s.free = 0 ↔ (vals z s cells).all (· == 0) = true := by
      rw [d, C_bPut, if_pos rfl]
      simp only [vals, List.all_eq_true, List.mem_map, beq_iff_eq, forall_exists_index, and_imp, forall_apply_eq_imp_iff₂, true_and]
      constructor
      · intro q c hc
        rw [← c0.C0 (h c hc)]; exact q c hc
      · intro q c hc
        rw [c0.C0 (h c hc)]; exact q c hc
    show (if 0 < C z (bEach (fun c => bRow (.or_ s.free c)) cells (bPut 0 s).2) s.free then 1 else 0) = anyN (vals z s cells)
    unfold anyN
    by_cases q : C z (bEach (fun c => bRow (.or_ s.free c)) cells (bPut 0 s).2) s.free = 0
    · rw [if_pos (e.mp q)]; simp [q]
    · rw [if_neg (fun w => q (e.mpr w)), if_pos (by omega)]
theorem both_ok {one other : Nat} {s : BS} (h1 : one < s.free) (h2 : other < s.free) : Chg z [] s (bBoth one other s).2 ∧ (bBoth one other s).1 = s.free ∧ (bBoth one other s).2.free = s.free + 1 ∧ C z (bBoth one other s).2 s.free = C z s one &&& C z s other := by
  have c0 := chg_copied (z := z) one s
  refine ⟨?_, rfl, rfl, ?_⟩
  · exact c0.trans (c := []) (chg_row_and s.free other (bCopied one s).2) (fun _ q _ => q) (fun i q hi => by simp at q; omega)
  · show C z (bRow (.and_ s.free other) (bCopied one s).2) s.free = _
    rw [C_and, if_pos rfl, C_bCopied, if_pos rfl, c0.C0 h2]
theorem and01 {a b : Nat} (ha : a ≤ 1) (hb : b ≤ 1) : a &&& b = a * b := by
  have ha' : a = 0 ∨ a = 1 := by omega
  have hb' : b = 0 ∨ b = 1 := by omega
  rcases ha' with rfl | rfl <;> rcases hb' with rfl | rfl <;> rfl
theorem or01 {a b : Nat} (ha : a ≤ 1) (hb : b ≤ 1) : a ||| b = a + b - a * b := by
  have ha' : a = 0 ∨ a = 1 := by omega
  have hb' : b = 0 ∨ b = 1 := by omega
  rcases ha' with rfl | rfl <;> rcases hb' with rfl | rfl <;> rfl
theorem anyN_le (ds : List Nat) : anyN ds ≤ 1 := by unfold anyN; split <;> omega
theorem anyN_zero {ds : List Nat} : anyN ds = 0 ↔ num ds = 0 := by
  unfold anyN
  induction ds with
  | nil => simp [num]
  | cons d ds ih =>
    rw [num_cons, List.all_cons]
    have hp : 0 < 10 ^ ds.length := Nat.pow_pos (by decide)
    by_cases hd : d = 0
    · subst hd; simpa using ih
    · have h1 : (d == 0) = false := by simpa using hd
      rw [h1, Bool.false_and]
      have : 0 < d * 10 ^ ds.length := Nat.mul_pos (by omega) hp
      simp only [Bool.false_eq_true, if_false]
      constructor
      · intro q; cases q
      · intro q; omega
theorem anyN_eq (ds : List Nat) : anyN ds = if num ds = 0 then 0 else 1 := by
  have h1 := anyN_le ds
  split
  · rename_i h; exact anyN_zero.mpr h
  · rename_i h
    have : anyN ds ≠ 0 := fun q => h (anyN_zero.mp q)
    omega
/-! ### carried, sums, complements -/
theorem carried_ok {cell carry : Nat} {s : BS} (ne : cell ≠ carry) (lt : C z s cell + C z s carry < 256) : (bCarried cell carry s).free = s.free ∧ ∀ i, C z (bCarried cell carry s) i = if i = cell then (C z s cell + C z s carry) % 10 else if i = carry then (C z s cell + C z s carry) / 10 else C z s i := by
  refine ⟨rfl, fun i => ?_⟩
  unfold bCarried
  rw [C_look, C_look, C_look, C_copy, C_copy, C_copy, C_add, C_add, C_add]
  rw [if_neg ne, if_neg ne, if_pos rfl, if_pos rfl, Nat.mod_eq_of_lt lt]
  by_cases h1 : i = cell
  · rw [if_pos h1, if_pos h1]; rfl
  · rw [if_neg h1, if_neg h1]
    by_cases h2 : i = carry
    · rw [if_pos h2, if_pos h2, if_neg h1]; rfl
    · rw [if_neg h2, if_neg h2, if_neg h2, if_neg h1]
/-- one walk from the right: each figure, prepared by pre, takes the carry, which stays at most K -/
theorem backward_ok {α : Type} {pre : α → BS → BS} {fg : α → Nat} {carry : Nat} {g : α → Nat → Nat} {K : Nat} (hK : K ≤ 9) : ∀ (xs : List α) (s : BS), carry < s.free → (∀ x ∈ xs, fg x < s.free ∧ fg x ≠ carry) → (xs.map fg).Nodup →
    (∀ x ∈ xs, ∀ s', Chg z (carry :: xs.map fg) s s' → s'.free = s.free → C z s' (fg x) = C z s (fg x) → (pre x s').free = s'.free ∧ (∀ i, i < s.free → C z (pre x s') i = if i = fg x then g x (C z s (fg x)) else C z s' i)) →
    (∀ x ∈ xs, g x (C z s (fg x)) ≤ 9 * K + 9) → C z s carry ≤ K →
    (bBackward (fun x s => bCarried (fg x) carry (pre x s)) xs s).free = s.free ∧ Chg z (carry :: xs.map fg) s (bBackward (fun x s => bCarried (fg x) carry (pre x s)) xs s) ∧
    Dg (vals z (bBackward (fun x s => bCarried (fg x) carry (pre x s)) xs s) (xs.map fg)) ∧ C z (bBackward (fun x s => bCarried (fg x) carry (pre x s)) xs s) carry ≤ K ∧
    num (vals z (bBackward (fun x s => bCarried (fg x) carry (pre x s)) xs s) (xs.map fg)) + 10 ^ xs.length * C z (bBackward (fun x s => bCarried (fg x) carry (pre x s)) xs s) carry = num (xs.map fun x => g x (C z s (fg x))) + C z s carry
  | [], s, _, _, _, _, _, hk => ⟨rfl, (Chg.refl s).mono (fun _ q => nomatch q), (fun _ q => nomatch q), hk, by
      show num (vals z s []) + 10 ^ 0 * C z s carry = num [] + C z s carry
      simp [vals]⟩
  | x :: xs, s, hc, hf, hn, hp, hg, hk => by
    rw [List.map_cons, List.nodup_cons] at hn
    obtain ⟨f1, c1, d1, k1, e1⟩ := backward_ok hK (pre := pre) (fg := fg) (carry := carry) (g := g) xs s hc (fun y hy => hf y (by simp [hy])) hn.2
      (fun y hy s' q => hp y (by simp [hy]) s' (q.mono (fun i qi _ => by
        rcases List.mem_cons.mp qi with rfl | qi
        · simp
        · simp only [List.map_cons, List.mem_cons]; exact .inr (.inr qi)))) (fun y hy => hg y (by simp [hy])) hk
    let s1 := bBackward (fun x s => bCarried (fg x) carry (pre x s)) xs s
    have hs1 : s1 = bBackward (fun x s => bCarried (fg x) carry (pre x s)) xs s := rfl
    rw [← hs1] at f1 c1 d1 k1 e1
    have ex : bBackward (fun x s => bCarried (fg x) carry (pre x s)) (x :: xs) s = bCarried (fg x) carry (pre x s1) := rfl
    rw [ex]
    have hx := hf x (by simp)
    have sx : C z s1 (fg x) = C z s (fg x) := c1.same _ hx.1 (fun q => by
      rcases List.mem_cons.mp q with q | q
      · exact hx.2 q
      · exact hn.1 q)
    obtain ⟨p1, p2⟩ := hp x (by simp) s1 (c1.mono (fun i qi _ => by
        rcases List.mem_cons.mp qi with rfl | qi
        · simp
        · simp only [List.map_cons, List.mem_cons]; exact .inr (.inr qi))) f1 sx
    have pc : C z (pre x s1) carry = C z s1 carry := by rw [p2 _ hc, if_neg (Ne.symm hx.2)]
    have px : C z (pre x s1) (fg x) = g x (C z s (fg x)) := by rw [p2 _ hx.1, if_pos rfl]
    have gx := hg x (by simp)
    obtain ⟨q1, q2⟩ := carried_ok (z := z) (cell := fg x) (carry := carry) (s := pre x s1) hx.2 (by rw [px, pc]; omega)
    rw [px, pc] at q2
    have vx : C z (bCarried (fg x) carry (pre x s1)) (fg x) = (g x (C z s (fg x)) + C z s1 carry) % 10 := by rw [q2, if_pos rfl]
    have vc : C z (bCarried (fg x) carry (pre x s1)) carry = (g x (C z s (fg x)) + C z s1 carry) / 10 := by rw [q2, if_neg (Ne.symm hx.2), if_pos rfl]
    have vr : vals z (bCarried (fg x) carry (pre x s1)) (xs.map fg) = vals z s1 (xs.map fg) := List.map_congr_left fun c hc => by
      obtain ⟨y, hy, rfl⟩ := List.mem_map.mp hc
      have ny : fg y ≠ fg x := fun q => hn.1 (List.mem_map.mpr ⟨y, hy, q⟩)
      rw [q2, if_neg ny, if_neg (hf y (by simp [hy])).2, p2 _ (hf y (by simp [hy])).1, if_neg ny]
    have vv : vals z (bCarried (fg x) carry (pre x s1)) ((x :: xs).map fg) = (g x (C z s (fg x)) + C z s1 carry) % 10 :: vals z s1 (xs.map fg) := by
      rw [← vr, ← vx]; rfl
    refine ⟨by rw [q1, p1, f1], ⟨by rw [q1, p1, f1]; exact Nat.le_refl _, fun i hi hni => ?_⟩, ?_, ?_, ?_⟩
    · have n1 : i ≠ carry := fun q => hni (by simp [q])
      have n2 : i ≠ fg x := fun q => hni (by simp [q])
      rw [q2, if_neg n2, if_neg n1, p2 _ hi, if_neg n2]
      exact c1.same i hi (fun q => by
        rcases List.mem_cons.mp q with q | q
        · exact n1 q
        · exact hni (by simp only [List.map_cons, List.mem_cons]; exact .inr (.inr q)))
    · rw [vv]
      intro d hd
      rcases List.mem_cons.mp hd with rfl | hd
      · omega
      · exact d1 d hd
    · rw [vc]; omega
    · rw [vv, vc, num_cons, vals_length, List.length_map]
      show _ = num (g x (C z s (fg x)) :: xs.map fun x => g x (C z s (fg x))) + C z s carry
      rw [num_cons, List.length_map, List.length_cons, Nat.pow_succ]
      generalize hN : num (vals z s1 (List.map fg xs)) = N at *
      generalize hM : num (xs.map fun x => g x (C z s (fg x))) = M at *
      generalize hk1 : C z s1 carry = k at *
      generalize hgx : g x (C z s (fg x)) = d at *
      have e2 := Nat.div_add_mod (d + k) 10
      generalize hq : (d + k) / 10 = q at *
      generalize hr : (d + k) % 10 = r at *
      generalize hP : 10 ^ xs.length = P at *
      have e3 : P * 10 * q + r * P = d * P + P * k := by
        have : P * (10 * q + r) = P * (d + k) := by rw [e2]
        rw [Nat.mul_add, Nat.mul_add] at this
        rw [Nat.mul_assoc, Nat.mul_comm r P, Nat.mul_comm d P]
        exact this
      omega
end TL
namespace TL
variable {z : S}
theorem num_zip_add : ∀ (xs ys : List Nat), xs.length = ys.length → num ((xs.zip ys).map fun p => p.1 + p.2) = num xs + num ys
  | [], [], _ => rfl
  | [], _ :: _, h => by simp at h
  | _ :: _, [], h => by simp at h
  | x :: xs, y :: ys, h => by
    have h' : xs.length = ys.length := by simpa using h
    show num ((x + y) :: (xs.zip ys).map fun p => p.1 + p.2) = _
    rw [num_cons, num_cons, num_cons, num_zip_add xs ys h', List.length_map, List.length_zip, h', Nat.min_self, Nat.add_mul]
    omega
theorem num_nines : ∀ (xs : List Nat), Dg xs → num (xs.map fun d => 9 - d) + num xs + 1 = 10 ^ xs.length
  | [], _ => rfl
  | x :: xs, h => by
    have ih := num_nines xs (fun d q => h d (by simp [q]))
    have hx : x ≤ 9 := h x (by simp)
    rw [List.map_cons, num_cons, num_cons, List.length_map, List.length_cons, Nat.pow_succ]
    have : (9 - x) * 10 ^ xs.length + x * 10 ^ xs.length = 9 * 10 ^ xs.length := by
      rw [← Nat.add_mul]; congr 1; omega
    omega
theorem zip_fst : ∀ {xs ys : List Nat}, xs.length = ys.length → (xs.zip ys).map Prod.fst = xs
  | [], [], _ => rfl
  | [], _ :: _, h => by simp at h
  | _ :: _, [], h => by simp at h
  | x :: xs, y :: ys, h => by
    have h' : xs.length = ys.length := by simpa using h
    show x :: (xs.zip ys).map Prod.fst = _
    rw [zip_fst h']
theorem addTo_ok {fs os : List Nat} {carry : Nat} {s : BS} (hl : fs.length = os.length) (bf : Below s fs) (bo : Below s os) (bc : carry < s.free) (nf : fs.Nodup) (ncf : carry ∉ fs) (nco : carry ∉ os) (dis : ∀ c ∈ os, c ∉ fs)
    (df : Dg (vals z s fs)) (dO : Dg (vals z s os)) (kc : C z s carry ≤ 1) :
    (bAddTo fs os carry s).free = s.free ∧ Chg z (carry :: fs) s (bAddTo fs os carry s) ∧ Dg (vals z (bAddTo fs os carry s) fs) ∧ C z (bAddTo fs os carry s) carry ≤ 1 ∧
    num (vals z (bAddTo fs os carry s) fs) + 10 ^ fs.length * C z (bAddTo fs os carry s) carry = num (vals z s fs) + num (vals z s os) + C z s carry := by
  have m1 := zip_fst hl
  have mem : ∀ p ∈ fs.zip os, p.1 ∈ fs ∧ p.2 ∈ os := fun p hp => ⟨(List.of_mem_zip (a := p.1) (b := p.2) hp).1, (List.of_mem_zip (a := p.1) (b := p.2) hp).2⟩
  have df' : ∀ c ∈ fs, C z s c ≤ 9 := fun c hc => df _ (List.mem_map.mpr ⟨c, hc, rfl⟩)
  have do' : ∀ c ∈ os, C z s c ≤ 9 := fun c hc => dO _ (List.mem_map.mpr ⟨c, hc, rfl⟩)
  have h := backward_ok (K := 1) (by decide) (z := z) (pre := fun p s => bRow (.add p.1 p.2) s) (fg := Prod.fst) (carry := carry) (g := fun p d => d + C z s p.2) (fs.zip os) s bc
    (fun p hp => ⟨bf _ (mem p hp).1, fun q => ncf (q ▸ (mem p hp).1)⟩) (by rw [m1]; exact nf)
    (fun p hp s' hs' _ h1 => ⟨rfl, fun i _ => by
      have h2 : C z s' p.2 = C z s p.2 := hs'.same _ (bo _ (mem p hp).2) (fun q => by
        rw [m1] at q
        rcases List.mem_cons.mp q with q | q
        · exact nco (q ▸ (mem p hp).2)
        · exact dis _ (mem p hp).2 q)
      show C z (bRow (.add p.1 p.2) s') i = _
      have a1 := df' _ (mem p hp).1
      have a2 := do' _ (mem p hp).2
      rw [C_add, h1, h2, Nat.mod_eq_of_lt (by omega)]⟩)
    (fun p hp => by
      have a1 := df' _ (mem p hp).1
      have a2 := do' _ (mem p hp).2
      show C z s p.1 + C z s p.2 ≤ 18
      omega) kc
  rw [m1] at h
  obtain ⟨h1, h2, h3, h4, h5⟩ := h
  refine ⟨h1, h2, h3, h4, ?_⟩
  have e : num ((fs.zip os).map fun p => C z s p.1 + C z s p.2) = num (vals z s fs) + num (vals z s os) := by
    rw [← num_zip_add (vals z s fs) (vals z s os) (by rw [vals_length, vals_length, hl])]
    unfold vals
    rw [List.zip_map, List.map_map]
    rfl
  have l1 : (fs.zip os).length = fs.length := by rw [List.length_zip, hl, Nat.min_self]
  rw [l1] at h5
  rw [← e]
  exact h5
theorem turnBy_ok {fs : List Nat} {flag : Nat} {s : BS} (bf : Below s fs) (bg : flag < s.free) (nf : fs.Nodup) (df : Dg (vals z s fs)) (v1 : C z s flag ≤ 1) :
    (bTurnBy fs flag s).free = s.free + 2 ∧ Chg z fs s (bTurnBy fs flag s) ∧ Dg (vals z (bTurnBy fs flag s) fs) ∧
    num (vals z (bTurnBy fs flag s) fs) = if C z s flag = 0 then num (vals z s fs) else (10 ^ fs.length - num (vals z s fs)) % 10 ^ fs.length := by
  have df' : ∀ c ∈ fs, C z s c ≤ 9 := fun c hc => df _ (List.mem_map.mpr ⟨c, hc, rfl⟩)
  have c0 := chg_looked (z := z) flag .tenOr s
  have c1 := chg_copied (z := z) flag (bLooked flag .tenOr s).2
  have c01 := c0.tr0 c1
  let q := bCopied flag (bLooked flag .tenOr s).2
  have hq : q = bCopied flag (bLooked flag .tenOr s).2 := rfl
  have qf : q.2.free = s.free + 2 := rfl
  have q1 : q.1 = s.free + 1 := rfl
  have vq : C z q.2 q.1 = C z s flag := by
    show C z (bCopied flag (bLooked flag .tenOr s).2).2 (s.free + 1) = _
    rw [C_bCopied, if_pos (show s.free + 1 = (bLooked flag .tenOr s).2.free from rfl), c0.C0 bg]
  have vm : C z q.2 s.free = if C z s flag = 0 then 0 else 10 := by
    show C z (bCopied flag (bLooked flag .tenOr s).2).2 s.free = _
    rw [C_bCopied, if_neg (by simp), C_bLooked, if_pos rfl]
    show (if 0 < C z s flag then 10 else 0) = _
    by_cases w : C z s flag = 0
    · rw [if_pos w, if_neg (by omega)]
    · rw [if_neg w, if_pos (by omega)]
  have vf : ∀ c ∈ fs, C z q.2 c = C z s c := fun c hc => c01.C0 (bf c hc)
  let g : Nat → Nat → Nat := fun _ d => Wo.nine.ap (d + C z q.2 s.free)
  have gv : ∀ c ∈ fs, g c (C z q.2 c) = if C z s flag = 0 then C z s c else 9 - C z s c := fun c hc => by
    have a := df' c hc
    show (if 9 < C z q.2 c + C z q.2 s.free ∧ C z q.2 c + C z q.2 s.free < 20 then 19 - (C z q.2 c + C z q.2 s.free) else C z q.2 c + C z q.2 s.free) = _
    rw [vf c hc, vm]
    by_cases w : C z s flag = 0
    · rw [if_pos w, if_pos w, if_neg (by omega)]; omega
    · rw [if_neg w, if_neg w, if_pos (by omega)]; omega
  have h := backward_ok (K := 1) (by decide) (z := z) (pre := fun f s' => bLook f .nine (bRow (.add f s.free) s')) (fg := fun x => x) (carry := q.1) (g := g) fs q.2 (by rw [q1, qf]; omega)
    (fun c hc => ⟨by rw [qf]; have := bf c hc; omega, by rw [q1]; have := bf c hc; omega⟩) (by rw [List.map_id']; exact nf)
    (fun c hc s' hs' _ h1 => ⟨rfl, fun i _ => by
      have h2 : C z s' s.free = C z q.2 s.free := hs'.same _ (by rw [qf]; omega) (fun w => by
        rw [List.map_id'] at w
        rcases List.mem_cons.mp w with w | w
        · rw [q1] at w; omega
        · exact absurd (bf _ w) (Nat.lt_irrefl _))
      show C z (bLook c .nine (bRow (.add c s.free) s')) i = if i = c then Wo.nine.ap (C z q.2 c + C z q.2 s.free) else C z s' i
      have a := df' c hc
      rw [C_look, C_add, C_add, if_pos rfl, h1, h2]
      rw [Nat.mod_eq_of_lt (by rw [vf c hc, vm]; split <;> omega)]
      by_cases w : i = c
      · rw [if_pos w, if_pos w]
      · rw [if_neg w, if_neg w, if_neg w]⟩)
    (fun c hc => by
      rw [gv c hc]
      have a := df' c hc
      split <;> omega) (by rw [vq]; exact v1)
  rw [List.map_id', vq] at h
  obtain ⟨h1, h2, h3, h4, h5⟩ := h
  have ex : bTurnBy fs flag s = bBackward (fun x s' => bCarried x q.1 (bLook x .nine (bRow (.add x s.free) s'))) fs q.2 := rfl
  rw [ex]
  refine ⟨by rw [h1, qf], ?_, h3, ?_⟩
  · exact c01.trans h2 (fun _ w _ => nomatch w) (fun i w hi => by
      rcases List.mem_cons.mp w with w | w
      · rw [w, q1] at hi; omega
      · exact w)
  · have lt := num_lt h3
    rw [vals_length] at lt
    have ev : (fs.map fun x => g x (C z q.2 x)) = (vals z s fs).map fun d => if C z s flag = 0 then d else 9 - d := by
      unfold vals
      rw [List.map_map]
      exact List.map_congr_left fun c hc => gv c hc
    rw [ev] at h5
    generalize hK : C z (bBackward (fun x s' => bCarried x q.1 (bLook x .nine (bRow (.add x s.free) s'))) fs q.2) q.1 = K at *
    generalize hN : num (vals z (bBackward (fun x s' => bCarried x q.1 (bLook x .nine (bRow (.add x s.free) s'))) fs q.2) fs) = N at *
    have hlt := num_lt df
    rw [vals_length] at hlt
    by_cases w : C z s flag = 0
    · rw [if_pos w]
      have e1 : ((vals z s fs).map fun d => if C z s flag = 0 then d else 9 - d) = vals z s fs := by
        conv => rhs; rw [← List.map_id (vals z s fs)]
        exact List.map_congr_left fun d _ => if_pos w
      rw [e1, w] at h5
      have : K = 0 := by
        rcases Nat.eq_zero_or_pos K with k | k
        · exact k
        · have := Nat.mul_le_mul_left (10 ^ fs.length) k
          omega
      subst this
      simpa using h5
    · rw [if_neg w]
      have e1 : ((vals z s fs).map fun d => if C z s flag = 0 then d else 9 - d) = (vals z s fs).map fun d => 9 - d :=
        List.map_congr_left fun d _ => if_neg w
      have e2 := num_nines (vals z s fs) df
      rw [vals_length] at e2
      rw [e1, show C z s flag = 1 by omega] at h5
      have h6 : N + 10 ^ fs.length * K = 10 ^ fs.length - num (vals z s fs) := by omega
      rw [← h6, Nat.add_mul_mod_self_left, Nat.mod_eq_of_lt lt]
end TL
namespace TL
variable {z : S}
/-! ### rows of bytes -/
def packH (f : Form) (ds : List Nat) (sh : Nat) : List Nat := List.replicate f.ahead 0 ++ ds ++ (if f.sg = .end_ then [sh] else [])
def byteOf (f : Form) (ds : List Nat) (sh j : Nat) : Nat :=
  if f.packed then 16 * (packH f ds sh).getD (2 * j) 0 + (packH f ds sh).getD (2 * j + 1) 0
  else 16 * (if j + 1 < f.n ∨ f.sg ≠ .end_ then 15 else sh) + ds.getD j 0
def rowOf (f : Form) (ds : List Nat) (sh : Nat) : List Nat := (List.range f.width).map (byteOf f ds sh)
theorem rowOf_length (f : Form) (ds : List Nat) (sh : Nat) : (rowOf f ds sh).length = f.width := by simp [rowOf]
/-- the cells from a number on hold this row of bytes -/
def Holds (z : S) (s : BS) (at_ : Nat) (f : Form) (ds : List Nat) (sh : Nat) : Prop := ∀ j, j < f.width → C z s (at_ + j) = byteOf f ds sh j
theorem Holds.chg {ms : List Nat} {s s' : BS} {a : Nat} {f : Form} {ds : List Nat} {sh : Nat} (h : Holds z s a f ds sh) (c : Chg z ms s s') (hb : a + f.width ≤ s.free) (hm : ∀ i ∈ ms, a + f.width ≤ i) : Holds z s' a f ds sh := fun j hj => by
  rw [c.same _ (by omega) (fun q => by have := hm _ q; omega)]
  exact h j hj
theorem packH_length {f : Form} {ds : List Nat} {sh : Nat} (hl : ds.length = f.n) : (packH f ds sh).length = f.halves := by
  unfold packH Form.halves Form.ahead Form.e
  by_cases h : f.sg = .end_
  · simp [h, hl]; omega
  · simp [h, hl]; omega
theorem packH_fig {f : Form} {ds : List Nat} {sh k : Nat} (hl : ds.length = f.n) (hk : k < f.n) : (packH f ds sh).getD (k + f.ahead) 0 = ds.getD k 0 := by
  unfold packH
  rw [List.append_assoc, List.getD_eq_getElem?_getD, List.getD_eq_getElem?_getD, List.getElem?_append_right (by simp)]
  rw [List.length_replicate, Nat.add_sub_cancel, List.getElem?_append_left (by omega)]
theorem packH_sign {f : Form} {ds : List Nat} {sh : Nat} (hl : ds.length = f.n) (he : f.sg = .end_) : (packH f ds sh).getD (f.halves - 1) 0 = sh := by
  unfold packH Form.halves Form.ahead Form.e
  rw [List.getD_eq_getElem?_getD, List.getElem?_append_right (by simp [he, hl]; omega)]
  simp [he, hl]
  rw [show f.n + (f.n + 1) % 2 - ((f.n + 1) % 2 + f.n) = 0 by omega]
  rfl
theorem halves_even (f : Form) : f.halves = 2 * (f.halves / 2) := by unfold Form.halves; omega
theorem getD_le {xs : List Nat} {b : Nat} (h : ∀ x ∈ xs, x ≤ b) (i : Nat) : xs.getD i 0 ≤ b := by
  rw [List.getD_eq_getElem?_getD]
  cases e : xs[i]? with
  | none => simp
  | some x => exact h x (List.mem_of_getElem? e)
theorem packH_le {f : Form} {ds : List Nat} {sh : Nat} (hd : Dg ds) (hs : sh ≤ 15) (i : Nat) : (packH f ds sh).getD i 0 ≤ 15 := by
  refine getD_le (fun x hx => ?_) i
  unfold packH at hx
  rcases List.mem_append.mp hx with hx | hx
  · rcases List.mem_append.mp hx with hx | hx
    · have := List.eq_of_mem_replicate hx; omega
    · have := hd x hx; omega
  · by_cases h : f.sg = .end_
    · rw [if_pos h] at hx; have := List.mem_singleton.mp hx; omega
    · rw [if_neg h] at hx; cases hx
theorem width_packed {f : Form} (h : f.packed = true) : f.width = f.halves / 2 := by unfold Form.width; rw [if_pos h]
theorem width_spread {f : Form} (h : f.packed = false) : f.width = f.n := by unfold Form.width; rw [h]; simp
/-- the number that a row of bytes keeps -/
def readZ (f : Form) (ds : List Nat) (sh : Nat) : Int :=
  match f.sg with
  | .none => num ds
  | .end_ => if sh = 11 ∨ sh = 13 then -(num ds : Int) else num ds
  | .tens => if 4 < ds.getD 0 0 then (num ds : Int) - 10 ^ f.n else num ds
theorem div_lo {a b : Nat} (h : b < 16) : (16 * a + b) / 16 = a := by omega
theorem mod_lo {a b : Nat} (h : b < 16) : (16 * a + b) % 16 = b := by omega
theorem loadFig_ok {f : Form} {a k : Nat} {ds : List Nat} {sh : Nat} {s : BS} (hl : ds.length = f.n) (hd : Dg ds) (hs : sh ≤ 15) (hk : k < f.n) (hf : a + f.width ≤ s.free) (H : Holds z s a f ds sh) (s' : BS) (c : Chg z [] s s') :
    (bLoadFig f a k s').1 = s'.free ∧ (bLoadFig f a k s').2.free = s'.free + 1 ∧ ∀ i, C z (bLoadFig f a k s').2 i = if i = s'.free then ds.getD k 0 else C z s' i := by
  have H' := H.chg c hf (fun _ q => nomatch q)
  have d9 : ds.getD k 0 ≤ 9 := getD_le hd k
  unfold bLoadFig
  by_cases hp : f.packed = true
  · rw [if_pos hp]
    refine ⟨rfl, rfl, fun i => ?_⟩
    have hw := width_packed hp
    have ev := halves_even f
    have hb : f.n + f.ahead ≤ f.halves := by unfold Form.halves Form.ahead; omega
    have hj : (k + f.ahead) / 2 < f.width := by rw [hw]; omega
    have hb := H' _ hj
    unfold byteOf at hb
    rw [if_pos hp] at hb
    rw [C_bLooked, hb]
    by_cases w : i = s'.free
    · rw [if_pos w, if_pos w, ← packH_fig (f := f) (sh := sh) hl hk]
      have l1 := packH_le (f := f) hd hs (2 * ((k + f.ahead) / 2))
      have l2 := packH_le (f := f) hd hs (2 * ((k + f.ahead) / 2) + 1)
      by_cases e : (k + f.ahead) % 2 = 0
      · rw [if_pos e]
        show _ / 16 = _
        rw [div_lo (by omega), show 2 * ((k + f.ahead) / 2) = k + f.ahead by omega]
      · rw [if_neg e]
        show _ % 16 = _
        rw [mod_lo (by omega), show 2 * ((k + f.ahead) / 2) + 1 = k + f.ahead by omega]
    · rw [if_neg w, if_neg w]
  · have hp' : f.packed = false := by simpa using hp
    rw [if_neg hp]
    refine ⟨rfl, rfl, fun i => ?_⟩
    have hw := width_spread hp'
    have hb := H' k (by omega)
    unfold byteOf at hb
    rw [if_neg hp] at hb
    rw [C_bLooked, hb]
    by_cases w : i = s'.free
    · rw [if_pos w, if_pos w]
      show _ % 16 = _
      exact mod_lo (by omega)
    · rw [if_neg w, if_neg w]
theorem map_getD (ds : List Nat) : (List.range ds.length).map (fun k => ds.getD k 0) = ds := by
  refine List.ext_getElem? fun i => ?_
  by_cases h : i < ds.length
  · simp [h]
  · simp [h]
/-- a number taken out of a row of bytes: figures of its size, its sign -/
structure Loaded (z : S) (f : Form) (N : Int) (s s' : BS) (p : List Nat × Nat) : Prop where
  chg : Chg z [] s s'
  new : New s s' p.1
  len : p.1.length = f.n
  dg : Dg (vals z s' p.1)
  lo : s.free ≤ p.2
  hi : p.2 < s'.free
  b1 : C z s' p.2 ≤ 1
  val : N = if C z s' p.2 = 1 then -(num (vals z s' p.1) : Int) else num (vals z s' p.1)
  ns : p.2 ∉ p.1
theorem loaded_ok {f : Form} {a : Nat} {ds : List Nat} {sh : Nat} {s : BS} (hn : 0 < f.n) (hl : ds.length = f.n) (hd : Dg ds) (hs : sh ≤ 15) (hf : a + f.width ≤ s.free) (H : Holds z s a f ds sh) :
    Loaded z f (readZ f ds sh) s (bLoaded f a s).2 (bLoaded f a s).1 := by
  obtain ⟨c0, n0, l0, v0⟩ := map_new (z := z) (f := bLoadFig f a) (v := fun k => ds.getD k 0) (s := s) (List.range f.n) (fun k hk s' c => loadFig_ok hl hd hs (List.mem_range.mp hk) hf H s' c)
  rw [← hl, map_getD, hl] at v0
  rw [List.length_range] at l0
  have hd0 : Dg (vals z (bMap (bLoadFig f a) (List.range f.n) s).2 (bMap (bLoadFig f a) (List.range f.n) s).1) := by rw [v0]; exact hd
  generalize hp : bMap (bLoadFig f a) (List.range f.n) s = p at *
  obtain ⟨fs, s1⟩ := p
  simp only at c0 n0 l0 v0 hd0
  have eb : bLoaded f a s = match f.sg with
    | .none => ((fs, (bPut 0 s1).1), (bPut 0 s1).2)
    | .tens => ((fs, (bLooked (fs.getD 0 0) .five s1).1), bTurnBy fs (bLooked (fs.getD 0 0) .five s1).1 (bLooked (fs.getD 0 0) .five s1).2)
    | .end_ => ((fs, (bCopied (a + f.width - 1) s1).1), bLook (bCopied (a + f.width - 1) s1).1 .signB (if f.packed then (bCopied (a + f.width - 1) s1).2 else bLook (bCopied (a + f.width - 1) s1).1 .hi (bCopied (a + f.width - 1) s1).2)) := by
    unfold bLoaded
    rw [hp] <;> (cases f.sg <;> rfl)
  rw [eb]
  unfold readZ
  cases hsg : f.sg with
  | none =>
    have c1 := chg_put (z := z) 0 s1
    have v1 := c1.vals0 n0.hi
    have b0 : C z (bPut 0 s1).2 s1.free = 0 := by rw [C_bPut, if_pos rfl]
    exact ⟨c0.tr0 c1, ⟨n0.lo, n0.hi.le c1.le, n0.nd⟩, l0, by simp only [v1, v0]; exact hd, c0.le, by simp, by simp only [put_1, b0]; omega, by simp only [put_1, b0, v1, v0]; rfl, fun q => absurd (n0.hi _ q) (Nat.lt_irrefl _)⟩
  | tens =>
    have c1 := chg_looked (z := z) (fs.getD 0 0) .five s1
    have h0 : fs.getD 0 0 ∈ fs := by
      cases fs with
      | nil => simp at l0; omega
      | cons x xs => simp
    have vh : C z s1 (fs.getD 0 0) = ds.getD 0 0 := by
      rw [← v0]
      cases fs with
      | nil => simp at l0; omega
      | cons x xs => simp [vals]
    have b0 : C z (bLooked (fs.getD 0 0) .five s1).2 s1.free = if 4 < ds.getD 0 0 then 1 else 0 := by
      rw [C_bLooked, if_pos rfl, vh]; rfl
    have v1 := c1.vals0 n0.hi
    obtain ⟨t1, t2, t3, t4⟩ := turnBy_ok (z := z) (fs := fs) (flag := s1.free) (s := (bLooked (fs.getD 0 0) .five s1).2) (n0.hi.le c1.le) (by simp) n0.nd (by rw [v1, v0]; exact hd) (by rw [b0]; split <;> omega)
    have keep : C z (bTurnBy fs s1.free (bLooked (fs.getD 0 0) .five s1).2) s1.free = if 4 < ds.getD 0 0 then 1 else 0 := by
      rw [t2.same s1.free (by simp) (fun q => absurd (n0.hi _ q) (Nat.lt_irrefl _)), b0]
    have lt := num_lt hd
    refine ⟨(c0.tr0 c1).trans (c := []) t2 (fun _ q _ => q) (fun i q hi => absurd hi (Nat.not_lt.mpr (n0.lo i q))), ⟨n0.lo, ?_, n0.nd⟩, l0, t3, c0.le, ?_, ?_, ?_, fun q => absurd (n0.hi _ q) (Nat.lt_irrefl _)⟩
    · intro c hc
      have := n0.hi c hc
      show c < (bTurnBy fs s1.free (bLooked (fs.getD 0 0) .five s1).2).free
      rw [t1]; simp; omega
    · show s1.free < (bTurnBy fs s1.free (bLooked (fs.getD 0 0) .five s1).2).free
      rw [t1]; simp; omega
    · show C z (bTurnBy fs s1.free (bLooked (fs.getD 0 0) .five s1).2) s1.free ≤ 1
      rw [keep]; split <;> omega
    · show (if 4 < ds.getD 0 0 then (num ds : Int) - 10 ^ f.n else num ds) = if C z (bTurnBy fs s1.free (bLooked (fs.getD 0 0) .five s1).2) s1.free = 1 then -(num (vals z (bTurnBy fs s1.free (bLooked (fs.getD 0 0) .five s1).2) fs) : Int) else num (vals z (bTurnBy fs s1.free (bLooked (fs.getD 0 0) .five s1).2) fs)
      rw [keep, t4, b0, v1, v0, l0]
      rw [hl] at lt
      by_cases w : 4 < ds.getD 0 0
      · have pos : 0 < num ds := by
          cases ds with
          | nil => simp at w
          | cons x xs =>
            rw [num_cons]
            have : 0 < x * 10 ^ xs.length := Nat.mul_pos (by simp at w; omega) (Nat.pow_pos (by decide))
            omega
        rw [if_pos w, if_pos w, if_pos rfl, if_neg (by decide), Nat.mod_eq_of_lt (by omega)]
        have e : ((10 ^ f.n : Nat) : Int) = (10 : Int) ^ f.n := by simp
        rw [← e]
        omega
      · rw [if_neg w, if_neg w, if_neg (by decide), if_pos rfl]
  | end_ =>
    have c1 := chg_copied (z := z) (a + f.width - 1) s1
    have H1 := H.chg c0 hf (fun _ q => nomatch q)
    have hw : 0 < f.width := by
      unfold Form.width Form.halves
      split <;> omega
    have vb := H1 (f.width - 1) (by omega)
    rw [show a + (f.width - 1) = a + f.width - 1 by omega] at vb
    have key : ∀ s3, Chg z [s1.free] (bCopied (a + f.width - 1) s1).2 s3 → s3.free = s1.free + 1 → (C z s3 s1.free) % 16 = sh →
        Loaded z f (if sh = 11 ∨ sh = 13 then -(num ds : Int) else num ds) s (bLook s1.free .signB s3) (fs, s1.free) := fun s3 c3 f3 v3 => by
      have c4 := chg_look (z := z) s1.free .signB s3
      have c5 : Chg z [] s (bLook s1.free .signB s3) := ((c0.tr0 c1).trans (c := []) (c3.trans c4 (c := [s1.free]) (fun _ q _ => q) (fun _ q _ => q)) (fun _ q _ => q) (fun i q hi => by
        have := List.mem_singleton.mp q
        have := c0.le
        omega))
      have c6 : Chg z [] s1 (bLook s1.free .signB s3) := (c1.trans (c := []) (c3.trans c4 (c := [s1.free]) (fun _ q _ => q) (fun _ q _ => q)) (fun _ q _ => q) (fun i q hi => by
        have := List.mem_singleton.mp q
        omega))
      have v6 := c6.vals0 n0.hi
      have b6 : C z (bLook s1.free .signB s3) s1.free = if sh = 11 ∨ sh = 13 then 1 else 0 := by
        rw [C_look, if_pos rfl]
        show (if C z s3 s1.free % 16 = 11 ∨ C z s3 s1.free % 16 = 13 then 1 else 0) = _
        rw [v3]
      refine ⟨c5, ⟨n0.lo, n0.hi.le c6.le, n0.nd⟩, l0, by simp only [v6, v0]; exact hd, c0.le, by show s1.free < (bLook s1.free .signB s3).free; rw [free_look, f3]; omega, ?_, ?_, fun q => absurd (n0.hi _ q) (Nat.lt_irrefl _)⟩
      · show C z (bLook s1.free .signB s3) s1.free ≤ 1
        rw [b6]; split <;> omega
      · show _ = if C z (bLook s1.free .signB s3) s1.free = 1 then -(num (vals z (bLook s1.free .signB s3) fs) : Int) else num (vals z (bLook s1.free .signB s3) fs)
        rw [b6, v6, v0]
        by_cases w : sh = 11 ∨ sh = 13
        · rw [if_pos w, if_pos w]; rfl
        · rw [if_neg w, if_neg w]; rfl
    show Loaded z f _ s (bLook s1.free .signB (if f.packed = true then (bCopied (a + f.width - 1) s1).2 else bLook s1.free .hi (bCopied (a + f.width - 1) s1).2)) (fs, s1.free)
    by_cases hp2 : f.packed = true
    · rw [if_pos hp2]
      refine key _ ((Chg.refl _).mono (fun _ q => nomatch q)) rfl ?_
      rw [C_bCopied, if_pos rfl, vb]
      unfold byteOf
      rw [if_pos hp2]
      have ev := halves_even f
      have l2 := packH_le (f := f) hd hs (2 * (f.width - 1) + 1)
      rw [mod_lo (by omega), width_packed hp2, show 2 * (f.halves / 2 - 1) + 1 = f.halves - 1 by rw [width_packed hp2] at hw; omega]
      exact packH_sign hl hsg
    · rw [if_neg hp2]
      refine key _ (chg_look _ _ _) rfl ?_
      rw [C_look, if_pos rfl, C_bCopied, if_pos rfl, vb]
      unfold byteOf
      have d9 : ds.getD (f.width - 1) 0 ≤ 9 := getD_le hd _
      have hp' : f.packed = false := by simpa using hp2
      rw [if_neg hp2, width_spread hp'] 
      rw [width_spread hp'] at d9
      rw [if_neg (by rw [hsg]; simp; omega)]
      show (16 * sh + ds.getD (f.n - 1) 0) / 16 % 16 = sh
      rw [div_lo (by omega)]; omega
end TL
namespace TL
variable {z : S}
theorem or_halves {a b : Nat} (hb : b < 16) : 16 * a ||| b = 16 * a + b := by
  have h := Nat.two_pow_add_eq_or_of_lt (i := 4) (b := b) (by simpa using hb) a
  simpa using h.symm
theorem joined_ok {one other to : Nat} {s : BS} (h1 : one < s.free) (h2 : other < s.free) (h3 : to < s.free) (l1 : C z s one ≤ 15) (l2 : C z s other ≤ 15) :
    Chg z [to] s (bJoined one other to s) ∧ C z (bJoined one other to s) to = 16 * C z s one + C z s other := by
  have c0 := chg_looked (z := z) one .hup s
  have c1 := chg_row_or (z := z) s.free other (bLooked one .hup s).2
  have c2 := chg_row_copy (z := z) to s.free (bRow (.or_ s.free other) (bLooked one .hup s).2)
  refine ⟨?_, ?_⟩
  · refine c0.trans (c := [to]) (c1.trans (c := [s.free, to]) c2 ?_ ?_) ?_ ?_
    · intro i q _; simp at q; simp [q]
    · intro i q _; simp at q; simp [q]
    · intro i q; cases q
    · intro i q hi
      simp at q
      rcases q with q | q
      · omega
      · simp [q]
  · show C z (bRow (.copy to s.free) (bRow (.or_ s.free other) (bLooked one .hup s).2)) to = _
    rw [C_copy, if_pos rfl, C_or, if_pos rfl, C_bLooked, if_pos rfl, c0.C0 h2]
    show (C z s one % 16 * 16) ||| C z s other = _
    rw [show C z s one % 16 * 16 = 16 * C z s one by omega, or_halves (by omega)]
/-- a loop that writes the cells from a on, one a turn -/
theorem each_write {f : Nat → BS → BS} {v : Nat → Nat} {a : Nat} {s : BS} : ∀ (m : Nat), a + m ≤ s.free →
    (∀ j, j < m → ∀ s', Chg z ((List.range m).map (a + ·)) s s' → Chg z [a + j] s' (f j s') ∧ C z (f j s') (a + j) = v j) →
    Chg z ((List.range m).map (a + ·)) s (bEach f (List.range m) s) ∧ ∀ j, j < m → C z (bEach f (List.range m) s) (a + j) = v j := by
  intro m hm hf
  suffices H : ∀ k, k ≤ m → Chg z ((List.range m).map (a + ·)) s (bEach f (List.range k) s) ∧ ∀ j, j < k → C z (bEach f (List.range k) s) (a + j) = v j from H m (Nat.le_refl _)
  intro k
  induction k with
  | zero => intro _; exact ⟨(Chg.refl s).mono (fun _ q => nomatch q), fun j hj => absurd hj (Nat.not_lt_zero _)⟩
  | succ k ih =>
    intro hk
    obtain ⟨c, h⟩ := ih (by omega)
    have e : bEach f (List.range (k + 1)) s = f k (bEach f (List.range k) s) := by
      unfold bEach
      rw [List.range_succ, List.foldl_append]
      rfl
    rw [e]
    obtain ⟨c1, h1⟩ := hf k (by omega) _ c
    refine ⟨c.trans c1 (fun _ q _ => q) (fun i q _ => ?_), fun j hj => ?_⟩
    · rw [List.mem_singleton.mp q]
      exact List.mem_map.mpr ⟨k, List.mem_range.mpr (by omega), rfl⟩
    · by_cases w : j = k
      · rw [w]; exact h1
      · rw [c1.same _ (by have := c.le; omega) (by simp; omega)]
        exact h j (by omega)
theorem vals_append (s : BS) (xs ys : List Nat) : vals z s (xs ++ ys) = vals z s xs ++ vals z s ys := List.map_append
theorem vals_getD {s : BS} {xs : List Nat} {i : Nat} (h : i < xs.length) : C z s (xs.getD i 0) = (vals z s xs).getD i 0 := by
  rw [List.getD_eq_getElem?_getD, List.getD_eq_getElem?_getD]
  unfold vals
  rw [List.getElem?_map, List.getElem?_eq_getElem h]
  rfl
theorem getD_mem {xs : List Nat} {i : Nat} (h : i < xs.length) : xs.getD i 0 ∈ xs := by
  rw [List.getD_eq_getElem?_getD, List.getElem?_eq_getElem h]
  exact List.getElem_mem h
theorem or_zone {d : Nat} (h : d ≤ 9) : d ||| 240 = 16 * 15 + d := by
  have h' : d = 0 ∨ d = 1 ∨ d = 2 ∨ d = 3 ∨ d = 4 ∨ d = 5 ∨ d = 6 ∨ d = 7 ∨ d = 8 ∨ d = 9 := by omega
  rcases h' with h | h | h | h | h | h | h | h | h | h <;> subst h <;> rfl
/-- cells beyond the front: what lies below 32 is written, what lies above is kept -/
theorem stored_ok {f : Form} {fs : List Nat} {below a : Nat} {s : BS} (hl : fs.length = f.n) (bf : Below s fs) (hi : ∀ c ∈ fs, 32 ≤ c) (hb : below < s.free) (hd : Dg (vals z s fs)) (b1 : C z s below ≤ 1) (ha : a + f.width ≤ 32) (h32 : 32 ≤ s.free) :
    Chg z ((List.range f.width).map (a + ·)) s (bStored f fs below a s) ∧ Holds z (bStored f fs below a s) a f (vals z s fs) (12 + C z s below) := by
  have c0 := chg_put (z := z) 12 s
  have c1 := chg_row_add (z := z) s.free below (bPut 12 s).2
  have c01 : Chg z [] s (bRow (.add s.free below) (bPut 12 s).2) := c0.trans (c := []) c1 (fun _ q _ => q) (fun i q hi => by have := List.mem_singleton.mp q; omega)
  have vs : C z (bRow (.add s.free below) (bPut 12 s).2) s.free = 12 + C z s below := by
    rw [C_add, if_pos rfl, C_bPut, if_pos rfl, c0.C0 hb, Nat.mod_eq_of_lt (by omega)]
  generalize hs1 : bRow (.add s.free below) (bPut 12 s).2 = s1 at *
  have f1 : s1.free = s.free + 1 := by rw [← hs1]; rfl
  have es : bStored f fs below a s = if f.packed then bEach (bStorePacked ((bNoughts f.ahead s1).1 ++ fs ++ (if f.sg = .end_ then [s.free] else [])) a) (List.range (f.halves / 2)) (bNoughts f.ahead s1).2
      else bEach (bStoreSpread f fs s.free (bPut 240 s1).1 a) (List.range f.n) (bPut 240 s1).2 := by
    unfold bStored
    rw [← hs1]
    rfl
  rw [es]
  by_cases hp : f.packed = true
  · rw [if_pos hp]
    obtain ⟨c2, n2, l2, v2⟩ := noughts_ok (z := z) f.ahead s1
    generalize hq : bNoughts f.ahead s1 = q at *
    obtain ⟨zs, s2⟩ := q
    simp only at c2 n2 l2 v2 ⊢
    have c02 := c01.tr0 c2
    generalize hH : zs ++ fs ++ (if f.sg = .end_ then [s.free] else []) = hs
    have len : hs.length = f.halves := by
      rw [← hH]
      have e1 : f.ahead = (f.n + f.e) % 2 := rfl
      have e2 : f.halves = f.n + f.e + (f.n + f.e) % 2 := rfl
      by_cases w : f.sg = .end_
      · simp [w, hl, l2, e1, e2, Form.e]; omega
      · simp [w, hl, l2, e1, e2, Form.e]; omega
    have vH : vals z s2 hs = packH f (vals z s fs) (12 + C z s below) := by
      rw [← hH, vals_append, vals_append, v2, c02.vals0 bf]
      unfold packH
      by_cases w : f.sg = .end_
      · rw [if_pos w, if_pos w]
        simp only [vals, List.map_cons, List.map_nil]
        rw [c2.C0 (by omega), vs]
      · rw [if_neg w, if_neg w]; rfl
    have bH : ∀ c ∈ hs, c < s2.free ∧ 32 ≤ c := by
      intro c hc
      rw [← hH] at hc
      rcases List.mem_append.mp hc with hc | hc
      · rcases List.mem_append.mp hc with hc | hc
        · exact ⟨n2.hi c hc, by have := n2.lo c hc; omega⟩
        · exact ⟨Nat.lt_of_lt_of_le (bf c hc) c02.le, hi c hc⟩
      · by_cases w : f.sg = .end_
        · rw [if_pos w] at hc; have := List.mem_singleton.mp hc; have := c2.le; omega
        · rw [if_neg w] at hc; cases hc
    have l15 : ∀ i, (packH f (vals z s fs) (12 + C z s below)).getD i 0 ≤ 15 := packH_le hd (by omega)
    have hw := width_packed hp
    have ev := halves_even f
    obtain ⟨e1, e2⟩ := each_write (z := z) (f := bStorePacked hs a) (v := byteOf f (vals z s fs) (12 + C z s below)) (a := a) (s := s2) (f.halves / 2) (by have := c02.le; omega) (fun j hj s' c => by
      have keep : ∀ i, i < hs.length → C z s' (hs.getD i 0) = (packH f (vals z s fs) (12 + C z s below)).getD i 0 := fun i h => by
        have m := bH _ (getD_mem h)
        rw [c.same _ m.1 (fun q => by
          obtain ⟨k, hk, e⟩ := List.mem_map.mp q
          have := List.mem_range.mp hk
          omega), vals_getD h, vH]
      have lt : ∀ i, i < hs.length → hs.getD i 0 < s'.free := fun i h => Nat.lt_of_lt_of_le (bH _ (getD_mem h)).1 c.le
      have k1 := keep (2 * j) (by omega)
      have k2 := keep (2 * j + 1) (by omega)
      have g := joined_ok (z := z) (one := hs.getD (2 * j) 0) (other := hs.getD (2 * j + 1) 0) (to := a + j) (s := s') (lt _ (by omega)) (lt _ (by omega)) (by have := c.le; have := c02.le; omega) (by rw [k1]; exact l15 _) (by rw [k2]; exact l15 _)
      refine ⟨g.1, ?_⟩
      show C z (bJoined _ _ _ _) _ = _
      rw [g.2, k1, k2]
      unfold byteOf
      rw [if_pos hp])
    rw [← hw] at e1 e2 ⊢
    exact ⟨c02.trans e1 (fun _ q _ => nomatch q) (fun _ q _ => q), e2⟩
  · rw [if_neg hp]
    have hp' : f.packed = false := by simpa using hp
    have hw := width_spread hp'
    have c2 := chg_put (z := z) 240 s1
    have c02 := c01.tr0 c2
    have vz : C z (bPut 240 s1).2 s1.free = 240 := by rw [C_bPut, if_pos rfl]
    have vs2 : C z (bPut 240 s1).2 s.free = 12 + C z s below := by rw [c2.C0 (by omega), vs]
    have vf : vals z (bPut 240 s1).2 fs = vals z s fs := c02.vals0 bf
    generalize hs2 : (bPut 240 s1).2 = s2 at *
    have f2 : s2.free = s.free + 2 := by rw [← hs2, put_free, f1]
    obtain ⟨e1, e2⟩ := each_write (z := z) (f := bStoreSpread f fs s.free (bPut 240 s1).1 a) (v := byteOf f (vals z s fs) (12 + C z s below)) (a := a) (s := s2) f.n (by omega) (fun j hj s' c => by
      have nm : ∀ i, 32 ≤ i → i ∉ (List.range f.n).map (a + ·) := fun i h q => by
        obtain ⟨k, hk, e⟩ := List.mem_map.mp q
        have := List.mem_range.mp hk
        omega
      have mj := getD_mem (xs := fs) (i := j) (by omega)
      have kf : C z s' (fs.getD j 0) = (vals z s fs).getD j 0 := by
        rw [c.same _ (Nat.lt_of_lt_of_le (bf _ mj) c02.le) (nm _ (hi _ mj)), vals_getD (by omega), vf]
      have kz : C z s' s1.free = 240 := by rw [c.same _ (by omega) (nm _ (by omega)), vz]
      have ks : C z s' s.free = 12 + C z s below := by rw [c.same _ (by omega) (nm _ (by omega)), vs2]
      have d9 : (vals z s fs).getD j 0 ≤ 9 := getD_le hd j
      have c3 := chg_row_copy (z := z) (a + j) (fs.getD j 0) s'
      have sf := c.le
      have mj1 := bf _ mj
      have mj2 := hi _ mj
      unfold bStoreSpread
      show Chg z [a + j] s' (if j + 1 < f.n ∨ f.sg ≠ .end_ then bRow (.or_ (a + j) s1.free) (bRow (.copy (a + j) (fs.getD j 0)) s') else bJoined s.free (fs.getD j 0) (a + j) (bRow (.copy (a + j) (fs.getD j 0)) s')) ∧ C z (if j + 1 < f.n ∨ f.sg ≠ .end_ then bRow (.or_ (a + j) s1.free) (bRow (.copy (a + j) (fs.getD j 0)) s') else bJoined s.free (fs.getD j 0) (a + j) (bRow (.copy (a + j) (fs.getD j 0)) s')) (a + j) = byteOf f (vals z s fs) (12 + C z s below) j
      unfold byteOf
      rw [if_neg hp]
      by_cases w : j + 1 < f.n ∨ f.sg ≠ .end_
      · rw [if_pos w, if_pos w]
        refine ⟨c3.trans (chg_row_or _ _ _) (fun _ q _ => q) (fun _ q _ => q), ?_⟩
        rw [C_or, if_pos rfl, C_copy, if_pos rfl, C_copy, if_neg (by omega), kf, kz]
        exact or_zone d9
      · rw [if_neg w, if_neg w]
        have k1 : C z (bRow (.copy (a + j) (fs.getD j 0)) s') s.free = 12 + C z s below := by rw [C_copy, if_neg (by omega), ks]
        have k2 : C z (bRow (.copy (a + j) (fs.getD j 0)) s') (fs.getD j 0) = (vals z s fs).getD j 0 := by rw [C_copy, if_neg (by omega), kf]
        have g := joined_ok (z := z) (one := s.free) (other := fs.getD j 0) (to := a + j) (s := bRow (.copy (a + j) (fs.getD j 0)) s') (by rw [free_row]; omega) (by rw [free_row]; omega) (by rw [free_row]; omega) (by rw [k1]; omega) (by rw [k2]; omega)
        refine ⟨c3.trans g.1 (fun _ q _ => q) (fun _ q _ => q), ?_⟩
        rw [g.2, k1, k2])
    rw [← hw] at e1 e2 ⊢
    exact ⟨c02.trans e1 (fun _ q _ => nomatch q) (fun _ q _ => q), e2⟩
end TL
namespace TL
variable {z : S}
/-! ### folding, fitting -/
def Form.P (f : Form) : Int := 10 ^ f.n
def leastZ (f : Form) : Int :=
  match f.sg with
  | .none => 0
  | .end_ => 1 - 10 ^ f.n
  | .tens => -5 * 10 ^ (f.n - 1)
def mostZ (f : Form) : Int :=
  match f.sg with
  | .tens => 5 * 10 ^ (f.n - 1) - 1
  | _ => 10 ^ f.n - 1
def foldedZ (f : Form) (N : Int) : Int :=
  match f.sg with
  | .none => N % 10 ^ f.n
  | .tens => (N - leastZ f) % 10 ^ f.n + leastZ f
  | .end_ => if N < 0 then -(-N % 10 ^ f.n) else N % 10 ^ f.n
def fitsZ (f : Form) (N : Int) : Bool := decide (leastZ f ≤ N ∧ N ≤ mostZ f)
/-- the whole number whose figures are kept -/
def keptNum (f : Form) (M : Int) : Nat :=
  match f.sg with
  | .tens => (M % 10 ^ f.n).toNat
  | _ => M.natAbs
def signOf (M : Int) : Nat := if M < 0 then 13 else 12
def keptRow (f : Form) (M : Int) : List Nat := rowOf f (digs f.n (keptNum f M)) (signOf M)
def HoldsRow (z : S) (s : BS) (a : Nat) (row : List Nat) : Prop := ∀ j, j < row.length → C z s (a + j) = row.getD j 0
theorem Holds.row {s : BS} {a : Nat} {f : Form} {ds : List Nat} {sh : Nat} (h : Holds z s a f ds sh) : HoldsRow z s a (rowOf f ds sh) := fun j hj => by
  rw [rowOf_length] at hj
  rw [h j hj]
  unfold rowOf
  simp [hj]
theorem byteOf_sh {f : Form} {ds : List Nat} {sh sh' j : Nat} (h : f.sg ≠ .end_) : byteOf f ds sh j = byteOf f ds sh' j := by
  unfold byteOf packH
  simp [h]
/-! ### the last figures, those ahead -/
def lowD (n : Nat) (ds : List Nat) : List Nat := List.replicate (n - ds.length) 0 ++ ds.drop (ds.length - n)
theorem lowD_length (n : Nat) (ds : List Nat) : (lowD n ds).length = n := by
  unfold lowD
  simp
  omega
theorem num_zeros (k : Nat) : num (List.replicate k 0) = 0 := by
  induction k with
  | zero => rfl
  | succ k ih => rw [List.replicate_succ, num_cons, ih]; simp
theorem Dg.drop {ds : List Nat} (h : Dg ds) (k : Nat) : Dg (ds.drop k) := fun d q => h d (List.mem_of_mem_drop q)
theorem Dg.take {ds : List Nat} (h : Dg ds) (k : Nat) : Dg (ds.take k) := fun d q => h d (List.mem_of_mem_take q)
theorem Dg.append {xs ys : List Nat} (h : Dg xs) (k : Dg ys) : Dg (xs ++ ys) := fun d q => by
  rcases List.mem_append.mp q with q | q
  · exact h d q
  · exact k d q
theorem Dg.zeros (k : Nat) : Dg (List.replicate k 0) := fun d q => by
  have := List.eq_of_mem_replicate q
  omega
theorem num_split {ds : List Nat} (h : Dg ds) (k : Nat) (hk : k ≤ ds.length) : num (ds.take k) = num ds / 10 ^ (ds.length - k) ∧ num (ds.drop k) = num ds % 10 ^ (ds.length - k) := by
  have e : num ds = num (ds.take k) * 10 ^ (ds.length - k) + num (ds.drop k) := by
    conv => lhs; rw [← List.take_append_drop k ds]
    rw [num_append, List.length_drop]
  have lt : num (ds.drop k) < 10 ^ (ds.length - k) := by
    have := num_lt (h.drop k)
    rw [List.length_drop] at this
    exact this
  have hp : 0 < 10 ^ (ds.length - k) := Nat.pow_pos (by decide)
  constructor
  · rw [e, Nat.add_comm, Nat.add_mul_div_right _ _ hp, Nat.div_eq_of_lt lt, Nat.zero_add]
  · rw [e, Nat.add_comm, Nat.add_mul_mod_self_right, Nat.mod_eq_of_lt lt]
theorem lowD_num {n : Nat} {ds : List Nat} (h : Dg ds) : num (lowD n ds) = num ds % 10 ^ n := by
  unfold lowD
  rw [num_append, num_zeros, Nat.zero_mul, Nat.zero_add]
  by_cases w : n ≤ ds.length
  · have := (num_split h (ds.length - n) (by omega)).2
    rw [this, show ds.length - (ds.length - n) = n by omega]
  · rw [show ds.length - n = 0 by omega, List.drop_zero]
    have := num_lt h
    have h2 : 10 ^ ds.length ≤ 10 ^ n := Nat.pow_le_pow_right (by decide) (by omega)
    exact (Nat.mod_eq_of_lt (by omega)).symm
theorem hiD_num {n : Nat} {ds : List Nat} (h : Dg ds) : num (ds.take (ds.length - n)) = num ds / 10 ^ n := by
  by_cases w : n ≤ ds.length
  · have := (num_split h (ds.length - n) (by omega)).1
    rw [this, show ds.length - (ds.length - n) = n by omega]
  · rw [show ds.length - n = 0 by omega, List.take_zero]
    have := num_lt h
    have h2 : 10 ^ ds.length ≤ 10 ^ n := Nat.pow_le_pow_right (by decide) (by omega)
    exact (Nat.div_eq_of_lt (by omega)).symm
theorem lowD_dg {n : Nat} {ds : List Nat} (h : Dg ds) : Dg (lowD n ds) := (Dg.zeros _).append (h.drop _)
theorem first_five {ds : List Nat} {n : Nat} (h : Dg ds) (hl : ds.length = n) (hn : 0 < n) : 4 < ds.getD 0 0 ↔ 5 * 10 ^ (n - 1) ≤ num ds := by
  cases ds with
  | nil => simp at hl; omega
  | cons d ds =>
    rw [num_cons]
    have hl' : ds.length = n - 1 := by simp at hl; omega
    have lt := num_lt (fun x q => h x (List.mem_cons_of_mem d q) : Dg ds)
    rw [hl'] at lt ⊢
    show 4 < d ↔ _
    constructor
    · intro q
      have := Nat.mul_le_mul_right (10 ^ (n - 1)) q
      omega
    · intro q
      refine Nat.lt_of_not_le fun w => ?_
      have := Nat.mul_le_mul_right (10 ^ (n - 1)) w
      omega
theorem neg_emod (V P : Nat) (hP : 0 < P) : (-(V : Int)) % (P : Int) = (((P - V % P) % P : Nat) : Int) := by
  have h1 := Nat.div_add_mod V P
  have h2 := Nat.mod_lt V hP
  have e : (-(V : Int)) = ((P - V % P : Nat) : Int) + (P : Int) * (-((V / P : Nat) : Int) - 1) := by
    rw [Int.mul_sub, Int.mul_one, Int.mul_neg]
    have h3 : ((P : Int) * ((V / P : Nat) : Int)) + ((V % P : Nat) : Int) = (V : Int) := by
      rw [← Int.natCast_mul, ← Int.natCast_add, h1]
    omega
  rw [e, Int.add_mul_emod_self_left]
  simp
theorem powZ (n : Nat) : (10 : Int) ^ n = ((10 ^ n : Nat) : Int) := by simp
/-- what a number of any many figures, folded, leaves -/
theorem lower_ok (n : Nat) {fs : List Nat} {s : BS} (bf : Below s fs) (hd : Dg (vals z s fs)) :
    Chg z [] s (bTaken (lastN n fs) (bNoughts (n - fs.length) s).2).2 ∧ New s (bTaken (lastN n fs) (bNoughts (n - fs.length) s).2).2 ((bNoughts (n - fs.length) s).1 ++ (bTaken (lastN n fs) (bNoughts (n - fs.length) s).2).1) ∧
    vals z (bTaken (lastN n fs) (bNoughts (n - fs.length) s).2).2 ((bNoughts (n - fs.length) s).1 ++ (bTaken (lastN n fs) (bNoughts (n - fs.length) s).2).1) = lowD n (vals z s fs) := by
  obtain ⟨c0, n0, l0, v0⟩ := noughts_ok (z := z) (n - fs.length) s
  have bl : Below s (lastN n fs) := fun c hc => bf c (List.mem_of_mem_drop hc)
  obtain ⟨c1, n1, l1, v1⟩ := taken_ok (z := z) (bl.le c0.le)
  refine ⟨c0.tr0 c1, ⟨?_, ?_, ?_⟩, ?_⟩
  · intro c hc
    rcases List.mem_append.mp hc with hc | hc
    · exact n0.lo c hc
    · have := n1.lo c hc; have := c0.le; omega
  · intro c hc
    rcases List.mem_append.mp hc with hc | hc
    · exact Nat.lt_of_lt_of_le (n0.hi c hc) c1.le
    · exact n1.hi c hc
  · rw [List.nodup_append]
    exact ⟨n0.nd, n1.nd, fun a ha b hb => by have := n0.hi a ha; have := n1.lo b hb; omega⟩
  · rw [vals_append, c1.vals0 n0.hi, v0, v1, c0.vals0 bl]
    unfold lowD lastN vals
    rw [List.length_map, List.map_drop]
theorem ite01' (p : Prop) [Decidable p] : (if p then 1 else 0) ≤ 1 := by split <;> omega
theorem ite01 (p : Prop) [Decidable p] : (if p then 0 else 1) ≤ 1 := by split <;> omega
structure Done (z : S) (f : Form) (a : Nat) (N : Int) (s s' : BS) (r : Nat) : Prop where
  holds : HoldsRow z s' a (keptRow f (foldedZ f N))
  mark : C z s' r = if fitsZ f N then 0 else 1
  r32 : 32 ≤ r
  rlt : r < s'.free
  le : s.free ≤ s'.free
theorem stored_done {f : Form} {fs : List Nat} {below a r : Nat} {N : Int} {s s0 : BS} (hl : fs.length = f.n) (bf : Below s fs) (hi : ∀ c ∈ fs, 32 ≤ c) (hb : below < s.free) (hd : Dg (vals z s fs)) (b1 : C z s below ≤ 1) (ha : a + f.width ≤ 32) (h32 : 32 ≤ s.free)
    (hr : 32 ≤ r) (hr2 : r < s.free) (hm : C z s r = if fitsZ f N then 0 else 1) (hle : s0.free ≤ s.free)
    (hv : num (vals z s fs) = keptNum f (foldedZ f N) % 10 ^ f.n) (hs : f.sg = .end_ → 12 + C z s below = signOf (foldedZ f N)) : Done z f a N s0 (bStored f fs below a s) r := by
  obtain ⟨c, h⟩ := stored_ok (z := z) hl bf hi hb hd b1 ha h32
  refine ⟨?_, ?_, hr, Nat.lt_of_lt_of_le hr2 c.le, Nat.le_trans hle c.le⟩
  · have e : vals z s fs = digs f.n (keptNum f (foldedZ f N)) := digs_of hd (by rw [vals_length, hl]) hv
    have h' : Holds z (bStored f fs below a s) a f (digs f.n (keptNum f (foldedZ f N))) (signOf (foldedZ f N)) := fun j hj => by
      rw [h j hj, e]
      by_cases w : f.sg = .end_
      · rw [hs w]
      · exact byteOf_sh w
    exact h'.row
  · rw [c.same r hr2 (fun q => ?_), hm]
    obtain ⟨k, hk, e⟩ := List.mem_map.mp q
    have := List.mem_range.mp hk
    omega
theorem finished_ok {f : Form} {fs : List Nat} {below a : Nat} {s : BS} {N : Int} (hn : 0 < f.n) (bf : Below s fs) (hb : below < s.free) (hb32 : 32 ≤ below) (hd : Dg (vals z s fs)) (b1 : C z s below ≤ 1) (ha : a + f.width ≤ 32) (h32 : 32 ≤ s.free)
    (hN : N = if C z s below = 1 then -(num (vals z s fs) : Int) else num (vals z s fs)) : Done z f a N s (bFinished f fs below a s).2 (bFinished f fs below a s).1 := by
  obtain ⟨c0, n0, v0⟩ := lower_ok (z := z) f.n bf hd
  have ex : bFinished f fs below a s = (let p := bNoughts (f.n - fs.length) s
    let q := bTaken (lastN f.n fs) p.2
    let lower := p.1 ++ q.1
    let m := bAnyOf (fs.take (fs.length - f.n)) q.2
    let a' := bAnyOf fs m.2
    let r := bBoth a'.1 below a'.2
    match f.sg with
    | .end_ => (m.1, bStored f lower (bBoth (bAnyOf lower r.2).1 below (bAnyOf lower r.2).2).1 a (bBoth (bAnyOf lower r.2).1 below (bAnyOf lower r.2).2).2)
    | .tens => (m.1, bStored f lower below a (bRow (.or_ m.1 (bLooked (lower.getD 0 0) .five (bTurnBy lower r.1 r.2)).1) (bLook (bLooked (lower.getD 0 0) .five (bTurnBy lower r.1 r.2)).1 .one2 (bRow (.add (bLooked (lower.getD 0 0) .five (bTurnBy lower r.1 r.2)).1 r.1) (bRow (.add (bLooked (lower.getD 0 0) .five (bTurnBy lower r.1 r.2)).1 r.1) (bLooked (lower.getD 0 0) .five (bTurnBy lower r.1 r.2)).2)))))
    | .none => (m.1, bStored f lower below a (bRow (.or_ m.1 r.1) (bTurnBy lower r.1 r.2)))) := rfl
  rw [ex]
  simp only
  generalize hlow : (bNoughts (f.n - fs.length) s).1 ++ (bTaken (lastN f.n fs) (bNoughts (f.n - fs.length) s).2).1 = lower at *
  generalize hs1 : (bTaken (lastN f.n fs) (bNoughts (f.n - fs.length) s).2).2 = s1 at *
  clear hlow hs1 ex
  have bt : Below s (fs.take (fs.length - f.n)) := fun c hc => bf c (List.mem_of_mem_take hc)
  obtain ⟨c1, r1, f1, v1⟩ := anyOf_ok (z := z) (bt.le c0.le)
  rw [c0.vals0 bt] at v1
  generalize hm : bAnyOf (fs.take (fs.length - f.n)) s1 = m at *
  obtain ⟨mr, s2⟩ := m
  simp only at c1 r1 f1 v1 ⊢
  have c02 := c0.tr0 c1
  obtain ⟨c2, r2, f2, v2⟩ := anyOf_ok (z := z) (bf.le c02.le)
  rw [c02.vals0 bf] at v2
  generalize ha2 : bAnyOf fs s2 = m at *
  obtain ⟨ar, s3⟩ := m
  simp only at c2 r2 f2 v2 ⊢
  have c03 := c02.tr0 c2
  have hb3 : below < s3.free := Nat.lt_of_lt_of_le hb c03.le
  obtain ⟨c3, r3, f3, v3⟩ := both_ok (z := z) (one := ar) (other := below) (s := s3) (by omega) hb3
  generalize hr4 : bBoth ar below s3 = m at *
  obtain ⟨rr, s4⟩ := m
  simp only at c3 r3 f3 v3 ⊢
  rw [r2, v2, c03.C0 hb, and01 (anyN_le _) b1] at v3
  have c04 := c03.tr0 c3
  have c14 := (c1.tr0 c2).tr0 c3
  have c24 := c2.tr0 c3
  have ll : lower.length = f.n := by
    have := congrArg List.length v0
    rw [vals_length, lowD_length] at this
    exact this
  have bl4 : Below s4 lower := n0.hi.le c14.le
  have lo32 : ∀ c ∈ lower, 32 ≤ c := fun c hc => Nat.le_trans h32 (n0.lo c hc)
  have vl4 : vals z s4 lower = lowD f.n (vals z s fs) := by rw [c14.vals0 n0.hi, v0]
  have dl4 : Dg (vals z s4 lower) := by rw [vl4]; exact lowD_dg hd
  have nl4 : num (vals z s4 lower) = num (vals z s fs) % 10 ^ f.n := by rw [vl4, lowD_num hd]
  have mnum : num (vals z s (fs.take (fs.length - f.n))) = num (vals z s fs) / 10 ^ f.n := by
    have := hiD_num (n := f.n) hd
    rw [vals_length] at this
    rw [← this]
    unfold vals
    rw [List.map_take]
  have vm4 : C z s4 mr = if num (vals z s fs) / 10 ^ f.n = 0 then 0 else 1 := by
    rw [r1, c24.C0 (by omega), v1, anyN_eq, mnum]
  have vb4 : C z s4 below = C z s below := c04.C0 hb
  have vr4 : C z s4 rr = (if num (vals z s fs) = 0 then 0 else 1) * C z s below := by rw [r3, v3, anyN_eq]
  have hb4 : below < s4.free := Nat.lt_of_lt_of_le hb c04.le
  have f0 := c0.le
  have rr4 : rr < s4.free := by omega
  have mr4 : mr < s4.free := by omega
  have nrl : rr ∉ lower := fun q => by have := n0.hi _ q; omega
  have nml : mr ∉ lower := fun q => by have := n0.hi _ q; omega
  have nbl : below ∉ lower := fun q => by have := n0.lo _ q; omega
  clear v1 v2 v3 c1 c2 c3 hm ha2 hr4 v0 mnum
  generalize hV : num (vals z s fs) = V at *
  generalize hB : C z s below = B at *
  have hP : 0 < 10 ^ f.n := Nat.pow_pos (by decide)
  have hdm := Nat.div_add_mod V (10 ^ f.n)
  have hml := Nat.mod_lt V hP
  have small : V / 10 ^ f.n = 0 ↔ V < 10 ^ f.n := by rw [Nat.div_eq_zero_iff]; omega
  cases hsg : f.sg with
  | end_ =>
    simp only
    obtain ⟨c5, r5, f5, v5⟩ := anyOf_ok (z := z) bl4
    generalize hA : bAnyOf lower s4 = m at *
    obtain ⟨a5, s5⟩ := m
    simp only at c5 r5 f5 v5 ⊢
    obtain ⟨c6, r6, f6, v6⟩ := both_ok (z := z) (one := a5) (other := below) (s := s5) (by omega) (by omega)
    generalize hD : bBoth a5 below s5 = m at *
    obtain ⟨a6, s6⟩ := m
    simp only at c6 r6 f6 v6 ⊢
    rw [r5, v5, c5.C0 hb4, vb4, and01 (anyN_le _) b1, anyN_eq, nl4] at v6
    have c46 := c5.tr0 c6
    have le1 : (if V % 10 ^ f.n = 0 then 0 else 1) * B ≤ 1 := by split <;> omega
    refine stored_done (z := z) ll (bl4.le c46.le) lo32 (by omega) (by rw [c46.vals0 bl4]; exact dl4) (by rw [r6, v6]; exact le1) ha (by omega) (by omega) (by omega) ?_ (by omega) ?_ ?_
    · rw [c46.C0 mr4, vm4]
      unfold fitsZ leastZ mostZ
      simp only [hsg, powZ]
      by_cases w : V / 10 ^ f.n = 0
      · rw [if_pos w, if_pos]
        have := small.mp w
        simp only [decide_eq_true_eq]
        rw [hN]
        split <;> omega
      · rw [if_neg w, if_neg]
        have : ¬ V < 10 ^ f.n := fun q => w (small.mpr q)
        simp only [decide_eq_true_eq]
        rw [hN]
        split <;> omega
    · rw [c46.vals0 bl4, nl4]
      unfold keptNum foldedZ
      simp only [hsg, powZ]
      have e : (if N < 0 then -(-N % ((10 ^ f.n : Nat) : Int)) else N % ((10 ^ f.n : Nat) : Int)).natAbs = V % 10 ^ f.n := by
        by_cases w : N < 0
        · rw [if_pos w]
          have : -N = (V : Int) := by rw [hN] at w ⊢; split at w <;> split <;> omega
          rw [this, ← Int.natCast_emod]; omega
        · rw [if_neg w]
          have : N = (V : Int) := by rw [hN] at w ⊢; split at w <;> split <;> omega
          rw [this, ← Int.natCast_emod]; omega
      rw [e, Nat.mod_mod]
    · intro _
      rw [r6, v6]
      unfold signOf foldedZ
      simp only [hsg, powZ]
      by_cases w : N < 0
      · have e1 : -N = (V : Int) := by rw [hN] at w ⊢; split at w <;> split <;> omega
        have e2 : B = 1 := by rw [hN] at w; split at w <;> omega
        rw [if_pos w, e1, ← Int.natCast_emod, e2]
        by_cases u : V % 10 ^ f.n = 0
        · rw [if_pos u, if_neg (by omega)]
        · rw [if_neg u, if_pos (by omega)]
      · rw [if_neg w]
        have e1 : N = (V : Int) := by rw [hN] at w ⊢; split at w <;> split <;> omega
        rw [e1, ← Int.natCast_emod, if_neg (show ¬ (((V % 10 ^ f.n : Nat) : Int) < 0) by omega)]
        by_cases u : V % 10 ^ f.n = 0
        · rw [if_pos u]; omega
        · rw [if_neg u]
          have e3 : V ≠ 0 := fun q => u (by rw [q]; exact Nat.zero_mod _)
          have : B = 0 := by rw [hN] at e1; split at e1 <;> omega
          rw [this]
  | none =>
    simp only
    obtain ⟨t1, t2, t3, t4⟩ := turnBy_ok (z := z) (fs := lower) (flag := rr) (s := s4) bl4 rr4 n0.nd dl4 (by rw [vr4]; split <;> omega)
    rw [vr4, nl4, ll] at t4
    generalize hT : bTurnBy lower rr s4 = s5 at *
    have c6 := chg_row_or (z := z) mr rr s5
    have vm5 : C z s5 mr = if V / 10 ^ f.n = 0 then 0 else 1 := by rw [t2.same _ mr4 nml, vm4]
    have vr5 : C z s5 rr = (if V = 0 then 0 else 1) * B := by rw [t2.same _ rr4 nrl, vr4]
    have vb5 : C z s5 below = B := by rw [t2.same _ hb4 nbl, vb4]
    have vl6 : vals z (bRow (.or_ mr rr) s5) lower = vals z s5 lower := c6.valsE (bl4.le t2.le) (fun c hc q => nml (by rw [← List.mem_singleton.mp q]; exact hc))
    have nbm : below ≠ mr := by omega
    refine stored_done (z := z) ll (bl4.le (by rw [free_row]; omega)) lo32 (by rw [free_row]; omega) (by rw [vl6]; exact t3) (by rw [C_or, if_neg nbm, vb5]; exact b1) ha (by rw [free_row]; omega) (by omega) (by rw [free_row]; omega) ?_ (by rw [free_row]; omega) ?_ (fun q => by rw [hsg] at q; cases q)
    · rw [C_or, if_pos rfl, vm5, vr5, or01 (by split <;> omega) (by split <;> omega)]
      unfold fitsZ leastZ mostZ
      simp only [hsg, powZ]
      have fit1 : (decide (0 ≤ N ∧ N ≤ ((10 ^ f.n : Nat) : Int) - 1) = true) ↔ (0 ≤ N ∧ N ≤ ((10 ^ f.n : Nat) : Int) - 1) := decide_eq_true_iff
      by_cases w : V / 10 ^ f.n = 0
      · have hlt := small.mp w
        rw [if_pos w]
        by_cases u : V = 0
        · rw [if_pos u, if_pos (fit1.mpr (by rw [hN]; split <;> omega))]
          simp
        · rw [if_neg u]
          by_cases v : B = 1
          · have nf : ¬ (decide (0 ≤ N ∧ N ≤ ((10 ^ f.n : Nat) : Int) - 1) = true) := fun q => by
              have := fit1.mp q
              rw [hN, if_pos v] at this; omega
            rw [v, if_neg nf]
          · rw [show B = 0 by omega, if_pos (fit1.mpr (by rw [hN, if_neg v]; omega))]
      · have hlt : ¬ V < 10 ^ f.n := fun q => w (small.mpr q)
        have nf : ¬ (decide (0 ≤ N ∧ N ≤ ((10 ^ f.n : Nat) : Int) - 1) = true) := fun q => by
          have := fit1.mp q
          rw [hN] at this
          split at this <;> omega
        rw [if_neg w, if_neg nf]
        have := ite01 (V = 0)
        generalize (if V = 0 then 0 else 1) * B = R
        omega
    · rw [vl6, t4]
      unfold keptNum foldedZ
      simp only [hsg, powZ]
      by_cases u : V = 0
      · have e1 : N = 0 := by rw [hN]; split <;> omega
        rw [if_pos (by rw [if_pos u, Nat.zero_mul]), e1, u]
        simp
      · rw [if_neg u, Nat.one_mul]
        by_cases v : B = 1
        · rw [if_neg (by omega), hN, if_pos v, neg_emod V _ hP, Int.natAbs_natCast, Nat.mod_mod]
        · rw [if_pos (by omega), hN, if_neg v, ← Int.natCast_emod, Int.natAbs_natCast, Nat.mod_mod]
  | tens =>
    simp only
    obtain ⟨t1, t2, t3, t4⟩ := turnBy_ok (z := z) (fs := lower) (flag := rr) (s := s4) bl4 rr4 n0.nd dl4 (by rw [vr4]; split <;> omega)
    rw [vr4, nl4, ll] at t4
    generalize hT : bTurnBy lower rr s4 = s5 at *
    have hmem : lower.getD 0 0 ∈ lower := getD_mem (by omega)
    have v5 := first_five t3 (by rw [vals_length, ll]) hn
    rw [← vals_getD (z := z) (s := s5) (xs := lower) (i := 0) (by omega)] at v5
    have vm5 : C z s5 mr = if V / 10 ^ f.n = 0 then 0 else 1 := by rw [t2.same _ mr4 nml, vm4]
    have vr5 : C z s5 rr = (if V = 0 then 0 else 1) * B := by rw [t2.same _ rr4 nrl, vr4]
    have vb5 : C z s5 below = B := by rw [t2.same _ hb4 nbl, vb4]
    have c6 := chg_looked (z := z) (lower.getD 0 0) .five s5
    have w6 : C z (bLooked (lower.getD 0 0) .five s5).2 s5.free = if 5 * 10 ^ (f.n - 1) ≤ num (vals z s5 lower) then 1 else 0 := by
      rw [C_bLooked, if_pos rfl]
      show (if 4 < C z s5 (lower.getD 0 0) then 1 else 0) = _
      by_cases q : 4 < C z s5 (lower.getD 0 0)
      · rw [if_pos q, if_pos (v5.mp q)]
      · rw [if_neg q, if_neg (fun w => q (v5.mpr w))]
    have r6 : C z (bLooked (lower.getD 0 0) .five s5).2 rr = (if V = 0 then 0 else 1) * B := by rw [c6.C0 (by omega), vr5]
    have f6 : (bLooked (lower.getD 0 0) .five s5).2.free = s5.free + 1 := rfl
    rw [show (bLooked (lower.getD 0 0) .five s5).1 = s5.free from rfl]
    generalize hS : (bLooked (lower.getD 0 0) .five s5).2 = s6 at *
    have nfr : ¬ rr = s5.free := by omega
    have nfm : ¬ mr = s5.free := by omega
    have nfb : ¬ below = s5.free := by omega
    have nfbm : ¬ below = mr := by omega
    have c7 : Chg z [s5.free] s6 (bLook s5.free .one2 (bRow (.add s5.free rr) (bRow (.add s5.free rr) s6))) :=
      ((chg_row_add s5.free rr s6).trans (chg_row_add s5.free rr _) (c := [s5.free]) (fun _ q _ => q) (fun _ q _ => q)).trans (chg_look s5.free .one2 _) (fun _ q _ => q) (fun _ q _ => q)
    have hx : C z (bLook s5.free .one2 (bRow (.add s5.free rr) (bRow (.add s5.free rr) s6))) s5.free =
        if (5 * 10 ^ (f.n - 1) ≤ num (vals z s5 lower)) ↔ ((if V = 0 then 0 else 1) * B = 1) then 0 else 1 := by
      rw [C_look, if_pos rfl, C_add, C_add, C_add, if_pos rfl, if_pos rfl, if_neg nfr, w6, r6]
      have l1 : (if V = 0 then 0 else 1) * B ≤ 1 := by split <;> omega
      generalize (if V = 0 then 0 else 1) * B = R at l1
      have hR : R = 0 ∨ R = 1 := by omega
      by_cases q : 5 * 10 ^ (f.n - 1) ≤ num (vals z s5 lower)
      · rcases hR with h | h <;> subst h <;> simp [q, Wo.ap]
      · rcases hR with h | h <;> subst h <;> simp [q, Wo.ap]
    have f7 : (bLook s5.free .one2 (bRow (.add s5.free rr) (bRow (.add s5.free rr) s6))).free = s5.free + 1 := f6
    have m7 : C z (bLook s5.free .one2 (bRow (.add s5.free rr) (bRow (.add s5.free rr) s6))) mr = if V / 10 ^ f.n = 0 then 0 else 1 := by
      rw [c7.same mr (by omega) (by simpa using nfm), c6.C0 (by omega), vm5]
    have b7 : C z (bLook s5.free .one2 (bRow (.add s5.free rr) (bRow (.add s5.free rr) s6))) below = B := by
      rw [c7.same below (by omega) (by simpa using nfb), c6.C0 (by omega), vb5]
    have bl5 : Below s5 lower := bl4.le t2.le
    have vl7 : vals z (bLook s5.free .one2 (bRow (.add s5.free rr) (bRow (.add s5.free rr) s6))) lower = vals z s5 lower := by
      rw [c7.valsE (bl5.le c6.le) (fun c hc q => by have := bl5 c hc; have := List.mem_singleton.mp q; omega), c6.vals0 bl5]
    generalize hS7 : bLook s5.free .one2 (bRow (.add s5.free rr) (bRow (.add s5.free rr) s6)) = s7 at *
    have vl8 : vals z (bRow (.or_ mr s5.free) s7) lower = vals z s5 lower := by
      rw [(chg_row_or mr s5.free s7).valsE (bl5.le (by omega)) (fun c hc q => nml (by rw [← List.mem_singleton.mp q]; exact hc)), vl7]
    have key : num (vals z s5 lower) = (N % ((10 ^ f.n : Nat) : Int)).toNat := by
      rw [t4]
      by_cases u : V = 0
      · have e1 : N = 0 := by rw [hN]; split <;> omega
        rw [if_pos (by rw [if_pos u, Nat.zero_mul]), e1, u]
        simp
      · rw [if_neg u, Nat.one_mul]
        by_cases v : B = 1
        · rw [if_neg (by omega), hN, if_pos v, neg_emod V _ hP, Int.toNat_natCast]
        · rw [if_pos (by omega), hN, if_neg v, ← Int.natCast_emod, Int.toNat_natCast]
    refine stored_done (z := z) ll (bl5.le (by rw [free_row]; omega)) lo32 (by rw [free_row]; omega) (by rw [vl8]; exact t3) (by rw [C_or, if_neg nfbm, b7]; exact b1) ha (by rw [free_row]; omega) (by omega) (by rw [free_row]; omega) ?_ (by rw [free_row]; omega) ?_ (fun q => by rw [hsg] at q; cases q)
    · rw [C_or, if_pos rfl, m7, hx, or01 (ite01 _) (ite01 _)]
      have hQ : 10 ^ f.n = 10 * 10 ^ (f.n - 1) := by
        conv => lhs; rw [show f.n = (f.n - 1) + 1 by omega, Nat.pow_succ]
        omega
      unfold fitsZ leastZ mostZ
      simp only [hsg, powZ]
      rw [t4]
      generalize hq1 : 10 ^ (f.n - 1) = Q at *
      have fit1 : (decide (-5 * ((Q : Nat) : Int) ≤ N ∧ N ≤ 5 * ((Q : Nat) : Int) - 1) = true) ↔ (-5 * ((Q : Nat) : Int) ≤ N ∧ N ≤ 5 * ((Q : Nat) : Int) - 1) := decide_eq_true_iff
      generalize hF : decide (-5 * ((Q : Nat) : Int) ≤ N ∧ N ≤ 5 * ((Q : Nat) : Int) - 1) = F at *
      by_cases w : V / 10 ^ f.n = 0
      · have hlt := small.mp w
        rw [Nat.mod_eq_of_lt hlt, if_pos w, Nat.zero_mul, Nat.zero_add, Nat.sub_zero]
        by_cases u : V = 0
        · rw [if_pos u, Nat.zero_mul, if_pos (show (0 : Nat) = 0 from rfl)]
          have y1 : (5 * Q ≤ V ↔ (0 : Nat) = 1) := by constructor <;> intro q <;> omega
          have y2 : F = true := fit1.mpr (by rw [hN]; split <;> omega)
          rw [if_pos y1, if_pos y2]
        · rw [if_neg u, Nat.one_mul]
          by_cases v : B = 1
          · rw [if_neg (show ¬ B = 0 by omega), Nat.mod_eq_of_lt (show 10 ^ f.n - V < 10 ^ f.n by omega)]
            rw [hN, if_pos v] at fit1
            by_cases y : V ≤ 5 * Q
            · have y1 : (5 * Q ≤ 10 ^ f.n - V ↔ B = 1) := by constructor <;> intro q <;> omega
              have y2 : F = true := fit1.mpr (by omega)
              rw [if_pos y1, if_pos y2]
            · have y1 : ¬ (5 * Q ≤ 10 ^ f.n - V ↔ B = 1) := by intro q; have := q.mpr v; omega
              have y2 : ¬ (F = true) := fun q => by have := fit1.mp q; omega
              rw [if_neg y1, if_neg y2]
          · rw [if_pos (show B = 0 by omega)]
            rw [hN, if_neg v] at fit1
            by_cases y : V ≤ 5 * Q - 1
            · have y1 : (5 * Q ≤ V ↔ B = 1) := by constructor <;> intro q <;> omega
              have y2 : F = true := fit1.mpr (by omega)
              rw [if_pos y1, if_pos y2]
            · have y1 : ¬ (5 * Q ≤ V ↔ B = 1) := by intro q; have := q.mp (by omega); omega
              have y2 : ¬ (F = true) := fun q => by have := fit1.mp q; omega
              rw [if_neg y1, if_neg y2]
      · have hlt : ¬ V < 10 ^ f.n := fun q => w (small.mpr q)
        have y2 : ¬ (F = true) := fun q => by
          have := fit1.mp q
          rw [hN] at this
          split at this <;> omega
        rw [if_neg w, if_neg y2]
        omega
    · rw [vl8, key]
      unfold keptNum foldedZ
      simp only [hsg, powZ]
      rw [Int.emod_add_emod, Int.sub_add_cancel]
      have h1 : 0 ≤ N % ((10 ^ f.n : Nat) : Int) := Int.emod_nonneg _ (by omega)
      have h2 : N % ((10 ^ f.n : Nat) : Int) < ((10 ^ f.n : Nat) : Int) := Int.emod_lt_of_pos _ (by omega)
      rw [Nat.mod_eq_of_lt (by omega)]
end TL
namespace TL
variable {z : S}
/-- figures of a size and a sign, in cells: they stand for N -/
structure Num (z : S) (s : BS) (fs : List Nat) (below : Nat) (N : Int) : Prop where
  b : Below s fs
  nd : fs.Nodup
  lo : ∀ c ∈ fs, 32 ≤ c
  dg : Dg (vals z s fs)
  bb : below < s.free
  b32 : 32 ≤ below
  b1 : C z s below ≤ 1
  val : N = if C z s below = 1 then -(num (vals z s fs) : Int) else num (vals z s fs)
theorem Num.chg {s s' : BS} {fs : List Nat} {below : Nat} {N : Int} (h : Num z s fs below N) {ms : List Nat} (c : Chg z ms s s') (d : ∀ i ∈ ms, i < s.free → i ∉ fs ∧ i ≠ below) : Num z s' fs below N := by
  have e1 : vals z s' fs = vals z s fs := List.map_congr_left fun i q => c.same i (h.b i q) (fun w => (d i w (h.b i q)).1 q)
  have e2 : C z s' below = C z s below := c.same _ h.bb (fun w => (d _ w h.bb).2 rfl)
  exact ⟨h.b.le c.le, h.nd, h.lo, by rw [e1]; exact h.dg, Nat.lt_of_lt_of_le h.bb c.le, h.b32, by rw [e2]; exact h.b1, by rw [e1, e2]; exact h.val⟩
theorem Num.chg0 {s s' : BS} {fs : List Nat} {below : Nat} {N : Int} (h : Num z s fs below N) (c : Chg z [] s s') : Num z s' fs below N := h.chg c (fun _ q => nomatch q)
theorem Loaded.num {f : Form} {N : Int} {s s' : BS} {p : List Nat × Nat} (h : Loaded z f N s s' p) (h32 : 32 ≤ s.free) : Num z s' p.1 p.2 N :=
  ⟨h.new.hi, h.new.nd, fun c hc => Nat.le_trans h32 (h.new.lo c hc), h.dg, h.hi, Nat.le_trans h32 h.lo, h.b1, h.val⟩
/-- a copy with a nought ahead -/
theorem ahead0_ok {fs : List Nat} {s : BS} (b : Below s fs) : Chg z [] s (bTaken fs (bNoughts 1 s).2).2 ∧ New s (bTaken fs (bNoughts 1 s).2).2 ((bNoughts 1 s).1 ++ (bTaken fs (bNoughts 1 s).2).1) ∧
    vals z (bTaken fs (bNoughts 1 s).2).2 ((bNoughts 1 s).1 ++ (bTaken fs (bNoughts 1 s).2).1) = 0 :: vals z s fs ∧ ((bNoughts 1 s).1 ++ (bTaken fs (bNoughts 1 s).2).1).length = fs.length + 1 := by
  obtain ⟨c0, n0, l0, v0⟩ := noughts_ok (z := z) 1 s
  obtain ⟨c1, n1, l1, v1⟩ := taken_ok (z := z) (b.le c0.le)
  refine ⟨c0.tr0 c1, ⟨?_, ?_, ?_⟩, ?_, by rw [List.length_append, l0, l1]; omega⟩
  · intro c hc
    rcases List.mem_append.mp hc with hc | hc
    · exact n0.lo c hc
    · have := n1.lo c hc; have := c0.le; omega
  · intro c hc
    rcases List.mem_append.mp hc with hc | hc
    · exact Nat.lt_of_lt_of_le (n0.hi c hc) c1.le
    · exact n1.hi c hc
  · rw [List.nodup_append]
    exact ⟨n0.nd, n1.nd, fun a ha b hb => by have := n0.hi a ha; have := n1.lo b hb; omega⟩
  · rw [vals_append, c1.vals0 n0.hi, v0, v1, c0.vals0 b]
    rfl
theorem together_ok {one other : List Nat} {below beyond n : Nat} {s : BS} {A B : Int} (h1 : Num z s one below A) (h2 : Num z s other beyond B) (l1 : one.length = n) (l2 : other.length = n) (h32 : 32 ≤ s.free) :
    Num z (bTogether one below other beyond s).2 (bTogether one below other beyond s).1.1 (bTogether one below other beyond s).1.2 (A + B) ∧ s.free ≤ (bTogether one below other beyond s).2.free ∧ (bTogether one below other beyond s).1.1.length = n + 1 := by
  have lt1 := num_lt h1.dg
  have lt2 := num_lt h2.dg
  rw [vals_length, l1] at lt1
  rw [vals_length, l2] at lt2
  obtain ⟨c0, n0, v0, e0⟩ := ahead0_ok (z := z) h1.b
  generalize hf : (bNoughts 1 s).1 ++ (bTaken one (bNoughts 1 s).2).1 = first at *
  generalize hs1 : (bTaken one (bNoughts 1 s).2).2 = s1 at *
  have h2' := h2.chg0 c0
  have h1' := h1.chg0 c0
  obtain ⟨c1, n1, v1, e1⟩ := ahead0_ok (z := z) h2'.b
  rw [c0.vals0 h2.b] at v1
  have ex : bTogether one below other beyond s = (let c := bNoughts 1 s1
    let d := bTaken other c.2
    let second := c.1 ++ d.1
    let s1 := bTurnBy first below d.2
    let s2 := bTurnBy second beyond s1
    let z := bPut 0 s2
    let s3 := bAddTo first second z.1 z.2
    let u := bLooked (first.getD 0 0) .five s3
    ((first, u.1), bTurnBy first u.1 u.2)) := by rw [← hf, ← hs1]; rfl
  rw [ex]
  simp only
  generalize hsec : (bNoughts 1 s1).1 ++ (bTaken other (bNoughts 1 s1).2).1 = second at *
  generalize hs2 : (bTaken other (bNoughts 1 s1).2).2 = s2 at *
  clear ex hf hs1 hsec hs2
  have f0 := c0.le
  have f1 := c1.le
  have bF : Below s2 first := n0.hi.le c1.le
  have vF : vals z s2 first = 0 :: vals z s one := by rw [c1.vals0 n0.hi, v0]
  have dF : Dg (vals z s2 first) := by
    rw [vF]; intro d hd
    rcases List.mem_cons.mp hd with rfl | hd
    · omega
    · exact h1.dg d hd
  have nF : num (vals z s2 first) = num (vals z s one) := by rw [vF, num_cons]; omega
  have h1s := h1'.chg0 c1
  have h2s := h2'.chg0 c1
  have vb1 : C z s2 below = C z s below := by rw [c1.C0 h1'.bb, c0.C0 h1.bb]
  have vb2 : C z s2 beyond = C z s beyond := by rw [c1.C0 h2'.bb, c0.C0 h2.bb]
  obtain ⟨t1, t2, t3, t4⟩ := turnBy_ok (z := z) (fs := first) (flag := below) (s := s2) bF h1s.bb n0.nd dF h1s.b1
  rw [nF, vb1, e0, l1] at t4
  generalize hs3 : bTurnBy first below s2 = s3 at *
  have bS : Below s3 second := n1.hi.le t2.le
  have disj : ∀ c ∈ second, c ∉ first := fun c hc q => by have := n1.lo c hc; have := n0.hi c q; omega
  have vS : vals z s3 second = 0 :: vals z s other := by rw [t2.valsE n1.hi disj, v1]
  have dS : Dg (vals z s3 second) := by
    rw [vS]; intro d hd
    rcases List.mem_cons.mp hd with rfl | hd
    · omega
    · exact h2.dg d hd
  have nS : num (vals z s3 second) = num (vals z s other) := by rw [vS, num_cons]; omega
  have nbf : beyond ∉ first := fun q => by have := n0.lo _ q; have := h2.bb; omega
  have nbs : beyond ∉ second := fun q => by have := n1.lo _ q; have := h2.bb; omega
  have vb3 : C z s3 beyond = C z s beyond := by rw [t2.same _ h2s.bb nbf, vb2]
  have bb3 : beyond < s3.free := Nat.lt_of_lt_of_le h2s.bb t2.le
  obtain ⟨u1, u2, u3, u4⟩ := turnBy_ok (z := z) (fs := second) (flag := beyond) (s := s3) bS bb3 n1.nd dS (by rw [vb3]; exact h2.b1)
  rw [nS, vb3, e1, l2] at u4
  generalize hs4 : bTurnBy second beyond s3 = s4 at *
  have bF3 : Below s3 first := bF.le t2.le
  have disj' : ∀ c ∈ first, c ∉ second := fun c hc q => disj c q hc
  have vF4 : vals z s4 first = vals z s3 first := u2.valsE bF3 disj'
  have c5 := chg_put (z := z) 0 s4
  have bF4 : Below s4 first := bF3.le u2.le
  have bS4 : Below s4 second := bS.le u2.le
  have k5 : C z (bPut 0 s4).2 s4.free = 0 := by rw [C_bPut, if_pos rfl]
  obtain ⟨a1, a2, a3, a4, a5⟩ := addTo_ok (z := z) (fs := first) (os := second) (carry := s4.free) (s := (bPut 0 s4).2) (by omega) (bF4.le c5.le) (bS4.le c5.le) (by rw [put_free]; omega) n0.nd
    (fun q => absurd (bF4 _ q) (Nat.lt_irrefl _)) (fun q => absurd (bS4 _ q) (Nat.lt_irrefl _)) disj (by rw [c5.vals0 bF4, vF4]; exact t3) (by rw [c5.vals0 bS4]; exact u3) (by rw [k5]; omega)
  rw [c5.vals0 bF4, c5.vals0 bS4, vF4, t4, u4, k5, e0, l1] at a5
  rw [show (bPut 0 s4).1 = s4.free from rfl]
  have f5 : (bPut 0 s4).2.free = s4.free + 1 := rfl
  generalize hs6 : bAddTo first second s4.free (bPut 0 s4).2 = s6 at *
  have bF6 : Below s6 first := (bF4.le c5.le).le a2.le
  have lt6 := num_lt a3
  rw [vals_length, e0, l1] at lt6
  have v6 := first_five a3 (by rw [vals_length, e0, l1]) (Nat.succ_pos n)
  rw [← vals_getD (z := z) (s := s6) (xs := first) (i := 0) (by omega)] at v6
  have c7 := chg_looked (z := z) (first.getD 0 0) .five s6
  have w7 : C z (bLooked (first.getD 0 0) .five s6).2 s6.free = if 5 * 10 ^ (n + 1 - 1) ≤ num (vals z s6 first) then 1 else 0 := by
    rw [C_bLooked, if_pos rfl]
    show (if 4 < C z s6 (first.getD 0 0) then 1 else 0) = _
    by_cases q : 4 < C z s6 (first.getD 0 0)
    · rw [if_pos q, if_pos (v6.mp q)]
    · rw [if_neg q, if_neg (fun w => q (v6.mpr w))]
  rw [show (bLooked (first.getD 0 0) .five s6).1 = s6.free from rfl]
  have f7 : (bLooked (first.getD 0 0) .five s6).2.free = s6.free + 1 := rfl
  have vF7 : vals z (bLooked (first.getD 0 0) .five s6).2 first = vals z s6 first := c7.vals0 bF6
  generalize hs7 : (bLooked (first.getD 0 0) .five s6).2 = s7 at *
  obtain ⟨x1, x2, x3, x4⟩ := turnBy_ok (z := z) (fs := first) (flag := s6.free) (s := s7) (bF6.le c7.le) (by omega) n0.nd (by rw [vF7]; exact a3) (by rw [w7]; exact Nat.le_trans (by split <;> omega) (Nat.le_refl 1))
  rw [vF7, w7, e0, l1] at x4
  have nuf : s6.free ∉ first := fun q => absurd (bF6 _ q) (Nat.lt_irrefl _)
  have w8 : C z (bTurnBy first s6.free s7) s6.free = if 5 * 10 ^ (n + 1 - 1) ≤ num (vals z s6 first) then 1 else 0 := by rw [x2.same _ (by omega) nuf, w7]
  have g2 := t2.le
  have g3 := u2.le
  have g4 := a2.le
  have g5 := x2.le
  refine ⟨⟨(bF6.le c7.le).le x2.le, n0.nd, fun c hc => Nat.le_trans h32 (n0.lo c hc), x3, by omega, by omega, by rw [w8]; exact Nat.le_trans (by split <;> omega) (Nat.le_refl 1), ?_⟩, by omega, by rw [e0, l1]⟩
  rw [w8, x4]
  have vA := h1.val
  have vB := h2.val
  generalize hX : num (vals z s one) = X at *
  generalize hY : num (vals z s other) = Y at *
  generalize hT : num (vals z s6 first) = T at *
  generalize hk : C z s6 s4.free = k at *
  have hP : 10 ^ (n + 1) = 10 * 10 ^ n := by rw [Nat.pow_succ]; omega
  rw [Nat.add_sub_cancel]
  rw [hP] at a5 x4 lt6 t4 u4 ⊢
  generalize hQ : 10 ^ n = Q at *
  have b1 := h1.b1
  have b2 := h2.b1
  generalize hb : C z s below = b at *
  generalize hc : C z s beyond = c at *
  have em : ∀ Z : Nat, Z < Q → (10 * Q - Z) % (10 * Q) = if Z = 0 then 0 else 10 * Q - Z := fun Z hZ => by
    by_cases w : Z = 0
    · rw [w, if_pos rfl, Nat.sub_zero, Nat.mod_self]
    · rw [if_neg w, Nat.mod_eq_of_lt (by omega)]
  rw [em X lt1, em Y lt2] at a5
  have hkk : 10 * Q * k = 0 ∧ k = 0 ∨ 10 * Q * k = 10 * Q ∧ k = 1 := by
    have : k = 0 ∨ k = 1 := by omega
    rcases this with rfl | rfl
    · left; simp
    · right; simp
  by_cases hT5 : 5 * Q ≤ T
  · rw [if_pos hT5, if_pos rfl, if_neg (by decide), Nat.mod_eq_of_lt (by omega)]
    rw [vA, vB]
    have hb' : b = 0 ∨ b = 1 := by omega
    have hc' : c = 0 ∨ c = 1 := by omega
    rcases hkk with ⟨hkk, _⟩ | ⟨hkk, _⟩ <;> rw [hkk] at a5 <;> rcases hb' with rfl | rfl <;> rcases hc' with rfl | rfl <;> simp at a5 ⊢ <;> (by_cases wX : X = 0 <;> by_cases wY : Y = 0 <;> (try simp [wX, wY] at a5 ⊢) <;> omega)
  · rw [if_neg hT5, if_neg (by decide), if_pos rfl]
    rw [vA, vB]
    have hb' : b = 0 ∨ b = 1 := by omega
    have hc' : c = 0 ∨ c = 1 := by omega
    rcases hkk with ⟨hkk, _⟩ | ⟨hkk, _⟩ <;> rw [hkk] at a5 <;> rcases hb' with rfl | rfl <;> rcases hc' with rfl | rfl <;> simp at a5 ⊢ <;> (by_cases wX : X = 0 <;> by_cases wY : Y = 0 <;> (try simp [wX, wY] at a5 ⊢) <;> omega)
end TL
namespace TL
variable {z : S}
/-! ### whole programs -/
theorem ended_ok {c : Nat} {s : BS} {a : Nat} {row : List Nat} (hc : c < s.free) (ha : a + row.length ≤ s.free) (h : HoldsRow z s a row) (b : C z s c ≤ 1) :
    HoldsRow z (bEnded c s) a row ∧ (at_ z (bEnded c s)).m = C z s c := by
  have c0 := chg_copied (z := z) c s
  have e : at_ z (bEnded c s) = step (.right s.free) (at_ z (bCopied c s).2) := at_row _ _
  have v : C z (bCopied c s).2 s.free = C z s c := by rw [C_bCopied, if_pos rfl]
  constructor
  · intro j hj
    have : C z (bEnded c s) (a + j) = C z (bCopied c s).2 (a + j) := by
      unfold C
      rw [e]
      exact cset_ne (by omega)
    rw [this, c0.C0 (by omega)]
    exact h j hj
  · rw [e]
    show ((at_ z (bCopied c s).2).c s.free + 256 * (at_ z (bCopied c s).2).m) % 2 = _
    have v' : (at_ z (bCopied c s).2).c s.free = C z s c := v
    rw [v']
    omega
/-- what a program leaves: this row of bytes in front, this mark -/
structure Leaves (z : S) (s : BS) (row : List Nat) (m : Nat) : Prop where
  row : ∀ j, j < row.length → (exec s.rows z).c j = row.getD j 0
  mark : (exec s.rows z).m = m
theorem keptRow_length (f : Form) (M : Int) : (keptRow f M).length = f.width := rowOf_length _ _ _
theorem width_le (f : Form) (h : f.n ≤ 12) : f.width ≤ 12 := by
  unfold Form.width Form.halves Form.e
  split
  · split <;> omega
  · exact h
theorem done_leaves {f : Form} {N : Int} {s s' : BS} {r : Nat} (h : Done z f 0 N s s' r) (hw : f.width ≤ 32) (h32 : 32 ≤ s.free) : Leaves z (bEnded r s') (keptRow f (foldedZ f N)) (if fitsZ f N then 0 else 1) := by
  have b : C z s' r ≤ 1 := by rw [h.mark]; split <;> omega
  have := h.le
  obtain ⟨h1, h2⟩ := ended_ok (z := z) h.rlt (a := 0) (row := keptRow f (foldedZ f N)) (by rw [keptRow_length]; omega) h.holds b
  refine ⟨fun j hj => ?_, ?_⟩
  · have := h1 j hj
    rw [Nat.zero_add] at this
    exact this
  · have e : (exec (bEnded r s').rows z).m = C z s' r := h2
    rw [e, h.mark]
theorem finish_num {f : Form} {fs : List Nat} {below : Nat} {s : BS} {N : Int} (hn : 0 < f.n) (hn2 : f.n ≤ 12) (h : Num z s fs below N) (h32 : 32 ≤ s.free) :
    Leaves z (bEnded (bFinished f fs below 0 s).1 (bFinished f fs below 0 s).2) (keptRow f (foldedZ f N)) (if fitsZ f N then 0 else 1) :=
  done_leaves (finished_ok hn h.b h.bb h.b32 h.dg h.b1 (by have := width_le f hn2; omega) h32 h.val) (by have := width_le f hn2; omega) h32
/-- a good row of bytes stands in front from a on -/
structure Front (z : S) (a : Nat) (f : Form) (ds : List Nat) (sh : Nat) : Prop where
  len : ds.length = f.n
  dg : Dg ds
  sh15 : sh ≤ 15
  at_ : ∀ j, j < f.width → z.c (a + j) = byteOf f ds sh j
theorem Front.holds {a : Nat} {f : Form} {ds : List Nat} {sh : Nat} (h : Front z a f ds sh) : Holds z bStart a f ds sh := h.at_
theorem loadOne {f : Form} {ds : List Nat} {sh : Nat} (hn : 0 < f.n) (hn2 : f.n ≤ 12) (h : Front z 0 f ds sh) : Loaded z f (readZ f ds sh) bStart (bLoaded f 0 bStart).2 (bLoaded f 0 bStart).1 :=
  loaded_ok hn h.len h.dg h.sh15 (by show 0 + f.width ≤ 32; have := width_le f hn2; omega) h.holds
theorem rekept_ok {f g : Form} {ds : List Nat} {sh : Nat} (hn : 0 < f.n) (hn2 : f.n ≤ 12) (hg : 0 < g.n) (hg2 : g.n ≤ 12) (h : Front z 0 f ds sh) :
    Leaves z (bRekept f g) (keptRow g (foldedZ g (readZ f ds sh))) (if fitsZ g (readZ f ds sh) then 0 else 1) := by
  have L := loadOne hn hn2 h
  exact finish_num hg hg2 (L.num (Nat.le_refl 32)) (L.chg.le)
theorem loadTwo {f g : Form} {ds es : List Nat} {sh th : Nat} (hn : 0 < f.n) (hn2 : f.n ≤ 12) (hg : 0 < g.n) (hg2 : g.n ≤ 12) (h : Front z 0 f ds sh) (k : Front z f.width g es th) :
    Num z (bLoaded g f.width (bLoaded f 0 bStart).2).2 (bLoaded f 0 bStart).1.1 (bLoaded f 0 bStart).1.2 (readZ f ds sh) ∧
    Num z (bLoaded g f.width (bLoaded f 0 bStart).2).2 (bLoaded g f.width (bLoaded f 0 bStart).2).1.1 (bLoaded g f.width (bLoaded f 0 bStart).2).1.2 (readZ g es th) ∧
    (bLoaded f 0 bStart).1.1.length = f.n ∧ (bLoaded g f.width (bLoaded f 0 bStart).2).1.1.length = g.n ∧ 32 ≤ (bLoaded g f.width (bLoaded f 0 bStart).2).2.free ∧
    (∀ c ∈ (bLoaded f 0 bStart).1.1, c < (bLoaded f 0 bStart).2.free) ∧ (bLoaded f 0 bStart).1.2 < (bLoaded f 0 bStart).2.free ∧ (∀ c ∈ (bLoaded g f.width (bLoaded f 0 bStart).2).1.1, (bLoaded f 0 bStart).2.free ≤ c) ∧ (bLoaded f 0 bStart).2.free ≤ (bLoaded g f.width (bLoaded f 0 bStart).2).1.2 := by
  have L := loadOne hn hn2 h
  have w1 := width_le f hn2
  have w2 := width_le g hg2
  have f0 : bStart.free = 32 := rfl
  have l1 := L.chg.le
  have H2 : Holds z (bLoaded f 0 bStart).2 f.width g es th := k.holds.chg L.chg (by omega) (fun _ q => nomatch q)
  have L2 := loaded_ok (z := z) (a := f.width) hg k.len k.dg k.sh15 (by omega) H2
  have l2 := L2.chg.le
  exact ⟨(L.num (Nat.le_refl 32)).chg0 L2.chg, L2.num (by omega), L.len, L2.len, by omega, L.new.hi, L.hi, L2.new.lo, L2.lo⟩
theorem sum_ok {f : Form} {ds es : List Nat} {sh th : Nat} (hn : 0 < f.n) (hn2 : f.n ≤ 12) (h : Front z 0 f ds sh) (k : Front z f.width f es th) :
    Leaves z (bSum f) (keptRow f (foldedZ f (readZ f ds sh + readZ f es th))) (if fitsZ f (readZ f ds sh + readZ f es th) then 0 else 1) := by
  obtain ⟨n1, n2, l1, l2, h32, _⟩ := loadTwo hn hn2 hn hn2 h k
  obtain ⟨t, le, _⟩ := together_ok n1 n2 l1 l2 h32
  exact finish_num hn hn2 t (by omega)
theorem flip_ok {fs : List Nat} {below : Nat} {s : BS} {N : Int} (h : Num z s fs below N) (hb : below ∉ fs) : Num z (bLook below .oneOf s) fs below (-N) := by
  have c := chg_look (z := z) below .oneOf s
  have v := c.valsE h.b (fun i hi q => hb (by rw [← List.mem_singleton.mp q]; exact hi))
  have e : C z (bLook below .oneOf s) below = if C z s below = 0 then 1 else 0 := by rw [C_look, if_pos rfl]; rfl
  refine ⟨h.b, h.nd, h.lo, by rw [v]; exact h.dg, h.bb, h.b32, by rw [e]; split <;> omega, ?_⟩
  rw [v, e, h.val]
  have := h.b1
  by_cases w : C z s below = 0
  · rw [if_pos w, if_neg (by omega), if_pos rfl]
  · rw [if_neg w, if_pos (by omega), if_neg (by omega)]; omega
theorem differenceIn_ok {f : Form} {ds es : List Nat} {sh th : Nat} (hn : 0 < f.n) (hn2 : f.n ≤ 12) (h : Front z 0 f ds sh) (k : Front z f.width f es th) :
    Num z (bDifferenceIn f bStart).2 (bDifferenceIn f bStart).1.1 (bDifferenceIn f bStart).1.2 (readZ f ds sh - readZ f es th) ∧ 32 ≤ (bDifferenceIn f bStart).2.free := by
  obtain ⟨n1, n2, l1, l2, h32, x1, x2, x3, x4⟩ := loadTwo hn hn2 hn hn2 h k
  have hb2 : (bLoaded f f.width (bLoaded f 0 bStart).2).1.2 ∉ (bLoaded f f.width (bLoaded f 0 bStart).2).1.1 := by
    have L := loadOne hn hn2 h
    have w1 := width_le f hn2
    have f0 : bStart.free = 32 := rfl
    have l1 := L.chg.le
    have H2 : Holds z (bLoaded f 0 bStart).2 f.width f es th := k.holds.chg L.chg (by omega) (fun _ q => nomatch q)
    exact (loaded_ok (z := z) (a := f.width) hn k.len k.dg k.sh15 (by omega) H2).ns
  have n2' := flip_ok n2 hb2
  have n1' := n1.chg (chg_look (z := z) (bLoaded f f.width (bLoaded f 0 bStart).2).1.2 .oneOf _) (fun i hi _ => by
    have e := List.mem_singleton.mp hi
    subst e
    exact ⟨fun q => by have := x1 _ q; omega, by omega⟩)
  obtain ⟨t, le, _⟩ := together_ok n1' n2' l1 l2 (by rw [free_look]; exact h32)
  rw [Int.sub_eq_add_neg]
  exact ⟨t, Nat.le_trans h32 le⟩
end TL
namespace TL
variable {z : S}
theorem compare_ok {f : Form} {ds es : List Nat} {sh th : Nat} (hn : 0 < f.n) (hn2 : f.n ≤ 12) (h : Front z 0 f ds sh) (k : Front z f.width f es th) :
    Leaves z (bCompare f) [if readZ f ds sh < readZ f es th then 0 else if readZ f ds sh = readZ f es th then 1 else 2] 0 := by
  obtain ⟨t, le⟩ := differenceIn_ok hn hn2 h k
  have ex : bCompare f = (let t := bDifferenceIn f bStart
    let a := bAnyOf t.1.1 t.2
    let l := bBoth t.1.2 a.1 a.2
    let s1 := bRow (.copy 0 a.1) (bLook a.1 .ordB (bRow (.add a.1 l.1) (bRow (.add a.1 l.1) l.2)))
    bEnded (bPut 0 s1).1 (bPut 0 s1).2) := rfl
  rw [ex]
  simp only
  generalize bDifferenceIn f bStart = T at *
  obtain ⟨⟨fs, under⟩, s0⟩ := T
  simp only at t le ⊢
  obtain ⟨c1, r1, f1, v1⟩ := anyOf_ok (z := z) t.b
  generalize hA : bAnyOf fs s0 = A at *
  obtain ⟨a, s1⟩ := A
  simp only at c1 r1 f1 v1 ⊢
  have t1 := t.chg0 c1
  obtain ⟨c2, r2, f2, v2⟩ := both_ok (z := z) (one := under) (other := a) (s := s1) t1.bb (by omega)
  generalize hB : bBoth under a s1 = B at *
  obtain ⟨l, s2⟩ := B
  simp only at c2 r2 f2 v2 ⊢
  rw [r1, v1, c1.C0 t.bb, and01 t.b1 (anyN_le _), anyN_eq] at v2
  have va : C z s2 a = if num (vals z s0 fs) = 0 then 0 else 1 := by rw [c2.C0 (by omega), r1, v1, anyN_eq]
  have vl : C z s2 l = C z s0 under * if num (vals z s0 fs) = 0 then 0 else 1 := by rw [r2, v2]
  have al : a ≠ l := by omega
  have b1 := t.b1
  have val := t.val
  generalize hV : num (vals z s0 fs) = V at *
  generalize hU : C z s0 under = U at *
  have v3 : C z (bLook a .ordB (bRow (.add a l) (bRow (.add a l) s2))) a = if V = 0 then 1 else if U = 1 then 0 else 2 := by
    rw [C_look, C_add, C_add, C_add, if_pos rfl, if_pos rfl, if_neg al.symm, va, vl]
    have hU' : U = 0 ∨ U = 1 := by omega
    by_cases w : V = 0
    · rw [if_pos w, if_pos w, if_pos (rfl : a = a), Nat.mul_zero]; rfl
    · rw [if_neg w, if_neg w, if_pos (rfl : a = a)]
      rcases hU' with rfl | rfl <;> rfl
  have ht : Leaves z (bEnded (bPut 0 (bRow (.copy 0 a) (bLook a .ordB (bRow (.add a l) (bRow (.add a l) s2))))).1 (bPut 0 (bRow (.copy 0 a) (bLook a .ordB (bRow (.add a l) (bRow (.add a l) s2))))).2) [if V = 0 then 1 else if U = 1 then 0 else 2] 0 := by
    generalize hS : bLook a .ordB (bRow (.add a l) (bRow (.add a l) s2)) = s3 at *
    have f3 : s3.free = s2.free := by rw [← hS]; rfl
    have c4 := chg_put (z := z) 0 (bRow (.copy 0 a) s3)
    have v4 : C z (bPut 0 (bRow (.copy 0 a) s3)).2 0 = if V = 0 then 1 else if U = 1 then 0 else 2 := by
      rw [c4.C0 (by rw [free_row]; omega), C_copy, if_pos rfl, v3]
    have v5 : C z (bPut 0 (bRow (.copy 0 a) s3)).2 (bPut 0 (bRow (.copy 0 a) s3)).1 = 0 := by rw [C_bPut]; exact if_pos rfl
    obtain ⟨h1, h2⟩ := ended_ok (z := z) (c := (bPut 0 (bRow (.copy 0 a) s3)).1) (s := (bPut 0 (bRow (.copy 0 a) s3)).2) (a := 0) (row := [if V = 0 then 1 else if U = 1 then 0 else 2]) (by simp) (by show 0 + 1 ≤ s3.free + 1; omega)
      (fun j hj => by
        have : j = 0 := by simpa using hj
        subst this
        exact v4) (by rw [v5]; omega)
    refine ⟨fun j hj => ?_, ?_⟩
    · have := h1 j hj
      rw [Nat.zero_add] at this
      exact this
    · exact h2.trans v5
  have e : (if V = 0 then 1 else if U = 1 then 0 else 2) = if readZ f ds sh < readZ f es th then 0 else if readZ f ds sh = readZ f es th then 1 else 2 := by
    generalize readZ f ds sh = X at *
    generalize readZ f es th = Y at *
    by_cases w : V = 0
    · have : X - Y = 0 := by rw [val]; split <;> omega
      rw [if_pos w, if_neg (by omega), if_pos (by omega)]
    · rw [if_neg w]
      by_cases u : U = 1
      · rw [if_pos u] at val ⊢
        rw [if_pos (by omega)]
      · rw [if_neg u] at val ⊢
        rw [if_neg (by omega), if_neg (by omega)]
  rw [← e]
  exact ht
theorem difference_ok {f : Form} {ds es : List Nat} {sh th : Nat} (hn : 0 < f.n) (hn2 : f.n ≤ 12) (h : Front z 0 f ds sh) (k : Front z f.width f es th) :
    Leaves z (bDifference f) (keptRow f (foldedZ f (readZ f ds sh - readZ f es th))) (if fitsZ f (readZ f ds sh - readZ f es th) then 0 else 1) := by
  obtain ⟨t, le⟩ := differenceIn_ok hn hn2 h k
  exact finish_num hn hn2 t le
/-! ### moved -/
def oneMore (size rest ten : Nat) (rule : Rule) (below : Bool) : Bool :=
  match rule with
  | .up => decide (0 < rest)
  | .half => decide (ten ≤ 2 * rest)
  | .even => decide (ten < 2 * rest) || (decide (2 * rest = ten) && decide (size % 2 = 1))
  | .floor => decide (0 < rest) && below
  | .ceil => decide (0 < rest) && !below
  | .cut => false
def roundedZ (N : Int) (by_ : Int) (rule : Rule) : Int :=
  if 0 ≤ by_ then N * 10 ^ by_.toNat
  else
    let ten := 10 ^ (-by_).toNat
    let size := N.natAbs / ten + (if oneMore (N.natAbs / ten) (N.natAbs % ten) ten rule (decide (N < 0)) then 1 else 0)
    if N < 0 then -(size : Int) else size
theorem num_one_zeros (ds : List Nat) (k : Nat) : num (ds ++ List.replicate k 0) = num ds * 10 ^ k := by
  rw [num_append, num_zeros, List.length_replicate, Nat.add_zero]
theorem past_ok {first : Nat} {rest : List Nat} {last : Option Nat} {s : BS} (hf : first < s.free) (hr : Below s rest) (hl : ∀ l, last = some l → l < s.free) :
    Chg z [] s (bPastHalf first rest last s).2 ∧ s.free ≤ (bPastHalf first rest last s).1 ∧ (bPastHalf first rest last s).1 < (bPastHalf first rest last s).2.free ∧
    C z (bPastHalf first rest last s).2 (bPastHalf first rest last s).1 = if (4 < C z s first ∧ (num (vals z s rest) ≠ 0 ∨ ∃ l, last = some l ∧ C z s l % 2 = 1)) ∨ 5 < C z s first then 1 else 0 := by
  have c0 := chg_looked (z := z) first .five s
  have v0 : C z (bLooked first .five s).2 s.free = if 4 < C z s first then 1 else 0 := by rw [C_bLooked, if_pos rfl]; rfl
  have f0 : (bLooked first .five s).2.free = s.free + 1 := rfl
  generalize hh : (bLooked first .five s).2 = s1 at *
  obtain ⟨c1, r1, f1, v1⟩ := anyOf_ok (z := z) (hr.le c0.le)
  rw [c0.vals0 hr, anyN_eq] at v1
  generalize hA : bAnyOf rest s1 = A at *
  obtain ⟨m, s2⟩ := A
  simp only at c1 r1 f1 v1
  have c01 := c0.tr0 c1
  have ex : bPastHalf first rest last s = (let s3 := match (generalizing := false) last with
      | some l => bRow (.or_ m (bLooked l .low2 s2).1) (bLooked l .low2 s2).2
      | none => s2
    ((bBoth s.free m s3).1, bRow (.or_ (bBoth s.free m s3).1 (bLooked first .six (bBoth s.free m s3).2).1) (bLooked first .six (bBoth s.free m s3).2).2)) := by
    unfold bPastHalf
    simp only [looked_1]
    rw [hh, hA] <;> (cases last <;> rfl)
  rw [ex]
  have key : ∀ s3 : BS, Chg z [m] s2 s3 → C z s3 m = (if num (vals z s rest) ≠ 0 ∨ ∃ l, last = some l ∧ C z s l % 2 = 1 then 1 else 0) →
      Chg z [] s (bRow (.or_ (bBoth s.free m s3).1 (bLooked first .six (bBoth s.free m s3).2).1) (bLooked first .six (bBoth s.free m s3).2).2) ∧ s.free ≤ (bBoth s.free m s3).1 ∧ (bBoth s.free m s3).1 < (bRow (.or_ (bBoth s.free m s3).1 (bLooked first .six (bBoth s.free m s3).2).1) (bLooked first .six (bBoth s.free m s3).2).2).free ∧
      C z (bRow (.or_ (bBoth s.free m s3).1 (bLooked first .six (bBoth s.free m s3).2).1) (bLooked first .six (bBoth s.free m s3).2).2) (bBoth s.free m s3).1 = if (4 < C z s first ∧ (num (vals z s rest) ≠ 0 ∨ ∃ l, last = some l ∧ C z s l % 2 = 1)) ∨ 5 < C z s first then 1 else 0 := fun s3 c3 v3 => by
    have g3 := c3.le
    have c03 : Chg z [] s s3 := c01.trans c3 (fun _ q _ => q) (fun i q hi => by have := List.mem_singleton.mp q; omega)
    have vh : C z s3 s.free = if 4 < C z s first then 1 else 0 := by
      rw [c3.same _ (by omega) (by simp; omega), c1.C0 (by omega), v0]
    obtain ⟨c4, r4, f4, v4⟩ := both_ok (z := z) (one := s.free) (other := m) (s := s3) (by omega) (by omega)
    generalize hB : bBoth s.free m s3 = B at *
    obtain ⟨r, s4⟩ := B
    simp only at c4 r4 f4 v4 ⊢
    rw [vh, v3, and01 (ite01' _) (ite01' _)] at v4
    have c04 := c03.tr0 c4
    have c5 := chg_looked (z := z) first .six s4
    have c6 := chg_row_or (z := z) r s4.free (bLooked first .six s4).2
    refine ⟨(c04.tr0 c5).trans c6 (fun _ q _ => q) (fun i q hi => by have := List.mem_singleton.mp q; omega), by omega, by show r < s4.free + 1; omega, ?_⟩
    show C z (bRow (.or_ r s4.free) (bLooked first .six s4).2) r = _
    rw [C_or, if_pos rfl, c5.C0 (by omega), r4, v4, C_bLooked, if_pos rfl, c04.C0 hf]
    show _ ||| (if 5 < C z s first then 1 else 0) = _
    by_cases a1 : 4 < C z s first <;> by_cases a2 : num (vals z s rest) ≠ 0 ∨ ∃ l, last = some l ∧ C z s l % 2 = 1 <;> by_cases a3 : 5 < C z s first <;> simp only [a1, a2, a3, if_true, if_false, true_and, false_and, and_self, or_true, true_or, or_false, false_or] <;> first | rfl | omega
  cases last with
  | none =>
    refine key s2 ((Chg.refl s2).mono (fun _ q => nomatch q)) ?_
    rw [r1, v1]
    by_cases w : num (vals z s rest) = 0
    · rw [if_pos w, if_neg]; rintro (q | ⟨l, q, _⟩)
      · exact q w
      · cases q
    · rw [if_neg w, if_pos (.inl w)]
  | some l =>
    have hl' := hl l rfl
    have c2 := chg_looked (z := z) l .low2 s2
    have c3 := chg_row_or (z := z) m s2.free (bLooked l .low2 s2).2
    refine key _ (c2.trans c3 (fun _ q _ => nomatch q) (fun _ q _ => q)) ?_
    show C z (bRow (.or_ m s2.free) (bLooked l .low2 s2).2) m = _
    rw [C_or, if_pos rfl, c2.C0 (by omega), r1, v1, C_bLooked, if_pos rfl, c01.C0 hl']
    show _ ||| (C z s l % 2) = _
    have hm : C z s l % 2 = 0 ∨ C z s l % 2 = 1 := by omega
    by_cases w : num (vals z s rest) = 0
    · rw [if_pos w]
      rcases hm with q | q
      · rw [q, if_neg]; · rfl
        rintro (q' | ⟨l', e, q'⟩)
        · exact q' w
        · cases e; omega
      · rw [q, if_pos (.inr ⟨l, rfl, q⟩)]; rfl
    · rw [if_neg w, if_pos (.inl w)]
      rcases hm with q | q <;> rw [q] <;> rfl
end TL
namespace TL
variable {z : S}
theorem added_ok {left lost : List Nat} {below : Nat} {rule : Rule} {s : BS} (hl : 0 < lost.length) (b1 : Below s left) (b2 : Below s lost) (bb : below < s.free) (d1 : Dg (vals z s left)) (d2 : Dg (vals z s lost)) (h1 : C z s below ≤ 1) :
    Chg z [] s (bAddedBy left lost below rule s).2 ∧ s.free ≤ (bAddedBy left lost below rule s).1 ∧ (bAddedBy left lost below rule s).1 < (bAddedBy left lost below rule s).2.free ∧
    C z (bAddedBy left lost below rule s).2 (bAddedBy left lost below rule s).1 = if oneMore (num (vals z s left)) (num (vals z s lost)) (10 ^ lost.length) rule (decide (C z s below = 1)) then 1 else 0 := by
  have m0 : lost.getD 0 0 ∈ lost := getD_mem hl
  have vm : C z s (lost.getD 0 0) = (vals z s lost).getD 0 0 := vals_getD hl
  have f5 := first_five d2 (vals_length (z := z) s lost) hl
  have hP : 10 ^ lost.length = 10 * 10 ^ (lost.length - 1) := by
    conv => lhs; rw [show lost.length = (lost.length - 1) + 1 by omega, Nat.pow_succ]
    omega
  obtain ⟨ca, ra, fa, va⟩ := anyOf_ok (z := z) b2
  rw [anyN_eq] at va
  unfold oneMore
  cases rule with
  | cut =>
    refine ⟨chg_put _ _, Nat.le_refl _, by show s.free < s.free + 1; omega, ?_⟩
    show C z (bPut 0 s).2 s.free = _
    rw [C_bPut, if_pos rfl]; rfl
  | up =>
    refine ⟨ca, by show s.free ≤ (bAnyOf lost s).1; omega, by show (bAnyOf lost s).1 < (bAnyOf lost s).2.free; omega, ?_⟩
    show C z (bAnyOf lost s).2 (bAnyOf lost s).1 = _
    rw [ra, va]
    by_cases w : num (vals z s lost) = 0
    · rw [if_pos w, if_neg (by simp; omega)]
    · rw [if_neg w, if_pos (by simp; omega)]
  | half =>
    refine ⟨chg_looked _ _ _, Nat.le_refl _, by show s.free < s.free + 1; omega, ?_⟩
    show C z (bLooked (lost.getD 0 0) .five s).2 s.free = _
    rw [C_bLooked, if_pos rfl, vm]
    show (if 4 < (vals z s lost).getD 0 0 then 1 else 0) = _
    by_cases w : 4 < (vals z s lost).getD 0 0
    · have := f5.mp w
      rw [if_pos w, if_pos (by simp; omega)]
    · have : ¬ 5 * 10 ^ (lost.length - 1) ≤ num (vals z s lost) := fun q => w (f5.mpr q)
      rw [if_neg w, if_neg (by simp; omega)]
  | even =>
    obtain ⟨c0, r0, r1, v0⟩ := past_ok (z := z) (first := lost.getD 0 0) (rest := lost.drop 1) (last := left.getLast?) (s := s) (b2 _ m0) (fun c hc => b2 c (List.mem_of_mem_drop hc)) (fun l hl => b1 l (List.mem_of_getLast? hl))
    refine ⟨c0, r0, r1, ?_⟩
    show C z (bPastHalf (lost.getD 0 0) (lost.drop 1) left.getLast? s).2 (bPastHalf (lost.getD 0 0) (lost.drop 1) left.getLast? s).1 = _
    rw [v0, vm]
    have el : (∃ l, left.getLast? = some l ∧ C z s l % 2 = 1) ↔ num (vals z s left) % 2 = 1 := by
      rcases List.eq_nil_or_concat left with rfl | ⟨xs, x, rfl⟩
      · simp [vals, num]
      · rw [List.concat_eq_append, vals_append]
        simp only [vals, List.map_cons, List.map_nil]
        rw [num_snoc]
        simp
        omega
    cases lost with
    | nil => simp at hl
    | cons x xs =>
      simp only [List.drop_succ_cons, List.drop_zero, List.length_cons, Nat.add_sub_cancel] at *
      have e1 : vals z s (x :: xs) = C z s x :: vals z s xs := rfl
      rw [e1] at d2 ⊢
      have lt := num_lt (fun d q => d2 d (List.mem_cons_of_mem _ q) : Dg (vals z s xs))
      rw [vals_length] at lt
      have d9 : C z s x ≤ 9 := d2 _ (by simp)
      rw [num_cons, vals_length]
      simp only [List.getD_cons_zero]
      generalize hT : 10 ^ (x :: xs).length = T
      have hT' : T = 10 * 10 ^ xs.length := by rw [← hT]; exact hP
      generalize hQ : 10 ^ xs.length = Q at *
      generalize num (vals z s xs) = R at *
      generalize num (vals z s left) = L at *
      generalize C z s x = d at *
      have e2 : (4 < d ∧ (R ≠ 0 ∨ ∃ l, left.getLast? = some l ∧ C z s l % 2 = 1)) ∨ 5 < d ↔ (T < 2 * (d * Q + R) ∨ (2 * (d * Q + R) = T ∧ L % 2 = 1)) := by
        rw [el]
        have h3 : d ≤ 4 ∨ d = 5 ∨ 6 ≤ d := by omega
        rcases h3 with h | h | h
        · have := Nat.mul_le_mul_right Q h
          constructor
          · intro q; omega
          · intro q; omega
        · subst h
          constructor
          · rintro (⟨_, q | q⟩ | q)
            · left; omega
            · by_cases w : R = 0
              · right; omega
              · left; omega
            · omega
          · rintro (q | ⟨q, q'⟩)
            · left; exact ⟨by omega, .inl (by omega)⟩
            · left; exact ⟨by omega, .inr q'⟩
        · have := Nat.mul_le_mul_right Q h
          constructor
          · intro q; left; omega
          · intro q; right; omega
      by_cases w : (4 < d ∧ (R ≠ 0 ∨ ∃ l, left.getLast? = some l ∧ C z s l % 2 = 1)) ∨ 5 < d
      · rw [if_pos w, if_pos]
        have := e2.mp w
        simpa using this
      · rw [if_neg w, if_neg]
        have : ¬ (T < 2 * (d * Q + R) ∨ (2 * (d * Q + R) = T ∧ L % 2 = 1)) := fun q => w (e2.mpr q)
        simpa using this
  | floor =>
    generalize hA : bAnyOf lost s = A at *
    obtain ⟨a, s1⟩ := A
    simp only at ca ra fa va
    obtain ⟨c1, r1, f1, v1⟩ := both_ok (z := z) (one := a) (other := below) (s := s1) (by omega) (by omega)
    have e : bAddedBy left lost below .floor s = bBoth a below s1 := by unfold bAddedBy; rw [hA]
    rw [e]
    refine ⟨ca.tr0 c1, by omega, by omega, ?_⟩
    rw [r1, v1, ra, va, ca.C0 bb, and01 (ite01 _) h1]
    by_cases w : num (vals z s lost) = 0
    · rw [if_pos w, if_neg (by simp; omega)]; omega
    · rw [if_neg w]
      by_cases u : C z s below = 1
      · rw [u, if_pos (by simp; omega)]
      · rw [show C z s below = 0 by omega, if_neg (by simp)]
  | ceil =>
    generalize hA : bAnyOf lost s = A at *
    obtain ⟨a, s1⟩ := A
    simp only at ca ra fa va
    have c1 := chg_looked (z := z) below .oneOf s1
    have v1 : C z (bLooked below .oneOf s1).2 s1.free = if C z s below = 0 then 1 else 0 := by
      rw [C_bLooked, if_pos rfl, ca.C0 bb]; rfl
    have e : bAddedBy left lost below .ceil s = bBoth a s1.free (bLooked below .oneOf s1).2 := by unfold bAddedBy; rw [hA]; rfl
    have f2 : (bLooked below .oneOf s1).2.free = s1.free + 1 := rfl
    rw [e]
    obtain ⟨c2, r2, f3, v2⟩ := both_ok (z := z) (one := a) (other := s1.free) (s := (bLooked below .oneOf s1).2) (by omega) (by omega)
    refine ⟨(ca.tr0 c1).tr0 c2, by omega, by omega, ?_⟩
    rw [r2, v2, v1, c1.C0 (by omega), ra, va, and01 (ite01 _) (ite01' _)]
    by_cases w : num (vals z s lost) = 0
    · rw [if_pos w, Nat.zero_mul, if_neg (by simp; omega)]
    · rw [if_neg w]
      by_cases u : C z s below = 1
      · rw [u, if_neg (by decide), if_neg (by simp)]
      · rw [show C z s below = 0 by omega, if_pos rfl, if_pos (by simp; omega)]
theorem oneMore_zero {size ten : Nat} {rule : Rule} {b : Bool} (h : 0 < ten) (hs : size = 0) : oneMore size 0 ten rule b = false := by
  subst hs
  unfold oneMore
  cases rule <;> simp <;> omega
theorem moved_ok {f : Form} {ds : List Nat} {sh : Nat} {by_ : Int} {rule : Rule} (hn : 0 < f.n) (hn2 : f.n ≤ 12) (h : Front z 0 f ds sh) (lo : -(f.n : Int) ≤ by_) :
    Leaves z (bMoved f by_ rule) (keptRow f (foldedZ f (roundedZ (readZ f ds sh) by_ rule))) (if fitsZ f (roundedZ (readZ f ds sh) by_ rule) then 0 else 1) := by
  have L := loadOne hn hn2 h
  have N := L.num (Nat.le_refl 32)
  have l0 := L.len
  have f0 : 32 ≤ (bLoaded f 0 bStart).2.free := L.chg.le
  have ns := L.ns
  unfold bMoved
  generalize bLoaded f 0 bStart = p at *
  obtain ⟨⟨fs, below⟩, s⟩ := p
  simp only at N l0 f0 ns ⊢
  generalize readZ f ds sh = X at *
  clear L
  by_cases hb : 0 ≤ by_
  · rw [if_pos hb]
    obtain ⟨c1, n1, l1, v1⟩ := noughts_ok (z := z) by_.toNat s
    generalize hz : bNoughts by_.toNat s = q at *
    obtain ⟨zs, s1⟩ := q
    simp only at c1 n1 l1 v1 ⊢
    have N1 := N.chg0 c1
    have e : roundedZ X by_ rule = X * 10 ^ by_.toNat := by unfold roundedZ; rw [if_pos hb]
    have hv : vals z s1 (fs ++ zs) = vals z s1 fs ++ List.replicate by_.toNat 0 := by rw [vals_append, v1]
    refine finish_num hn hn2 (N := roundedZ X by_ rule) ⟨?_, ?_, ?_, ?_, N1.bb, N1.b32, N1.b1, ?_⟩ (by have := c1.le; omega)
    · intro c hc
      rcases List.mem_append.mp hc with hc | hc
      · exact N1.b c hc
      · exact n1.hi c hc
    · rw [List.nodup_append]
      exact ⟨N1.nd, n1.nd, fun a ha b hb => by have := N.b a ha; have := n1.lo b hb; omega⟩
    · intro c hc
      rcases List.mem_append.mp hc with hc | hc
      · exact N1.lo c hc
      · have := n1.lo c hc; omega
    · rw [hv]; exact N1.dg.append (Dg.zeros _)
    · rw [e, hv, num_one_zeros, N1.val]
      split
      · rw [Int.neg_mul]; simp
      · simp
  · rw [if_neg hb]
    generalize hm : (-by_).toNat = m
    have hm1 : 0 < m := by omega
    have hm2 : m ≤ f.n := by omega
    have tl : (fs.drop (f.n - m)).length = m := by rw [List.length_drop, l0]; omega
    have b1 : Below s (fs.take (f.n - m)) := fun c hc => N.b c (List.mem_of_mem_take hc)
    have b2 : Below s (fs.drop (f.n - m)) := fun c hc => N.b c (List.mem_of_mem_drop hc)
    have d1 : Dg (vals z s (fs.take (f.n - m))) := by unfold vals; rw [List.map_take]; exact N.dg.take _
    have d2 : Dg (vals z s (fs.drop (f.n - m))) := by unfold vals; rw [List.map_drop]; exact N.dg.drop _
    obtain ⟨sp1, sp2⟩ := num_split N.dg (f.n - m) (by rw [vals_length, l0]; omega)
    rw [vals_length, l0, show f.n - (f.n - m) = m by omega] at sp1 sp2
    have e1 : num (vals z s (fs.take (f.n - m))) = num (vals z s fs) / 10 ^ m := by rw [← sp1]; unfold vals; rw [List.map_take]
    have e2 : num (vals z s (fs.drop (f.n - m))) = num (vals z s fs) % 10 ^ m := by rw [← sp2]; unfold vals; rw [List.map_drop]
    obtain ⟨c1, r1, r2, v1⟩ := added_ok (z := z) (rule := rule) (by omega) b1 b2 N.bb d1 d2 N.b1
    rw [tl, e1, e2] at v1
    generalize hc : bAddedBy (fs.take (f.n - m)) (fs.drop (f.n - m)) below rule s = q at *
    obtain ⟨carry, s1⟩ := q
    simp only at c1 r1 r2 v1 ⊢
    obtain ⟨c2, n2, l2, v2⟩ := noughts_ok (z := z) 1 s1
    generalize hz : bNoughts 1 s1 = q at *
    obtain ⟨zs, s2⟩ := q
    simp only at c2 n2 l2 v2 ⊢
    have c12 := c1.tr0 c2
    have N2 := N.chg0 c12
    generalize hl : fs.take (f.n - m) = left at *
    have vs2 : vals z s2 (zs ++ left) = 0 :: vals z s left := by
      rw [vals_append, v2, c12.vals0 b1]; rfl
    have bz : Below s2 (zs ++ left) := fun c hc => by
      rcases List.mem_append.mp hc with hc | hc
      · exact n2.hi c hc
      · exact (b1.le c12.le) c hc
    have nz : (zs ++ left).Nodup := by
      rw [List.nodup_append]
      exact ⟨n2.nd, by rw [← hl]; exact N.nd.take .., fun a ha b hb => by have := b1 b hb; have := n2.lo a ha; have := c1.le; omega⟩
    have nc : carry ∉ zs ++ left := fun hc => by
      rcases List.mem_append.mp hc with hc | hc
      · have := n2.lo _ hc; omega
      · have := b1 _ hc; omega
    have dz : Dg (vals z s2 (zs ++ left)) := by
      rw [vs2]; intro d hd
      rcases List.mem_cons.mp hd with rfl | hd
      · omega
      · exact d1 d hd
    have vc : C z s2 carry ≤ 1 := by rw [c2.C0 r2, v1]; exact ite01' _
    obtain ⟨k1, k2, k3, k4, k5⟩ := backward_ok (K := 1) (by decide) (z := z) (pre := fun _ s => s) (fg := fun x => x) (carry := carry) (g := fun _ d => d) (zs ++ left) s2 (Nat.lt_of_lt_of_le r2 c2.le)
      (fun c hc => ⟨bz c hc, fun q => nc (q ▸ hc)⟩) (by rw [List.map_id']; exact nz) (fun c _ s' _ _ h1 => ⟨rfl, fun i _ => by
        by_cases w : i = c
        · rw [if_pos w, w, h1]
        · rw [if_neg w]⟩)
      (fun c hc => by
        have := dz _ (List.mem_map.mpr ⟨c, hc, rfl⟩)
        omega) vc
    rw [List.map_id'] at k2 k3 k5
    have ex : bBackward (fun x => bCarried x carry) (zs ++ left) s2 = bBackward (fun x s => bCarried x carry s) (zs ++ left) s2 := rfl
    rw [ex]
    generalize hS : bBackward (fun x s => bCarried x carry s) (zs ++ left) s2 = s3 at *
    have ll : left.length = f.n - m := by rw [← hl, List.length_take, l0]; omega
    have lz : (zs ++ left).length = f.n - m + 1 := by rw [List.length_append, l2, ll]; omega
    have vb3 : C z s3 below = C z s below := by
      rw [k2.same _ N2.bb (fun q => by
        rcases List.mem_cons.mp q with q | q
        · have := N.bb; omega
        · rcases List.mem_append.mp q with q | q
          · have := n2.lo _ q; have := N.bb; have := c1.le; omega
          · exact ns (List.mem_of_mem_take (hl ▸ q))), c12.C0 N.bb]
    have hlt := num_lt d1
    rw [vals_length, ll] at hlt
    have hnum : num (vals z s3 (zs ++ left)) = num (vals z s fs) / 10 ^ m + C z s2 carry := by
      have e3 : num ((zs ++ left).map fun x => C z s2 x) = num (vals z s left) := by
        show num (vals z s2 (zs ++ left)) = _
        rw [vs2, num_cons]; omega
      rw [e3, lz, Nat.pow_succ] at k5
      have k0 : C z s3 carry = 0 := by
        have : C z s3 carry = 0 ∨ C z s3 carry = 1 := by omega
        rcases this with q | q
        · exact q
        · rw [q] at k5; omega
      rw [k0] at k5
      omega
    refine finish_num hn hn2 (N := roundedZ X by_ rule) ⟨bz.le k2.le, nz, ?_, k3, by have := k2.le; have := N2.bb; omega, N.b32, by rw [vb3]; exact N.b1, ?_⟩ (by have := k2.le; have := c12.le; omega)
    · intro c hc
      rcases List.mem_append.mp hc with hc | hc
      · have := n2.lo c hc; have := c1.le; omega
      · exact N.lo c (List.mem_of_mem_take (hl ▸ hc))
    · rw [vb3, hnum, c2.C0 r2, v1]
      unfold roundedZ
      rw [if_neg hb, hm]
      dsimp only
      have val := N.val
      have hb1 := N.b1
      have hp : 0 < 10 ^ m := Nat.pow_pos (by decide)
      generalize num (vals z s fs) = V at *
      generalize C z s below = B at *
      have eA : X.natAbs = V := by rw [val]; split <;> omega
      rw [eA]
      by_cases w : V = 0
      · have x0 : X = 0 := by rw [val]; split <;> omega
        rw [w, Nat.zero_div, Nat.zero_mod, oneMore_zero hp rfl, oneMore_zero hp rfl, x0]
        simp
      · have eB : decide (X < 0) = decide (B = 1) := by
          rw [decide_eq_decide, val]
          split
          · constructor
            · intro _; assumption
            · intro _; omega
          · constructor
            · intro q; omega
            · intro q; exact absurd q (by assumption)
        rw [eB]
        by_cases u : B = 1
        · rw [if_pos u, if_pos (by rw [val, if_pos u]; omega)]
        · rw [if_neg u, if_neg (by rw [val, if_neg u]; omega)]
end TL
namespace TL
variable {z : S}
/-! ### products -/
theorem prod_byte {a b : Nat} (ha : a ≤ 9) (hb : b ≤ 9) : Wo.prod.ap (a * 16 ||| b) = a * b := by
  show (a * 16 ||| b) / 16 * ((a * 16 ||| b) % 16) = _
  rw [Nat.mul_comm a 16, or_halves (by omega), div_lo (by omega), mod_lo (by omega)]
theorem nodup_inj {xs : List Nat} (h : xs.Nodup) {i j : Nat} (hi : i < xs.length) (hj : j < xs.length) (e : xs[i] = xs[j]) : i = j := by
  rcases Nat.lt_trichotomy i j with w | w | w
  · exact absurd e (List.pairwise_iff_getElem.mp h i j hi hj w)
  · exact w
  · exact absurd e.symm (List.pairwise_iff_getElem.mp h j i hj hi w)
/-- one row of columns: the figures of one times a figure, added -/
theorem inner_ok {cols highs os : List Nat} {p j carry n : Nat} {s : BS} {A : Nat → Nat} {B : Nat} (hn : s.free = n) (bc : Below s cols) (nd : cols.Nodup) (hk : carry < n) (nk : carry ∉ cols) (hj : j + p < cols.length)
    (hh : ∀ i, i < p → highs.getD i 0 < n ∧ highs.getD i 0 ∉ cols ∧ highs.getD i 0 ≠ carry ∧ C z s (highs.getD i 0) = A i * 16 ∧ A i ≤ 9) (ho : os.getD j 0 < n ∧ os.getD j 0 ∉ cols ∧ os.getD j 0 ≠ carry ∧ C z s (os.getD j 0) = B ∧ B ≤ 9)
    (dc : Dg (vals z s cols)) (k0 : C z s carry = 0) :
    let s' := bBackward (fun i s => bBack n (bColumn cols (i + j + 1) (highs.getD i 0) (os.getD j 0) carry s)) (List.range p) s
    s'.free = n ∧ Chg z (carry :: (List.range p).map fun i => cols.getD (i + j + 1) 0) s s' ∧ Dg (vals z s' ((List.range p).map fun i => cols.getD (i + j + 1) 0)) ∧ C z s' carry ≤ 9 ∧
    num (vals z s' ((List.range p).map fun i => cols.getD (i + j + 1) 0)) + 10 ^ p * C z s' carry = num ((List.range p).map fun i => C z s (cols.getD (i + j + 1) 0) + A i * B) := by
  intro s'
  have mem : ∀ i, i < p → cols.getD (i + j + 1) 0 ∈ cols := fun i hi => getD_mem (by omega)
  have d9 : ∀ i, i < p → C z s (cols.getD (i + j + 1) 0) ≤ 9 := fun i hi => dc _ (List.mem_map.mpr ⟨_, mem i hi, rfl⟩)
  have ndm : ((List.range p).map fun i => cols.getD (i + j + 1) 0).Nodup := by
    rw [List.Nodup, List.pairwise_map]
    refine List.Pairwise.imp_of_mem ?_ (List.nodup_range (n := p))
    intro a b ha hb hab e
    have ha' := List.mem_range.mp ha
    have hb' := List.mem_range.mp hb
    rw [List.getD_eq_getElem?_getD, List.getD_eq_getElem?_getD, List.getElem?_eq_getElem (by omega), List.getElem?_eq_getElem (by omega)] at e
    have := nodup_inj nd _ _ e
    omega
  have ex : s' = bBackward (fun i s => bCarried (cols.getD (i + j + 1) 0) carry (bBack n (bRow (.add (cols.getD (i + j + 1) 0) s.free) (bLook s.free .prod (bRow (.or_ s.free (os.getD j 0)) (bCopied (highs.getD i 0) s).2))))) (List.range p) s := rfl
  have h := backward_ok (K := 9) (by decide) (z := z) (pre := fun i s => bBack n (bRow (.add (cols.getD (i + j + 1) 0) s.free) (bLook s.free .prod (bRow (.or_ s.free (os.getD j 0)) (bCopied (highs.getD i 0) s).2)))) (fg := fun i => cols.getD (i + j + 1) 0) (carry := carry) (g := fun i d => d + A i * B) (List.range p) s (by omega)
    (fun i hi => by
      have m := mem i (List.mem_range.mp hi)
      exact ⟨bc _ m, fun q => nk (q ▸ m)⟩) ndm
    (fun i hi s1 hs1 hf h1 => by
      have hi' := List.mem_range.mp hi
      have m := mem i hi'
      obtain ⟨a1, a2, a3, a4, a5⟩ := hh i hi'
      obtain ⟨b1, b2, b3, b4, b5⟩ := ho
      have keep : ∀ c, c < n → c ∉ cols → c ≠ carry → C z s1 c = C z s c := fun c hc h1 h2 => hs1.same c (by omega) (fun q => by
        rcases List.mem_cons.mp q with q | q
        · exact h2 q
        · obtain ⟨i', hi2, e⟩ := List.mem_map.mp q
          exact h1 (e ▸ mem i' (List.mem_range.mp hi2)))
      have mm := bc _ m
      have v1 : C z (bLook s1.free .prod (bRow (.or_ s1.free (os.getD j 0)) (bCopied (highs.getD i 0) s1).2)) s1.free = A i * B := by
        rw [C_look, if_pos rfl, C_or, if_pos rfl, C_bCopied, if_pos rfl, keep _ a1 a2 a3, a4, C_bCopied, if_neg (by omega), keep _ b1 b2 b3, b4, prod_byte a5 b5]
      have v2 : ∀ c, c < n → C z (bLook s1.free .prod (bRow (.or_ s1.free (os.getD j 0)) (bCopied (highs.getD i 0) s1).2)) c = C z s1 c := fun c hc => by
        rw [C_look, if_neg (by omega), C_or, if_neg (by omega), C_bCopied, if_neg (by omega)]
      refine ⟨by show n = s1.free; omega, fun c hc => ?_⟩
      have pb : A i * B ≤ 81 := Nat.mul_le_mul a5 b5
      have := d9 i hi'
      rw [C_back, C_add, v1, v2 _ (by omega), v2 c (by omega), h1, Nat.mod_eq_of_lt (by omega)])
    (fun i hi => by
      have hi' := List.mem_range.mp hi
      have pb : A i * B ≤ 81 := Nat.mul_le_mul (hh i hi').2.2.2.2 ho.2.2.2.2
      have := d9 i hi'
      show C z s (cols.getD (i + j + 1) 0) + A i * B ≤ 90
      omega) (by omega)
  rw [← ex, List.length_range, k0, Nat.add_zero] at h
  obtain ⟨h1, h2, h3, h4, h5⟩ := h
  exact ⟨by omega, h2, h3, h4, h5⟩
theorem num_scale (p : Nat) (F A : Nat → Nat) (B : Nat) : num ((List.range p).map fun i => F i + A i * B) = num ((List.range p).map F) + num ((List.range p).map A) * B := by
  induction p with
  | zero => simp [num]
  | succ p ih =>
    rw [List.range_succ, List.map_append, List.map_append, List.map_append, List.map_cons, List.map_cons, List.map_cons, List.map_nil, List.map_nil, List.map_nil, num_snoc, num_snoc, num_snoc, ih, Nat.add_mul, Nat.mul_add, Nat.mul_assoc]
    omega
theorem range_getD (xs : List Nat) (a p : Nat) (h : a + p ≤ xs.length) : (List.range p).map (fun i => xs.getD (i + a) 0) = (xs.drop a).take p := by
  refine List.ext_getElem (by simp; omega) fun i h1 h2 => ?_
  simp at h1 h2 ⊢
  rw [List.getElem?_eq_getElem (by omega)]
  simp [Nat.add_comm]
/-- all rows of columns from the right -/
theorem columns_loop {cols highs os ones : List Nat} {p q carry n : Nat} {s : BS} {W : Nat} (hn : s.free = n) (bc : Below s cols) (nd : cols.Nodup) (hk : carry < n) (nk : carry ∉ cols) (hl : cols.length = p + q)
    (lh : highs.length = p) (lo : os.length = q) (bh : ∀ c ∈ highs, c < n ∧ c ∉ cols ∧ c ≠ carry) (bo : ∀ c ∈ os, c < n ∧ c ∉ cols ∧ c ≠ carry)
    (l1 : ones.length = p) (d1 : Dg ones) (vh : vals z s highs = ones.map (· * 16)) (do1 : Dg (vals z s os)) (hW : W = num ones) (v0 : vals z s cols = List.replicate (p + q) 0) :
    ∀ t, t ≤ q → let s' := bBackward (fun j s => bRow (.copy (cols.getD j 0) carry) (bBackward (fun i s => bBack n (bColumn cols (i + j + 1) (highs.getD i 0) (os.getD j 0) carry s)) (List.range p) (bRow (.put carry 0) s))) ((List.range q).drop (q - t)) s
    s'.free = n ∧ Chg z (carry :: cols) s s' ∧ Dg (vals z s' cols) ∧ num (vals z s' (cols.drop (q - t))) = W * num ((vals z s os).drop (q - t)) ∧ ∀ i, i < q - t → C z s' (cols.getD i 0) = 0 := by
  intro t
  induction t with
  | zero =>
    intro _ s'
    have e : (List.range q).drop (q - 0) = [] := List.drop_eq_nil_of_le (by simp)
    have hs : s' = s := by show bBackward _ _ _ = _; rw [e]; rfl
    rw [hs]
    refine ⟨hn, (Chg.refl s).mono (fun _ q => nomatch q), by rw [v0]; exact Dg.zeros _, ?_, ?_⟩
    · have eo : (vals z s os).drop q = [] := List.drop_eq_nil_of_le (by rw [vals_length, lo]; exact Nat.le_refl _)
      rw [Nat.sub_zero, eo]
      have : vals z s (cols.drop q) = List.replicate p 0 := by
        unfold vals at v0 ⊢
        rw [List.map_drop, v0, List.drop_replicate, Nat.add_sub_cancel]
      rw [this, num_zeros]; rfl
    · intro i hi
      rw [vals_getD (by omega), v0]
      exact Nat.le_zero.mp (getD_le (fun x hx => by have := List.eq_of_mem_replicate hx; omega) i)
  | succ t ih =>
    intro ht s'
    obtain ⟨f1, c1, g1, e1, z1⟩ := ih (by omega)
    have eD : (List.range q).drop (q - (t + 1)) = (q - (t + 1)) :: (List.range q).drop (q - t) := by
      rw [List.drop_eq_getElem_cons (by simp; omega), List.getElem_range, show q - (t + 1) + 1 = q - t by omega]
    have hs : s' = bRow (.copy (cols.getD (q - (t + 1)) 0) carry) (bBackward (fun i s => bBack n (bColumn cols (i + (q - (t + 1)) + 1) (highs.getD i 0) (os.getD (q - (t + 1)) 0) carry s)) (List.range p) (bRow (.put carry 0)
        (bBackward (fun j s => bRow (.copy (cols.getD j 0) carry) (bBackward (fun i s => bBack n (bColumn cols (i + j + 1) (highs.getD i 0) (os.getD j 0) carry s)) (List.range p) (bRow (.put carry 0) s))) ((List.range q).drop (q - t)) s))) := by
      show bBackward _ _ _ = _
      rw [eD]; rfl
    rw [hs]
    clear hs s'
    generalize hS : bBackward (fun j s => bRow (.copy (cols.getD j 0) carry) (bBackward (fun i s => bBack n (bColumn cols (i + j + 1) (highs.getD i 0) (os.getD j 0) carry s)) (List.range p) (bRow (.put carry 0) s))) ((List.range q).drop (q - t)) s = s1 at *
    generalize hj : q - (t + 1) = j at *
    have hjq : j < q := by omega
    have hqt : q - t = j + 1 := by omega
    rw [hqt] at e1 z1
    have c2 := chg_row_put (z := z) carry 0 s1
    have vc2 : vals z (bRow (.put carry 0) s1) cols = vals z s1 cols := c2.valsE (bc.le c1.le) (fun c hc q => nk (by rw [← List.mem_singleton.mp q]; exact hc))
    have keep : ∀ c, c < n → c ∉ cols → c ≠ carry → C z (bRow (.put carry 0) s1) c = C z s c := fun c hc h1 h2 => by
      rw [C_put, if_neg h2]
      exact c1.same c (by omega) (fun q => by
        rcases List.mem_cons.mp q with q | q
        · exact h2 q
        · exact h1 q)
    have ho := bo _ (getD_mem (xs := os) (i := j) (by omega))
    obtain ⟨i1, i2, i3, i4, i5⟩ := inner_ok (z := z) (cols := cols) (highs := highs) (os := os) (p := p) (j := j) (carry := carry) (n := n) (s := bRow (.put carry 0) s1) (A := fun i => ones.getD i 0) (B := (vals z s os).getD j 0) f1 (bc.le (by rw [free_row]; omega)) nd hk nk (by omega)
      (fun i hi => by
        have b := bh _ (getD_mem (xs := highs) (i := i) (by omega))
        refine ⟨b.1, b.2.1, b.2.2, ?_, getD_le d1 i⟩
        rw [keep _ b.1 b.2.1 b.2.2, vals_getD (by omega), vh]
        simp only [List.getD_eq_getElem?_getD, List.getElem?_map]
        rw [List.getElem?_eq_getElem (by omega)]
        rfl)
      ⟨ho.1, ho.2.1, ho.2.2, by rw [keep _ ho.1 ho.2.1 ho.2.2, vals_getD (by omega)], getD_le do1 j⟩ (by rw [vc2]; exact g1) (by rw [C_put, if_pos rfl])
    generalize hT : bBackward (fun i s => bBack n (bColumn cols (i + j + 1) (highs.getD i 0) (os.getD j 0) carry s)) (List.range p) (bRow (.put carry 0) s1) = s2 at *
    have seg : (List.range p).map (fun i => cols.getD (i + j + 1) 0) = (cols.drop (j + 1)).take p := by
      rw [← range_getD cols (j + 1) p (by omega)]
      refine List.map_congr_left fun i _ => ?_
      rw [Nat.add_assoc]
    have mseg : ∀ c ∈ (cols.drop (j + 1)).take p, c ∈ cols := fun c hc => List.mem_of_mem_drop (List.mem_of_mem_take hc)
    rw [num_scale p (fun i => C z (bRow (.put carry 0) s1) (cols.getD (i + j + 1) 0)) (fun i => ones.getD i 0)] at i5
    have es : (List.range p).map (fun i => C z (bRow (.put carry 0) s1) (cols.getD (i + j + 1) 0)) = vals z s1 ((cols.drop (j + 1)).take p) := by
      rw [← seg]
      unfold vals
      rw [List.map_map]
      refine List.map_congr_left fun i hi => ?_
      have hi' := List.mem_range.mp hi
      rw [C_put, if_neg (fun q : cols.getD (i + j + 1) 0 = carry => nk (q ▸ getD_mem (by omega)))]
      rfl
    rw [es, ← l1, map_getD ones, ← hW, l1] at i5
    rw [seg] at i2 i3 i5
    have ccol : cols.getD j 0 ∈ cols := getD_mem (by omega)
    have c3 := chg_row_copy (z := z) (cols.getD j 0) carry s2
    have nj : cols.getD j 0 ∉ cols.drop (j + 1) := by
      intro hc
      obtain ⟨i, hi, e⟩ := List.mem_iff_getElem.mp hc
      rw [List.getElem_drop] at e
      rw [List.getD_eq_getElem?_getD, List.getElem?_eq_getElem (by omega)] at e
      have := nodup_inj nd _ _ e
      omega
    have le2 : s2.free = n := i1
    -- the segment, what lies behind it
    have v3seg : vals z (bRow (.copy (cols.getD j 0) carry) s2) ((cols.drop (j + 1)).take p) = vals z s2 ((cols.drop (j + 1)).take p) :=
      c3.valsE (fun c hc => by have := bc c (mseg c hc); omega) (fun c hc q => nj (by rw [← List.mem_singleton.mp q]; exact List.mem_of_mem_take hc))
    have restSame : vals z (bRow (.copy (cols.getD j 0) carry) s2) ((cols.drop (j + 1)).drop p) = vals z s1 ((cols.drop (j + 1)).drop p) := by
      refine List.map_congr_left fun c hc => ?_
      have hcc : c ∈ cols := List.mem_of_mem_drop (List.mem_of_mem_drop hc)
      have hb := bc c hcc
      have h1 : c ≠ cols.getD j 0 := fun q => nj (q ▸ List.mem_of_mem_drop hc)
      have h2 : c ≠ carry := fun q => nk (q ▸ hcc)
      have h3 : c ∉ (cols.drop (j + 1)).take p := fun q => by
        have nd' : (cols.drop (j + 1)).Nodup := nd.drop ..
        rw [← List.take_append_drop p (cols.drop (j + 1)), List.nodup_append] at nd'
        exact nd'.2.2 c q c hc rfl
      rw [C_copy, if_neg h1, i2.same c (by rw [free_row]; omega) (fun q => by
        rcases List.mem_cons.mp q with q | q
        · exact h2 q
        · exact h3 q), C_put, if_neg h2]
    have vj : C z (bRow (.copy (cols.getD j 0) carry) s2) (cols.getD j 0) = C z s2 carry := by rw [C_copy, if_pos rfl]
    have dj : cols.drop j = cols.getD j 0 :: cols.drop (j + 1) := by
      rw [List.drop_eq_getElem_cons (by omega), List.getD_eq_getElem?_getD, List.getElem?_eq_getElem (by omega)]
      rfl
    have dos : (vals z s os).drop j = (vals z s os).getD j 0 :: (vals z s os).drop (j + 1) := by
      rw [List.drop_eq_getElem_cons (by rw [vals_length]; omega), List.getD_eq_getElem?_getD, List.getElem?_eq_getElem (by rw [vals_length]; omega)]
      rfl
    refine ⟨by rw [free_row]; exact le2, ?_, ?_, ?_, ?_⟩
    · refine ((c1.trans (c := carry :: cols) c2 (fun _ q _ => q) (fun i q _ => by rw [List.mem_singleton.mp q]; simp)).trans (c := carry :: cols) i2 (fun _ q _ => q) (fun i q _ => ?_)).trans c3 (fun _ q _ => q) (fun i q _ => ?_)
      · rcases List.mem_cons.mp q with q | q
        · rw [q]; simp
        · exact List.mem_cons_of_mem _ (mseg i q)
      · rw [List.mem_singleton.mp q]; exact List.mem_cons_of_mem _ ccol
    · intro d hd
      obtain ⟨c, hc, rfl⟩ := List.mem_map.mp hd
      by_cases w1 : c = cols.getD j 0
      · rw [w1, vj]; exact i4
      · rw [C_copy, if_neg w1]
        by_cases w2 : c ∈ (cols.drop (j + 1)).take p
        · exact i3 _ (List.mem_map.mpr ⟨c, w2, rfl⟩)
        · have h2 : c ≠ carry := fun q => nk (q ▸ hc)
          rw [i2.same c (by have := bc c hc; rw [free_row]; omega) (fun q => by
            rcases List.mem_cons.mp q with q | q
            · exact h2 q
            · exact w2 q), C_put, if_neg h2]
          exact g1 _ (List.mem_map.mpr ⟨c, hc, rfl⟩)
    · rw [dj, dos]
      rw [← List.take_append_drop p (cols.drop (j + 1))] at e1 ⊢
      rw [vals_append, num_append, vals_length] at e1
      show num (C z (bRow (.copy (cols.getD j 0) carry) s2) (cols.getD j 0) :: vals z (bRow (.copy (cols.getD j 0) carry) s2) (_ ++ _)) = _
      have lt1 : ((cols.drop (j + 1)).take p).length = p := by simp; omega
      have lt2 : ((cols.drop (j + 1)).drop p).length = q - (j + 1) := by simp; omega
      have lt3 : ((vals z s os).drop (j + 1)).length = q - (j + 1) := by rw [List.length_drop, vals_length, lo]
      rw [vj, vals_append, v3seg, restSame, num_cons, num_append, List.length_append, vals_length, vals_length, num_cons, lt1, lt2, lt3, Nat.pow_add]
      rw [lt2] at e1
      generalize num (vals z s2 ((cols.drop (j + 1)).take p)) = X1 at *
      generalize num (vals z s1 ((cols.drop (j + 1)).take p)) = X0 at *
      generalize num (vals z s1 ((cols.drop (j + 1)).drop p)) = R at *
      generalize num ((vals z s os).drop (j + 1)) = Y at *
      generalize (vals z s os).getD j 0 = b at *
      generalize C z s2 carry = k at *
      generalize 10 ^ (q - (j + 1)) = Q at *
      generalize 10 ^ p = P at *
      have e3 : (X1 + P * k) * Q = (X0 + W * b) * Q := by rw [i5]
      rw [Nat.add_mul, Nat.add_mul] at e3
      rw [Nat.mul_add, ← e1]
      have e4 : k * (P * Q) = P * k * Q := by rw [← Nat.mul_assoc, Nat.mul_comm k P]
      have e5 : W * (b * Q) = W * b * Q := (Nat.mul_assoc _ _ _).symm
      omega
    · intro i hi
      have mi : cols.getD i 0 ∈ cols := getD_mem (by omega)
      have ni : ∀ k, k < cols.length → k ≠ i → cols.getD i 0 ≠ cols.getD k 0 := fun k hk hki e => by
        rw [List.getD_eq_getElem?_getD, List.getD_eq_getElem?_getD, List.getElem?_eq_getElem (by omega), List.getElem?_eq_getElem (by omega)] at e
        have := nodup_inj nd _ _ e
        omega
      rw [C_copy, if_neg (ni j (by omega) (by omega)), i2.same _ (by have := bc _ mi; rw [free_row]; omega) (fun q => by
        rcases List.mem_cons.mp q with q | q
        · exact nk (q ▸ mi)
        · rw [← seg] at q
          obtain ⟨k, hk, e⟩ := List.mem_map.mp q
          have := List.mem_range.mp hk
          exact ni (k + j + 1) (by omega) (by omega) e.symm), C_put, if_neg (fun q : cols.getD i 0 = carry => nk (q ▸ mi))]
      exact z1 i (by omega)
end TL
namespace TL
variable {z : S}
theorem columnsOf_ok {one other : List Nat} {s : BS} (b1 : Below s one) (b2 : Below s other) (d1 : Dg (vals z s one)) (d2 : Dg (vals z s other)) :
    Chg z [] s (bColumnsOf one other s).2 ∧ New s (bColumnsOf one other s).2 (bColumnsOf one other s).1 ∧ (bColumnsOf one other s).1.length = one.length + other.length ∧ Dg (vals z (bColumnsOf one other s).2 (bColumnsOf one other s).1) ∧
    num (vals z (bColumnsOf one other s).2 (bColumnsOf one other s).1) = num (vals z s one) * num (vals z s other) := by
  obtain ⟨c0, n0, l0, v0⟩ := noughts_ok (z := z) (one.length + other.length) s
  obtain ⟨c1, n1, l1, v1⟩ := map_new (z := z) (f := fun x => bLooked x .hup) (v := fun x => C z s x * 16) (s := (bNoughts (one.length + other.length) s).2) one (fun x hx s' c => ⟨rfl, rfl, fun i => by
    have h9 : C z s x ≤ 9 := d1 _ (List.mem_map.mpr ⟨x, hx, rfl⟩)
    rw [C_bLooked, c.C0 (b1.le c0.le x hx), c0.C0 (b1 x hx)]
    by_cases w : i = s'.free
    · rw [if_pos w, if_pos w]
      show C z s x % 16 * 16 = C z s x * 16
      rw [Nat.mod_eq_of_lt (by omega)]
    · rw [if_neg w, if_neg w]⟩)
  have ex : bColumnsOf one other s = (let c := bNoughts (one.length + other.length) s
    let h := bMap (fun x => bLooked x .hup) one c.2
    (c.1, bBackward (fun j s => bRow (.copy (c.1.getD j 0) h.2.free)
      (bBackward (fun i s => bBack (h.2.free + 1) (bColumn c.1 (i + j + 1) (h.1.getD i 0) (other.getD j 0) h.2.free s)) (List.range one.length) (bRow (.put h.2.free 0) s)))
      (List.range other.length) (bCell h.2).2)) := rfl
  rw [ex]
  simp only
  generalize bNoughts (one.length + other.length) s = q at *
  obtain ⟨cols, s1⟩ := q
  simp only at c0 n0 l0 v0 c1 n1 l1 v1 ⊢
  generalize bMap (fun x => bLooked x .hup) one s1 = q at *
  obtain ⟨highs, s2⟩ := q
  simp only at c1 n1 l1 v1 ⊢
  have c2 : Chg z [] s2 (bCell s2).2 := ⟨by rw [free_cell]; omega, fun i _ _ => C_cell s2 i⟩
  have c02 := c0.tr0 c1
  have c03 := c02.tr0 c2
  have vo : vals z (bCell s2).2 other = vals z s other := c03.vals0 b2
  have g0 := c0.le
  have g1 := c1.le
  have h := columns_loop (z := z) (cols := cols) (highs := highs) (os := other) (ones := vals z s one) (p := one.length) (q := other.length) (carry := s2.free) (n := s2.free + 1) (s := (bCell s2).2) (W := num (vals z s one)) rfl
    ((n0.hi.le c1.le).le c2.le) n0.nd (by omega) (fun q => by have := n0.hi _ q; omega) l0 l1 (by rfl)
    (fun c hc => ⟨by have := n1.hi c hc; omega, fun q => by have := n0.hi c q; have := n1.lo c hc; omega, by have := n1.hi c hc; omega⟩)
    (fun c hc => ⟨by have := b2 c hc; omega, fun q => by have := b2 c hc; have := n0.lo c q; omega, by have := b2 c hc; omega⟩)
    (vals_length _ _) d1 (by rw [c2.vals0 n1.hi, v1]; unfold vals; rw [List.map_map]; rfl) (by rw [vo]; exact d2) rfl
    (by rw [c2.vals0 (n0.hi.le c1.le), c1.vals0 n0.hi, v0]) other.length (Nat.le_refl _)
  rw [Nat.sub_self] at h
  simp only [List.drop_zero] at h
  rw [vo] at h
  obtain ⟨h1, h2, h3, h4, _⟩ := h
  exact ⟨c03.trans h2 (fun _ q _ => q) (fun i q hi => by
    rcases List.mem_cons.mp q with q | q
    · omega
    · have := n0.lo i q; omega), ⟨n0.lo, (n0.hi.le c1.le).le (by rw [h1]; omega), n0.nd⟩, l0, h3, h4⟩
theorem product_ok {f g : Form} {ds es : List Nat} {sh th : Nat} {m : Nat} (hg : g = ⟨f.packed, m, f.sg, 0⟩) (hn : 0 < f.n) (hm : 0 < m) (hnm : f.n + m ≤ 12) (h : Front z 0 f ds sh) (k : Front z f.width g es th) :
    Leaves z (bProduct f m) (keptRow ⟨f.packed, f.n + m, f.sg, 0⟩ (foldedZ ⟨f.packed, f.n + m, f.sg, 0⟩ (readZ f ds sh * readZ g es th))) (if fitsZ ⟨f.packed, f.n + m, f.sg, 0⟩ (readZ f ds sh * readZ g es th) then 0 else 1) := by
  subst hg
  obtain ⟨n1, n2, l1, l2, h32, x1, x2, x3, x4⟩ := loadTwo (g := ⟨f.packed, m, f.sg, 0⟩) hn (by omega) hm (by show m ≤ 12; omega) h k
  unfold bProduct
  simp only
  generalize bLoaded f 0 bStart = p at *
  obtain ⟨⟨one, below⟩, s1⟩ := p
  simp only at n1 n2 l1 l2 h32 x1 x2 x3 x4 ⊢
  generalize bLoaded ⟨f.packed, m, f.sg, 0⟩ f.width s1 = p at *
  obtain ⟨⟨other, beyond⟩, s2⟩ := p
  simp only at n1 n2 l1 l2 h32 x1 x2 x3 x4 ⊢
  have c1 := chg_copied (z := z) below s2
  have c2 := chg_row_add (z := z) s2.free beyond (bCopied below s2).2
  have c3 := chg_look (z := z) s2.free .low2 (bRow (.add s2.free beyond) (bCopied below s2).2)
  have c13 : Chg z [] s2 (bLook s2.free .low2 (bRow (.add s2.free beyond) (bCopied below s2).2)) :=
    (c1.trans (c := [s2.free]) (c2.trans (c := [s2.free]) c3 (fun _ q _ => q) (fun _ q _ => q)) (fun _ q _ => nomatch q) (fun _ q _ => q)).mono (fun i q hi => by have := List.mem_singleton.mp q; omega)
  have vu : C z (bLook s2.free .low2 (bRow (.add s2.free beyond) (bCopied below s2).2)) s2.free = (C z s2 below + C z s2 beyond) % 2 := by
    have b1 := n1.b1
    have b2 := n2.b1
    rw [C_look, if_pos rfl, C_add, if_pos rfl, C_bCopied, if_pos rfl, c1.C0 n2.bb, Nat.mod_eq_of_lt (by omega)]
    rfl
  rw [show (bCopied below s2).1 = s2.free from rfl]
  have f3 : (bLook s2.free .low2 (bRow (.add s2.free beyond) (bCopied below s2).2)).free = s2.free + 1 := rfl
  generalize bLook s2.free .low2 (bRow (.add s2.free beyond) (bCopied below s2).2) = s3 at *
  have n1' := n1.chg0 c13
  have n2' := n2.chg0 c13
  obtain ⟨k1, k2, k3, k4, k5⟩ := columnsOf_ok (z := z) n1'.b n2'.b n1'.dg n2'.dg
  rw [c13.vals0 n1.b, c13.vals0 n2.b] at k5
  generalize bColumnsOf one other s3 = q at *
  obtain ⟨cols, s4⟩ := q
  simp only at k1 k2 k3 k4 k5 ⊢
  have g1 := k1.le
  have vu4 : C z s4 s2.free = (C z s2 below + C z s2 beyond) % 2 := by rw [k1.C0 (by omega), vu]
  refine finish_num (f := ⟨f.packed, f.n + m, f.sg, 0⟩) (by show 0 < f.n + m; omega) hnm (N := readZ f ds sh * readZ ⟨f.packed, m, f.sg, 0⟩ es th) ⟨k2.hi, k2.nd, fun c hc => by have := k2.lo c hc; omega, k4, by omega, by omega, by rw [vu4]; omega, ?_⟩ (by omega)
  rw [vu4, k5, n1.val, n2.val]
  have b1 := n1.b1
  have b2 := n2.b1
  generalize num (vals z s2 one) = X
  generalize num (vals z s2 other) = Y
  have e1 : C z s2 below = 0 ∨ C z s2 below = 1 := by omega
  have e2 : C z s2 beyond = 0 ∨ C z s2 beyond = 1 := by omega
  rcases e1 with e1 | e1 <;> rcases e2 with e2 | e2 <;> rw [e1, e2] <;> simp [Int.mul_neg, Int.neg_mul]
end TL
namespace TL
/-! ### halves and duties, side by side -/
inductive Du where
  | ahead | figure | zone | sign
  deriving DecidableEq, Repr
def spreadP (e : Bool) (sh : Nat) : List Nat → List (Nat × Du)
  | [] => []
  | [d] => [if e then (sh, .sign) else (15, .zone), (d, .figure)]
  | d :: d' :: ds => (15, .zone) :: (d, .figure) :: spreadP e sh (d' :: ds)
def pairsL (f : Form) (ds : List Nat) (sh : Nat) : List (Nat × Du) :=
  if f.packed then List.replicate f.ahead (0, .ahead) ++ ds.map (fun d => (d, Du.figure)) ++ (if f.sg = .end_ then [(sh, .sign)] else [])
  else spreadP (decide (f.sg = .end_)) sh ds
def hsL (f : Form) (ds : List Nat) (sh : Nat) : List Nat := (pairsL f ds sh).map (·.1)
def dueOf (f : Form) (ds : List Nat) (sh : Nat) : List Du := (pairsL f ds sh).map (·.2)
def dueL (f : Form) : List Du := dueOf f (List.replicate f.n 0) 0
theorem spreadP_snd (e : Bool) : ∀ (ds es : List Nat) (sh th : Nat), ds.length = es.length → (spreadP e sh ds).map (·.2) = (spreadP e th es).map (·.2)
  | [], [], _, _, _ => rfl
  | [d], [d'], _, _, _ => by cases e <;> rfl
  | d :: d2 :: ds, d' :: d3 :: es, sh, th, h => by
    have := spreadP_snd e (d2 :: ds) (d3 :: es) sh th (by simpa using h)
    simp only [spreadP, List.map_cons, this]
  | [], _ :: _, _, _, h => by simp at h
  | _ :: _, [], _, _, h => by simp at h
  | [_], _ :: _ :: _, _, _, h => by simp at h
  | _ :: _ :: _, [_], _, _, h => by simp at h
theorem dueOf_is {f : Form} {ds : List Nat} {sh : Nat} (h : ds.length = f.n) : dueOf f ds sh = dueL f := by
  unfold dueL dueOf pairsL
  split
  · simp only [List.map_append, List.map_replicate, List.map_map]
    congr 1
    · congr 1
      rw [← h]
      apply List.ext_getElem?
      intro i
      simp only [List.getElem?_map, List.getElem?_replicate]
      by_cases hi : i < ds.length
      · simp [hi]
      · simp [hi]
    · split <;> rfl
  · exact spreadP_snd _ _ _ _ _ (by rw [h, List.length_replicate])
theorem spreadP_length (e : Bool) (sh : Nat) : ∀ ds : List Nat, (spreadP e sh ds).length = 2 * ds.length
  | [] => rfl
  | [d] => rfl
  | d :: d' :: ds => by
    simp only [spreadP, List.length_cons]
    rw [spreadP_length e sh (d' :: ds), List.length_cons]
    omega
theorem hsL_packed {f : Form} {ds : List Nat} {sh : Nat} (h : f.packed = true) : hsL f ds sh = packH f ds sh := by
  unfold hsL pairsL packH
  rw [if_pos h]
  simp only [List.map_append, List.map_replicate, List.map_map]
  congr 1
  · congr 1
    show ds.map id = ds
    exact List.map_id ds
  · split <;> rfl
theorem hsL_spread {f : Form} {ds : List Nat} {sh : Nat} (h : f.packed = false) : hsL f ds sh = (spreadP (decide (f.sg = .end_)) sh ds).map (·.1) := by
  unfold hsL pairsL
  rw [h]
  rfl
theorem hsL_length {f : Form} {ds : List Nat} {sh : Nat} (h : ds.length = f.n) : (hsL f ds sh).length = 2 * f.width := by
  cases hp : f.packed
  · rw [hsL_spread hp, List.length_map, spreadP_length, width_spread hp, h]
  · rw [hsL_packed hp, packH_length h, width_packed hp]
    exact halves_even f
theorem due_length {f : Form} {ds : List Nat} {sh : Nat} (h : ds.length = f.n) : (dueL f).length = (hsL f ds sh).length := by
  rw [← dueOf_is (sh := sh) h]
  unfold dueOf hsL
  rw [List.length_map, List.length_map]
/-- a half as it must be -/
def Du.ok : Du → Nat → Bool
  | .ahead, h => h == 0
  | .figure, h => decide (h < 10)
  | .zone, h => h == 15
  | .sign, h => decide (9 < h)
structure Good (f : Form) (ds : List Nat) (sh : Nat) : Prop where
  len : ds.length = f.n
  dg : Dg ds
  s1 : 9 < sh
  s2 : sh ≤ 15
theorem spreadP_ok (e : Bool) {sh : Nat} (h : 9 < sh) : ∀ ds : List Nat, Dg ds → ∀ p ∈ spreadP e sh ds, p.2.ok p.1 = true
  | [], _, p, hp => by simp [spreadP] at hp
  | [d], hd, p, hp => by
    have := hd d (by simp)
    cases e
    · simp [spreadP] at hp
      rcases hp with rfl | rfl
      · rfl
      · simp [Du.ok]; omega
    · simp [spreadP] at hp
      rcases hp with rfl | rfl
      · simp [Du.ok]; omega
      · simp [Du.ok]; omega
  | d :: d' :: ds, hd, p, hp => by
    have := hd d (by simp)
    simp only [spreadP, List.mem_cons] at hp
    rcases hp with rfl | rfl | hp
    · rfl
    · simp [Du.ok]; omega
    · exact spreadP_ok e h (d' :: ds) (fun x hx => hd x (by simp at hx ⊢; right; exact hx)) p hp
theorem pairs_ok {f : Form} {ds : List Nat} {sh : Nat} (g : Good f ds sh) : ∀ p ∈ pairsL f ds sh, p.2.ok p.1 = true := by
  intro p hp
  unfold pairsL at hp
  split at hp
  · rcases List.mem_append.mp hp with hp | hp
    · rcases List.mem_append.mp hp with hp | hp
      · rw [List.eq_of_mem_replicate hp]; rfl
      · obtain ⟨d, hd, rfl⟩ := List.mem_map.mp hp
        have := g.dg d hd
        simp [Du.ok]; omega
    · split at hp
      · have := List.mem_singleton.mp hp
        subst this
        have := g.s1
        simp [Du.ok]; omega
      · cases hp
  · exact spreadP_ok _ g.s1 ds g.dg p hp
theorem hs_le {f : Form} {ds : List Nat} {sh : Nat} (g : Good f ds sh) : ∀ x ∈ hsL f ds sh, x ≤ 15 := by
  intro x hx
  obtain ⟨p, hp, rfl⟩ := List.mem_map.mp hx
  have h0 := g.s2
  unfold pairsL at hp
  split at hp
  · rcases List.mem_append.mp hp with hp | hp
    · rcases List.mem_append.mp hp with hp | hp
      · rw [List.eq_of_mem_replicate hp]; omega
      · obtain ⟨d, hd, rfl⟩ := List.mem_map.mp hp
        have := g.dg d hd
        dsimp only; omega
    · split at hp
      · have := List.mem_singleton.mp hp
        subst this
        exact h0
      · cases hp
  · suffices h : ∀ es : List Nat, Dg es → ∀ p ∈ spreadP (decide (f.sg = .end_)) sh es, p.1 ≤ 15 from h ds g.dg p hp
    intro es
    induction es with
    | nil => intro _ p hp; simp [spreadP] at hp
    | cons d es ih =>
      intro hd p hp
      have h9 := hd d (by simp)
      cases es with
      | nil =>
        by_cases he : f.sg = .end_
        · simp [spreadP, he] at hp
          rcases hp with rfl | rfl
          · exact h0
          · dsimp only; omega
        · simp [spreadP, he] at hp
          rcases hp with rfl | rfl
          · dsimp only; omega
          · dsimp only; omega
      | cons d' es =>
        simp only [spreadP, List.mem_cons] at hp
        rcases hp with rfl | rfl | hp
        · dsimp only; omega
        · dsimp only; omega
        · exact ih (fun x hx => hd x (by simp at hx ⊢; right; exact hx)) p hp
/-! ### halves to bytes and back -/
def bytes2 : List Nat → List Nat
  | a :: b :: r => (16 * a + b) :: bytes2 r
  | _ => []
def split2 (bs : List Nat) : List Nat := bs.flatMap fun b => [b / 16, b % 16]
theorem split_bytes : ∀ (hs : List Nat), (∀ x ∈ hs, x ≤ 15) → hs.length % 2 = 0 → split2 (bytes2 hs) = hs
  | [], _, _ => rfl
  | [_], _, h => by simp at h
  | a :: b :: r, hx, h => by
    have ha := hx a (by simp)
    have hb := hx b (by simp)
    have ih := split_bytes r (fun x hx' => hx x (by simp [hx'])) (by simp at h; omega)
    unfold split2 at ih ⊢
    simp only [bytes2, List.flatMap_cons, ih]
    rw [div_lo (by omega), mod_lo (by omega)]
    rfl
theorem bytes2_range : ∀ (hs : List Nat), (List.range (hs.length / 2)).map (fun j => 16 * hs.getD (2 * j) 0 + hs.getD (2 * j + 1) 0) = bytes2 hs
  | [] => rfl
  | [_] => by simp [bytes2]
  | a :: b :: r => by
    have ih := bytes2_range r
    rw [show (a :: b :: r).length / 2 = r.length / 2 + 1 by simp; omega, List.range_succ_eq_map, List.map_cons, List.map_map, bytes2, ← ih]
    congr 1
theorem bytes2_le : ∀ (hs : List Nat), (∀ x ∈ hs, x ≤ 15) → ∀ x ∈ bytes2 hs, x ≤ 255
  | [], _, x, h => by simp [bytes2] at h
  | [_], _, x, h => by simp [bytes2] at h
  | a :: b :: r, hx, x, h => by
    have ha := hx a (by simp)
    have hb := hx b (by simp)
    simp only [bytes2, List.mem_cons] at h
    rcases h with rfl | h
    · omega
    · exact bytes2_le r (fun y hy => hx y (by simp [hy])) x h
theorem spread_bytes (e : Bool) (sh : Nat) : ∀ (ds : List Nat), bytes2 ((spreadP e sh ds).map (·.1)) = (List.range ds.length).map fun j => 16 * (if j + 1 < ds.length ∨ e = false then 15 else sh) + ds.getD j 0
  | [] => rfl
  | [d] => by cases e <;> simp [spreadP, bytes2]
  | d :: d' :: ds => by
    have ih := spread_bytes e sh (d' :: ds)
    rw [show (d :: d' :: ds).length = (d' :: ds).length + 1 from rfl, List.range_succ_eq_map, List.map_cons, List.map_map]
    simp only [spreadP, List.map_cons, bytes2]
    rw [ih]
    congr 1 <;> simp
theorem rowOf_bytes {f : Form} {ds : List Nat} {sh : Nat} (h : ds.length = f.n) : rowOf f ds sh = bytes2 (hsL f ds sh) := by
  cases hp : f.packed
  · rw [hsL_spread hp, spread_bytes, h]
    unfold rowOf
    rw [width_spread hp]
    apply List.map_congr_left
    intro j _
    unfold byteOf
    rw [hp]
    simp
  · rw [hsL_packed hp, ← bytes2_range, packH_length h]
    unfold rowOf
    rw [width_packed hp]
    apply List.map_congr_left
    intro j _
    unfold byteOf
    rw [if_pos hp]
/-! ### the figures among the halves -/
def figs (ps : List (Nat × Du)) : List Nat := ps.filterMap fun p => if p.2 = .figure then some p.1 else none
theorem figs_spread (e : Bool) (sh : Nat) : ∀ ds : List Nat, figs (spreadP e sh ds) = ds
  | [] => rfl
  | [d] => by cases e <;> rfl
  | d :: d' :: ds => by
    have ih := figs_spread e sh (d' :: ds)
    unfold figs at ih ⊢
    simp [spreadP, ih]
theorem figs_pairs (f : Form) (ds : List Nat) (sh : Nat) : figs (pairsL f ds sh) = ds := by
  unfold pairsL
  split
  · unfold figs
    rw [List.filterMap_append, List.filterMap_append]
    have e1 : List.filterMap (fun p : Nat × Du => if p.2 = .figure then some p.1 else none) (List.replicate f.ahead (0, Du.ahead)) = [] := by
      rw [List.filterMap_eq_nil_iff]
      intro p hp
      rw [List.eq_of_mem_replicate hp]
      rfl
    have e2 : List.filterMap (fun p : Nat × Du => if p.2 = .figure then some p.1 else none) (ds.map fun d => (d, Du.figure)) = ds := by
      rw [List.filterMap_map]
      exact List.filterMap_some
    rw [e1, e2]
    split <;> simp
  · exact figs_spread _ _ _
/-- where the sign stands -/
def signAt (f : Form) : Nat := (dueL f).idxOf .sign
theorem spread_sign (sh : Nat) : ∀ ds : List Nat, ds ≠ [] → ((spreadP true sh ds).map (·.2)).idxOf .sign < 2 * ds.length ∧ ((spreadP true sh ds).map (·.1)).getD (((spreadP true sh ds).map (·.2)).idxOf .sign) 0 = sh
  | [], h => absurd rfl h
  | [d], _ => ⟨by simp [spreadP, List.idxOf_cons], by simp [spreadP, List.idxOf_cons]⟩
  | d :: d' :: ds, _ => by
    obtain ⟨i1, i2⟩ := spread_sign sh (d' :: ds) (by simp)
    have e : ((spreadP true sh (d :: d' :: ds)).map (·.2)).idxOf .sign = ((spreadP true sh (d' :: ds)).map (·.2)).idxOf .sign + 2 := by
      simp only [spreadP, List.map_cons, List.idxOf_cons]
      rfl
    rw [e]
    refine ⟨by simp at i1 ⊢; omega, ?_⟩
    simp only [spreadP, List.map_cons, List.getD_cons_succ]
    exact i2
theorem sign_at {f : Form} {ds : List Nat} {sh : Nat} (h : ds.length = f.n) (hn : 0 < f.n) (he : f.sg = .end_) : signAt f < (hsL f ds sh).length ∧ (hsL f ds sh).getD (signAt f) 0 = sh ∧ Du.sign ∈ dueL f := by
  have hd : dueL f = dueOf f ds sh := (dueOf_is h).symm
  cases hp : f.packed
  · have e1 : dueOf f ds sh = (spreadP true sh ds).map (·.2) := by
      unfold dueOf pairsL
      rw [hp, he]
      rfl
    have e2 : hsL f ds sh = (spreadP true sh ds).map (·.1) := by
      rw [hsL_spread hp, he]
      rfl
    obtain ⟨i1, i2⟩ := spread_sign sh ds (fun z => by rw [z] at h; simp at h; omega)
    unfold signAt
    rw [hd, e1, e2]
    refine ⟨by rw [List.length_map, spreadP_length]; exact i1, i2, ?_⟩
    apply List.idxOf_lt_length_iff.mp
    rw [List.length_map, spreadP_length]
    exact i1
  · have e1 : dueOf f ds sh = (List.replicate f.ahead Du.ahead ++ List.replicate f.n Du.figure) ++ [.sign] := by
      unfold dueOf pairsL
      rw [hp, he]
      simp only [if_true, List.map_append, List.map_replicate, List.map_map]
      congr 1
      congr 1
      rw [← h]
      apply List.ext_getElem?
      intro i
      simp only [List.getElem?_map, List.getElem?_replicate]
      by_cases hi : i < ds.length
      · simp [hi]
      · simp [hi]
    have e2 : signAt f = f.ahead + f.n := by
      unfold signAt
      rw [hd, e1, List.idxOf_append]
      have nm : ¬ Du.sign ∈ List.replicate f.ahead Du.ahead ++ List.replicate f.n Du.figure := by
        intro q
        rcases List.mem_append.mp q with q | q
        · exact absurd (List.eq_of_mem_replicate q) (by decide)
        · exact absurd (List.eq_of_mem_replicate q) (by decide)
      rw [if_neg nm]
      simp
    have e3 : f.halves - 1 = signAt f := by
      rw [e2]
      unfold Form.halves Form.ahead Form.e
      rw [if_pos he]
      omega
    rw [hsL_packed hp]
    refine ⟨by rw [packH_length h, ← e3]; unfold Form.halves Form.e; rw [if_pos he]; omega, by rw [← e3]; exact packH_sign h he, ?_⟩
    rw [hd, e1]
    simp
end TL
namespace TL
theorem spread_flat (sh : Nat) : ∀ ds : List Nat, spreadP false sh ds = ds.flatMap fun d => [(15, Du.zone), (d, Du.figure)]
  | [] => rfl
  | [d] => rfl
  | d :: d' :: ds => by
    have ih := spread_flat sh (d' :: ds)
    rw [List.flatMap_cons, ← ih]
    rfl
theorem spread_set (sh : Nat) : ∀ ds : List Nat, ds ≠ [] → spreadP true sh ds = (spreadP false sh ds).set (2 * ds.length - 2) (sh, .sign)
  | [], h => absurd rfl h
  | [d], _ => rfl
  | d :: d' :: ds, _ => by
    have ih := spread_set sh (d' :: ds) (by simp)
    rw [show 2 * (d :: d' :: ds).length - 2 = (2 * (d' :: ds).length - 2) + 2 by simp; omega]
    simp only [spreadP, List.set_cons_succ]
    rw [ih]
theorem spread_due (sh : Nat) (ds : List Nat) : (spreadP false sh ds).map (·.2) = (List.replicate ds.length [Du.zone, Du.figure]).flatten := by
  rw [spread_flat]
  induction ds with
  | nil => rfl
  | cons d ds ih => rw [List.flatMap_cons, List.map_append, ih]; rfl
theorem spread_hs (sh : Nat) (ds : List Nat) : (spreadP false sh ds).map (·.1) = ds.flatMap fun d => [15, d] := by
  rw [spread_flat]
  induction ds with
  | nil => rfl
  | cons d ds ih => rw [List.flatMap_cons, List.map_append, ih]; rfl
theorem packed_due {f : Form} (h : f.packed = true) : dueL f = List.replicate f.ahead Du.ahead ++ List.replicate f.n Du.figure ++ (if f.sg = .end_ then [Du.sign] else []) := by
  unfold dueL dueOf pairsL
  rw [if_pos h]
  simp only [List.map_append, List.map_replicate, List.map_map]
  congr 1
  split <;> rfl
end TL
set_option linter.all false
namespace TL
/-! ### the machine on a list of 256 cells -/
def RowOk : SR → Prop
  | .put a k => a < 256 ∧ k < 256
  | .copy a b => a < 256 ∧ b < 256
  | .add a b => a < 256 ∧ b < 256
  | .and_ a b => a < 256 ∧ b < 256
  | .or_ a b => a < 256 ∧ b < 256
  | .look a _ => a < 256
  | .right a => a < 256
structure Rel (cs : List Nat) (s : S) : Prop where
  len : cs.length = 256
  at_ : ∀ i, i < 256 → cs[i]? = some (s.c i)
  low : ∀ i, i < 256 → s.c i < 256
  mark : s.m ≤ 1
theorem Rel.set {cs : List Nat} {s : S} (h : Rel cs s) {a v m : Nat} (ha : a < 256) (hv : v < 256) (hm : m ≤ 1) : Rel (cs.set a v) ⟨cset s.c a v, m⟩ := by
  refine ⟨by rw [List.length_set]; exact h.len, fun i hi => ?_, fun i hi => ?_, hm⟩
  · by_cases e : i = a
    · subst e
      rw [List.getElem?_set_self (by rw [h.len]; exact hi)]
      show some v = some (cset s.c i v i)
      rw [cset_same]
    · rw [List.getElem?_set_ne (Ne.symm e), h.at_ i hi]
      show some (s.c i) = some (cset s.c a v i)
      rw [cset_ne e]
  · show cset s.c a v i < 256
    by_cases e : i = a
    · subst e
      rw [cset_same]
      exact hv
    · rw [cset_ne e]
      exact h.low i hi
theorem ap_low : ∀ (w : Wo) (x : Nat), x < 256 → w.ap x < 256 := by
  intro w x hx
  have h : ∀ x : Fin 256, w.ap x.val < 256 := by cases w <;> decide +kernel
  exact h ⟨x, hx⟩
theorem Rel.step {cs : List Nat} {s : S} (h : Rel cs s) : ∀ r : SR, RowOk r → ∃ a v m, a < 256 ∧ v < 256 ∧ m ≤ 1 ∧ TL.step r s = ⟨cset s.c a v, m⟩ ∧ Rel (cs.set a v) (TL.step r s)
  | .put a k, ⟨ha, hk⟩ => ⟨a, k, s.m, ha, hk, h.mark, rfl, h.set ha hk h.mark⟩
  | .copy a b, ⟨ha, hb⟩ => ⟨a, s.c b, s.m, ha, h.low b hb, h.mark, rfl, h.set ha (h.low b hb) h.mark⟩
  | .add a b, ⟨ha, hb⟩ => by
    have h1 := h.low a ha
    have h2 := h.low b hb
    have h3 : (s.c a + s.c b) % 256 < 256 := Nat.mod_lt _ (by decide)
    have h4 : (s.c a + s.c b) / 256 ≤ 1 := by omega
    exact ⟨a, _, _, ha, h3, h4, rfl, h.set ha h3 h4⟩
  | .and_ a b, ⟨ha, hb⟩ => by
    have h3 : s.c a &&& s.c b < 256 := Nat.lt_of_le_of_lt Nat.and_le_left (h.low a ha)
    exact ⟨a, _, _, ha, h3, h.mark, rfl, h.set ha h3 h.mark⟩
  | .or_ a b, ⟨ha, hb⟩ => by
    have h3 : s.c a ||| s.c b < 256 := Nat.or_lt_two_pow (n := 8) (h.low a ha) (h.low b hb)
    exact ⟨a, _, _, ha, h3, h.mark, rfl, h.set ha h3 h.mark⟩
  | .look a w, ha => by
    have h3 := ap_low w (s.c a) (h.low a ha)
    exact ⟨a, _, _, ha, h3, h.mark, rfl, h.set ha h3 h.mark⟩
  | .right a, ha => by
    have h1 := h.low a ha
    have h2 := h.mark
    have h3 : (s.c a + 256 * s.m) / 2 < 256 := by omega
    have h4 : (s.c a + 256 * s.m) % 2 ≤ 1 := by omega
    exact ⟨a, _, _, ha, h3, h4, rfl, h.set ha h3 h4⟩
end TL
set_option linter.all false
set_option maxHeartbeats 1000000
namespace TL
/-! ### all rows stay within the machine's 256 cells -/
structure In (s : BS) (n : Nat) : Prop where
  rows : ∀ r ∈ s.rows, RowOk r
  free : s.free ≤ n
theorem le256 {a b : Nat} (h : a ≤ b) (k : b < 256) : a < 256 := Nat.lt_of_le_of_lt h k
abbrev Lo (cs : List Nat) : Prop := ∀ c ∈ cs, c < 256
variable {s : BS} {n : Nat}
theorem In.mono {m : Nat} (h : In s n) (k : n ≤ m) : In s m := ⟨h.rows, Nat.le_trans h.free k⟩
theorem In.row {r : SR} (h : In s n) (k : RowOk r) : In (bRow r s) n := ⟨fun q hq => by
  rcases List.mem_append.mp hq with hq | hq
  · exact h.rows q hq
  · rw [List.mem_singleton.mp hq]; exact k, h.free⟩
theorem In.cell (h : In s n) : In (bCell s).2 (n + 1) := ⟨h.rows, Nat.succ_le_succ h.free⟩
theorem In.look {c : Nat} {w : Wo} (h : In s n) (hc : c < 256) : In (bLook c w s) n := h.row (r := .look c w) hc
theorem In.put {k : Nat} (h : In s n) (hn : n < 256) (hk : k < 256) : In (bPut k s).2 (n + 1) ∧ (bPut k s).1 ≤ n :=
  ⟨h.cell.row (r := .put s.free k) ⟨Nat.lt_of_le_of_lt h.free hn, hk⟩, h.free⟩
theorem In.copied {c : Nat} (h : In s n) (hn : n < 256) (hc : c < 256) : In (bCopied c s).2 (n + 1) ∧ (bCopied c s).1 ≤ n :=
  ⟨h.cell.row (r := .copy s.free c) ⟨Nat.lt_of_le_of_lt h.free hn, hc⟩, h.free⟩
theorem In.looked {c : Nat} {w : Wo} (h : In s n) (hn : n < 256) (hc : c < 256) : In (bLooked c w s).2 (n + 1) ∧ (bLooked c w s).1 ≤ n := by
  obtain ⟨h1, h2⟩ := h.copied hn hc
  exact ⟨h1.look (by omega), h2⟩
theorem In.mapA {α : Type} {f : α → BS → Nat × BS} : ∀ (xs : List α) (acc : List Nat) (s : BS) (n : Nat), (∀ x ∈ xs, ∀ s m, In s m → m < 256 → In (f x s).2 (m + 1) ∧ (f x s).1 ≤ m) → In s n → Lo acc → n + xs.length ≤ 256 →
    In (xs.foldl (fun p x => (p.1 ++ [(f x p.2).1], (f x p.2).2)) (acc, s)).2 (n + xs.length) ∧ Lo (xs.foldl (fun p x => (p.1 ++ [(f x p.2).1], (f x p.2).2)) (acc, s)).1 ∧ (xs.foldl (fun p x => (p.1 ++ [(f x p.2).1], (f x p.2).2)) (acc, s)).1.length = acc.length + xs.length
  | [], acc, s, n, _, h, ha, _ => ⟨h, ha, rfl⟩
  | x :: xs, acc, s, n, hf, h, ha, hn => by
    rw [List.length_cons] at hn
    obtain ⟨h1, h2⟩ := hf x (by simp) s n h (by omega)
    obtain ⟨q1, q2, q3⟩ := In.mapA xs (acc ++ [(f x s).1]) (f x s).2 (n + 1) (fun y hy => hf y (by simp [hy])) h1 (fun c hc => by
      rcases List.mem_append.mp hc with hc | hc
      · exact ha c hc
      · rw [List.mem_singleton.mp hc]; omega) (by omega)
    rw [List.foldl_cons, List.length_cons]
    refine ⟨?_, q2, ?_⟩
    · rw [show n + (xs.length + 1) = n + 1 + xs.length by omega]; exact q1
    · rw [q3, List.length_append, List.length_singleton]; omega
theorem In.map {α : Type} {f : α → BS → Nat × BS} {xs : List α} (h : In s n) (hf : ∀ x ∈ xs, ∀ s m, In s m → m < 256 → In (f x s).2 (m + 1) ∧ (f x s).1 ≤ m) (hn : n + xs.length ≤ 256) :
    In (bMap f xs s).2 (n + xs.length) ∧ Lo (bMap f xs s).1 ∧ (bMap f xs s).1.length = xs.length := by
  obtain ⟨h1, h2, h3⟩ := In.mapA xs [] s n hf h (fun c hc => nomatch hc) hn
  exact ⟨h1, h2, h3.trans (by simp)⟩
theorem In.each {α : Type} {f : α → BS → BS} {n : Nat} : ∀ {xs : List α} {s : BS}, In s n → (∀ x ∈ xs, ∀ s, In s n → In (f x s) n) → In (bEach f xs s) n
  | [], _, h, _ => h
  | x :: xs, s, h, hf => In.each (s := f x s) (hf x (by simp) s h) fun y hy => hf y (by simp [hy])
theorem In.eachG {α : Type} {f : α → BS → BS} : ∀ {xs : List α} {s : BS} {n : Nat}, In s n → (∀ x ∈ xs, ∀ s m, In s m → m < 256 → In (f x s) (m + 1)) → n + xs.length ≤ 256 → In (bEach f xs s) (n + xs.length)
  | [], _, _, h, _, _ => h
  | x :: xs, s, n, h, hf, hn => by
    rw [List.length_cons] at hn ⊢
    have := In.eachG (xs := xs) (s := f x s) (n := n + 1) (hf x (by simp) s n h (by omega)) (fun y hy => hf y (by simp [hy])) (by omega)
    rw [show n + (xs.length + 1) = n + 1 + xs.length by omega]
    exact this
theorem In.back {α : Type} {f : α → BS → BS} {n : Nat} : ∀ {xs : List α} {s : BS}, In s n → (∀ x ∈ xs, ∀ s, In s n → In (f x s) n) → In (bBackward f xs s) n
  | [], _, h, _ => h
  | x :: xs, s, h, hf => hf x (by simp) _ (In.back (xs := xs) h fun y hy => hf y (by simp [hy]))
theorem Lo.getD {cs : List Nat} (h : Lo cs) (i : Nat) : cs.getD i 0 < 256 := by
  rw [List.getD_eq_getElem?_getD]
  cases q : cs[i]? with
  | none => decide
  | some c => exact h c (List.mem_of_getElem? q)
theorem Lo.app {a b : List Nat} (h : Lo a) (k : Lo b) : Lo (a ++ b) := fun c hc => by
  rcases List.mem_append.mp hc with hc | hc
  · exact h c hc
  · exact k c hc
theorem In.noughts {k : Nat} (h : In s n) (hn : n + k ≤ 256) : In (bNoughts k s).2 (n + k) ∧ Lo (bNoughts k s).1 ∧ (bNoughts k s).1.length = k := by
  have := h.map (f := fun _ => bPut 0) (xs := List.range k) (fun _ _ s m hs hm => hs.put hm (by decide)) (by rw [List.length_range]; exact hn)
  rw [List.length_range] at this
  exact this
theorem In.taken {cs : List Nat} (h : In s n) (hc : Lo cs) (hn : n + cs.length ≤ 256) : In (bTaken cs s).2 (n + cs.length) ∧ Lo (bTaken cs s).1 ∧ (bTaken cs s).1.length = cs.length :=
  h.map (fun x hx s m hs hm => hs.copied hm (hc x hx)) hn
theorem In.anyOf {cs : List Nat} (h : In s n) (hc : Lo cs) (hn : n < 256) : In (bAnyOf cs s).2 (n + 1) ∧ (bAnyOf cs s).1 ≤ n := by
  obtain ⟨h1, h2⟩ := h.put (k := 0) hn (by decide)
  have l : (bPut 0 s).1 < 256 := by omega
  exact ⟨(h1.each (f := fun c => bRow (.or_ (bPut 0 s).1 c)) fun c hc' s hs => hs.row ⟨l, hc c hc'⟩).look l, h2⟩
theorem In.both {a b : Nat} (h : In s n) (ha : a < 256) (hb : b < 256) (hn : n < 256) : In (bBoth a b s).2 (n + 1) ∧ (bBoth a b s).1 ≤ n := by
  obtain ⟨h1, h2⟩ := h.copied hn ha
  exact ⟨h1.row (r := .and_ (bCopied a s).1 b) ⟨by omega, hb⟩, h2⟩
theorem In.carried {a b : Nat} (h : In s n) (ha : a < 256) (hb : b < 256) : In (bCarried a b s) n :=
  (((h.row (r := .add a b) ⟨ha, hb⟩).row (r := .copy b a) ⟨hb, ha⟩).look hb).look ha
theorem In.addTo {fs os : List Nat} {c : Nat} (h : In s n) (hf : Lo fs) (ho : Lo os) (hc : c < 256) : In (bAddTo fs os c s) n :=
  h.back fun p hp s hs => by
    have := List.of_mem_zip (a := p.1) (b := p.2) hp
    exact (hs.row (r := .add p.1 p.2) ⟨hf _ this.1, ho _ this.2⟩).carried (hf _ this.1) hc
theorem In.turnBy {fs : List Nat} {c : Nat} (h : In s n) (hf : Lo fs) (hc : c < 256) (hn : n + 2 ≤ 256) : In (bTurnBy fs c s) (n + 2) := by
  obtain ⟨h1, h2⟩ := h.looked (w := .tenOr) (by omega) hc
  obtain ⟨h3, h4⟩ := h1.copied (by omega) hc
  exact h3.back fun x hx s hs => ((hs.row (r := .add x (bLooked c .tenOr _).1) ⟨hf x hx, by omega⟩).look (hf x hx)).carried (hf x hx) (by omega)
theorem In.loaded {f : Form} {a : Nat} (h : In s n) (hf : f.n ≤ 12) (ha : a ≤ 100) (hn : n + 15 ≤ 256) : In (bLoaded f a s).2 (n + 15) ∧ Lo (bLoaded f a s).1.1 ∧ (bLoaded f a s).1.2 < 256 ∧ (bLoaded f a s).1.1.length = f.n := by
  have w1 := width_le f hf
  have av : f.ahead ≤ 1 := by unfold Form.ahead; omega
  have m := h.map (f := bLoadFig f a) (xs := List.range f.n) (fun k hk s m hs hm => by
    have := List.mem_range.mp hk
    unfold bLoadFig
    split
    · exact hs.looked hm (by omega)
    · exact hs.looked hm (by omega)) (by rw [List.length_range]; omega)
  rw [List.length_range] at m
  unfold bLoaded
  simp only
  generalize bMap (bLoadFig f a) (List.range f.n) s = p at *
  obtain ⟨m1, m2, m3⟩ := m
  cases f.sg with
  | none =>
    obtain ⟨h1, h2⟩ := m1.put (k := 0) (by omega) (by decide)
    exact ⟨h1.mono (by omega), m2, le256 h2 (by omega), m3⟩
  | tens =>
    obtain ⟨h1, h2⟩ := m1.looked (w := .five) (by omega) (m2.getD 0)
    exact ⟨(h1.turnBy m2 (le256 h2 (by omega)) (by omega)).mono (by omega), m2, le256 h2 (by omega), m3⟩
  | end_ =>
    obtain ⟨h1, h2⟩ := m1.copied (c := a + f.width - 1) (by omega) (by omega)
    have h3 := le256 h2 (by omega)
    refine ⟨?_, m2, h3, m3⟩
    show In (bLook _ _ (if f.packed = true then _ else _)) _
    split
    · exact (h1.look h3).mono (by omega)
    · exact ((h1.look h3).look h3).mono (by omega)
theorem In.joined {a b c : Nat} (h : In s n) (ha : a < 256) (hb : b < 256) (hc : c < 256) (hn : n < 256) : In (bJoined a b c s) (n + 1) := by
  obtain ⟨h1, h2⟩ := h.looked (w := .hup) hn ha
  exact (h1.row (r := .or_ (bLooked a .hup s).1 b) ⟨by omega, hb⟩).row (r := .copy c (bLooked a .hup s).1) ⟨hc, by omega⟩
theorem In.stored {f : Form} {fs : List Nat} {b a : Nat} (h : In s n) (hf : f.n ≤ 12) (hl : Lo fs) (hb : b < 256) (ha : a ≤ 100) (hn : n + 16 ≤ 256) : In (bStored f fs b a s) (n + 16) := by
  obtain ⟨h1, h2⟩ := h.put (k := 12) (by omega) (by decide)
  have h3 := h1.row (r := .add (bPut 12 s).1 b) ⟨by omega, hb⟩
  have av : f.ahead ≤ 1 := by unfold Form.ahead; omega
  have hv : f.halves / 2 ≤ 7 := by
    unfold Form.halves Form.e
    split <;> omega
  unfold bStored
  simp only
  split
  · obtain ⟨q1, q2, q3⟩ := h3.noughts (k := f.ahead) (by omega)
    have hs : Lo ((bNoughts f.ahead (bRow (.add (bPut 12 s).1 b) (bPut 12 s).2)).1 ++ fs ++ (if f.sg = .end_ then [(bPut 12 s).1] else [])) := (q2.app hl).app (by
      split
      · intro c hc; rw [List.mem_singleton.mp hc]; omega
      · intro c hc; cases hc)
    have := q1.eachG (f := bStorePacked ((bNoughts f.ahead (bRow (.add (bPut 12 s).1 b) (bPut 12 s).2)).1 ++ fs ++ (if f.sg = .end_ then [(bPut 12 s).1] else [])) a) (xs := List.range (f.halves / 2)) (fun j hj s m hs' hm => by
      have := List.mem_range.mp hj
      exact hs'.joined (hs.getD _) (hs.getD _) (by omega) hm) (by rw [List.length_range]; omega)
    rw [List.length_range] at this
    exact this.mono (by omega)
  · obtain ⟨z1, z2⟩ := h3.put (k := 240) (by omega) (by decide)
    have := z1.eachG (f := bStoreSpread f fs (bPut 12 s).1 (bPut 240 (bRow (.add (bPut 12 s).1 b) (bPut 12 s).2)).1 a) (xs := List.range f.n) (fun k hk s m hs' hm => by
      have := List.mem_range.mp hk
      have r1 := hs'.row (r := .copy (a + k) (fs.getD k 0)) ⟨by omega, hl.getD k⟩
      unfold bStoreSpread
      simp only
      split
      · exact (r1.row (r := .or_ (a + k) _) ⟨by omega, by omega⟩).mono (by omega)
      · exact r1.joined (by omega) (hl.getD k) (by omega) hm) (by rw [List.length_range]; omega)
    rw [List.length_range] at this
    exact this.mono (by omega)
theorem Lo.take {cs : List Nat} (h : Lo cs) (k : Nat) : Lo (cs.take k) := fun c hc => h c (List.mem_of_mem_take hc)
theorem Lo.drop {cs : List Nat} (h : Lo cs) (k : Nat) : Lo (cs.drop k) := fun c hc => h c (List.mem_of_mem_drop hc)
theorem In.finished {f : Form} {fs : List Nat} {b a : Nat} (h : In s n) (hf : f.n ≤ 12) (hl : Lo fs) (hb : b < 256) (ha : a ≤ 100) (hn : n + 40 ≤ 256) : In (bFinished f fs b a s).2 (n + 40) ∧ (bFinished f fs b a s).1 < 256 := by
  obtain ⟨p1, p2, p3⟩ := h.noughts (k := f.n - fs.length) (by omega)
  have ll : (lastN f.n fs).length ≤ f.n - (f.n - fs.length) := by unfold lastN; rw [List.length_drop]; omega
  obtain ⟨q1, q2, q3⟩ := p1.taken (cs := lastN f.n fs) (hl.drop _) (by omega)
  obtain ⟨m1, m2⟩ := (q1.mono (show _ ≤ n + f.n by omega)).anyOf (hl.take (fs.length - f.n)) (by omega)
  obtain ⟨a1, a2⟩ := m1.anyOf hl (by omega)
  have m3 := le256 m2 (by omega)
  obtain ⟨r1, r2⟩ := a1.both (b := b) (le256 a2 (by omega)) hb (by omega)
  have lo := p2.app q2
  unfold bFinished
  simp only
  generalize bNoughts (f.n - fs.length) s = p at *
  generalize bTaken (lastN f.n fs) p.2 = q at *
  generalize bAnyOf (fs.take (fs.length - f.n)) q.2 = m at *
  generalize bAnyOf fs m.2 = a' at *
  generalize bBoth a'.1 b a'.2 = r at *
  have r3 := le256 r2 (by omega)
  generalize p.1 ++ q.1 = lower at *
  cases f.sg with
  | end_ =>
    obtain ⟨x1, x2⟩ := r1.anyOf lo (by omega)
    obtain ⟨y1, y2⟩ := x1.both (b := b) (le256 x2 (by omega)) hb (by omega)
    have y3 := le256 y2 (by omega)
    simp only
    generalize bAnyOf lower r.2 = x at *
    generalize bBoth x.1 b x.2 = y at *
    exact ⟨(y1.stored hf lo y3 ha (by omega)).mono (by omega), m3⟩
  | tens =>
    have t1 := r1.turnBy lo r3 (by omega)
    simp only
    generalize bTurnBy lower r.1 r.2 = t at *
    obtain ⟨x1, x2⟩ := t1.looked (w := .five) (by omega) (lo.getD 0)
    have x3 := le256 x2 (by omega)
    generalize bLooked (lower.getD 0 0) .five t = x at *
    have y1 := (x1.row (r := .add _ _) ⟨x3, r3⟩).row (r := .add _ _) ⟨x3, r3⟩
    have y2 := (y1.look (w := .one2) x3).row (r := .or_ _ _) ⟨m3, x3⟩
    exact ⟨(y2.stored hf lo hb ha (by omega)).mono (by omega), m3⟩
  | none =>
    have t1 := (r1.turnBy lo r3 (by omega)).row (r := .or_ _ _) ⟨m3, r3⟩
    exact ⟨(t1.stored hf lo hb ha (by omega)).mono (by omega), m3⟩
theorem In.together {one other : List Nat} {b c : Nat} (h : In s n) (h1 : Lo one) (h2 : Lo other) (l1 : one.length ≤ 12) (l2 : other.length ≤ 12) (hb : b < 256) (hc : c < 256) (hn : n + 34 ≤ 256) :
    In (bTogether one b other c s).2 (n + 34) ∧ Lo (bTogether one b other c s).1.1 ∧ (bTogether one b other c s).1.2 < 256 := by
  obtain ⟨a1, a2, a3⟩ := h.noughts (k := 1) (by omega)
  obtain ⟨b1, b2, b3⟩ := a1.taken h1 (by omega)
  obtain ⟨c1, c2, c3⟩ := b1.noughts (k := 1) (by omega)
  obtain ⟨d1, d2, d3⟩ := c1.taken h2 (by omega)
  unfold bTogether
  simp only
  generalize bNoughts 1 s = p at *
  generalize bTaken one p.2 = q at *
  generalize bNoughts 1 q.2 = r at *
  generalize bTaken other r.2 = t at *
  have f1 := a2.app b2
  have f2 := c2.app d2
  generalize p.1 ++ q.1 = first at *
  generalize r.1 ++ t.1 = second at *
  have s1 := (d1.turnBy f1 hb (by omega)).turnBy f2 hc (by omega)
  generalize bTurnBy second c (bTurnBy first b t.2) = s2 at *
  obtain ⟨z1, z2⟩ := s1.put (k := 0) (by omega) (by decide)
  have s3 := z1.addTo f1 f2 (le256 z2 (by omega))
  generalize bAddTo first second (bPut 0 s2).1 (bPut 0 s2).2 = s4 at *
  obtain ⟨u1, u2⟩ := s3.looked (w := .five) (by omega) (f1.getD 0)
  have u3 := le256 u2 (by omega)
  exact ⟨(u1.turnBy f1 u3 (by omega)).mono (by omega), f1, u3⟩
theorem In.ended {c : Nat} (h : In s n) (hc : c < 256) (hn : n < 256) : ∀ r ∈ (bEnded c s).rows, RowOk r := by
  obtain ⟨h1, h2⟩ := h.copied hn hc
  exact (h1.row (r := .right (bCopied c s).1) (show _ < 256 by omega)).rows
theorem in_start : In bStart 32 := ⟨fun r hr => (by cases hr), Nat.le_refl _⟩
theorem in_one {f : Form} (hf : f.n ≤ 12) : In (bLoaded f 0 bStart).2 47 ∧ Lo (bLoaded f 0 bStart).1.1 ∧ (bLoaded f 0 bStart).1.2 < 256 ∧ (bLoaded f 0 bStart).1.1.length = f.n := in_start.loaded hf (by decide) (by decide)
theorem rows_rekept {f g : Form} (hf : f.n ≤ 12) (hg : g.n ≤ 12) : ∀ r ∈ (bRekept f g).rows, RowOk r := by
  obtain ⟨h1, h2, h3, _⟩ := in_one hf
  obtain ⟨k1, k2⟩ := h1.finished (a := 0) hg h2 h3 (by decide) (by decide)
  exact k1.ended k2 (by decide)
theorem rows_sum {f : Form} (hf : f.n ≤ 12) : ∀ r ∈ (bSum f).rows, RowOk r := by
  obtain ⟨h1, h2, h3, h4⟩ := in_one hf
  have w := width_le f hf
  obtain ⟨k1, k2, k3, k4⟩ := h1.loaded (f := f) (a := f.width) hf (by omega) (by decide)
  obtain ⟨t1, t2, t3⟩ := k1.together h2 k2 (by omega) (by omega) h3 k3 (by decide)
  obtain ⟨r1, r2⟩ := t1.finished (a := 0) hf t2 t3 (by decide) (by decide)
  exact r1.ended r2 (by decide)
theorem in_difference {f : Form} (hf : f.n ≤ 12) : In (bDifferenceIn f bStart).2 96 ∧ Lo (bDifferenceIn f bStart).1.1 ∧ (bDifferenceIn f bStart).1.2 < 256 := by
  obtain ⟨h1, h2, h3, h4⟩ := in_one hf
  have w := width_le f hf
  obtain ⟨k1, k2, k3, k4⟩ := h1.loaded (f := f) (a := f.width) hf (by omega) (by decide)
  exact (k1.look (w := .oneOf) k3).together h2 k2 (by omega) (by omega) h3 k3 (by decide)
theorem rows_difference {f : Form} (hf : f.n ≤ 12) : ∀ r ∈ (bDifference f).rows, RowOk r := by
  obtain ⟨t1, t2, t3⟩ := in_difference hf
  obtain ⟨r1, r2⟩ := t1.finished (a := 0) hf t2 t3 (by decide) (by decide)
  exact r1.ended r2 (by decide)
theorem rows_compare {f : Form} (hf : f.n ≤ 12) : ∀ r ∈ (bCompare f).rows, RowOk r := by
  obtain ⟨t1, t2, t3⟩ := in_difference hf
  unfold bCompare
  simp only
  generalize bDifferenceIn f bStart = t at *
  obtain ⟨a1, a2⟩ := t1.anyOf t2 (by decide)
  have a3 := le256 a2 (by decide)
  generalize bAnyOf t.1.1 t.2 = a at *
  obtain ⟨l1, l2⟩ := a1.both (b := a.1) t3 a3 (by decide)
  have l3 := le256 l2 (by decide)
  generalize bBoth t.1.2 a.1 a.2 = l at *
  have s1 := (l1.row (r := .add _ _) ⟨a3, l3⟩).row (r := .add _ _) ⟨a3, l3⟩
  have s2 := (s1.look (w := .ordB) a3).row (r := .copy 0 _) ⟨by decide, a3⟩
  obtain ⟨z1, z2⟩ := s2.put (k := 0) (by decide) (by decide)
  exact z1.ended (le256 z2 (by decide)) (by decide)
theorem In.column {cs : List Nat} {p a b c : Nat} (h : In s n) (hl : Lo cs) (ha : a < 256) (hb : b < 256) (hc : c < 256) (hn : n < 256) : In (bColumn cs p a b c s) (n + 1) := by
  obtain ⟨h1, h2⟩ := h.copied hn ha
  have h3 := (h1.row (r := .or_ (bCopied a s).1 b) ⟨by omega, hb⟩).look (c := (bCopied a s).1) (w := .prod) (by omega)
  exact (h3.row (r := .add (cs.getD p 0) (bCopied a s).1) ⟨hl.getD p, by omega⟩).carried (hl.getD p) hc
theorem In.columnsOf {one other : List Nat} (h : In s n) (h1 : Lo one) (h2 : Lo other) (l1 : one.length + other.length ≤ 12) (hn : n + 30 ≤ 256) : In (bColumnsOf one other s).2 (n + 30) ∧ Lo (bColumnsOf one other s).1 := by
  obtain ⟨c1, c2, c3⟩ := h.noughts (k := one.length + other.length) (by omega)
  obtain ⟨g1, g2, g3⟩ := c1.map (f := fun x => bLooked x .hup) (xs := one) (fun x hx s m hs hm => hs.looked hm (h1 x hx)) (by omega)
  have k1 := g1.cell
  have k2 : (bCell (bMap (fun x => bLooked x .hup) one (bNoughts (one.length + other.length) s).2).2).1 < 256 := Nat.lt_of_le_of_lt g1.free (by omega)
  have k3 := k1.free
  refine ⟨In.mono (n := n + (one.length + other.length) + one.length + 1) (k1.back fun j hj s2 hs => ?_) (by omega), c2⟩
  refine In.row (r := .copy _ _) (In.back (hs.row (r := .put _ 0) ⟨k2, by decide⟩) fun i hi s' hs' => ?_) ⟨c2.getD j, k2⟩
  have q := hs'.column (cs := (bNoughts (one.length + other.length) s).1) (p := i + j + 1) c2 (g2.getD i) (h2.getD j) k2 (by omega)
  exact ⟨q.rows, k3⟩
theorem rows_product {f : Form} {m : Nat} (hf : f.n + m ≤ 12) : ∀ r ∈ (bProduct f m).rows, RowOk r := by
  obtain ⟨h1, h2, h3, h4⟩ := in_one (f := f) (by omega)
  have w := width_le f (by omega)
  obtain ⟨k1, k2, k3, k4⟩ := h1.loaded (f := ⟨f.packed, m, f.sg, 0⟩) (a := f.width) (by show m ≤ 12; omega) (by omega) (by decide)
  have k4 : (bLoaded ⟨f.packed, m, f.sg, 0⟩ f.width (bLoaded f 0 bStart).2).1.1.length = m := k4
  unfold bProduct
  simp only
  generalize bLoaded f 0 bStart = p at *
  generalize bLoaded ⟨f.packed, m, f.sg, 0⟩ f.width p.2 = q at *
  obtain ⟨u1, u2⟩ := k1.copied (c := p.1.2) (by decide) h3
  have u3 := le256 u2 (by decide)
  generalize bCopied p.1.2 q.2 = u at *
  have s1 := (u1.row (r := .add _ _) ⟨u3, k3⟩).look (w := .low2) u3
  obtain ⟨c1, c2⟩ := s1.columnsOf h2 k2 (by omega) (by decide)
  generalize bColumnsOf p.1.1 q.1.1 _ = c at *
  obtain ⟨r1, r2⟩ := c1.finished (f := ⟨f.packed, f.n + m, f.sg, 0⟩) (a := 0) (b := u.1) hf c2 u3 (by decide) (by decide)
  exact r1.ended r2 (by decide)
theorem In.pastHalf {a : Nat} {rest : List Nat} {last : Option Nat} (h : In s n) (ha : a < 256) (hr : Lo rest) (hl : ∀ l, last = some l → l < 256) (hn : n + 5 ≤ 256) : In (bPastHalf a rest last s).2 (n + 5) ∧ (bPastHalf a rest last s).1 < 256 := by
  obtain ⟨h1, h2⟩ := h.looked (w := .five) (by omega) ha
  obtain ⟨m1, m2⟩ := h1.anyOf hr (by omega)
  have h3 := le256 h2 (by omega)
  have m3 := le256 m2 (by omega)
  unfold bPastHalf
  simp only
  generalize bLooked a .five s = x at *
  generalize bAnyOf rest x.2 = m at *
  cases last with
  | none =>
    simp only
    obtain ⟨r1, r2⟩ := m1.both h3 m3 (by omega)
    have r3 := le256 r2 (by omega)
    generalize bBoth x.1 m.1 m.2 = r at *
    obtain ⟨x1, x2⟩ := r1.looked (w := .six) (by omega) ha
    exact ⟨(x1.row (r := .or_ _ _) ⟨r3, le256 x2 (by omega)⟩).mono (by omega), r3⟩
  | some l =>
    simp only
    obtain ⟨y1, y2⟩ := m1.looked (w := .low2) (by omega) (hl l rfl)
    have y3 := y1.row (r := .or_ _ _) ⟨m3, le256 y2 (by omega)⟩
    generalize bRow (.or_ m.1 (bLooked l .low2 m.2).1) (bLooked l .low2 m.2).2 = y at *
    obtain ⟨r1, r2⟩ := y3.both h3 m3 (by omega)
    have r3 := le256 r2 (by omega)
    generalize bBoth x.1 m.1 y = r at *
    obtain ⟨x1, x2⟩ := r1.looked (w := .six) (by omega) ha
    exact ⟨(x1.row (r := .or_ _ _) ⟨r3, le256 x2 (by omega)⟩).mono (by omega), r3⟩
theorem In.addedBy {left lost : List Nat} {b : Nat} {r : Rule} (h : In s n) (h1 : Lo left) (h2 : Lo lost) (hb : b < 256) (hn : n + 5 ≤ 256) : In (bAddedBy left lost b r s).2 (n + 5) ∧ (bAddedBy left lost b r s).1 < 256 := by
  unfold bAddedBy
  cases r with
  | cut =>
    obtain ⟨q1, q2⟩ := h.put (k := 0) (by omega) (by decide)
    exact ⟨q1.mono (by omega), le256 q2 (by omega)⟩
  | half =>
    obtain ⟨q1, q2⟩ := h.looked (w := .five) (by omega) (h2.getD 0)
    exact ⟨q1.mono (by omega), le256 q2 (by omega)⟩
  | even => exact h.pastHalf (h2.getD 0) (h2.drop 1) (fun l hl => h1 l (List.mem_of_getLast? hl)) hn
  | floor =>
    obtain ⟨q1, q2⟩ := h.anyOf h2 (by omega)
    obtain ⟨r1, r2⟩ := q1.both (le256 q2 (by omega)) hb (by omega)
    exact ⟨r1.mono (by omega), le256 r2 (by omega)⟩
  | ceil =>
    obtain ⟨q1, q2⟩ := h.anyOf h2 (by omega)
    obtain ⟨l1, l2⟩ := q1.looked (w := .oneOf) (by omega) hb
    obtain ⟨r1, r2⟩ := l1.both (le256 q2 (by omega)) (le256 l2 (by omega)) (by omega)
    exact ⟨r1.mono (by omega), le256 r2 (by omega)⟩
  | up =>
    obtain ⟨q1, q2⟩ := h.anyOf h2 (by omega)
    exact ⟨q1.mono (by omega), le256 q2 (by omega)⟩
theorem rows_moved {f : Form} {i : Int} {r : Rule} (hf : f.n ≤ 12) (hi : i ≤ 12) : ∀ q ∈ (bMoved f i r).rows, RowOk q := by
  obtain ⟨h1, h2, h3, h4⟩ := in_one hf
  unfold bMoved
  simp only
  split
  · obtain ⟨z1, z2, z3⟩ := h1.noughts (k := i.toNat) (by omega)
    obtain ⟨r1, r2⟩ := z1.finished (a := 0) hf (h2.app z2) h3 (by decide) (by omega)
    exact r1.ended r2 (by omega)
  · obtain ⟨c1, c2⟩ := h1.addedBy (r := r) (h2.take (f.n - (-i).toNat)) (h2.drop (f.n - (-i).toNat)) h3 (by decide)
    obtain ⟨z1, z2, z3⟩ := c1.noughts (k := 1) (by decide)
    have lo := z2.app (h2.take (f.n - (-i).toNat))
    have s1 := z1.back (f := fun x => bCarried x (bAddedBy _ _ _ _ _).1) (xs := (bNoughts 1 _).1 ++ _) fun x hx s hs => hs.carried (lo x hx) c2
    obtain ⟨r1, r2⟩ := s1.finished (a := 0) hf lo h3 (by decide) (by decide)
    exact r1.ended r2 (by decide)
end TL
set_option linter.all false
namespace TL
/-! ### what the rows leave on the law's list of cells -/
theorem Rel.take {cs row : List Nat} {s : S} (h : Rel cs s) (hl : row.length ≤ 256) (hr : ∀ j, j < row.length → s.c j = row.getD j 0) : cs.take row.length = row := by
  apply List.ext_getElem?
  intro i
  by_cases hi : i < row.length
  · rw [List.getElem?_take_of_lt hi, h.at_ i (by omega), hr i hi, List.getD_eq_getElem?_getD, List.getElem?_eq_getElem hi]
    rfl
  · rw [List.getElem?_eq_none (l := row) (by omega), List.getElem?_eq_none (l := cs.take row.length) (by rw [List.length_take]; omega)]
theorem getD_left {xs ys : List Nat} {j : Nat} (h : j < xs.length) : (xs ++ ys).getD j 0 = xs.getD j 0 := by
  rw [List.getD_eq_getElem?_getD, List.getElem?_append_left h, ← List.getD_eq_getElem?_getD]
theorem getD_right {xs ys : List Nat} {n j : Nat} (h : xs.length = n) : (xs ++ ys).getD (n + j) 0 = ys.getD j 0 := by
  rw [List.getD_eq_getElem?_getD, List.getElem?_append_right (by omega), ← List.getD_eq_getElem?_getD, h, Nat.add_sub_cancel_left]
def Does (rs : List SR) (fr row : List Nat) (mk : Nat) : Prop := ∀ z : S, (∀ i, i < fr.length → z.c i = fr.getD i 0) → (∀ j, j < row.length → (exec rs z).c j = row.getD j 0) ∧ (exec rs z).m = mk
theorem rowOf_getD {f : Form} {ds : List Nat} {sh j : Nat} (hj : j < f.width) : (rowOf f ds sh).getD j 0 = byteOf f ds sh j := by
  unfold rowOf
  simp [hj]
theorem front_one {z : S} {f : Form} {ds : List Nat} {sh : Nat} {rest : List Nat} (g : Good f ds sh) (h : ∀ i, i < (rowOf f ds sh ++ rest).length → z.c i = (rowOf f ds sh ++ rest).getD i 0) : Front z 0 f ds sh := by
  have hl : (rowOf f ds sh).length = f.width := rowOf_length _ _ _
  refine ⟨g.len, g.dg, g.s2, fun j hj => ?_⟩
  rw [Nat.zero_add, h j (by rw [List.length_append]; omega), getD_left (by omega), rowOf_getD hj]
theorem front_two {z : S} {f : Form} {ds es : List Nat} {sh th : Nat} (g : Good f es th) (h : ∀ i, i < (rowOf f ds sh ++ rowOf f es th).length → z.c i = (rowOf f ds sh ++ rowOf f es th).getD i 0) : Front z f.width f es th := by
  have hl : (rowOf f ds sh).length = f.width := rowOf_length _ _ _
  have hl2 : (rowOf f es th).length = f.width := rowOf_length _ _ _
  refine ⟨g.len, g.dg, g.s2, fun j hj => ?_⟩
  rw [h (f.width + j) (by rw [List.length_append]; omega), getD_right hl, rowOf_getD hj]
theorem does_of {s : BS} {fr row : List Nat} {mk : Nat} (h : ∀ z : S, (∀ i, i < fr.length → z.c i = fr.getD i 0) → Leaves z s row mk) : Does s.rows fr row mk := fun z hz => ⟨(h z hz).row, (h z hz).mark⟩
section
variable {f g : Form} {ds es : List Nat} {sh th : Nat}
theorem does_sum (hn : 0 < f.n) (hn2 : f.n ≤ 12) (G : Good f ds sh) (G2 : Good f es th) : Does (bSum f).rows (rowOf f ds sh ++ rowOf f es th) (keptRow f (foldedZ f (readZ f ds sh + readZ f es th))) (if fitsZ f (readZ f ds sh + readZ f es th) then 0 else 1) :=
  does_of fun z hz => sum_ok hn hn2 (front_one G hz) (front_two G2 hz)
theorem does_difference (hn : 0 < f.n) (hn2 : f.n ≤ 12) (G : Good f ds sh) (G2 : Good f es th) : Does (bDifference f).rows (rowOf f ds sh ++ rowOf f es th) (keptRow f (foldedZ f (readZ f ds sh - readZ f es th))) (if fitsZ f (readZ f ds sh - readZ f es th) then 0 else 1) :=
  does_of fun z hz => difference_ok hn hn2 (front_one G hz) (front_two G2 hz)
theorem does_compare (hn : 0 < f.n) (hn2 : f.n ≤ 12) (G : Good f ds sh) (G2 : Good f es th) : Does (bCompare f).rows (rowOf f ds sh ++ rowOf f es th) [if readZ f ds sh < readZ f es th then 0 else if readZ f ds sh = readZ f es th then 1 else 2] 0 :=
  does_of fun z hz => compare_ok hn hn2 (front_one G hz) (front_two G2 hz)
theorem front_pt {z : S} {a : Nat} (h : Front z a f es th) : Front z a ⟨f.packed, f.n, f.sg, 0⟩ es th := by
  obtain ⟨pk, n, sg, pt⟩ := f
  exact ⟨h.len, h.dg, h.sh15, h.at_⟩
theorem does_product (hn : 0 < f.n) (hn2 : f.n ≤ 6) (G : Good f ds sh) (G2 : Good f es th) : Does (bProduct f f.n).rows (rowOf f ds sh ++ rowOf f es th) (keptRow ⟨f.packed, f.n + f.n, f.sg, f.pt + f.pt⟩ (foldedZ ⟨f.packed, f.n + f.n, f.sg, f.pt + f.pt⟩ (readZ f ds sh * readZ f es th))) (if fitsZ ⟨f.packed, f.n + f.n, f.sg, f.pt + f.pt⟩ (readZ f ds sh * readZ f es th) then 0 else 1) :=
  does_of fun z hz => product_ok (g := ⟨f.packed, f.n, f.sg, 0⟩) rfl hn hn (by omega) (front_one G hz) (front_pt (front_two G2 hz))
theorem does_rekept (hn : 0 < f.n) (hn2 : f.n ≤ 12) (hg : 0 < g.n) (hg2 : g.n ≤ 12) (G : Good f ds sh) : Does (bRekept f g).rows (rowOf f ds sh) (keptRow g (foldedZ g (readZ f ds sh))) (if fitsZ g (readZ f ds sh) then 0 else 1) :=
  does_of fun z hz => rekept_ok hn hn2 hg hg2 (front_one (rest := []) G (by rw [List.append_nil]; exact hz))
theorem does_moved {i : Int} {r : Rule} (hn : 0 < f.n) (hn2 : f.n ≤ 12) (lo : -(f.n : Int) ≤ i) (G : Good f ds sh) : Does (bMoved f i r).rows (rowOf f ds sh) (keptRow f (foldedZ f (roundedZ (readZ f ds sh) i r))) (if fitsZ f (roundedZ (readZ f ds sh) i r) then 0 else 1) :=
  does_of fun z hz => moved_ok hn hn2 (front_one (rest := []) G (by rw [List.append_nil]; exact hz)) lo
end
end TL
set_option Elab.async false
set_option linter.all false
set_option maxRecDepth 100000
set_option maxHeartbeats 4000000
namespace TL
open PySem PySem.Spec PyProof.Rows L2
def top (i : Nat) : Stmt := PySem.Challenge.pw_tensloft_k96_whole_desk_and_rows.main.body.getD i (.Pass ⟨0, 0, 0, 0⟩)
abbrev R : PySem.W.OpenRow := PySem.W.OpenLaw.row PySem.Challenge.rw_tensloft_k96_whole_desk_and_rows
/-! ### what stands at a name of the top -/
inductive De where
  | fn (n q : Str) (ps : Arguments) (b : FuncBody) (sc : Scope) (ok : Bool) (cn : Option Str)
  | int (i : Int)
  | str (x : Str)
  | obj
  | oth
def codeName (K : PySem.W.Frag) (cd : Value) : Option Str := match cd with
  | .ref c => (match K.lookup c with
    | some ⟨_, _, .fields vs, _⟩ => (match vs.toList with
      | _ :: .str n _ :: _ => some n
      | _ => none)
    | _ => none)
  | _ => none
def noneB : Value → Bool
  | .none => true
  | _ => false
def descr (K : PySem.W.Frag) : Value → De
  | .ref a => (match K.lookup a with
    | some ⟨_, _, .func fd, _⟩ => .fn fd.name fd.qualname fd.params fd.body fd.scope (decide (fd.globals = mainGlobals) && (fd.closure.isEmpty && (decide (fd.builtins = builtinsNs) && noneB fd.defaults))) (codeName K fd.code)
    | some _ => .obj
    | none => .oth)
  | .int i _ => .int i
  | .str x _ => .str x
  | _ => .oth
/-- a def of the top, as it is to stand -/
abbrev dq (n : Str) (j : Nat) : De := .fn n n (defArgs (top j)) (.stmts (defBody (top j))) (defScope (top j)) true (some n)
abbrev dm (m q : Str) (i j : Nat) : De := .fn m q (defArgs (inClass (top i) j)) (.stmts (defBody (inClass (top i) j))) (defScope (inClass (top i) j)) true (some q)
def names0 : List PySem.Str := ["__name__", "LoftError", "NoShape", "NoFit", "Wrong", "NoTable", "NoRow", "BadLine", "TooLong", "NoRule", "NoDeed", "NoName", "NoText", "Nought", "Unlike", "NoLine", "NothingDone", "high_half", "low_half", "half_up"]
def names1 : List PySem.Str := ["last_figure", "ahead_of_last", "nine_less", "ten_or_none", "one_or_none", "one_of_none", "five_on", "sign_below", "one_of_two", "lowest_two", "order_byte", "table_of", "FIRST_FREE", "Builder", "noughts", "taken", "any_of", "both", "carried", "add_to"]
def names2 : List PySem.Str := ["turn_by", "PLUS", "ZONE", "halves_of", "width", "loaded", "joined", "stored", "finished", "together", "power", "figures_of", "number_by", "digits_by", "KINDS", "SIGNS", "MOST_FIGURES_shapes", "shape", "least_of", "most_of"]
def names3 : List PySem.Str := ["folded", "fits", "PLUS_HALF", "MINUS_HALF", "ZONE_HALF", "MINUS_HALVES", "sign_half", "kept_halves", "kept", "halves_in", "duties", "half_right", "caught", "number_of", "RULES", "six_on", "one_more", "rounded", "past_half", "added_by"]
def names4 : List PySem.Str := ["moved_rows", "parted", "FIGURES_texts", "SIGNS_OF_HALVES", "MOST_READ", "written", "is_figures", "parts_of", "parts_of_texts", "told", "hexed", "byte_told", "unhexed", "BYTES", "MOST_BYTES", "hold_many", "signed", "by_twos", "fits_twos", "LETTERS"]
def names5 : List PySem.Str := ["FIGURES_desk", "MOST_LETTERS", "MOST_FIGURES_desk", "MOST_DIVIDEND", "MOST_DIVISOR", "FURTHEST", "FORMS", "read_name", "read_whole", "read_by", "read_many", "read_rule", "read_shape", "READERS", "read_part", "parts_of_desk", "only", "mark_of", "answer_kept", "hold_like"]
def names6 : List PySem.Str := ["order_word", "Desk", "difference_in", "difference_rows", "compare_rows", "MOST_FIGURES_products", "product_byte", "column", "columns_of", "product_rows", "rekept_rows", "sum_rows", "_law_cell", "_law_mixed", "_law_draws", "_law_power", "_law_form", "_law_room", "_law_ends", "_law_figures"]
def names7 : List PySem.Str := ["_law_by_halves", "_law_row_with", "_law_dressed", "_law_number", "_law_run", "_law_filled", "_law_after", "_law_sorts", "_law_hexed", "_law_words", "_law_pointed", "_law_tell", "_law_answered", "_law_dressed_thing", "_law_front", "_law_done_alike"]
def names : List PySem.Str := names0 ++ names1 ++ names2 ++ names3 ++ names4 ++ names5 ++ names6 ++ names7
def keyq0 : List PySem.Str := ["__name__", "__doc__", "__package__", "__loader__", "__spec__", "__annotations__", "__builtins__", "__file__", "__cached__", "LoftError", "NoShape", "NoFit", "Wrong", "NoTable", "NoRow", "BadLine", "TooLong", "NoRule", "NoDeed", "NoName"]
def keyq1 : List PySem.Str := ["NoText", "Nought", "Unlike", "NoLine", "NothingDone", "high_half", "low_half", "half_up", "last_figure", "ahead_of_last", "nine_less", "ten_or_none", "one_or_none", "one_of_none", "five_on", "sign_below", "one_of_two", "lowest_two", "order_byte", "table_of"]
def keyq2 : List PySem.Str := ["FIRST_FREE", "Builder", "noughts", "taken", "any_of", "both", "carried", "add_to", "turn_by", "PLUS", "ZONE", "halves_of", "width", "loaded", "joined", "stored", "finished", "together", "power", "figures_of"]
def keyq3 : List PySem.Str := ["number_by", "digits_by", "KINDS", "SIGNS", "MOST_FIGURES_shapes", "shape", "least_of", "most_of", "folded", "fits", "PLUS_HALF", "MINUS_HALF", "ZONE_HALF", "MINUS_HALVES", "sign_half", "kept_halves", "kept", "halves_in", "duties", "half_right"]
def keyq4 : List PySem.Str := ["caught", "number_of", "RULES", "six_on", "one_more", "rounded", "past_half", "added_by", "moved_rows", "parted", "FIGURES_texts", "SIGNS_OF_HALVES", "MOST_READ", "written", "is_figures", "parts_of", "parts_of_texts", "told", "hexed", "byte_told"]
def keyq5 : List PySem.Str := ["unhexed", "BYTES", "MOST_BYTES", "hold_many", "signed", "by_twos", "fits_twos", "LETTERS", "FIGURES_desk", "MOST_LETTERS", "MOST_FIGURES_desk", "MOST_DIVIDEND", "MOST_DIVISOR", "FURTHEST", "FORMS", "read_name", "read_whole", "read_by", "read_many", "read_rule"]
def keyq6 : List PySem.Str := ["read_shape", "READERS", "read_part", "parts_of_desk", "only", "mark_of", "answer_kept", "hold_like", "order_word", "Desk", "difference_in", "difference_rows", "compare_rows", "MOST_FIGURES_products", "product_byte", "column", "columns_of", "product_rows", "rekept_rows", "sum_rows"]
def keyq7 : List PySem.Str := ["_law_cell", "_law_mixed", "_law_draws", "_law_power", "_law_form", "_law_room", "_law_ends", "_law_figures", "_law_by_halves", "_law_row_with", "_law_dressed", "_law_number", "_law_run", "_law_filled", "_law_after", "_law_sorts", "_law_hexed", "_law_words", "_law_pointed", "_law_tell"]
def keyq8 : List PySem.Str := ["_law_answered", "_law_dressed_thing", "_law_front", "_law_done_alike", "law"]
def keyQ : List PySem.Str := keyq0 ++ (keyq1 ++ (keyq2 ++ (keyq3 ++ (keyq4 ++ (keyq5 ++ (keyq6 ++ (keyq7 ++ (keyq8))))))))
def valq0 : List De := [.obj, .obj, .obj, .obj, .obj, .obj, .obj, .obj, .obj, .obj, .obj, .obj, .obj, .obj, .obj, .obj, dq "high_half" 18, dq "low_half" 19, dq "half_up" 20, dq "last_figure" 21]
def valq1 : List De := [dq "ahead_of_last" 22, dq "nine_less" 23, dq "ten_or_none" 24, dq "one_or_none" 25, dq "one_of_none" 26, dq "five_on" 27, dq "sign_below" 28, dq "one_of_two" 29, dq "lowest_two" 30, dq "order_byte" 31, dq "table_of" 32, .int 32, .obj, dq "noughts" 36, dq "taken" 37, dq "any_of" 38, dq "both" 39, dq "carried" 40, dq "add_to" 41, dq "turn_by" 42]
def valq2 : List De := [.int 12, .int 240, dq "halves_of" 46, dq "width" 47, dq "loaded" 48, dq "joined" 49, dq "stored" 50, dq "finished" 51, dq "together" 52, dq "power" 54, dq "figures_of" 55, dq "number_by" 56, dq "digits_by" 57, .obj, .obj, .int 12, dq "shape" 62, dq "least_of" 63, dq "most_of" 64, dq "folded" 65]
def valq3 : List De := [dq "fits" 66, .int 12, .int 13, .int 15, .obj, dq "sign_half" 72, dq "kept_halves" 73, dq "kept" 74, dq "halves_in" 75, dq "duties" 76, dq "half_right" 77, dq "caught" 78, dq "number_of" 79, .obj, dq "six_on" 82, dq "one_more" 83, dq "rounded" 84, dq "past_half" 85, dq "added_by" 86, dq "moved_rows" 87]
def valq4 : List De := [dq "parted" 89, .str "0123456789", .str "0123456789ABCDEF", .int 30, dq "written" 94, dq "is_figures" 95, dq "parts_of" 126, dq "parts_of" 96, dq "told" 98, dq "hexed" 99, dq "byte_told" 100, dq "unhexed" 101, .int 256, .int 4, dq "hold_many" 105, dq "signed" 106, dq "by_twos" 107, dq "fits_twos" 108, .str "abcdefghijklmnopqrstuvwxyz", .str "0123456789"]
def valq5 : List De := [.int 12, .int 12, .int 6, .int 3, .int 12, .obj, dq "read_name" 118, dq "read_whole" 119, dq "read_by" 120, dq "read_many" 121, dq "read_rule" 122, dq "read_shape" 123, .obj, dq "read_part" 125, dq "parts_of" 126, dq "only" 128, dq "mark_of" 129, dq "answer_kept" 130, dq "hold_like" 131, dq "order_word" 132]
def valq6 : List De := [.obj, dq "difference_in" 135, dq "difference_rows" 136, dq "compare_rows" 137, .int 12, dq "product_byte" 140, dq "column" 141, dq "columns_of" 142, dq "product_rows" 143, dq "rekept_rows" 145, dq "sum_rows" 147, dq "_law_cell" 149, dq "_law_mixed" 150, dq "_law_draws" 151, dq "_law_power" 152, dq "_law_form" 153, dq "_law_room" 154, dq "_law_ends" 155, dq "_law_figures" 156, dq "_law_by_halves" 157]
def valq7 : List De := [dq "_law_row_with" 158, dq "_law_dressed" 159, dq "_law_number" 160, dq "_law_run" 161, dq "_law_filled" 162, dq "_law_after" 163, dq "_law_sorts" 164, dq "_law_hexed" 165, dq "_law_words" 166, dq "_law_pointed" 167, dq "_law_tell" 168, dq "_law_answered" 169, dq "_law_dressed_thing" 170, dq "_law_front" 171, dq "_law_done_alike" 172, dq "law" 173]
def valQ : List De := valq0 ++ (valq1 ++ (valq2 ++ (valq3 ++ (valq4 ++ (valq5 ++ (valq6 ++ (valq7)))))))
def keyS (e : DictEntry) : Option Str := match e.key with
  | .str x _ => some x
  | _ => none
def globs (K : PySem.W.Frag) : List DictEntry := match K.lookup mainGlobals with
  | some ⟨_, _, .dict es _, _⟩ => es.toList
  | _ => []
/-- the i-th global's object -/
def adr (K : PySem.W.Frag) (i : Nat) : Addr := match (globs K)[i]? with
  | some ⟨_, _, .ref a⟩ => a
  | _ => 0
/-- a method of the class at C -/
def madr (K : PySem.W.Frag) (C : Addr) (m : Str) : Addr := He.ma K C m
def clsB (K : PySem.W.Frag) (C : Addr) : Bool := PySem.W.plainGet K C Str.empty && (PySem.W.hasDictIn K C && (PySem.W.plainOver K C && He.eqO (PySem.W.findIn K (.ref C) "__setattr__") (some (some (.builtin "object.__setattr__")))))
def mkrB (K : PySem.W.Frag) (C : Addr) : Bool := PySem.W.makesIn K C && (He.eqO (PySem.W.findIn K (.ref C) "__init__") (some (some (.ref (madr K C "__init__")))) && (PySem.W.isFn K (.ref (madr K C "__init__")) && PySem.W.keepIn K (.ref C)))
def methB (K : PySem.W.Frag) (C : Addr) (m : Str) : Bool := He.eqO (PySem.W.findIn K (.ref C) m) (some (some (.ref (madr K C m)))) && (PySem.W.isFn K (.ref (madr K C m)) && PySem.W.keepIn K (.ref (madr K C m)))
def noatB (K : PySem.W.Frag) (C : Addr) (f : Str) : Bool := He.eqO (PySem.W.findIn K (.ref C) f) (some none)
def tupAt (K : PySem.W.Frag) (a : Addr) (vs : List V) : Bool := match K.lookup a with
  | some ⟨.type c, _, .seq its _, _⟩ => decide (c = "tuple") && (decide (its.size ≤ sizeLine) && He.relAll vs its.toList)
  | _ => false
/-- the object at a key of the table at d -/
def kAt (K : PySem.W.Frag) (d : Addr) (k : Str) : Addr := match PySem.W.nsIn K d k with
  | some (some (.ref a)) => a
  | _ => 0
def kThere (K : PySem.W.Frag) (d : Addr) (k : Str) : Bool := He.eqO (PySem.W.nsIn K d k) (some (some (.ref (kAt K d k))))
def formVals : List (Str × List Str) := [("keep", ["name", "shape", "number"]), ("lay", ["name", "shape", "bytes"]), ("sum", ["name", "one", "one"]), ("less", ["name", "one", "one"]), ("times", ["name", "one", "one"]), ("over", ["name", "name", "one", "one"]), ("move", ["name", "one", "by", "rule"]), ("turn", ["name", "one", "shape"]), ("drop", ["one"]), ("undo", []), ("again", []), ("names", []), ("show", ["one"]), ("bytes", ["one"]), ("shape", ["one"]), ("order", ["one", "one"]), ("look", ["shape", "bytes"]), ("twos", ["one", "many"])]
def formKeys : List Str := ["keep", "lay", "sum", "less", "times", "over", "move", "turn", "drop", "undo", "again", "names", "show", "bytes", "shape", "order", "look", "twos"]
def readerKeys : List Str := ["name", "one", "by", "many", "rule"]
def readerVals : List (Str × Nat) := [("name", 115), ("one", 115), ("by", 117), ("rule", 119)]
abbrev cB (K : PySem.W.Frag) : Addr := adr K 41
abbrev cD (K : PySem.W.Frag) : Addr := adr K 129
def methsB : List Str := ["cell", "put", "row", "look", "copied", "looked", "back_to", "ended", "program"]
def methsD : List Str := ["tell", "done", "laid", "of_two", "of_move", "asked"]
def worthIx : List Nat := [25, 26, 27, 28, 29, 30, 31, 32, 33, 34, 35, 36, 37, 38, 134, 83]
def exB (K : PySem.W.Frag) : Bool :=
  (!(globs K).any (·.refKey)) && (tupAt K (adr K 62) [V.str "packed", V.str "spread"] && (tupAt K (adr K 63) [V.str "none", V.str "end", V.str "tens"] && (tupAt K (adr K 73) [V.int 11, V.int 13] &&
  (tupAt K (adr K 82) [V.str "cut", V.str "up", V.str "half", V.str "even", V.str "floor", V.str "ceil"] &&
  ((formVals.all fun q => kThere K (adr K 114) q.1 && tupAt K (kAt K (adr K 114) q.1) (q.2.map V.str)) && ((readerVals.all fun q => kThere K (adr K 121) q.1 && decide (kAt K (adr K 121) q.1 = adr K q.2)) && worthIx.all fun i => PySem.W.isFn K (.ref (adr K i))))))))
def clB (K : PySem.W.Frag) : Bool := (clsB K (cB K) && (clsB K (cD K) && (mkrB K (cB K) && mkrB K (cD K)))) && ((methsB.all (methB K (cB K)) && methsD.all (methB K (cD K))) &&
  ((["rows", "tables", "worths", "free"] : List Str).all (noatB K (cB K)) && (["names", "past", "undone"] : List Str).all (noatB K (cD K))))
def methQ (K : PySem.W.Frag) : List De := [descr K (.ref (madr K (cB K) "__init__")), descr K (.ref (madr K (cB K) "cell")), descr K (.ref (madr K (cB K) "put")), descr K (.ref (madr K (cB K) "row")), descr K (.ref (madr K (cB K) "look")), descr K (.ref (madr K (cB K) "copied")), descr K (.ref (madr K (cB K) "looked")), descr K (.ref (madr K (cB K) "back_to")), descr K (.ref (madr K (cB K) "ended")), descr K (.ref (madr K (cB K) "program")), descr K (.ref (madr K (cD K) "__init__")), descr K (.ref (madr K (cD K) "tell")), descr K (.ref (madr K (cD K) "done")), descr K (.ref (madr K (cD K) "laid")), descr K (.ref (madr K (cD K) "of_two")), descr K (.ref (madr K (cD K) "of_move")), descr K (.ref (madr K (cD K) "asked"))]
def methV : List De := [dm "__init__" "Builder.__init__" 35 0, dm "cell" "Builder.cell" 35 1, dm "put" "Builder.put" 35 2, dm "row" "Builder.row" 35 3, dm "look" "Builder.look" 35 4, dm "copied" "Builder.copied" 35 5, dm "looked" "Builder.looked" 35 6, dm "back_to" "Builder.back_to" 35 7, dm "ended" "Builder.ended" 35 8, dm "program" "Builder.program" 35 9, dm "__init__" "Desk.__init__" 133 0, dm "tell" "Desk.tell" 133 1, dm "done" "Desk.done" 133 2, dm "laid" "Desk.laid" 133 4, dm "of_two" "Desk.of_two" 133 5, dm "of_move" "Desk.of_move" 133 6, dm "asked" "Desk.asked" 133 7]
abbrev AlQ : Type := List (Option Str) × List De × List De × Bool × Bool × List (Option (List (Option (Str × Int))))
def obsK (K : PySem.W.Frag) : AlQ := ((globs K).map keyS, ((globs K).drop 9).map (fun e => descr K e.val), methQ K, exB K, clB K, [He.dicW K (adr K 114), He.dicW K (adr K 121)])
def valK (w : World) : AlQ := (keyQ.map some, valQ, methV, true, true, [some (He.keysIn w.params formKeys), some (He.keysIn w.params readerKeys)])
/-! ### the Hook, over a small list of addresses -/
def rfs (g : Addr → Option Obj) (a : Addr) : List Addr := match g a with
  | some o => He.refsD o
  | none => []
def parts (g : Addr → Option Obj) (a : Addr) : List Addr := match g a with
  | some ⟨_, _, .func fd, _⟩ => a :: He.refV fd.code
  | some ⟨_, _, .cls cd, _⟩ => a :: cd.ns :: (rfs g cd.ns ++ (rfs g cd.ns).flatMap fun b => match g b with
    | some ⟨_, _, .func fd, _⟩ => He.refV fd.code
    | _ => [])
  | some ⟨_, _, .dict es _, _⟩ => a :: es.toList.flatMap fun e => He.refV e.val
  | _ => [a]
def asQ (g : Addr → Option Obj) : List Addr := mainGlobals :: (rfs g mainGlobals).flatMap (parts g)
def frList {α : Type} : List (Addr × Obj) → (List (Addr × Obj) → α) → α
  | [], k => k []
  | (a, o) :: r, k => HandSHeadRun.frNat a fun a => frList r fun r => k ((a, o) :: r)
theorem frList_eq {α : Type} : ∀ (l : List (Addr × Obj)) (k : List (Addr × Obj) → α), frList l k = k l
  | [], k => rfl
  | (a, o) :: r, k => by
    show HandSHeadRun.frNat a (fun a => frList r fun r => k ((a, o) :: r)) = k ((a, o) :: r)
    rw [HandSHeadRun.frNat_eq, frList_eq r]
def obsQ (g : Addr → Option Obj) : AlQ := frList (He.frG g (asQ g)) fun K => obsK K
def hookQ : PySem.W.Hook where
  α := AlQ
  obs := fun s => obsQ s.heap.get?
  val := fun w => valK w
  says := fun w h => ∃ K : PySem.W.Frag, K.In h ∧ obsK K = valK w
  of := fun _ s e => ⟨He.frG s.heap.get? (asQ s.heap.get?), He.frG_in, by
    have e' : frList (He.frG s.heap.get? (asQ s.heap.get?)) (fun K => obsK K) = valK _ := e
    rw [frList_eq] at e'
    exact e'⟩
  keeps := fun _ _ _ ⟨K, hK, c⟩ k => ⟨K, PySem.W.Frag.In.keeps hK k, c⟩
theorem obsQ_eq {g : Addr → Option Obj} {s : Shared} (h : ∀ a, g a = s.heap.get? a) : obsQ g = hookQ.obs s := by
  have e : g = s.heap.get? := funext h
  rw [e] <;> rfl
def ob (s : PySem.W.SharedT) : AlQ := obsQ (HandSHeadRun.getT s)
theorem ob_eq (s : PySem.W.SharedT) : ob s = hookQ.obs s.abs := obsQ_eq (HandSHeadRun.getT_eq s)
end TL
set_option Elab.async false
set_option linter.all false
set_option maxRecDepth 100000
set_option maxHeartbeats 0
namespace TL
open PySem PySem.W PySem.Spec PyProof.Rows HandSHeadRun
/-! ### the head's run, in three looks -/
abbrev topV : Program := PySem.W.view R.prog [173]
noncomputable abbrev obGa (w : World) (s : SharedT) := looksF R.prog (boot_heap w.params) s.abs
noncomputable abbrev obGb (w : World) (s : SharedT) := seenQ topV names (importedModules R.prog.main.body) (fun s => xlAt topV [] s && recOk R.toRowW.records s) s.abs
abbrev AlH : Type := List (Option PySem.Str) × List De × List De × List (Option (List (Option (PySem.Str × Int))))
def lookH (K : Frag) : AlH := ((globs K).map keyS, ((globs K).drop 9).map (fun e => descr K e.val), methQ K, [He.dicW K (adr K 114), He.dicW K (adr K 121)])
def lookI (K : Frag) : Bool × Bool := (exB K, clB K)
def fragQ (s : SharedT) : Frag := He.frG (getT s) (asQ (getT s))
def obH (s : SharedT) : AlH := frList (fragQ s) fun K => lookH K
def obI (s : SharedT) : Bool × Bool := frList (fragQ s) fun K => lookI K
def RunGa (w : World) : Prop := ∀ os : OsState, (endF (stepQ (denQ tabQ) R.prog w) 20000 R.prog w os).map (obGa w) = some true
def RunH (w : World) : Prop := ∀ os : OsState, (endF (stepQ (denQ tabQ) R.prog w) 20000 R.prog w os).map obH = some (keyQ.map some, valQ, methV, [some (He.keysIn w.params formKeys), some (He.keysIn w.params readerKeys)])
noncomputable abbrev obGI (w : World) (s : SharedT) := (obGb w s, obI s)
def RunGI (w : World) : Prop := ∀ os : OsState, (endF (stepQ (denQ tabQ) R.prog w) 20000 R.prog w os).map (obGI w) = some (openGood topV names, (true, true))
theorem run_join {w : World} (ga : RunGa w) (h : RunH w) (gi : RunGI w) : HandSHeadRun.RunEq R topV hookQ ob 20000 names w := by
  intro os
  have ga := ga os
  have h := h os
  have gi := gi os
  revert ga h gi
  generalize endF (stepQ (denQ tabQ) R.prog w) 20000 R.prog w os = z
  intro ga h gi
  cases z with
  | none => cases ga
  | some s =>
    have g1 : obGa w s = true := Option.some.inj ga
    have h : obH s = _ := Option.some.inj h
    obtain ⟨g2, i⟩ := Prod.mk.inj (Option.some.inj gi)
    unfold obH at h
    unfold obI at i
    rw [frList_eq] at h i
    have e : ob s = valK w := by
      show frList (fragQ s) (fun K => obsK K) = _
      rw [frList_eq]
      unfold lookH at h
      unfold lookI at i
      obtain ⟨h1, h⟩ := Prod.mk.inj h
      obtain ⟨h2, h⟩ := Prod.mk.inj h
      obtain ⟨h3, h4⟩ := Prod.mk.inj h
      obtain ⟨i1, i2⟩ := Prod.mk.inj i
      show ((globs (fragQ s)).map keyS, ((globs (fragQ s)).drop 9).map (fun e => descr (fragQ s) e.val), methQ (fragQ s), exB (fragQ s), clB (fragQ s), [He.dicW (fragQ s) (adr (fragQ s) 114), He.dicW (fragQ s) (adr (fragQ s) 121)]) = _
      rw [h1, h2, h3, h4, i1, i2]
      rfl
    show some (obGa w s, obGb w s, ob s) = some (true, openGood topV names, valK w)
    rw [e, g1, g2]
theorem runGa0 (w : World) : RunGa (w.withFollow "special-get-raises" false) := by
  intro os
  kernel_rfl
theorem runGa1 (w : World) : RunGa (w.withFollow "special-get-raises" true) := by
  intro os
  kernel_rfl
theorem runGI0 (w : World) : RunGI (w.withFollow "special-get-raises" false) := by
  intro os
  kernel_rfl
theorem runGI1 (w : World) : RunGI (w.withFollow "special-get-raises" true) := by
  intro os
  kernel_rfl
theorem runH0 (w : World) : RunH (w.withFollow "special-get-raises" false) := by
  intro os
  kernel_rfl
theorem runH1 (w : World) : RunH (w.withFollow "special-get-raises" true) := by
  intro os
  kernel_rfl
theorem run_all (w : World) : HandSHeadRun.RunEq R topV hookQ ob 20000 names w :=
  run_join (byRow2 "special-get-raises" runGa0 runGa1 w) (byRow2 "special-get-raises" runH0 runH1 w) (byRow2 "special-get-raises" runGI0 runGI1 w)
end TL
set_option Elab.async false
set_option linter.all false
set_option maxRecDepth 100000
set_option maxHeartbeats 0
namespace TL
open PySem PySem.W PySem.Spec PyProof.Rows
/-! ### the statement's own looks -/
theorem law_front (h : R.wellSaid = true → R.Holds) : PySem.Challenge.rw_tensloft_k96_whole_desk_and_rows.Holds := by
  w_on; o_law
  exact h (by assumption)
theorem law_bare : R.prog.bare := ⟨rfl, rfl, rfl, rfl, rfl, by decide +kernel⟩
end TL
set_option Elab.async false
set_option linter.all false
set_option maxRecDepth 100000
set_option maxHeartbeats 4000000
namespace TL
open PySem PySem.Spec PyProof.Rows L2
/-! ### what the top leaves, as facts -/
structure TX (w : World) (K : PySem.W.Frag) (mg : Str → Option Value) : Prop where
  says : obsK K = valK w
  hp : ∃ h : Heap, K.In h ∧ h.Ns mainGlobals mg
theorem keyS_is {e : DictEntry} {x : Str} : e.key.isStr x = true ↔ keyS e = some x := by
  obtain ⟨h, k, v⟩ := e
  cases k <;> simp [keyS, Value.isStr]
theorem find_key : ∀ {es : List DictEntry} {ks : List Str} {i : Nat} {x : Str}, es.map keyS = ks.map some → ks.Nodup → ks[i]? = some x → es.find? (·.key.isStr x) = es[i]?
  | [], [], i, x, _, _, h => by simp at h
  | [], _ :: _, _, _, h, _, _ => by simp at h
  | _ :: _, [], _, _, h, _, _ => by simp at h
  | e :: es, k :: ks, 0, x, h, _, hx => by
    simp at h hx
    subst hx
    simp only [List.find?_cons, keyS_is.mpr h.1]
    rfl
  | e :: es, k :: ks, i + 1, x, h, nd, hx => by
    simp only [List.map_cons, List.cons.injEq] at h
    rw [List.nodup_cons] at nd
    have hx' : ks[i]? = some x := by simpa using hx
    have ne : ¬ e.key.isStr x = true := fun q => by
      have := keyS_is.mp q
      rw [h.1] at this
      have e2 : k = x := Option.some.inj this
      exact nd.1 (e2 ▸ List.mem_of_getElem? hx')
    have ne' : e.key.isStr x = false := by simpa using ne
    simp only [List.find?_cons, ne']
    exact find_key h.2 nd.2 hx'
theorem find_none : ∀ {es : List DictEntry} {ks : List Str} {x : Str}, es.map keyS = ks.map some → x ∉ ks → es.find? (·.key.isStr x) = none
  | [], _, _, _, _ => rfl
  | _ :: _, [], _, h, _ => by simp at h
  | e :: es, k :: ks, x, h, hx => by
    simp only [List.map_cons, List.cons.injEq] at h
    have ne : ¬ e.key.isStr x = true := fun q => by
      have := keyS_is.mp q
      rw [h.1] at this
      exact hx (by simp [Option.some.inj this])
    have ne' : e.key.isStr x = false := by simpa using ne
    simp only [List.find?_cons, ne']
    exact find_none h.2 (fun q => hx (List.mem_cons_of_mem _ q))
theorem keyQ_nodup : keyQ.Nodup := by decide +kernel
theorem tupAt_ok {K : PySem.W.Frag} {a : Addr} {vs : List V} (h : tupAt K a vs = true) (H : Hp) : SqT K H a vs := by
  unfold tupAt at h
  cases q : K.lookup a with
  | none =>
    rw [q] at h
    cases h
  | some o =>
    obtain ⟨oc, od, dt, osl⟩ := o
    rw [q] at h
    cases oc with
    | type c =>
      cases dt with
      | seq its n =>
        obtain ⟨h1, h2⟩ := He.ba (show (decide (c = "tuple") && (decide (its.size ≤ sizeLine) && He.relAll vs its.toList)) = true from h)
        obtain ⟨h3, h4⟩ := He.ba h2
        exact .inr ⟨_, its, n, q, congrArg Value.type (of_decide_eq_true h1), rfl, of_decide_eq_true h3, He.relAll_ok h4⟩
      | _ => cases h
    | _ => cases dt <;> cases h
section
variable {P : Program} {w : World} {K : PySem.W.Frag} {mg : Str → Option Value} {base : Heap}
theorem TX.keys (T : TX w K mg) : (globs K).map keyS = keyQ.map some := congrArg (fun z : AlQ => z.1) T.says
theorem TX.vals (T : TX w K mg) : ((globs K).drop 9).map (fun e => descr K e.val) = valQ := congrArg (fun z : AlQ => z.2.1) T.says
theorem TX.meths (T : TX w K mg) : methQ K = methV := congrArg (fun z : AlQ => z.2.2.1) T.says
theorem TX.ex (T : TX w K mg) : exB K = true := congrArg (fun z : AlQ => z.2.2.2.1) T.says
theorem TX.cl (T : TX w K mg) : clB K = true := congrArg (fun z : AlQ => z.2.2.2.2.1) T.says
theorem globs_at (T : TX w K mg) : ∃ c d es n sl, K.lookup mainGlobals = some ⟨c, d, .dict es n, sl⟩ ∧ globs K = es.toList := by
  have h := congrArg List.length T.keys
  unfold globs at h ⊢
  cases q : K.lookup mainGlobals with
  | none =>
    rw [q] at h
    exact absurd h (by decide)
  | some o =>
    obtain ⟨c, d, dt, sl⟩ := o
    rw [q] at h
    cases dt with
    | dict es n => exact ⟨_, _, _, _, _, rfl, rfl⟩
    | _ => exact absurd (show (0 : Nat) = (keyQ.map some).length from h) (by decide)
/-- the i-th global -/
theorem TX.entry (T : TX w K mg) (i : Nat) {x : Str} (hx : keyQ[i]? = some x) : ∃ e, (globs K)[i]? = some e ∧ PySem.W.nsIn K mainGlobals x = some (some e.val) ∧ mg x = some e.val := by
  obtain ⟨c, d, es, n, sl, e, eg⟩ := globs_at T
  have hf := find_key T.keys keyQ_nodup hx
  have hl : (globs K)[i]?.isSome := by
    have h1 := congrArg (fun l : List (Option Str) => l[i]?) T.keys
    simp only [List.getElem?_map, hx, Option.map_some] at h1
    cases q : (globs K)[i]? with
    | none => rw [q] at h1; cases h1
    | some _ => rfl
  obtain ⟨en, he⟩ := Option.isSome_iff_exists.mp hl
  rw [he] at hf
  have hn : PySem.W.nsIn K mainGlobals x = some (some en.val) := by
    unfold PySem.W.nsIn
    rw [e]
    simp only
    rw [← eg, hf]
  obtain ⟨h', X, G⟩ := T.hp
  exact ⟨en, he, hn, PySem.W.mg_of X G hn⟩
theorem TX.desc (T : TX w K mg) (i : Nat) {e : DictEntry} {d : De} (he : (globs K)[i + 9]? = some e) (hd : valQ[i]? = some d) : descr K e.val = d := by
  have h1 := congrArg (fun l : List De => l[i]?) T.vals
  simp only [List.getElem?_map, List.getElem?_drop, hd] at h1
  rw [Nat.add_comm 9 i, he] at h1
  exact Option.some.inj h1
theorem codeIn_of {cd : Value} {q : Str} (h : codeName K cd = some q) : PySem.W.codeIn K cd q = true := by
  cases cd with
  | ref c =>
    have h' : (match K.lookup c with
      | some ⟨_, _, .fields vs, _⟩ => (match vs.toList with
        | _ :: .str n _ :: _ => some n
        | _ => none)
      | _ => none) = some q := h
    show (match K.lookup c with
      | some ⟨_, _, .fields vs, _⟩ => (match vs.toList with
        | _ :: .str n _ :: _ => n == q
        | _ => false)
      | _ => false) = true
    split at h'
    · rename_i c1 d1 vs sl e
      split at h'
      · rename_i t1 n t2 t3 ev
        rw [Option.some.inj h']
        exact beq_self_eq_true _
      · cases h'
    · cases h'
  | _ => cases h
theorem descr_fn {v : Value} {n q : Str} {ps : Arguments} {b : List Stmt} {sc : Scope} (h : descr K v = .fn n q ps (.stmts b) sc true (some q)) : ∃ a fd, v = .ref a ∧ FunD K n q ps b sc [] [] a fd := by
  unfold descr at h
  split at h
  · rename_i a
    split at h
    · rename_i c d fd sl e
      obtain ⟨n1, n2, n3, n4, n5, n6, n7, n8, n9, n10, n11, n12, n13, n14, n15⟩ := fd
      injection h with h1 h2 h3 h4 h5 h6 h7
      simp only at h1 h2 h3 h4 h5
      subst h1 h2 h3 h4 h5
      obtain ⟨k1, h6⟩ := He.ba h6
      obtain ⟨k2, h6⟩ := He.ba h6
      obtain ⟨k3, k4⟩ := He.ba h6
      have k1' : n6 = mainGlobals := of_decide_eq_true k1
      have k2' : n7 = [] := List.isEmpty_iff.mp k2
      have k3' : n15 = builtinsNs := of_decide_eq_true k3
      have k4' : n8 = Value.none := by
        cases n8 with
        | none => rfl
        | _ => exact absurd (show false = true from k4) Bool.false_ne_true
      subst k1' k2' k3' k4'
      refine ⟨a, _, rfl, ⟨_, _, _, n9, n10, n11, n12, n13, n14, _, rfl, e, ?_, .inl ⟨rfl, rfl⟩, .inl rfl⟩, ?_⟩
      · exact codeIn_of h7
      · show (match K.lookup a with
          | some ⟨_, _, .func _, _⟩ => true
          | some ⟨_, _, .cls _, _⟩ => PySem.W.specialIn K (.ref a) "__call__" == some (some (.builtin "type.__call__"))
          | _ => false) = true
        rw [e]
    · cases h
    · cases h
  · cases h
  · cases h
  · cases h
/-- a def of the top -/
theorem TX.fnD (T : TX w K mg) (i : Nat) {x n : Str} {j : Nat} (hx : keyQ[i + 9]? = some x) (hd : valQ[i]? = some (dq n j)) :
    ∃ fd, mg x = some (.ref (adr K (i + 9))) ∧ FunD K n n (defArgs (top j)) (defBody (top j)) (defScope (top j)) [] [] (adr K (i + 9)) fd := by
  obtain ⟨e, he, _, hm⟩ := T.entry (i + 9) hx
  obtain ⟨a, fd, ev, F⟩ := descr_fn (T.desc i he hd)
  have ea : adr K (i + 9) = a := by
    unfold adr
    rw [he]
    obtain ⟨h1, h2, h3⟩ := e
    simp only at ev
    subst ev
    rfl
  rw [ea, ← ev]
  exact ⟨fd, hm, F⟩
/-- an object of the top (a class, a tuple, a dict) -/
theorem TX.obj (T : TX w K mg) (i : Nat) {x : Str} (hx : keyQ[i + 9]? = some x) (hd : valQ[i]? = some .obj) : mg x = some (.ref (adr K (i + 9))) := by
  obtain ⟨e, he, _, hm⟩ := T.entry (i + 9) hx
  have h := T.desc i he hd
  obtain ⟨h1, h2, h3⟩ := e
  simp only at h hm
  unfold descr at h
  split at h
  · rw [hm]
    unfold adr
    rw [he]
  · cases h
  · cases h
  · cases h
theorem TX.int (T : TX w K mg) (i : Nat) {x : Str} {z : Int} (hx : keyQ[i + 9]? = some x := by rfl) (hd : valQ[i]? = some (.int z) := by rfl) : ∃ t, mg x = some (.int z t) := by
  obtain ⟨e, he, _, hm⟩ := T.entry (i + 9) hx
  have h := T.desc i he hd
  unfold descr at h
  split at h
  · split at h <;> cases h
  · rename_i j t ev
    rw [ev] at hm
    injection h with h
    exact ⟨t, by rw [hm, h]⟩
  · cases h
  · cases h
theorem TX.str (T : TX w K mg) (i : Nat) {x z : Str} (hx : keyQ[i + 9]? = some x := by rfl) (hd : valQ[i]? = some (.str z) := by rfl) : ∃ t, mg x = some (.str z t) := by
  obtain ⟨e, he, _, hm⟩ := T.entry (i + 9) hx
  have h := T.desc i he hd
  unfold descr at h
  split at h
  · split at h <;> cases h
  · cases h
  · rename_i j t ev
    rw [ev] at hm
    injection h with h
    exact ⟨t, by rw [hm, h]⟩
  · cases h
theorem TX.free (T : TX w K mg) {x : Str} (hx : x ∉ keyQ) : mg x = none := by
  obtain ⟨c, d, es, n, sl, e, eg⟩ := globs_at T
  have hn : PySem.W.nsIn K mainGlobals x = some none := by
    unfold PySem.W.nsIn
    rw [e]
    simp only
    rw [← eg, find_none T.keys hx]
    have h1 : (!(globs K).any (·.refKey)) = true := (He.ba T.ex).1
    have h2 : (globs K).any (·.refKey) = false := by simpa using h1
    rw [h2]
    rfl
  obtain ⟨h', X, G⟩ := T.hp
  exact PySem.W.mg_none_of X G hn
theorem fun_ofD {x qual : Str} {st : Stmt} {f : Addr} {fd : FuncData} (F : FunD K x qual (defArgs st) (defBody st) (defScope st) [] [] f fd) : Fun K x qual st f fd := by
  obtain ⟨oc, od, dV, kV, doc, pm, an, cdv, ct, osl, e, l, c, hd, _⟩ := F.ex
  rcases hd with ⟨_, e2⟩ | ⟨e2, _⟩
  · subst e2
    exact ⟨⟨oc, od, kV, doc, pm, an, cdv, ct, osl, e, l, c⟩, F.kp⟩
  · exact absurd rfl e2
/-- a def as its callers take it: i its place among the names -/
structure DefOk (P : Program) (w : World) (K : PySem.W.Frag) (mg : Str → Option Value) (base : Heap) (k i : Nat) (x : Str) (ps : List Str) (sp : Sp) : Prop where
  ex : ∃ (fd : FuncData), FnOk P w K mg base CX0 k (adr K i) fd ps sp ∧ mg x = some (.ref (adr K i)) ∧ PySem.W.keepIn K (.ref (adr K i)) = true ∧ Binds K fd ps []
theorem DefOk.mono {i j k : Nat} {x : Str} {ps : List Str} {sp : Sp} (D : DefOk P w K mg base j i x ps sp) (h : j ≤ k) : DefOk P w K mg base k i x ps sp := by
  obtain ⟨fd, F, r⟩ := D.ex
  exact ⟨fd, F.mono h, r⟩
theorem DefOk.imp {i k : Nat} {x : Str} {ps : List Str} {sp sp' : Sp} (D : DefOk P w K mg base k i x ps sp) (h : ∀ vs H Q E, sp' vs H Q E → sp vs H Q E) : DefOk P w K mg base k i x ps sp' := by
  obtain ⟨fd, F, r⟩ := D.ex
  exact ⟨fd, F.imp h, r⟩
theorem DefOk.held {i k : Nat} {x : Str} {ps : List Str} {sp : Sp} (D : DefOk P w K mg base k i x ps sp) : Held P w K mg base k (adr K i) sp := by
  obtain ⟨fd, F, _, r1, r2⟩ := D.ex
  exact ⟨fd, ps, F, r1, r2⟩
theorem mkDef (T : TX w K mg) (i : Nat) {x n : Str} {j : Nat} {N ps : List Str} {k : Nat} {sp : Sp} (hx : keyQ[i + 9]? = some x) (hd : valQ[i]? = some (dq n j)) (S : FnScope N ps (defScope (top j)))
    (hb : ∀ (kV doc pm : Value) (an : Option Addr) (cdv ct : Value) (us : List Value), us.length = ps.length → bindArgs (PySem.W.fnOf n n (defArgs (top j)) (defBody (top j)) (defScope (top j)) .none kV doc pm an cdv ct) ⟨us, []⟩ = pure (ps.zip us))
    (len : ∀ vs H Q E, sp vs H Q E → vs.length = ps.length)
    (body : ∀ (f : Addr) (cdv : Value) (A : Around) (outer : List Env) (s : Shared) (H : Hp) (vs : List V) (Q : VK) (E : XK), Room k (A.deeper (envOfC n (defScope (top j)) s.heap.objs.size f cdv)) → sp vs H Q E →
      ∃ t, PSs (cxOf CX0 P w K mg base N n (defScope (top j)) f cdv A outer s H E).nox (defBody (top j)) t ∧ t { nx := fun _ H' => Q .non H', rt := Q } (start N vs) H) : DefOk P w K mg base (k + 1) (i + 9) x ps sp := by
  obtain ⟨fd, hm, F⟩ := T.fnD i hx hd
  have F' : Fun K n n (top j) (adr K (i + 9)) fd := fun_ofD F
  exact ⟨fd, F'.ok S len (body _), hm, F'.kp, F'.binds hb⟩
/-- f(e, ..) by DefOk -/
theorem pe_callD {X : Cx} {k i : Nat} {x : Str} {ps : List Str} {sp : Sp} {p pos : Pos} {e : Expr} {es : List Expr} {t : TA} (D : DefOk X.prog X.w X.K X.mg X.base k i x ps sp) (hr : Room k X.A) (hg : Gl X x) (ha : PA X (e :: es) t)
    (hdb : (x == ("__debug__" : Str)) = false := by decide) (he : starEach (e :: es) X.env = (false, eval e X.env) :: starEach es X.env := by rfl) (hpl : (backTo pos (starEach es X.env)).any (·.1) = false := by rfl) :
    PE X (.Call (.Name x p) (e :: es) [] pos) (tCall sp [] E0 t) := by
  obtain ⟨fd, F, hm, hk, hb⟩ := D.ex
  exact pe_call F hr hg hm hk hb .nil pass0 ha hdb he hpl
theorem TX.clsB (T : TX w K mg) : Cls K (cB K) := by
  obtain ⟨h, _⟩ := He.ba T.cl
  obtain ⟨c, _⟩ := He.ba h
  obtain ⟨c1, c⟩ := He.ba c
  obtain ⟨c2, c⟩ := He.ba c
  obtain ⟨c3, c4⟩ := He.ba c
  exact ⟨c1, c2, c3, He.eqO_ok c4⟩
theorem TX.clsD (T : TX w K mg) : Cls K (cD K) := by
  obtain ⟨h, _⟩ := He.ba T.cl
  obtain ⟨_, h⟩ := He.ba h
  obtain ⟨c, _⟩ := He.ba h
  obtain ⟨c1, c⟩ := He.ba c
  obtain ⟨c2, c⟩ := He.ba c
  obtain ⟨c3, c4⟩ := He.ba c
  exact ⟨c1, c2, c3, He.eqO_ok c4⟩
theorem mkrB_ok {C : Addr} (c : mkrB K C = true) : Mk K C (madr K C "__init__") := by
  obtain ⟨c1, c⟩ := He.ba c
  obtain ⟨c2, c⟩ := He.ba c
  obtain ⟨c3, c4⟩ := He.ba c
  exact ⟨c1, He.eqO_ok c2, c3, c4⟩
theorem TX.mkB (T : TX w K mg) : Mk K (cB K) (madr K (cB K) "__init__") := by
  obtain ⟨h, _⟩ := He.ba T.cl
  obtain ⟨_, h⟩ := He.ba h
  obtain ⟨_, h⟩ := He.ba h
  exact mkrB_ok (He.ba h).1
theorem TX.mkD (T : TX w K mg) : Mk K (cD K) (madr K (cD K) "__init__") := by
  obtain ⟨h, _⟩ := He.ba T.cl
  obtain ⟨_, h⟩ := He.ba h
  obtain ⟨_, h⟩ := He.ba h
  exact mkrB_ok (He.ba h).2
theorem methB_ok {C : Addr} {m : Str} (c : methB K C m = true) : Meth K C m (madr K C m) := by
  obtain ⟨c1, c⟩ := He.ba c
  obtain ⟨c2, c3⟩ := He.ba c
  exact ⟨He.eqO_ok c1, c2, c3⟩
theorem TX.methB (T : TX w K mg) {m : Str} (hm : m ∈ methsB) : Meth K (cB K) m (madr K (cB K) m) := by
  obtain ⟨_, h⟩ := He.ba T.cl
  obtain ⟨h, _⟩ := He.ba h
  exact methB_ok (List.all_eq_true.mp (He.ba h).1 m hm)
theorem TX.methD (T : TX w K mg) {m : Str} (hm : m ∈ methsD) : Meth K (cD K) m (madr K (cD K) m) := by
  obtain ⟨_, h⟩ := He.ba T.cl
  obtain ⟨h, _⟩ := He.ba h
  exact methB_ok (List.all_eq_true.mp (He.ba h).2 m hm)
theorem TX.noB (T : TX w K mg) {f : Str} (hf : f ∈ (["rows", "tables", "worths", "free"] : List Str)) : NoAttr K (cB K) f := by
  obtain ⟨_, h⟩ := He.ba T.cl
  obtain ⟨_, h⟩ := He.ba h
  exact He.eqO_ok (List.all_eq_true.mp (He.ba h).1 f hf)
theorem TX.noD (T : TX w K mg) {f : Str} (hf : f ∈ (["names", "past", "undone"] : List Str)) : NoAttr K (cD K) f := by
  obtain ⟨_, h⟩ := He.ba T.cl
  obtain ⟨_, h⟩ := He.ba h
  exact He.eqO_ok (List.all_eq_true.mp (He.ba h).2 f hf)
/-- a method as its callers take it -/
structure MethOk (P : Program) (w : World) (K : PySem.W.Frag) (mg : Str → Option Value) (base : Heap) (k : Nat) (C : Addr) (m : Str) (ps : List Str) (sp : Sp) : Prop where
  ex : ∃ (fd : FuncData), FnOk P w K mg base CX0 k (madr K C m) fd ps sp ∧ Cls K C ∧ Binds K fd ps []
theorem MethOk.mono {j k : Nat} {C : Addr} {m : Str} {ps : List Str} {sp : Sp} (D : MethOk P w K mg base j C m ps sp) (h : j ≤ k) : MethOk P w K mg base k C m ps sp := by
  obtain ⟨fd, F, r⟩ := D.ex
  exact ⟨fd, F.mono h, r⟩
theorem MethOk.imp {k : Nat} {C : Addr} {m : Str} {ps : List Str} {sp sp' : Sp} (D : MethOk P w K mg base k C m ps sp) (h : ∀ vs H Q E, sp' vs H Q E → sp vs H Q E) : MethOk P w K mg base k C m ps sp' := by
  obtain ⟨fd, F, r⟩ := D.ex
  exact ⟨fd, F.imp h, r⟩
theorem mkMeth (T : TX w K mg) (i : Nat) {C : Addr} {m q : Str} {a j : Nat} {N ps : List Str} {k : Nat} {sp : Sp} (h : (methQ K)[i]? = some (descr K (.ref (madr K C m)))) (h2 : methV[i]? = some (dm m q a j)) (hc : Cls K C) (S : FnScope N ps (defScope (inClass (top a) j)))
    (hb : ∀ (kV doc pm : Value) (an : Option Addr) (cdv ct : Value) (us : List Value), us.length = ps.length → bindArgs (PySem.W.fnOf m q (defArgs (inClass (top a) j)) (defBody (inClass (top a) j)) (defScope (inClass (top a) j)) .none kV doc pm an cdv ct) ⟨us, []⟩ = pure (ps.zip us))
    (len : ∀ vs H Q E, sp vs H Q E → vs.length = ps.length)
    (body : ∀ (f : Addr) (cdv : Value) (A : Around) (outer : List Env) (s : Shared) (H : Hp) (vs : List V) (Q : VK) (E : XK), Room k (A.deeper (envOfC q (defScope (inClass (top a) j)) s.heap.objs.size f cdv)) → sp vs H Q E →
      ∃ t, PSs (cxOf CX0 P w K mg base N q (defScope (inClass (top a) j)) f cdv A outer s H E).nox (defBody (inClass (top a) j)) t ∧ t { nx := fun _ H' => Q .non H', rt := Q } (start N vs) H) : MethOk P w K mg base (k + 1) C m ps sp := by
  rw [T.meths, h2] at h
  have e := (Option.some.inj h).symm
  obtain ⟨a', fd, ev, F⟩ := descr_fn e
  injection ev with ev
  rw [← ev] at F
  have F' : Fun K m q (inClass (top a) j) (madr K C m) fd := fun_ofD F
  exact ⟨fd, F'.ok S len (body _), hc, F'.binds hb⟩
end
end TL
set_option Elab.async false
set_option linter.all false
set_option maxRecDepth 100000
set_option maxHeartbeats 4000000
namespace TL
open PySem PySem.Spec PyProof.Rows L2
/-! ### short words -/
section
variable {w : World} {K : PySem.W.Frag} {mg : Str → Option Value} {X : Cx}
theorem pe_gInt {x : Str} {z : Int} {pos : Pos} (h : ∃ t, X.mg x = some (.int z t)) (hg : Gl X x := by rfl) (hd : (x == ("__debug__" : Str)) = false := by decide) : PE X (.Name x pos) (tC (.int z)) := by
  obtain ⟨t, h⟩ := h
  exact pe_glob hg h ⟨t, rfl⟩ hd
theorem pe_gStr {x z : Str} {pos : Pos} (h : ∃ t, X.mg x = some (.str z t)) (hg : Gl X x := by rfl) (hd : (x == ("__debug__" : Str)) = false := by decide) : PE X (.Name x pos) (tC (.str z)) := by
  obtain ⟨t, h⟩ := h
  exact pe_glob hg h ⟨t, rfl⟩ hd
theorem pe_gRef {x : Str} {a : Addr} {pos : Pos} (h : X.mg x = some (.ref a)) (hg : Gl X x := by rfl) (hd : (x == ("__debug__" : Str)) = false := by decide) : PE X (.Name x pos) (tC (.ref a)) := pe_glob hg h rfl hd
theorem TX.fnG (T : TX w K mg) (i : Nat) {x n : Str} {j : Nat} (hx : keyQ[i + 9]? = some x) (hd : valQ[i]? = some (dq n j)) : mg x = some (.ref (adr K (i + 9))) := by
  obtain ⟨fd, h, _⟩ := T.fnD i hx hd
  exact h
theorem TX.len_ (T : TX w K mg) : mg "len" = none := T.free (by decide +kernel)
theorem TX.range_ (T : TX w K mg) : mg "range" = none := T.free (by decide +kernel)
theorem TX.int_ (T : TX w K mg) : mg "int" = none := T.free (by decide +kernel)
theorem TX.abs_ (T : TX w K mg) : mg "abs" = none := T.free (by decide +kernel)
theorem TX.tuple_ (T : TX w K mg) : mg "tuple" = none := T.free (by decide +kernel)
theorem TX.max_ (T : TX w K mg) : mg "max" = none := T.free (by decide +kernel)
theorem TX.min_ (T : TX w K mg) : mg "min" = none := T.free (by decide +kernel)
theorem TX.zip_ (T : TX w K mg) : mg "zip" = none := T.free (by decide +kernel)
theorem TX.enumerate_ (T : TX w K mg) : mg "enumerate" = none := T.free (by decide +kernel)
theorem TX.reversed_ (T : TX w K mg) : mg "reversed" = none := T.free (by decide +kernel)
theorem TX.str_ (T : TX w K mg) : mg "str" = none := T.free (by decide +kernel)
theorem TX.list_ (T : TX w K mg) : mg "list" = none := T.free (by decide +kernel)
theorem TX.all_ (T : TX w K mg) : mg "all" = none := T.free (by decide +kernel)
theorem TX.set_ (T : TX w K mg) : mg "set" = none := T.free (by decide +kernel)
theorem TX.dict_ (T : TX w K mg) : mg "dict" = none := T.free (by decide +kernel)
theorem TX.isinstance_ (T : TX w K mg) : mg "isinstance" = none := T.free (by decide +kernel)
/-! ### answers -/
theorem qi {Q : VK} {H : Hp} {i j : Int} (e : i = j) (k : Q (.int j) H) : Q (.int i) H := by rw [e]; exact k
theorem qv {Q : VK} {H : Hp} {i j : V} (e : i = j) (k : Q j H) : Q i H := by rw [e]; exact k
theorem _root_.L2.Same.new {H : Hp} {p : Addr} {o : HO} (hp : H p = none) : Same H (upd H p o) := fun b u e => by rw [upd_ne (ne_of_none e hp)]; exact e
theorem _root_.L2.Same.teq {H H' : Hp} {a : Addr} {xs : List V} (e : Same H H') (h : SqT K H a xs) : SqT K H' a xs := by
  rcases h with (h | ⟨o, h⟩) | h
  · exact .inl (.inl (e _ _ h))
  · exact .inl (.inr ⟨o, e _ _ h⟩)
  · exact .inr h
/-- a test of an open comparison -/
theorem iteD {c : Prop} [Decidable c] {A B : Prop} (h1 : c → A) (h2 : ¬ c → B) : if decide c = true then A else B := by
  by_cases h : c
  · rw [decide_eq_true h]; exact h1 h
  · rw [decide_eq_false h]; exact iteF (h2 h)
theorem iteND {c : Prop} [Decidable c] {A B : Prop} (h1 : ¬ c → A) (h2 : c → B) : if (!decide c) = true then A else B := by
  by_cases h : c
  · rw [decide_eq_true h]; exact iteF (h2 h)
  · rw [decide_eq_false h]; exact h1 h
theorem iteB {b : Bool} {A B : Prop} (h1 : b = true → A) (h2 : b = false → B) : if b = true then A else B := by
  cases b
  · exact iteF (h2 rfl)
  · exact h1 rfl
end
end TL
set_option Elab.async false
set_option linter.all false
set_option maxRecDepth 100000
set_option maxHeartbeats 4000000
namespace TL
open PySem PySem.Spec PyProof.Rows L2
/-- one question answered, where its answer is plain -/
local macro_rules | `(tactic| walk_at "p") => `(tactic| first
  | refine ⟨_, rfl, ?_⟩
  | refine ⟨_, _, rfl, rfl, ⟨by decide, by decide⟩, ?_⟩
  | refine ⟨_, _, rfl, rfl, (by show (0 : Int) < _; decide), ?_⟩
  | refine ⟨_, _, rfl, rfl, ?_⟩
  | refine ⟨rfl, ?_⟩
  | refine .inr ⟨_, rfl, ?_⟩
  | refine .inl ⟨_, rfl, ?_⟩)
local macro_rules | `(tactic| walk_at "ps") => `(tactic| repeat walk_at "p")
/-! ### the functions of bytes -/
def spWo (wo : Wo) : Sp := fun vs H Q _ => ∃ x : Nat, vs = [.int x] ∧ x ≤ 255 ∧ ∀ H', Same H H' → Q (.int (wo.ap x : Nat)) H'
section
variable {P : Program} {w : World} {K : PySem.W.Frag} {mg : Str → Option Value} {base : Heap}
theorem sc_high_half : FnScope ["byte"] ["byte"] (defScope (top 18)) := ⟨rfl, rfl, rfl, by decide +kernel, rfl, by decide +kernel, by decide +kernel⟩
theorem d_high_half (T : TX w K mg) : DefOk P w K mg base 1 25 "high_half" ["byte"] (spWo .hi) := by
  refine mkDef T 16 rfl rfl sc_high_half (fun _ _ _ _ _ _ us hl => match us, hl with | [_], _ => rfl) (fun vs H Q E h => ?_) (fun f cdv A outer s H vs Q E hr h => ?_)
  · obtain ⟨x, rfl, hx, k⟩ := h
    rfl
  · obtain ⟨x, rfl, hx, k⟩ := h
    refine ⟨_, 
        (pss_one (ps_ret (pe_op op_fdiv (pv 0) pe_int))), ?_⟩
    walk_at "ps"
    exact qi (by show (x : Int) / 16 = ((x / 16 : Nat) : Int); omega) (k _ (Same.refl _))
theorem sc_low_half : FnScope ["byte"] ["byte"] (defScope (top 19)) := ⟨rfl, rfl, rfl, by decide +kernel, rfl, by decide +kernel, by decide +kernel⟩
theorem d_low_half (T : TX w K mg) : DefOk P w K mg base 1 26 "low_half" ["byte"] (spWo .lo) := by
  refine mkDef T 17 rfl rfl sc_low_half (fun _ _ _ _ _ _ us hl => match us, hl with | [_], _ => rfl) (fun vs H Q E h => ?_) (fun f cdv A outer s H vs Q E hr h => ?_)
  · obtain ⟨x, rfl, hx, k⟩ := h
    rfl
  · obtain ⟨x, rfl, hx, k⟩ := h
    refine ⟨_, 
        (pss_one (ps_ret (pe_op op_mod (pv 0) pe_int))), ?_⟩
    walk_at "ps"
    exact qi (by show (x : Int) % 16 = ((x % 16 : Nat) : Int); omega) (k _ (Same.refl _))
theorem sc_half_up : FnScope ["byte"] ["byte"] (defScope (top 20)) := ⟨rfl, rfl, rfl, by decide +kernel, rfl, by decide +kernel, by decide +kernel⟩
theorem d_half_up (T : TX w K mg) : DefOk P w K mg base 1 27 "half_up" ["byte"] (spWo .hup) := by
  refine mkDef T 18 rfl rfl sc_half_up (fun _ _ _ _ _ _ us hl => match us, hl with | [_], _ => rfl) (fun vs H Q E h => ?_) (fun f cdv A outer s H vs Q E hr h => ?_)
  · obtain ⟨x, rfl, hx, k⟩ := h
    rfl
  · obtain ⟨x, rfl, hx, k⟩ := h
    refine ⟨_, 
        (pss_one (ps_ret (pe_op op_mul (pe_op op_mod (pv 0) pe_int) pe_int))), ?_⟩
    walk_at "ps"
    refine ⟨.inr ⟨by decide, by decide⟩, ?_⟩
    exact qi (by show (x : Int) % 16 * 16 = ((x % 16 * 16 : Nat) : Int); omega) (k _ (Same.refl _))
theorem sc_last_figure : FnScope ["byte"] ["byte"] (defScope (top 21)) := ⟨rfl, rfl, rfl, by decide +kernel, rfl, by decide +kernel, by decide +kernel⟩
theorem d_last_figure (T : TX w K mg) : DefOk P w K mg base 1 28 "last_figure" ["byte"] (spWo .last) := by
  refine mkDef T 19 rfl rfl sc_last_figure (fun _ _ _ _ _ _ us hl => match us, hl with | [_], _ => rfl) (fun vs H Q E h => ?_) (fun f cdv A outer s H vs Q E hr h => ?_)
  · obtain ⟨x, rfl, hx, k⟩ := h
    rfl
  · obtain ⟨x, rfl, hx, k⟩ := h
    refine ⟨_, 
        (pss_one (ps_ret (pe_op op_mod (pv 0) pe_int))), ?_⟩
    walk_at "ps"
    exact qi (by show (x : Int) % 10 = ((x % 10 : Nat) : Int); omega) (k _ (Same.refl _))
theorem sc_ahead_of_last : FnScope ["byte"] ["byte"] (defScope (top 22)) := ⟨rfl, rfl, rfl, by decide +kernel, rfl, by decide +kernel, by decide +kernel⟩
theorem d_ahead_of_last (T : TX w K mg) : DefOk P w K mg base 1 29 "ahead_of_last" ["byte"] (spWo .ahead) := by
  refine mkDef T 20 rfl rfl sc_ahead_of_last (fun _ _ _ _ _ _ us hl => match us, hl with | [_], _ => rfl) (fun vs H Q E h => ?_) (fun f cdv A outer s H vs Q E hr h => ?_)
  · obtain ⟨x, rfl, hx, k⟩ := h
    rfl
  · obtain ⟨x, rfl, hx, k⟩ := h
    refine ⟨_, 
        (pss_one (ps_ret (pe_op op_fdiv (pv 0) pe_int))), ?_⟩
    walk_at "ps"
    exact qi (by show (x : Int) / 10 = ((x / 10 : Nat) : Int); omega) (k _ (Same.refl _))
theorem sc_nine_less : FnScope ["byte"] ["byte"] (defScope (top 23)) := ⟨rfl, rfl, rfl, by decide +kernel, rfl, by decide +kernel, by decide +kernel⟩
theorem d_nine_less (T : TX w K mg) : DefOk P w K mg base 1 30 "nine_less" ["byte"] (spWo .nine) := by
  refine mkDef T 21 rfl rfl sc_nine_less (fun _ _ _ _ _ _ us hl => match us, hl with | [_], _ => rfl) (fun vs H Q E h => ?_) (fun f cdv A outer s H vs Q E hr h => ?_)
  · obtain ⟨x, rfl, hx, k⟩ := h
    rfl
  · obtain ⟨x, rfl, hx, k⟩ := h
    have k' : Q (.int ((if 9 < x ∧ x < 20 then 19 - x else x : Nat) : Int)) H := k _ (Same.refl _)
    refine ⟨_, 
        (pss_cons (ps_if (PW.pt (pw_and (pt_cmpR op_gt (pv 0) pe_int (nomark _)) (pw_and1 (pt_cmpR op_lt (pv 0) pe_int (nomark _))))) 
          (pss_one (ps_ret (pe_op op_sub pe_int (pv 0)))) pss_nil) 
        (pss_one (ps_ret (pv 0)))), ?_⟩
    walk_at "ps"
    refine iteD (fun h1 => ?_) (fun h1 => ?_)
    · walk_at "ps"
      refine iteD (fun h2 => ?_) (fun h2 => ?_)
      · walk_at "ps"
        rw [if_pos (by omega)] at k'
        exact qi (by omega) k'
      · walk_at "ps"
        rw [if_neg (by omega)] at k'
        exact k'
    · refine iteF ?_
      walk_at "ps"
      rw [if_neg (by omega)] at k'
      exact k'
theorem sc_ten_or_none : FnScope ["byte"] ["byte"] (defScope (top 24)) := ⟨rfl, rfl, rfl, by decide +kernel, rfl, by decide +kernel, by decide +kernel⟩
theorem d_ten_or_none (T : TX w K mg) : DefOk P w K mg base 1 31 "ten_or_none" ["byte"] (spWo .tenOr) := by
  refine mkDef T 22 rfl rfl sc_ten_or_none (fun _ _ _ _ _ _ us hl => match us, hl with | [_], _ => rfl) (fun vs H Q E h => ?_) (fun f cdv A outer s H vs Q E hr h => ?_)
  · obtain ⟨x, rfl, hx, k⟩ := h
    rfl
  · obtain ⟨x, rfl, hx, k⟩ := h
    have k' : Q (.int ((if 0 < x then 10 else 0 : Nat) : Int)) H := k _ (Same.refl _)
    refine ⟨_, 
        (pss_one (ps_ret (pe_op op_mul pe_int (pe_callTy call_int1 (by rfl) T.int_ (by decide +kernel) (pa_cons (pe_cmpR op_gt (pv 0) pe_int (nomark _)) pa_nil))))), ?_⟩
    walk_at "ps"
    refine ⟨.inl ⟨by decide, by decide⟩, ?_⟩
    refine qi ?_ k'
    show (10 : Int) * (if decide ((0 : Int) < (x : Int)) = true then 1 else 0) = _
    by_cases h : 0 < x
    · rw [if_pos h, if_pos (decide_eq_true (by omega))]; rfl
    · rw [if_neg h, if_neg (by simp; omega)]; rfl
theorem sc_one_or_none : FnScope ["byte"] ["byte"] (defScope (top 25)) := ⟨rfl, rfl, rfl, by decide +kernel, rfl, by decide +kernel, by decide +kernel⟩
theorem d_one_or_none (T : TX w K mg) : DefOk P w K mg base 1 32 "one_or_none" ["byte"] (spWo .oneOr) := by
  refine mkDef T 23 rfl rfl sc_one_or_none (fun _ _ _ _ _ _ us hl => match us, hl with | [_], _ => rfl) (fun vs H Q E h => ?_) (fun f cdv A outer s H vs Q E hr h => ?_)
  · obtain ⟨x, rfl, hx, k⟩ := h
    rfl
  · obtain ⟨x, rfl, hx, k⟩ := h
    have k' : Q (.int ((if 0 < x then 1 else 0 : Nat) : Int)) H := k _ (Same.refl _)
    refine ⟨_, 
        (pss_one (ps_ret (pe_callTy call_int1 (by rfl) T.int_ (by decide +kernel) (pa_cons (pe_cmpR op_gt (pv 0) pe_int (nomark _)) pa_nil)))), ?_⟩
    walk_at "ps"
    refine qi ?_ k'
    show (if decide ((0 : Int) < (x : Int)) = true then (1 : Int) else 0) = _
    by_cases h : 0 < x
    · rw [if_pos h, if_pos (decide_eq_true (by omega))]; rfl
    · rw [if_neg h, if_neg (by simp; omega)]; rfl
theorem sc_one_of_none : FnScope ["byte"] ["byte"] (defScope (top 26)) := ⟨rfl, rfl, rfl, by decide +kernel, rfl, by decide +kernel, by decide +kernel⟩
theorem d_one_of_none (T : TX w K mg) : DefOk P w K mg base 1 33 "one_of_none" ["byte"] (spWo .oneOf) := by
  refine mkDef T 24 rfl rfl sc_one_of_none (fun _ _ _ _ _ _ us hl => match us, hl with | [_], _ => rfl) (fun vs H Q E h => ?_) (fun f cdv A outer s H vs Q E hr h => ?_)
  · obtain ⟨x, rfl, hx, k⟩ := h
    rfl
  · obtain ⟨x, rfl, hx, k⟩ := h
    have k' : Q (.int ((if x = 0 then 1 else 0 : Nat) : Int)) H := k _ (Same.refl _)
    refine ⟨_, 
        (pss_one (ps_ret (pe_callTy call_int1 (by rfl) T.int_ (by decide +kernel) (pa_cons (pe_cmpR op_eq (pv 0) pe_int (nomark _)) pa_nil)))), ?_⟩
    walk_at "ps"
    refine qi ?_ k'
    show (if decide (V.int (x : Int) = V.int 0) = true then (1 : Int) else 0) = _
    by_cases h : x = 0
    · rw [if_pos h, if_pos (decide_eq_true (by rw [h]; rfl))]; rfl
    · rw [if_neg h, if_neg (by simp; omega)]; rfl
theorem sc_five_on : FnScope ["byte"] ["byte"] (defScope (top 27)) := ⟨rfl, rfl, rfl, by decide +kernel, rfl, by decide +kernel, by decide +kernel⟩
theorem d_five_on (T : TX w K mg) : DefOk P w K mg base 1 34 "five_on" ["byte"] (spWo .five) := by
  refine mkDef T 25 rfl rfl sc_five_on (fun _ _ _ _ _ _ us hl => match us, hl with | [_], _ => rfl) (fun vs H Q E h => ?_) (fun f cdv A outer s H vs Q E hr h => ?_)
  · obtain ⟨x, rfl, hx, k⟩ := h
    rfl
  · obtain ⟨x, rfl, hx, k⟩ := h
    have k' : Q (.int ((if 4 < x then 1 else 0 : Nat) : Int)) H := k _ (Same.refl _)
    refine ⟨_, 
        (pss_one (ps_ret (pe_callTy call_int1 (by rfl) T.int_ (by decide +kernel) (pa_cons (pe_cmpR op_gt (pv 0) pe_int (nomark _)) pa_nil)))), ?_⟩
    walk_at "ps"
    refine qi ?_ k'
    show (if decide ((4 : Int) < (x : Int)) = true then (1 : Int) else 0) = _
    by_cases h : 4 < x
    · rw [if_pos h, if_pos (decide_eq_true (by omega))]; rfl
    · rw [if_neg h, if_neg (by simp; omega)]; rfl
theorem sc_six_on : FnScope ["byte"] ["byte"] (defScope (top 82)) := ⟨rfl, rfl, rfl, by decide +kernel, rfl, by decide +kernel, by decide +kernel⟩
theorem d_six_on (T : TX w K mg) : DefOk P w K mg base 1 83 "six_on" ["byte"] (spWo .six) := by
  refine mkDef T 74 rfl rfl sc_six_on (fun _ _ _ _ _ _ us hl => match us, hl with | [_], _ => rfl) (fun vs H Q E h => ?_) (fun f cdv A outer s H vs Q E hr h => ?_)
  · obtain ⟨x, rfl, hx, k⟩ := h
    rfl
  · obtain ⟨x, rfl, hx, k⟩ := h
    have k' : Q (.int ((if 5 < x then 1 else 0 : Nat) : Int)) H := k _ (Same.refl _)
    refine ⟨_, 
        (pss_one (ps_ret (pe_callTy call_int1 (by rfl) T.int_ (by decide +kernel) (pa_cons (pe_cmpR op_gt (pv 0) pe_int (nomark _)) pa_nil)))), ?_⟩
    walk_at "ps"
    refine qi ?_ k'
    show (if decide ((5 : Int) < (x : Int)) = true then (1 : Int) else 0) = _
    by_cases h : 5 < x
    · rw [if_pos h, if_pos (decide_eq_true (by omega))]; rfl
    · rw [if_neg h, if_neg (by simp; omega)]; rfl
theorem sc_sign_below : FnScope ["byte"] ["byte"] (defScope (top 28)) := ⟨rfl, rfl, rfl, by decide +kernel, rfl, by decide +kernel, by decide +kernel⟩
theorem d_sign_below (T : TX w K mg) : DefOk P w K mg base 1 35 "sign_below" ["byte"] (spWo .signB) := by
  refine mkDef T 26 rfl rfl sc_sign_below (fun _ _ _ _ _ _ us hl => match us, hl with | [_], _ => rfl) (fun vs H Q E h => ?_) (fun f cdv A outer s H vs Q E hr h => ?_)
  · obtain ⟨x, rfl, hx, k⟩ := h
    rfl
  · obtain ⟨x, rfl, hx, k⟩ := h
    have k' : ∀ H', Same H H' → Q (.int ((if x % 16 = 11 ∨ x % 16 = 13 then 1 else 0 : Nat) : Int)) H' := k
    refine ⟨_, 
        (pss_one (ps_ret (pe_callTy call_int1 (by rfl) T.int_ (by decide +kernel) (pa_cons (pe_cmpR op_in_seq (pe_op op_mod (pv 0) pe_int) (pe_tup (pa_cons pe_int (pa_cons pe_int pa_nil))) (by rfl)) pa_nil)))), ?_⟩
    walk_at "ps"
    refine ⟨by decide, fun p hp => ⟨_, _, rfl, .inr (SqT.of upd_same), rfl, rfl, ?_⟩⟩
    walk_at "ps"
    refine qi ?_ (k' _ (Same.new hp))
    have e : inV (V.int ((x : Int) % 16)) [V.int 11, V.int 13] = decide (x % 16 = 11 ∨ x % 16 = 13) := by
      have h : x % 16 < 16 := Nat.mod_lt _ (by decide)
      rw [show (x : Int) % 16 = ((x % 16 : Nat) : Int) by omega]
      generalize x % 16 = y at h
      revert h; revert y
      decide
    show (if inV (V.int ((x : Int) % 16)) [V.int 11, V.int 13] = true then (1 : Int) else 0) = _
    rw [e]
    by_cases h : x % 16 = 11 ∨ x % 16 = 13
    · rw [if_pos h, if_pos (decide_eq_true h)]; rfl
    · rw [if_neg h, if_neg (by simpa using h)]; rfl
theorem sc_one_of_two : FnScope ["byte"] ["byte"] (defScope (top 29)) := ⟨rfl, rfl, rfl, by decide +kernel, rfl, by decide +kernel, by decide +kernel⟩
theorem d_one_of_two (T : TX w K mg) : DefOk P w K mg base 1 36 "one_of_two" ["byte"] (spWo .one2) := by
  refine mkDef T 27 rfl rfl sc_one_of_two (fun _ _ _ _ _ _ us hl => match us, hl with | [_], _ => rfl) (fun vs H Q E h => ?_) (fun f cdv A outer s H vs Q E hr h => ?_)
  · obtain ⟨x, rfl, hx, k⟩ := h
    rfl
  · obtain ⟨x, rfl, hx, k⟩ := h
    have k' : ∀ H', Same H H' → Q (.int ((if x % 4 = 1 ∨ x % 4 = 2 then 1 else 0 : Nat) : Int)) H' := k
    refine ⟨_, 
        (pss_one (ps_ret (pe_callTy call_int1 (by rfl) T.int_ (by decide +kernel) (pa_cons (pe_cmpR op_in_seq (pe_op op_mod (pv 0) pe_int) (pe_tup (pa_cons pe_int (pa_cons pe_int pa_nil))) (by rfl)) pa_nil)))), ?_⟩
    walk_at "ps"
    refine ⟨by decide, fun p hp => ⟨_, _, rfl, .inr (SqT.of upd_same), rfl, rfl, ?_⟩⟩
    walk_at "ps"
    refine qi ?_ (k' _ (Same.new hp))
    have e : inV (V.int ((x : Int) % 4)) [V.int 1, V.int 2] = decide (x % 4 = 1 ∨ x % 4 = 2) := by
      have h : x % 4 < 4 := Nat.mod_lt _ (by decide)
      rw [show (x : Int) % 4 = ((x % 4 : Nat) : Int) by omega]
      generalize x % 4 = y at h
      revert h; revert y
      decide
    show (if inV (V.int ((x : Int) % 4)) [V.int 1, V.int 2] = true then (1 : Int) else 0) = _
    rw [e]
    by_cases h : x % 4 = 1 ∨ x % 4 = 2
    · rw [if_pos h, if_pos (decide_eq_true h)]; rfl
    · rw [if_neg h, if_neg (by simpa using h)]; rfl
theorem sc_lowest_two : FnScope ["byte"] ["byte"] (defScope (top 30)) := ⟨rfl, rfl, rfl, by decide +kernel, rfl, by decide +kernel, by decide +kernel⟩
theorem d_lowest_two (T : TX w K mg) : DefOk P w K mg base 1 37 "lowest_two" ["byte"] (spWo .low2) := by
  refine mkDef T 28 rfl rfl sc_lowest_two (fun _ _ _ _ _ _ us hl => match us, hl with | [_], _ => rfl) (fun vs H Q E h => ?_) (fun f cdv A outer s H vs Q E hr h => ?_)
  · obtain ⟨x, rfl, hx, k⟩ := h
    rfl
  · obtain ⟨x, rfl, hx, k⟩ := h
    refine ⟨_, 
        (pss_one (ps_ret (pe_op op_mod (pv 0) pe_int))), ?_⟩
    walk_at "ps"
    exact qi (by show (x : Int) % 2 = ((x % 2 : Nat) : Int); omega) (k _ (Same.refl _))
theorem sc_order_byte : FnScope ["byte"] ["byte"] (defScope (top 31)) := ⟨rfl, rfl, rfl, by decide +kernel, rfl, by decide +kernel, by decide +kernel⟩
theorem d_order_byte (T : TX w K mg) : DefOk P w K mg base 1 38 "order_byte" ["byte"] (spWo .ordB) := by
  refine mkDef T 29 rfl rfl sc_order_byte (fun _ _ _ _ _ _ us hl => match us, hl with | [_], _ => rfl) (fun vs H Q E h => ?_) (fun f cdv A outer s H vs Q E hr h => ?_)
  · obtain ⟨x, rfl, hx, k⟩ := h
    rfl
  · obtain ⟨x, rfl, hx, k⟩ := h
    have k' : ∀ H', Same H H' → Q (.int (([1, 2, 1, 0].getD (x % 4) 0 : Nat) : Int)) H' := k
    refine ⟨_, 
        (pss_one (ps_ret (pe_ix ix_tup (pe_tup (pa_cons pe_int (pa_cons pe_int (pa_cons pe_int (pa_cons pe_int pa_nil))))) (pe_op op_mod (pv 0) pe_int) (fun _ _ => rfl)))), ?_⟩
    refine ⟨by decide, fun p hp => ?_⟩
    walk_at "ps"
    refine ⟨_, _, _, V.int (([1, 2, 1, 0].getD (x % 4) 0 : Nat) : Int), rfl, rfl, SqT.of upd_same, ?_, k' _ (Same.new hp)⟩
    have h : x % 4 < 4 := Nat.mod_lt _ (by decide)
    rw [show (x : Int) % 4 = ((x % 4 : Nat) : Int) by omega]
    generalize x % 4 = y at h
    revert h; revert y
    decide
theorem sc_product_byte : FnScope ["byte"] ["byte"] (defScope (top 140)) := ⟨rfl, rfl, rfl, by decide +kernel, rfl, by decide +kernel, by decide +kernel⟩
theorem d_product_byte (T : TX w K mg) : DefOk P w K mg base 1 134 "product_byte" ["byte"] (spWo .prod) := by
  refine mkDef T 125 rfl rfl sc_product_byte (fun _ _ _ _ _ _ us hl => match us, hl with | [_], _ => rfl) (fun vs H Q E h => ?_) (fun f cdv A outer s H vs Q E hr h => ?_)
  · obtain ⟨x, rfl, hx, k⟩ := h
    rfl
  · obtain ⟨x, rfl, hx, k⟩ := h
    refine ⟨_, 
        (pss_one (ps_ret (pe_op op_mul (pe_op op_fdiv (pv 0) pe_int) (pe_op op_mod (pv 0) pe_int)))), ?_⟩
    walk_at "ps"
    refine ⟨.inr ⟨by omega, by omega⟩, ?_⟩
    refine qi ?_ (k _ (Same.refl _))
    show (x : Int) / 16 * ((x : Int) % 16) = ((x / 16 * (x % 16) : Nat) : Int)
    rw [Int.natCast_mul, Int.natCast_ediv, Int.natCast_emod]
    rfl
end
end TL
set_option Elab.async false
set_option linter.all false
set_option maxRecDepth 100000
set_option pp.maxSteps 600
set_option maxHeartbeats 4000000
namespace TL
open PySem PySem.Spec PyProof.Rows L2
/-- one question answered, where its answer is plain -/
local macro_rules | `(tactic| walk_at "p") => `(tactic| first
  | refine ⟨_, rfl, ?_⟩
  | refine ⟨_, _, rfl, rfl, ⟨by decide, by decide⟩, ?_⟩
  | refine ⟨_, _, rfl, rfl, (by show (0 : Int) < _; decide), ?_⟩
  | refine ⟨_, _, rfl, rfl, ?_⟩
  | refine ⟨rfl, ?_⟩
  | refine ⟨_, _, _, _, rfl, rfl, (by assumption), rfl, ?_⟩
  | refine .inr ⟨_, rfl, ?_⟩
  | refine .inl ⟨_, rfl, ?_⟩
  | refine iteT ?_
  | refine iteF ?_)
local macro_rules | `(tactic| walk_at "ps") => `(tactic| repeat walk_at "p")

/-- a list of numbers from 0 on -/
def nV (d : Nat) : V := V.int (d : Int)
/-! ### forms -/
def kindS (b : Bool) : Str := if b then "packed" else "spread"
def sgS : Sg → Str
  | .none => "none"
  | .end_ => "end"
  | .tens => "tens"
def Form.vs (f : Form) : List V := [.str (kindS f.packed), .int (f.n : Int), .str (sgS f.sg), .int (f.pt : Int)]
theorem isEnd (s : Sg) : decide (V.str (sgS s) = V.str "end") = decide (s = .end_) := by cases s <;> decide
theorem isNone (s : Sg) : decide (V.str (sgS s) = V.str "none") = decide (s = .none) := by cases s <;> decide
theorem isTens (s : Sg) : decide (V.str (sgS s) = V.str "tens") = decide (s = .tens) := by cases s <;> decide
theorem isPacked (b : Bool) : decide (V.str (kindS b) = V.str "packed") = b := by cases b <;> decide
theorem isSpread (b : Bool) : decide (V.str (kindS b) = V.str "spread") = !b := by cases b <;> decide
theorem digs_front : ∀ (k x : Nat), digs (k + 1) x = x / 10 ^ k % 10 :: digs k x
  | 0, x => by simp [digs]
  | k + 1, x => by
    rw [digs, digs_front k (x / 10), digs, Nat.div_div_eq_div_mul, ← Nat.pow_succ', List.cons_append]
theorem upd_is {H : Hp} {p : Addr} {o o' : HO} (e : o = o') : upd H p o p = some o' := by rw [e]; exact upd_same
theorem tup2 {a b c d : Int} (h1 : a = c) (h2 : b = d) : HO.tup [.int a, .int b] = HO.tup [.int c, .int d] := by rw [h1, h2]
def spHalves (K : PySem.W.Frag) : Sp := fun vs H Q _ => ∃ (a : Addr) (f : Form), vs = [.ref a] ∧ SqT K H a f.vs ∧ ∀ H' p, Same H H' → H' p = some (.tup [.int (f.halves : Int), .int (f.ahead : Int)]) → Q (.ref p) H'
def spFormInt (K : PySem.W.Frag) (g : Form → Int) : Sp := fun vs H Q _ => ∃ (a : Addr) (f : Form), vs = [.ref a] ∧ SqT K H a f.vs ∧ 0 < f.n ∧ f.n ≤ 100 ∧ ∀ H', Same H H' → Q (.int (g f)) H'
def spPower : Sp := fun vs H Q _ => ∃ (b : Int) (n : Nat), vs = [.int b, .int (n : Int)] ∧ -(2 ^ 64) < b ∧ b < 2 ^ 64 ∧ n ≤ 1000 ∧ ∀ H', Same H H' → Q (.int (b ^ n)) H'
def spNumberBy (K : PySem.W.Frag) : Sp := fun vs H Q _ => ∃ (a : Addr) (ds : List Nat), vs = [.int 10, .ref a] ∧ SqL K H a (ds.map nV) ∧ ∀ H', Same H H' → Q (.int (num ds : Int)) H'
def spFigures (K : PySem.W.Frag) : Sp := fun vs H Q _ => ∃ (x n : Nat), vs = [.int (x : Int), .int (n : Int)] ∧ n ≤ 1000 ∧ ∀ H' p, Same H H' → H p = none → H' p = some (.lst ((digs n x).map nV)) → Q (.ref p) H'
section
variable {P : Program} {w : World} {K : PySem.W.Frag} {mg : Str → Option Value} {base : Heap}
theorem sc_halves_of : FnScope ["form", "many"] ["form"] (defScope (top 46)) := ⟨rfl, rfl, rfl, by decide +kernel, rfl, by decide +kernel, by decide +kernel⟩
theorem d_halves_of (T : TX w K mg) : DefOk P w K mg base 1 51 "halves_of" ["form"] (spHalves K) := by
  refine mkDef T 42 rfl rfl sc_halves_of (fun _ _ _ _ _ _ us hl => match us, hl with | [_], _ => rfl) (fun vs H Q E h => ?_) (fun f cdv A outer s H vs Q E hr h => ?_)
  · obtain ⟨a, f, rfl, hF, k⟩ := h
    rfl
  · obtain ⟨a, f, rfl, hF, k⟩ := h
    refine ⟨_, 
        (pss_cons (ps_set (i := 1) sc_halves_of.nd rfl (Or.inl rfl) (pe_op op_add (pe_ix ix_tup (pv 0) pe_int (fun _ _ => rfl)) (pe_callTy call_int1 (by rfl) T.int_ (by decide +kernel) (pa_cons (pe_cmpR op_eq (pe_ix ix_tup (pv 0) pe_int (fun _ _ => rfl)) pe_str (nomark _)) pa_nil)))) 
        (pss_one (ps_ret (pe_tup (pa_cons (pe_op op_add (pv 1) (pe_op op_mod (pv 1) pe_int)) (pa_cons (pe_op op_mod (pv 1) pe_int) pa_nil)))))), ?_⟩
    walk_at "ps"
    refine ⟨(by decide : 2 ≤ sizeLine), fun p hp => k _ p (Same.new hp) (upd_is (tup2 ?_ ?_))⟩
    · rw [isEnd]
      unfold Form.halves Form.e
      by_cases h : f.sg = .end_
      · simp only [h, decide_true, if_true]; omega
      · simp only [h, decide_false, if_false, Bool.false_eq_true]; omega
    · rw [isEnd]
      unfold Form.ahead Form.e
      by_cases h : f.sg = .end_
      · simp only [h, decide_true, if_true]; omega
      · simp only [h, decide_false, if_false, Bool.false_eq_true]; omega
theorem sc_width : FnScope ["form"] ["form"] (defScope (top 47)) := ⟨rfl, rfl, rfl, by decide +kernel, rfl, by decide +kernel, by decide +kernel⟩
theorem d_width (T : TX w K mg) : DefOk P w K mg base 2 52 "width" ["form"] (spFormInt K fun f => (f.width : Int)) := by
  refine mkDef T 43 rfl rfl sc_width (fun _ _ _ _ _ _ us hl => match us, hl with | [_], _ => rfl) (fun vs H Q E h => ?_) (fun f cdv A outer s H vs Q E hr h => ?_)
  · obtain ⟨a, f, rfl, hF, _, _, k⟩ := h
    rfl
  · obtain ⟨a, f, rfl, hF, _, _, k⟩ := h
    refine ⟨_, 
        (pss_cons (ps_if (pt_cmpR op_eq (pe_ix ix_tup (pv 0) pe_int (fun _ _ => rfl)) pe_str (nomark _)) 
          (pss_one (ps_ret (pe_op op_fdiv (pe_ix ix_tup (pe_callD (d_halves_of T) (hr.mono (by decide)) (by rfl) (pa_cons (pv 0) pa_nil)) pe_int (fun _ _ => rfl)) pe_int))) pss_nil) 
        (pss_one (ps_ret (pe_ix ix_tup (pv 0) pe_int (fun _ _ => rfl))))), ?_⟩
    walk_at "ps"
    rw [isPacked]
    refine iteB (fun h => ?_) (fun h => ?_)
    · walk_at "ps"
      refine ⟨a, f, rfl, hF, fun H' p s1 e1 => ?_⟩
      refine ⟨_, _, _, _, rfl, rfl, SqT.of e1, rfl, ?_⟩
      walk_at "ps"
      refine qi ?_ (k _ s1)
      show (f.halves : Int) / 2 = (f.width : Int)
      rw [width_packed h]; omega
    · walk_at "ps"
      refine qi ?_ (k _ (Same.refl _))
      show (f.n : Int) = (f.width : Int)
      rw [width_spread h]
theorem sc_power : FnScope ["base", "many", "found", "k"] ["base", "many"] (defScope (top 54)) := ⟨rfl, rfl, rfl, by decide +kernel, rfl, by decide +kernel, by decide +kernel⟩
theorem d_power (T : TX w K mg) : DefOk P w K mg base 1 58 "power" ["base", "many"] (spPower) := by
  refine mkDef T 49 rfl rfl sc_power (fun _ _ _ _ _ _ us hl => match us, hl with | [_, _], _ => rfl) (fun vs H Q E h => ?_) (fun f cdv A outer s H vs Q E hr h => ?_)
  · obtain ⟨b, n, rfl, h1, h2, hn, k⟩ := h
    rfl
  · obtain ⟨b, n, rfl, h1, h2, hn, k⟩ := h
    refine ⟨_, 
        (pss_cons (ps_set (i := 2) sc_power.nd rfl (Or.inl rfl) pe_int) 
        (pss_cons (ps_for PassesOwn.never rfl (pi_range1 rfl T.range_ (pa_cons (pv 1) pa_nil)) (pg_name (i := 3) sc_power.nd rfl (Or.inl rfl)) 
          (pss_one (ps_set (i := 2) sc_power.nd rfl (Or.inl rfl) (pe_op op_mul (pv 2) (pv 0))))) 
        (pss_one (ps_ret (pv 2))))), ?_⟩
    walk_at "p"
    refine ⟨_, rfl, by omega, by omega, for_range (lo := 0) (n := n) (fun i σ H' => H' = H ∧ ∃ v, σ = [some (.int b), some (.int (n : Int)), some (.int (b ^ i)), v]) ⟨rfl, none, by rw [Int.pow_zero]; rfl⟩ ?_ ?_⟩
    · rintro i σ H' hi ⟨rfl, v, rfl⟩
      walk_at "p"
      walk_at "p"
      refine ⟨_, _, rfl, rfl, .inr ⟨h1, h2⟩, ?_⟩
      exact ⟨rfl, some (.int (0 + (i : Int))), by rw [Int.pow_succ]; rfl⟩
    · rintro σ H' ⟨rfl, v, rfl⟩
      walk_at "p"
      exact k _ (Same.refl _)
theorem sc_number_by : FnScope ["base", "digits", "found", "digit"] ["base", "digits"] (defScope (top 56)) := ⟨rfl, rfl, rfl, by decide +kernel, rfl, by decide +kernel, by decide +kernel⟩
theorem d_number_by (T : TX w K mg) : DefOk P w K mg base 1 60 "number_by" ["base", "digits"] (spNumberBy K) := by
  refine mkDef T 51 rfl rfl sc_number_by (fun _ _ _ _ _ _ us hl => match us, hl with | [_, _], _ => rfl) (fun vs H Q E h => ?_) (fun f cdv A outer s H vs Q E hr h => ?_)
  · obtain ⟨a, ds, rfl, hL, k⟩ := h
    rfl
  · obtain ⟨a, ds, rfl, hL, k⟩ := h
    refine ⟨_, 
        (pss_cons (ps_set (i := 2) sc_number_by.nd rfl (Or.inl rfl) pe_int) 
        (pss_cons (ps_for PassesOwn.never rfl (pi_list (pv 1)) (pg_name (i := 3) sc_number_by.nd rfl (Or.inl rfl)) 
          (pss_one (ps_set (i := 2) sc_number_by.nd rfl (Or.inl rfl) (pe_op op_add (pe_op op_mul (pv 2) (pv 0)) (pv 3))))) 
        (pss_one (ps_ret (pv 2))))), ?_⟩
    walk_at "p"
    refine ⟨_, rfl, ⟨_, hL⟩, for_list (K := K) (a := a) (xs := ds.map nV) (fun i σ H' => H' = H ∧ ∃ v, σ = [some (.int 10), some (.ref a), some (.int (num (ds.take i) : Int)), v]) ⟨rfl, _, rfl⟩ (fun i σ H' _ ⟨e, _⟩ => e ▸ hL) ?_ ?_⟩
    · rintro i x σ H' hx ⟨rfl, v, rfl⟩
      rw [List.getElem?_map] at hx
      obtain ⟨d, hd, rfl⟩ := Option.map_eq_some_iff.mp hx
      walk_at "p"
      walk_at "p"
      refine ⟨_, _, rfl, rfl, .inr ⟨by decide, by decide⟩, ?_⟩
      walk_at "ps"
      refine ⟨some (nV d), ?_⟩
      have e : num (ds.take (i + 1)) = 10 * num (ds.take i) + d := by
        rw [List.take_succ, hd]
        exact num_snoc _ _
      rw [e]
      show [some (V.int 10), some (V.ref a), some (V.int ((num (ds.take i) : Int) * 10 + (d : Int))), some (nV d)] = _
      rw [show ((num (ds.take i) : Int) * 10 + (d : Int)) = ((10 * num (ds.take i) + d : Nat) : Int) by omega]
    · rintro σ H' ⟨rfl, v, rfl⟩
      walk_at "p"
      refine qi ?_ (k _ (Same.refl _))
      rw [List.length_map, List.take_length]
theorem sc_figures_of : FnScope ["number", "many", "found", "k"] ["number", "many"] (defScope (top 55)) := ⟨rfl, rfl, rfl, by decide +kernel, rfl, by decide +kernel, by decide +kernel⟩
theorem d_figures_of (T : TX w K mg) : DefOk P w K mg base 1 59 "figures_of" ["number", "many"] (spFigures K) := by
  refine mkDef T 50 rfl rfl sc_figures_of (fun _ _ _ _ _ _ us hl => match us, hl with | [_, _], _ => rfl) (fun vs H Q E h => ?_) (fun f cdv A outer s H vs Q E hr h => ?_)
  · obtain ⟨x, n, rfl, hn, k⟩ := h
    rfl
  · obtain ⟨x, n, rfl, hn, k⟩ := h
    refine ⟨_, 
        (pss_cons (ps_set (i := 2) sc_figures_of.nd rfl (Or.inl rfl) (pe_lst pa_nil)) 
        (pss_cons (ps_for PassesOwn.never rfl (pi_range1 rfl T.range_ (pa_cons (pv 1) pa_nil)) (pg_name (i := 3) sc_figures_of.nd rfl (Or.inl rfl)) 
          (pss_cons (ps_expr (pe_bm PySem.F.plainAttrs_list PySem.F.slot_list_append PySem.F.type_list_append mt_append (pv 2) (pa_cons (pe_op op_mod (pv 0) pe_int) pa_nil))) 
          (pss_one (ps_set (i := 0) sc_figures_of.nd rfl (Or.inl rfl) (pe_op op_fdiv (pv 0) pe_int))))) 
        (pss_one (ps_ret (pe_revL (pv 2)))))), ?_⟩
    refine ⟨by decide, fun p hp => ?_⟩
    walk_at "p"
    refine ⟨_, rfl, by omega, by omega, for_range (lo := 0) (n := n) (fun i σ H' => Same H H' ∧ H' p = some (.lst ((digs i x).reverse.map nV)) ∧ ∃ v, σ = [some (.int ((x / 10 ^ i : Nat) : Int)), some (.int (n : Int)), some (.ref p), v]) ⟨Same.new hp, upd_same, none, ?_⟩ ?_ ?_⟩
    · rw [Nat.pow_zero, Nat.div_one]
      rfl
    · rintro i σ H' hi ⟨s1, e1, v, rfl⟩
      walk_at "p"
      refine ⟨.inl ⟨rfl, _, SqL.of e1⟩, ?_⟩
      walk_at "ps"
      refine ⟨p, _, _, rfl, rfl, e1, ?_, ?_⟩
      · rw [List.length_map, List.length_reverse, digs_length]
        exact small1000 (by omega)
      walk_at "ps"
      refine ⟨fun b o eb => ?_, ?_, some (.int (0 + (i : Int))), ?_⟩
      · rw [upd_ne (ne_of_none eb hp)]
        exact s1 b o eb
      · have e : (digs (i + 1) x).reverse = (digs i x).reverse ++ [x / 10 ^ i % 10] := by
          rw [digs_front, List.reverse_cons]
        rw [upd_same, e, List.map_append]
        rfl
      · have e : x / 10 ^ (i + 1) = x / 10 ^ i / 10 := by rw [Nat.pow_succ, Nat.div_div_eq_div_mul]
        rw [e]
        rfl
    · rintro σ H' ⟨s1, e1, v, rfl⟩
      walk_at "p"
      refine ⟨_, _, rfl, SqL.of e1, fun q hq => k _ q (s1.trans (Same.new hq)) (s1.free hq) (upd_is ?_)⟩
      rw [← List.map_reverse, List.reverse_reverse]
end
end TL
set_option Elab.async false
set_option linter.all false
set_option maxRecDepth 100000
set_option pp.maxSteps 600
set_option maxHeartbeats 4000000
namespace TL
open PySem PySem.Spec PyProof.Rows L2
/-- one question answered, where its answer is plain -/
local macro_rules | `(tactic| walk_at "p") => `(tactic| first
  | refine ⟨_, rfl, ?_⟩
  | refine ⟨_, _, rfl, rfl, ⟨by decide, by decide⟩, ?_⟩
  | refine ⟨_, _, rfl, rfl, (by show (0 : Int) < _; decide), ?_⟩
  | refine ⟨_, _, rfl, rfl, ?_⟩
  | refine ⟨rfl, ?_⟩
  | refine ⟨_, _, _, _, rfl, rfl, (by assumption), rfl, ?_⟩
  | refine .inr ⟨_, rfl, ?_⟩
  | refine .inl ⟨_, rfl, ?_⟩
  | refine iteT ?_
  | refine iteF ?_)
local macro_rules | `(tactic| walk_at "ps") => `(tactic| repeat walk_at "p")

/-! ### folding, fitting, rounding -/
def ruleS : Rule → Str
  | .cut => "cut"
  | .up => "up"
  | .half => "half"
  | .even => "even"
  | .floor => "floor"
  | .ceil => "ceil"
def spFold (K : PySem.W.Frag) : Sp := fun vs H Q _ => ∃ (a : Addr) (f : Form) (N : Int), vs = [.ref a, .int N] ∧ SqT K H a f.vs ∧ 0 < f.n ∧ f.n ≤ 100 ∧ ∀ H', Same H H' → Q (.int (foldedZ f N)) H'
def spFits (K : PySem.W.Frag) : Sp := fun vs H Q _ => ∃ (a : Addr) (f : Form) (N : Int), vs = [.ref a, .int N] ∧ SqT K H a f.vs ∧ 0 < f.n ∧ f.n ≤ 100 ∧ ∀ H', Same H H' → Q (.bl (fitsZ f N)) H'
def spMark (K : PySem.W.Frag) : Sp := fun vs H Q _ => ∃ (a : Addr) (f : Form) (N : Int), vs = [.ref a, .int N] ∧ SqT K H a f.vs ∧ 0 < f.n ∧ f.n ≤ 100 ∧ ∀ H', Same H H' → Q (.str (if fitsZ f N then "0" else "1")) H'
def spSign : Sp := fun vs H Q _ => ∃ N : Int, vs = [.int N] ∧ ∀ H', Same H H' → Q (.int (signOf N : Int)) H'
def spOneMore : Sp := fun vs H Q _ => ∃ (size rest ten : Nat) (rule : Rule) (b : Bool), vs = [.int size, .int rest, .int ten, .str (ruleS rule), .bl b] ∧ ∀ H', Same H H' → Q (.bl (oneMore size rest ten rule b)) H'
def spRounded : Sp := fun vs H Q _ => ∃ (N by_ : Int) (rule : Rule), vs = [.int N, .int by_, .str (ruleS rule)] ∧ -(2 ^ 64) < N ∧ N < 2 ^ 64 ∧ -8 ≤ by_ ∧ by_ ≤ 100 ∧ ∀ H', Same H H' → Q (.int (roundedZ N by_ rule)) H'
def spOrder : Sp := fun vs H Q _ => ∃ (x y : Int), vs = [.int x, .int y] ∧ ∀ H', Same H H' → Q (.str (if x < y then "less" else if x = y then "alike" else "greater")) H'
section
variable {P : Program} {w : World} {K : PySem.W.Frag} {mg : Str → Option Value} {base : Heap}
theorem TX.tups (T : TX w K mg) : tupAt K (adr K 62) [V.str "packed", V.str "spread"] = true ∧ tupAt K (adr K 63) [V.str "none", V.str "end", V.str "tens"] = true ∧ tupAt K (adr K 73) [V.int 11, V.int 13] = true ∧ tupAt K (adr K 82) [V.str "cut", V.str "up", V.str "half", V.str "even", V.str "floor", V.str "ceil"] = true := by
  obtain ⟨_, h⟩ := He.ba T.ex
  obtain ⟨h1, h⟩ := He.ba h
  obtain ⟨h2, h⟩ := He.ba h
  obtain ⟨h3, h⟩ := He.ba h
  obtain ⟨h4, _⟩ := He.ba h
  exact ⟨h1, h2, h3, h4⟩
theorem pow_pos10 (n : Nat) : (0 : Int) < 10 ^ n := by rw [powZ]; exact Int.natCast_pos.mpr (Nat.pow_pos (by decide))
theorem sc_least_of : FnScope ["form"] ["form"] (defScope (top 63)) := ⟨rfl, rfl, rfl, by decide +kernel, rfl, by decide +kernel, by decide +kernel⟩
theorem d_least_of (T : TX w K mg) : DefOk P w K mg base 2 66 "least_of" ["form"] (spFormInt K leastZ) := by
  refine mkDef T 57 rfl rfl sc_least_of (fun _ _ _ _ _ _ us hl => match us, hl with | [_], _ => rfl) (fun vs H Q E h => ?_) (fun f cdv A outer s H vs Q E hr h => ?_)
  · obtain ⟨a, f, rfl, hF, hn, hn2, k⟩ := h
    rfl
  · obtain ⟨a, f, rfl, hF, hn, hn2, k⟩ := h
    refine ⟨_, 
        (pss_cons (ps_if (pt_cmpR op_eq (pe_ix ix_tup (pv 0) pe_int (fun _ _ => rfl)) pe_str (nomark _)) 
          (pss_one (ps_ret pe_int)) pss_nil) 
        (pss_cons (ps_if (pt_cmpR op_eq (pe_ix ix_tup (pv 0) pe_int (fun _ _ => rfl)) pe_str (nomark _)) 
          (pss_one (ps_ret (pe_op op_sub pe_int (pe_callD (d_power T) (hr.mono (by decide)) (by rfl) (pa_cons pe_int (pa_cons (pe_ix ix_tup (pv 0) pe_int (fun _ _ => rfl)) pa_nil)))))) pss_nil) 
        (pss_one (ps_ret (pe_op op_mul (pe_un un_neg pe_int) (pe_callD (d_power T) (hr.mono (by decide)) (by rfl) (pa_cons pe_int (pa_cons (pe_op op_sub (pe_ix ix_tup (pv 0) pe_int (fun _ _ => rfl)) pe_int) pa_nil)))))))), ?_⟩
    walk_at "ps"
    rw [isNone]
    refine iteD (fun h => ?_) (fun h => ?_)
    · walk_at "ps"
      exact qi (by simp only [leastZ, h]) (k _ (Same.refl _))
    · walk_at "ps"
      rw [isEnd]
      refine iteD (fun h2 => ?_) (fun h2 => ?_)
      · walk_at "ps"
        refine ⟨10, f.n, rfl, by decide, by decide, by omega, fun H1 s1 => ?_⟩
        walk_at "ps"
        exact qi (by simp only [leastZ, h2]) (k _ s1)
      · walk_at "ps"
        refine ⟨10, f.n - 1, by show [V.int 10, V.int ((f.n : Int) - 1)] = _; rw [show ((f.n : Int) - 1) = ((f.n - 1 : Nat) : Int) by omega], by decide, by decide, by omega, fun H1 s1 => ?_⟩
        refine ⟨_, _, rfl, rfl, .inl ⟨by decide, by decide⟩, ?_⟩
        have h3 : f.sg = .tens := by
          revert h h2
          cases f.sg <;> simp
        exact qi (by simp only [leastZ, h3]) (k _ s1)
theorem sc_most_of : FnScope ["form"] ["form"] (defScope (top 64)) := ⟨rfl, rfl, rfl, by decide +kernel, rfl, by decide +kernel, by decide +kernel⟩
theorem d_most_of (T : TX w K mg) : DefOk P w K mg base 2 67 "most_of" ["form"] (spFormInt K mostZ) := by
  refine mkDef T 58 rfl rfl sc_most_of (fun _ _ _ _ _ _ us hl => match us, hl with | [_], _ => rfl) (fun vs H Q E h => ?_) (fun f cdv A outer s H vs Q E hr h => ?_)
  · obtain ⟨a, f, rfl, hF, hn, hn2, k⟩ := h
    rfl
  · obtain ⟨a, f, rfl, hF, hn, hn2, k⟩ := h
    refine ⟨_, 
        (pss_cons (ps_if (pt_cmpR op_eq (pe_ix ix_tup (pv 0) pe_int (fun _ _ => rfl)) pe_str (nomark _)) 
          (pss_one (ps_ret (pe_op op_sub (pe_op op_mul pe_int (pe_callD (d_power T) (hr.mono (by decide)) (by rfl) (pa_cons pe_int (pa_cons (pe_op op_sub (pe_ix ix_tup (pv 0) pe_int (fun _ _ => rfl)) pe_int) pa_nil)))) pe_int))) pss_nil) 
        (pss_one (ps_ret (pe_op op_sub (pe_callD (d_power T) (hr.mono (by decide)) (by rfl) (pa_cons pe_int (pa_cons (pe_ix ix_tup (pv 0) pe_int (fun _ _ => rfl)) pa_nil))) pe_int)))), ?_⟩
    walk_at "ps"
    rw [isTens]
    refine iteD (fun h => ?_) (fun h => ?_)
    · walk_at "ps"
      refine ⟨10, f.n - 1, by show [V.int 10, V.int ((f.n : Int) - 1)] = _; rw [show ((f.n : Int) - 1) = ((f.n - 1 : Nat) : Int) by omega], by decide, by decide, by omega, fun H1 s1 => ?_⟩
      refine ⟨_, _, rfl, rfl, .inl ⟨by decide, by decide⟩, ?_⟩
      walk_at "ps"
      exact qi (by simp only [mostZ, h]) (k _ s1)
    · walk_at "ps"
      refine ⟨10, f.n, rfl, by decide, by decide, by omega, fun H1 s1 => ?_⟩
      walk_at "ps"
      refine qi ?_ (k _ s1)
      unfold mostZ
      split
      · exact absurd (by assumption) h
      · rfl
theorem sc_folded : FnScope ["form", "number", "whole"] ["form", "number"] (defScope (top 65)) := ⟨rfl, rfl, rfl, by decide +kernel, rfl, by decide +kernel, by decide +kernel⟩
theorem d_folded (T : TX w K mg) : DefOk P w K mg base 3 68 "folded" ["form", "number"] (spFold K) := by
  refine mkDef T 59 rfl rfl sc_folded (fun _ _ _ _ _ _ us hl => match us, hl with | [_, _], _ => rfl) (fun vs H Q E h => ?_) (fun f cdv A outer s H vs Q E hr h => ?_)
  · obtain ⟨a, f, N, rfl, hF, hn, hn2, k⟩ := h
    rfl
  · obtain ⟨a, f, N, rfl, hF, hn, hn2, k⟩ := h
    refine ⟨_, 
        (pss_cons (ps_set (i := 2) sc_folded.nd rfl (Or.inl rfl) (pe_callD (d_power T) (hr.mono (by decide)) (by rfl) (pa_cons pe_int (pa_cons (pe_ix ix_tup (pv 0) pe_int (fun _ _ => rfl)) pa_nil)))) 
        (pss_cons (ps_if (pt_cmpR op_eq (pe_ix ix_tup (pv 0) pe_int (fun _ _ => rfl)) pe_str (nomark _)) 
          (pss_one (ps_ret (pe_op op_mod (pv 1) (pv 2)))) pss_nil) 
        (pss_cons (ps_if (pt_cmpR op_eq (pe_ix ix_tup (pv 0) pe_int (fun _ _ => rfl)) pe_str (nomark _)) 
          (pss_one (ps_ret (pe_op op_add (pe_op op_mod (pe_op op_sub (pv 1) (pe_callD (d_least_of T) (hr.mono (by decide)) (by rfl) (pa_cons (pv 0) pa_nil))) (pv 2)) (pe_callD (d_least_of T) (hr.mono (by decide)) (by rfl) (pa_cons (pv 0) pa_nil))))) pss_nil) 
        (pss_cons (ps_if (pt_cmpR op_lt (pv 1) pe_int (nomark _)) 
          (pss_one (ps_ret (pe_un un_neg (pe_op op_mod (pe_un un_neg (pv 1)) (pv 2))))) pss_nil) 
        (pss_one (ps_ret (pe_op op_mod (pv 1) (pv 2)))))))), ?_⟩
    walk_at "ps"
    refine ⟨10, f.n, rfl, by decide, by decide, by omega, fun H1 s1 => ?_⟩
    have hF := s1.teq hF
    have hp := pow_pos10 f.n
    walk_at "ps"
    rw [isNone]
    refine iteD (fun h => ?_) (fun h => ?_)
    · walk_at "ps"
      refine ⟨hp, ?_⟩
      exact qi (by simp only [foldedZ, h]) (k _ s1)
    · walk_at "ps"
      rw [isTens]
      refine iteD (fun h2 => ?_) (fun h2 => ?_)
      · walk_at "ps"
        refine ⟨a, f, rfl, hF, hn, hn2, fun H2 s2 => ?_⟩
        walk_at "ps"
        refine ⟨hp, ?_⟩
        walk_at "ps"
        refine ⟨a, f, rfl, s2.teq hF, hn, hn2, fun H3 s3 => ?_⟩
        walk_at "ps"
        exact qi (by simp only [foldedZ, h2]) (k _ ((s1.trans s2).trans s3))
      · have h3 : f.sg = .end_ := by
          revert h h2
          cases f.sg <;> simp
        walk_at "ps"
        refine iteD (fun h4 => ?_) (fun h4 => ?_)
        · walk_at "ps"
          refine ⟨hp, ?_⟩
          walk_at "ps"
          exact qi (by simp only [foldedZ, h3]; rw [if_pos h4]) (k _ s1)
        · walk_at "ps"
          walk_at "ps"
          refine ⟨hp, ?_⟩
          exact qi (by simp only [foldedZ, h3]; rw [if_neg h4]) (k _ s1)
theorem sc_fits : FnScope ["form", "number"] ["form", "number"] (defScope (top 66)) := ⟨rfl, rfl, rfl, by decide +kernel, rfl, by decide +kernel, by decide +kernel⟩
theorem d_fits (T : TX w K mg) : DefOk P w K mg base 3 69 "fits" ["form", "number"] (spFits K) := by
  refine mkDef T 60 rfl rfl sc_fits (fun _ _ _ _ _ _ us hl => match us, hl with | [_, _], _ => rfl) (fun vs H Q E h => ?_) (fun f cdv A outer s H vs Q E hr h => ?_)
  · obtain ⟨a, f, N, rfl, hF, hn, hn2, k⟩ := h
    rfl
  · obtain ⟨a, f, N, rfl, hF, hn, hn2, k⟩ := h
    refine ⟨_, 
        (pss_one (ps_ret (pe_chain op_le op_le (pe_callD (d_least_of T) (hr.mono (by decide)) (by rfl) (pa_cons (pv 0) pa_nil)) (pv 1) (pe_callD (d_most_of T) (hr.mono (by decide)) (by rfl) (pa_cons (pv 0) pa_nil))))), ?_⟩
    walk_at "ps"
    refine ⟨a, f, rfl, hF, hn, hn2, fun H1 s1 => ?_⟩
    walk_at "ps"
    refine iteD (fun h => ?_) (fun h => ?_)
    · walk_at "ps"
      refine ⟨a, f, rfl, s1.teq hF, hn, hn2, fun H2 s2 => ?_⟩
      walk_at "ps"
      refine qv ?_ (k _ (s1.trans s2))
      show V.bl (decide (N ≤ mostZ f)) = V.bl (decide (leastZ f ≤ N ∧ N ≤ mostZ f))
      by_cases h2 : N ≤ mostZ f
      · rw [decide_eq_true h2, decide_eq_true ⟨h, h2⟩]
      · rw [decide_eq_false h2, decide_eq_false (fun q => h2 q.2)]
    · refine qv ?_ (k _ s1)
      show V.bl false = V.bl (decide (leastZ f ≤ N ∧ N ≤ mostZ f))
      rw [decide_eq_false (fun q => h q.1)]
theorem sc_sign_half : FnScope ["number"] ["number"] (defScope (top 72)) := ⟨rfl, rfl, rfl, by decide +kernel, rfl, by decide +kernel, by decide +kernel⟩
theorem d_sign_half (T : TX w K mg) : DefOk P w K mg base 1 74 "sign_half" ["number"] (spSign) := by
  refine mkDef T 65 rfl rfl sc_sign_half (fun _ _ _ _ _ _ us hl => match us, hl with | [_], _ => rfl) (fun vs H Q E h => ?_) (fun f cdv A outer s H vs Q E hr h => ?_)
  · obtain ⟨N, rfl, k⟩ := h
    rfl
  · obtain ⟨N, rfl, k⟩ := h
    refine ⟨_, 
        (pss_cons (ps_if (pt_cmpR op_lt (pv 0) pe_int (nomark _)) 
          (pss_one (ps_ret (pe_gInt (T.int 62)))) pss_nil) 
        (pss_one (ps_ret (pe_gInt (T.int 61))))), ?_⟩
    walk_at "ps"
    refine iteD (fun h => ?_) (fun h => ?_)
    · exact qi (by unfold signOf; rw [if_pos h]; rfl) (k _ (Same.refl _))
    · exact qi (by unfold signOf; rw [if_neg h]; rfl) (k _ (Same.refl _))
theorem sc_mark_of : FnScope ["form", "number"] ["form", "number"] (defScope (top 129)) := ⟨rfl, rfl, rfl, by decide +kernel, rfl, by decide +kernel, by decide +kernel⟩
theorem d_mark_of (T : TX w K mg) : DefOk P w K mg base 4 125 "mark_of" ["form", "number"] (spMark K) := by
  refine mkDef T 116 rfl rfl sc_mark_of (fun _ _ _ _ _ _ us hl => match us, hl with | [_, _], _ => rfl) (fun vs H Q E h => ?_) (fun f cdv A outer s H vs Q E hr h => ?_)
  · obtain ⟨a, f, N, rfl, hF, hn, hn2, k⟩ := h
    rfl
  · obtain ⟨a, f, N, rfl, hF, hn, hn2, k⟩ := h
    refine ⟨_, 
        (pss_one (ps_ret (pe_callTy call_str_int (by rfl) T.str_ (by decide +kernel) (pa_cons (pe_callTy call_int1 (by rfl) T.int_ (by decide +kernel) (pa_cons (pe_not (pe_callD (d_fits T) (hr.mono (by decide)) (by rfl) (pa_cons (pv 0) (pa_cons (pv 1) pa_nil)))) pa_nil)) pa_nil)))), ?_⟩
    walk_at "ps"
    refine ⟨a, f, N, rfl, hF, hn, hn2, fun H1 s1 => ?_⟩
    walk_at "ps"
    cases e : fitsZ f N
    · refine ⟨by decide, ?_⟩
      refine qv ?_ (k _ s1)
      rw [e]; decide
    · refine ⟨by decide, ?_⟩
      refine qv ?_ (k _ s1)
      rw [e]; decide
theorem sc_order_word : FnScope ["one", "other"] ["one", "other"] (defScope (top 132)) := ⟨rfl, rfl, rfl, by decide +kernel, rfl, by decide +kernel, by decide +kernel⟩
theorem d_order_word (T : TX w K mg) : DefOk P w K mg base 1 128 "order_word" ["one", "other"] (spOrder) := by
  refine mkDef T 119 rfl rfl sc_order_word (fun _ _ _ _ _ _ us hl => match us, hl with | [_, _], _ => rfl) (fun vs H Q E h => ?_) (fun f cdv A outer s H vs Q E hr h => ?_)
  · obtain ⟨x, y, rfl, k⟩ := h
    rfl
  · obtain ⟨x, y, rfl, k⟩ := h
    refine ⟨_, 
        (pss_cons (ps_if (pt_cmpR op_lt (pv 0) (pv 1) (nomark _)) 
          (pss_one (ps_ret pe_str)) pss_nil) 
        (pss_one (ps_ret (pe_ifExp (pt_cmpR op_gt (pv 0) (pv 1) (nomark _)) pe_str pe_str)))), ?_⟩
    have k' := k _ (Same.refl _)
    walk_at "ps"
    refine iteD (fun h => ?_) (fun h => ?_)
    · rw [if_pos h] at k'
      exact k'
    · rw [if_neg h] at k'
      walk_at "ps"
      refine iteD (fun h2 => ?_) (fun h2 => ?_)
      · rw [if_neg (by omega)] at k'
        exact k'
      · rw [if_pos (by omega)] at k'
        exact k'
theorem sc_one_more : FnScope ["size", "rest", "ten", "rule", "below"] ["size", "rest", "ten", "rule", "below"] (defScope (top 83)) := ⟨rfl, rfl, rfl, by decide +kernel, rfl, by decide +kernel, by decide +kernel⟩
theorem d_one_more (T : TX w K mg) : DefOk P w K mg base 1 84 "one_more" ["size", "rest", "ten", "rule", "below"] (spOneMore) := by
  refine mkDef T 75 rfl rfl sc_one_more (fun _ _ _ _ _ _ us hl => match us, hl with | [_, _, _, _, _], _ => rfl) (fun vs H Q E h => ?_) (fun f cdv A outer s H vs Q E hr h => ?_)
  · obtain ⟨size, rest, ten, rule, b, rfl, k⟩ := h
    rfl
  · obtain ⟨size, rest, ten, rule, b, rfl, k⟩ := h
    refine ⟨_, 
        (pss_cons (ps_if (pt_cmpR op_eq (pv 3) pe_str (nomark _)) 
          (pss_one (ps_ret (pe_cmpR op_gt (pv 1) pe_int (nomark _)))) pss_nil) 
        (pss_cons (ps_if (pt_cmpR op_eq (pv 3) pe_str (nomark _)) 
          (pss_one (ps_ret (pe_cmpR op_ge (pe_op op_mul pe_int (pv 1)) (pv 2) (nomark _)))) pss_nil) 
        (pss_cons (ps_if (pt_cmpR op_eq (pv 3) pe_str (nomark _)) 
          (pss_one (ps_ret (pe_or (pe_cmpR op_gt (pe_op op_mul pe_int (pv 1)) (pv 2) (nomark _)) (pe_one (pe_and (pe_cmpR op_eq (pe_op op_mul pe_int (pv 1)) (pv 2) (nomark _)) (pe_one (pe_cmpR op_eq (pe_op op_mod (pv 0) pe_int) pe_int (nomark _)))))))) pss_nil) 
        (pss_cons (ps_if (pt_cmpR op_eq (pv 3) pe_str (nomark _)) 
          (pss_one (ps_ret (pe_and (pe_cmpR op_gt (pv 1) pe_int (nomark _)) (pe_one (pv 4))))) pss_nil) 
        (pss_one (ps_ret (pe_and (pe_cmpR op_eq (pv 3) pe_str (nomark _)) (pe_and (pe_cmpR op_gt (pv 1) pe_int (nomark _)) (pe_one (pe_not (pv 4))))))))))), ?_⟩
    have k' := k _ (Same.refl _)
    cases rule
    · walk_at "ps"
      exact k'
    · walk_at "ps"
      refine qv ?_ k'
      show V.bl (decide ((0 : Int) < (rest : Int))) = V.bl (decide (0 < rest))
      congr 1
      simp
    · walk_at "ps"
      refine ⟨.inl ⟨by decide, by decide⟩, ?_⟩
      walk_at "ps"
      refine qv ?_ k'
      show V.bl (decide ((ten : Int) ≤ 2 * (rest : Int))) = V.bl (decide (ten ≤ 2 * rest))
      congr 1
      rw [decide_eq_decide]; omega
    · walk_at "ps"
      refine ⟨.inl ⟨by decide, by decide⟩, ?_⟩
      walk_at "ps"
      have k2 : Q (.bl (decide (ten < 2 * rest) || (decide (2 * rest = ten) && decide (size % 2 = 1)))) H := k'
      refine iteD (fun h => ?_) (fun h => ?_)
      · rw [decide_eq_true (by omega)] at k2
        exact k2
      · rw [decide_eq_false (by omega)] at k2
        walk_at "ps"
        refine ⟨.inl ⟨by decide, by decide⟩, ?_⟩
        walk_at "ps"
        refine iteD (fun h2 => ?_) (fun h2 => ?_)
        · rw [decide_eq_true (show 2 * rest = ten by injection h2 with h2; omega)] at k2
          walk_at "ps"
          refine qv ?_ k2
          show V.bl (decide (V.int ((size : Int) % 2) = V.int 1)) = V.bl (false || (true && decide (size % 2 = 1)))
          congr 1
          rw [Bool.false_or, Bool.true_and, decide_eq_decide]
          constructor
          · intro q; injection q with q; omega
          · intro q; rw [show (size : Int) % 2 = 1 by omega]
        · rw [decide_eq_false (show ¬ 2 * rest = ten from fun q => h2 (by show V.int ((2 : Int) * (rest : Int)) = V.int (ten : Int); rw [show (2 : Int) * (rest : Int) = (ten : Int) by omega]))] at k2
          exact k2
    · walk_at "ps"
      have k2 : Q (.bl (decide (0 < rest) && b)) H := k'
      refine iteD (fun h => ?_) (fun h => ?_)
      · rw [decide_eq_true (by omega)] at k2
        walk_at "ps"
        exact k2
      · rw [decide_eq_false (by omega)] at k2
        exact k2
    · walk_at "ps"
      have k2 : Q (.bl (decide (0 < rest) && !b)) H := k'
      refine iteD (fun h => ?_) (fun h => ?_)
      · rw [decide_eq_true (by omega)] at k2
        walk_at "ps"
        exact k2
      · rw [decide_eq_false (by omega)] at k2
        exact k2
theorem sc_rounded : FnScope ["number", "by", "rule", "ten", "size"] ["number", "by", "rule"] (defScope (top 84)) := ⟨rfl, rfl, rfl, by decide +kernel, rfl, by decide +kernel, by decide +kernel⟩
theorem d_rounded (T : TX w K mg) : DefOk P w K mg base 2 85 "rounded" ["number", "by", "rule"] (spRounded) := by
  refine mkDef T 76 rfl rfl sc_rounded (fun _ _ _ _ _ _ us hl => match us, hl with | [_, _, _], _ => rfl) (fun vs H Q E h => ?_) (fun f cdv A outer s H vs Q E hr h => ?_)
  · obtain ⟨N, by_, rule, rfl, h1, h2, h3, h4, k⟩ := h
    rfl
  · obtain ⟨N, by_, rule, rfl, h1, h2, h3, h4, k⟩ := h
    refine ⟨_, 
        (pss_cons (ps_if (pt_cmpR op_notIn_seq (pv 2) (pe_gRef (T.obj 73 rfl rfl)) (by rfl)) pss_never pss_nil) 
        (pss_cons (ps_if (pt_cmpR op_ge (pv 1) pe_int (nomark _)) 
          (pss_one (ps_ret (pe_op op_mul (pv 0) (pe_callD (d_power T) (hr.mono (by decide)) (by rfl) (pa_cons pe_int (pa_cons (pv 1) pa_nil)))))) pss_nil) 
        (pss_cons (ps_set (i := 3) sc_rounded.nd rfl (Or.inl rfl) (pe_callD (d_power T) (hr.mono (by decide)) (by rfl) (pa_cons pe_int (pa_cons (pe_un un_neg (pv 1)) pa_nil)))) 
        (pss_cons (ps_set (i := 4) sc_rounded.nd rfl (Or.inl rfl) (pe_op op_fdiv (pe_callB call_abs (by rfl) T.abs_ (by decide +kernel) (pa_cons (pv 0) pa_nil)) (pv 3))) 
        (pss_cons (ps_set (i := 4) sc_rounded.nd rfl (Or.inl rfl) (pe_op op_add (pv 4) (pe_callTy call_int1 (by rfl) T.int_ (by decide +kernel) (pa_cons (pe_callD (d_one_more T) (hr.mono (by decide)) (by rfl) (pa_cons (pv 4) (pa_cons (pe_op op_mod (pe_callB call_abs (by rfl) T.abs_ (by decide +kernel) (pa_cons (pv 0) pa_nil)) (pv 3)) (pa_cons (pv 3) (pa_cons (pv 2) (pa_cons (pe_cmpR op_lt (pv 0) pe_int (nomark _)) pa_nil)))))) pa_nil)))) 
        (pss_cons (ps_if (pt_cmpR op_lt (pv 0) pe_int (nomark _)) 
          (pss_one (ps_ret (pe_un un_neg (pv 4)))) pss_nil) 
        (pss_one (ps_ret (pv 4))))))))), ?_⟩
    walk_at "ps"
    refine ⟨_, _, rfl, .inr (tupAt_ok T.tups.2.2.2 _), rfl, rfl, ?_⟩
    walk_at "ps"
    have e : inV (V.str (ruleS rule)) [V.str "cut", V.str "up", V.str "half", V.str "even", V.str "floor", V.str "ceil"] = true := by cases rule <;> decide
    rw [e]
    refine iteF ?_
    walk_at "ps"
    refine iteD (fun h => ?_) (fun h => ?_)
    · walk_at "ps"
      refine ⟨10, by_.toNat, by show [V.int 10, V.int by_] = _; rw [Int.toNat_of_nonneg h], by decide, by decide, by omega, fun H1 s1 => ?_⟩
      refine ⟨_, _, rfl, rfl, .inl ⟨h1, h2⟩, ?_⟩
      exact qi (by unfold roundedZ; rw [if_pos h]) (k _ s1)
    · walk_at "ps"
      refine ⟨10, (-by_).toNat, by show [V.int 10, V.int (-by_)] = _; rw [Int.toNat_of_nonneg (by omega)], by decide, by decide, by omega, fun H1 s1 => ?_⟩
      walk_at "ps"
      generalize hm : (-by_).toNat = m
      have hm8 : m ≤ 8 := by omega
      have hpos : (0 : Int) < 10 ^ m := pow_pos10 m
      have hlt : (10 : Int) ^ m < 1073741824 := by
        have : m = 0 ∨ m = 1 ∨ m = 2 ∨ m = 3 ∨ m = 4 ∨ m = 5 ∨ m = 6 ∨ m = 7 ∨ m = 8 := by omega
        rcases this with h | h | h | h | h | h | h | h | h <;> subst h <;> decide
      have ea : (if N < 0 then -N else N) = (N.natAbs : Int) := by split <;> omega
      refine ⟨⟨hpos, hlt⟩, ?_⟩
      walk_at "ps"
      refine ⟨hpos, ?_⟩
      walk_at "ps"
      refine ⟨N.natAbs / 10 ^ m, N.natAbs % 10 ^ m, 10 ^ m, rule, decide (N < 0), ?_, fun H2 s2 => ?_⟩
      · rw [ea, powZ]
        show [V.int ((N.natAbs : Int) / ((10 ^ m : Nat) : Int)), V.int ((N.natAbs : Int) % ((10 ^ m : Nat) : Int)), V.int ((10 ^ m : Nat) : Int), V.str (ruleS rule), V.bl (decide (N < 0))] = _
        rw [← Int.natCast_ediv, ← Int.natCast_emod]
      walk_at "ps"
      have e2 : (if N < 0 then -N else N) / 10 ^ m + (if oneMore (N.natAbs / 10 ^ m) (N.natAbs % 10 ^ m) (10 ^ m) rule (decide (N < 0)) = true then 1 else 0) = ((N.natAbs / 10 ^ m + (if oneMore (N.natAbs / 10 ^ m) (N.natAbs % 10 ^ m) (10 ^ m) rule (decide (N < 0)) = true then 1 else 0) : Nat) : Int) := by
        rw [ea, powZ, ← Int.natCast_ediv]
        split <;> omega
      refine iteD (fun h5 => ?_) (fun h5 => ?_)
      · walk_at "ps"
        refine qi ?_ (k _ (s1.trans s2))
        unfold roundedZ
        rw [if_neg h, hm]
        dsimp only
        conv => rhs; rw [if_pos h5]
        rw [← e2]
      · walk_at "ps"
        refine qi ?_ (k _ (s1.trans s2))
        unfold roundedZ
        rw [if_neg h, hm]
        dsimp only
        conv => rhs; rw [if_neg h5]
        rw [← e2]
end
end TL
set_option Elab.async false
set_option linter.all false
set_option maxRecDepth 100000
set_option maxHeartbeats 4000000
/-! ### a list of functions: in, index -/
namespace TL
open PySem PySem.Spec PyProof.Rows L2
section fneq
open PySem.MeetsSeq PySem.SeqAt
theorem slot_fn_eq : Slot "function" (cmpInfo .Eq).2.1 "object.__eq__" :=
  .of (owner := "object") (n := "__eq__") (by rw [typeLookup_type, builtinLookup_eq_fast]; kernel_rfl) (by decide +kernel) (by decide +kernel) (by decide +kernel)
    (by first | exact .inl (by decide +kernel) | exact .inr (by decide +kernel)) (by rw [isSubtype_type]; kernel_rfl)
theorem slot_fn_eq_refl : Slot "function" (cmpInfo .Eq).2.2 "object.__eq__" :=
  .of (owner := "object") (n := "__eq__") (by rw [typeLookup_type, builtinLookup_eq_fast]; kernel_rfl) (by decide +kernel) (by decide +kernel) (by decide +kernel)
    (by first | exact .inl (by decide +kernel) | exact .inr (by decide +kernel)) (by rw [isSubtype_type]; kernel_rfl)
theorem fn_eq_declines (x y : Addr) : Meets (Builtin.«object.__eq__» ⟨[.ref x, .ref y], []⟩)
    (fun _ R s => x ≠ y ∧ (∃ ox oy, s.heap.get? x = some ox ∧ s.heap.get? y = some oy ∧ ox.cls ≠ .type "tuple") ∧ R (.ok (.ret .notImplemented)) s) :=
  .of_wp fun prog w A R s h => by
    obtain ⟨ne, ⟨ox, oy, hx, hy, hn⟩, h⟩ := h
    have e : slotArgs "__eq__" 1 ⟨[.ref x, .ref y], []⟩ = pure (Value.ref x, [Value.ref y]) := by rfl
    unfold Builtin.«object.__eq__»
    refine wpAny_bind (wpAny_of_eq e ?_)
    refine wpAny_bind (wpAny_isSame_ref_other ne hx hy hn ?_)
    exact wpAny_pure ⟨_, rfl, h⟩
/-- two functions -/
theorem eqAt_fn {A : Around} {s : Shared} {x y : Addr} {ox oy : Obj} (ne : x ≠ y) (hx : s.heap.get? x = some ox) (hy : s.heap.get? y = some oy) (cx : ox.cls = .type "function") (cy : oy.cls = .type "function") (hu : A.units < cLine) : EqAt A s (.ref x) (.ref y) false := by
  refine EqAt.of_refs ne fun prog w E Q h => ?_
  have ha : s.TypeIs (.ref x) "function" := ⟨_, hx, cx⟩
  have hb : s.TypeIs (.ref y) "function" := ⟨_, hy, cy⟩
  have nx : ox.cls ≠ .type "tuple" := by rw [cx]; decide
  have ny : oy.cls ≠ .type "tuple" := by rw [cy]; decide
  rcases hi : cmpInfo CmpOp.Eq with ⟨sym, f, r⟩
  have h1 := slot_fn_eq
  have h2 := slot_fn_eq_refl
  rw [hi] at h1 h2
  simp only [richCompare, hi, ha.oneThing_none]
  try with_reducible refine wpAny_holding ?_
  refine wpAny_bind (wpAny_cRoomFor_or (.inr hu) ?_)
  refine wpAny_bind (wpAny_typeOf ha (wpAny_bind (wpAny_typeOf hb ?_)))
  simp only [bne_self_eq_false, Bool.false_eq_true, if_false, pure_bind, Bool.not_false, if_true]
  refine wpAny_bind (m := tryCompare (.ref x) _ (.ref y)) (wpAny_tryCompare_declines ha h1 ?_)
  refine call_meets h1 ha F.entry_object_eq (F.args_object_eq_2 _ _) (fn_eq_declines x y) ⟨ne, ⟨_, _, hx, hy, nx⟩, rfl, ?_⟩
  refine wpAny_bind (m := tryCompare (.ref y) _ (.ref x)) (wpAny_tryCompare_declines hb h2 ?_)
  refine call_meets h2 hb F.entry_object_eq (F.args_object_eq_2 _ _) (fn_eq_declines y x) ⟨ne.symm, ⟨_, _, hy, hx, ny⟩, rfl, ?_⟩
  exact wpAny_bind (wpAny_rule (wpAny_bind (wpAny_isSame_ref_other ne hx hy nx (wpAny_pure h))))
end fneq
/-- a function of the top, by its address -/
def FnAt (K : PySem.W.Frag) (a : Addr) : Prop := PySem.W.isFn K (.ref a) = true
theorem FnAt.obj {K : PySem.W.Frag} {a : Addr} (h : FnAt K a) : ∃ o, K.lookup a = some o ∧ o.cls = .type "function" := by
  have h' : (PySem.W.typeIn K (.ref a) == some (.type "function")) = true := h
  have e := beq_iff_eq.mp h'
  obtain ⟨o, ho, hc⟩ := Option.map_eq_some_iff.mp (show (K.lookup a).map (·.cls) = some (.type "function") from e)
  exact ⟨o, ho, hc⟩
def isRef (x : Addr) : Value → Bool
  | .ref y => y == x
  | _ => false
theorem mem_fn {X : Cx} {pins : List (Addr × Obj)} {σ : L2.St} {H : Hp} {s : Shared} (I : Inv X pins σ H s) {A : Around} (hu : A.units < cLine) {x : Addr} (hx : FnAt X.K x) : ∀ {xs : List Addr} {us : List Value}, Vals (xs.map V.ref) us → (∀ y ∈ xs, FnAt X.K y) →
    (∀ u ∈ us, SeqAt.EqAt A s u (.ref x) (isRef x u)) ∧ us.any (isRef x) = xs.contains x ∧ ∀ j : Nat, us[j]?.map (isRef x) = xs[j]?.map (· == x)
  | [], _, .nil, _ => ⟨(fun _ hu => nomatch hu), rfl, fun _ => rfl⟩
  | y :: xs, u :: us, .cons r t, f => by
    obtain rfl : u = Value.ref y := r
    obtain ⟨i1, i2, i3⟩ := mem_fn I hu hx t (fun z hz => f z (by simp [hz]))
    refine ⟨fun u' hu' => ?_, ?_, fun j => ?_⟩
    · rcases List.mem_cons.mp hu' with rfl | hu'
      · by_cases e : y = x
        · subst e
          rw [show isRef y (.ref y) = true from beq_self_eq_true y]
          exact SeqAt.EqAt.same _
        · rw [show isRef x (.ref y) = false from by simpa [isRef] using e]
          obtain ⟨ox, kx, cx⟩ := hx.obj
          obtain ⟨oy, ky, cy⟩ := (f y (by simp)).obj
          exact eqAt_fn e (I.kIn y oy ky) (I.kIn x ox kx) cy cx hu
      · exact i1 u' hu'
    · rw [List.any_cons, i2, List.contains_cons]
      have : (y == x) = (x == y) := by
        by_cases e : y = x
        · rw [e]
        · rw [beq_eq_false_iff_ne.mpr e, beq_eq_false_iff_ne.mpr (Ne.symm e)]
      show ((y == x) || _) = _
      rw [this]
    · cases j with
      | zero => rfl
      | succ j => exact i3 j
/-- f not in a list of functions -/
def rWNot (K : PySem.W.Frag) : R2 := fun x y H Q => ∃ (a p : Addr) (ys : List Addr), x = .ref a ∧ y = .ref p ∧ SqL K H p (ys.map V.ref) ∧ FnAt K a ∧ (∀ z ∈ ys, FnAt K z) ∧ Q (.bl (!ys.contains a)) H
theorem op_notIn_fn {X : Cx} {k : Nat} (hr : Room k X.A) : OpR X (compareOp .NotIn) (rWNot X.K) := by
  intro pins s σ H x y v u Q I rx ry h
  obtain ⟨a, p, ys, rfl, rfl, hq, fa, fs, q⟩ := h
  cases rx
  cases ry
  obtain ⟨its, r, pl, hz⟩ := I.list hq
  have hu := hr.un
  obtain ⟨i1, i2, i3⟩ := mem_fn I (A := X.A.in1) (show X.A.units + 1 < cLine by omega) fa r fs
  refine SeqAt.notIn_listAt (isRef a) pl.isList (fun w hw => i1 w (by simpa using hw)) ⟨.bl _, H, I, rfl, ?_⟩
  rw [show its.toArray.any (isRef a) = its.any (isRef a) by simp, i2]
  exact q
def rWIndex (K : PySem.W.Frag) : V → List V → Hp → VK → Prop := fun x xs H Q => ∃ (p a : Addr) (ys : List Addr), x = V.ref p ∧ xs = [.ref a] ∧ SqL K H p (ys.map V.ref) ∧ FnAt K a ∧ (∀ z ∈ ys, FnAt K z) ∧ a ∈ ys ∧ Q (.int (ys.idxOf a : Nat)) H
theorem mt_index_fn {X : Cx} {k : Nat} (hr : Room k X.A) : MtR X "list.index" (rWIndex X.K) := by
  intro pins s σ H x xs v us Q I rx rxs h
  obtain ⟨p, a, ys, rfl, rfl, hs, fa, fs, hm, q⟩ := h
  cases rx
  cases rxs with
  | cons ry rt =>
    rename_i uy ut
    cases rt
    cases ry
    obtain ⟨its, rv, ⟨⟨cls, dd, data, sl⟩, n, ho, hc, hdn, hd⟩, hlen⟩ := I.list hs
    simp only at hc hd
    subst hc hd
    have hu := hr.un
    have hvl := rv.length
    obtain ⟨i1, i2, i3⟩ := mem_fn I (A := X.A.in1) (show X.A.units + 1 < cLine by omega) fa rv fs
    have hj0 : ys.idxOf a < ys.length := List.idxOf_lt_length_iff.mpr hm
    have hj : ys.idxOf a < its.toArray.size := by rw [List.size_toArray]; rw [List.length_map] at hvl; omega
    have hjl : ys.idxOf a < its.length := by simpa using hj
    have hsl := sizeLine_eq
    refine call_meets PySem.F.slot_list_index ⟨_, ho, rfl⟩ PySem.F.entry_list_index (PySem.F.args_list_index_2 _ _)
      (SeqAt.list_indexAt p its.toArray n dd sl (.ref a) (isRef a) (ys.idxOf a) hj (by rw [List.length_map] at hlen; omega) ?_ ?_) ⟨ho, fun u' hu' => i1 u' (by simpa using hu'), ?_⟩
    · have e := i3 (ys.idxOf a)
      rw [List.getElem?_eq_getElem hjl, List.getElem?_eq_getElem hj0] at e
      have e2 : isRef a its[ys.idxOf a] = (ys[ys.idxOf a] == a) := Option.some.inj e
      rw [show its.toArray[ys.idxOf a] = its[ys.idxOf a] by simp, e2]
      simp
    · intro m hm2 hmj
      have hml : m < its.length := by simpa using hm2
      have hmy : m < ys.length := by omega
      have e := i3 m
      rw [List.getElem?_eq_getElem hml, List.getElem?_eq_getElem hmy] at e
      have e2 : isRef a its[m] = (ys[m] == a) := Option.some.inj e
      rw [show its.toArray[m] = its[m] by simp, e2]
      have := List.not_of_lt_findIdx (show m < List.findIdx (· == a) ys from hmj)
      simpa using this
    · exact ⟨.int (ys.idxOf a : Nat), H, I.tok _, ⟨_, rfl⟩, q⟩
end TL
set_option Elab.async false
set_option linter.all false
set_option maxRecDepth 100000
set_option maxHeartbeats 4000000
namespace TL
open PySem PySem.Spec PyProof.Rows L2
/-! ### calls of methods, making -/
section
variable {w : World} {K : PySem.W.Frag} {mg : Str → Option Value} {X : Cx}
theorem pe_methD {C : Addr} {k : Nat} {m : Str} {ps : List Str} {sp : Sp} {o e : Expr} {es : List Expr} {ta : TE} {t : TA} {apos pos : Pos} {pl : Sem Bool} (M : Meth X.K C m (madr X.K C m)) (D : MethOk X.prog X.w X.K X.mg X.base k C m ps sp) (hr : Room k X.A) (ho : PE X o ta) (ha : PA X (e :: es) t)
    (hst : starEach (e :: es) X.env = (false, eval e X.env) :: starEach es X.env := by rfl) (hpl : (backTo pos (starEach es X.env)).any (·.1) = false := by rfl)
    (ht : eval (.Call (.Attribute o m apos) (e :: es) [] pos) X.env = (do
      let ov ← eval o X.env
      standAt apos.atName
      let (f, first) ← holding [ov] (getMethod ov m pl)
      callWith pos f first (backTo pos (starEach (e :: es) X.env)) (backToKw pos (keywordEach [] X.env))) := by rfl) :
    PE X (.Call (.Attribute o m apos) (e :: es) [] pos) (tMeth C m sp [] E0 ta t) := by
  obtain ⟨fd, F, c, hb⟩ := D.ex
  exact pe_meth ho c M F hr hb .nil pass0 ha hst hpl ht
theorem pe_meth0D {C : Addr} {k : Nat} {m : Str} {ps : List Str} {sp : Sp} {o : Expr} {ta : TE} {apos pos : Pos} {pl : Sem Bool} (M : Meth X.K C m (madr X.K C m)) (D : MethOk X.prog X.w X.K X.mg X.base k C m ps sp) (hr : Room k X.A) (ho : PE X o ta)
    (ht : eval (.Call (.Attribute o m apos) [] [] pos) X.env = (do
      let ov ← eval o X.env
      standAt apos.atName
      let (f, first) ← holding [ov] (getMethod ov m pl)
      callWith pos f first (backTo pos (starEach [] X.env)) (backToKw pos (keywordEach [] X.env))) := by rfl) :
    PE X (.Call (.Attribute o m apos) [] [] pos) (tMeth C m sp [] E0 ta tNil) := by
  obtain ⟨fd, F, c, hb⟩ := D.ex
  exact pe_meth0 ho c M F hr hb .nil pass0 ht
theorem pe_make0D {C : Addr} {k : Nat} {x : Str} {ps : List Str} {sp : Sp} {p pos : Pos} (M : Mk X.K C (madr X.K C "__init__")) (D : MethOk X.prog X.w X.K X.mg X.base k C "__init__" ps sp) (hr : Room (k + 1) X.A) (hm : X.mg x = some (.ref C)) (hg : Gl X x := by rfl) (hdb : (x == ("__debug__" : Str)) = false := by decide) :
    PE X (.Call (.Name x p) [] [] pos) (tMake C sp [] E0 tNil) := by
  obtain ⟨fd, F, c, hb⟩ := D.ex
  exact pe_make0 M F hr hg hm hb .nil pass0 hdb
end
/-! ### two lists alike -/
def All2 {α β : Type} (R : α → β → Prop) : List α → List β → Prop
  | [], [] => True
  | a :: as, b :: bs => R a b ∧ All2 R as bs
  | _, _ => False
theorem All2.length {α β : Type} {R : α → β → Prop} : ∀ {as : List α} {bs : List β}, All2 R as bs → as.length = bs.length
  | [], [], _ => rfl
  | _ :: _, _ :: _, h => congrArg Nat.succ h.2.length
  | [], _ :: _, h => h.elim
  | _ :: _, [], h => h.elim
theorem All2.imp {α β : Type} {R S : α → β → Prop} : ∀ {as : List α} {bs : List β}, All2 R as bs → (∀ a b, b ∈ bs → R a b → S a b) → All2 S as bs
  | [], [], _, _ => trivial
  | _ :: _, _ :: _, h, k => ⟨k _ _ (by simp) h.1, h.2.imp fun a b m => k a b (by simp [m])⟩
  | [], _ :: _, h, _ => h.elim
  | _ :: _, [], h, _ => h.elim
theorem All2.snoc {α β : Type} {R : α → β → Prop} {a : α} {b : β} : ∀ {as : List α} {bs : List β}, All2 R as bs → R a b → All2 R (as ++ [a]) (bs ++ [b])
  | [], [], _, r => ⟨r, trivial⟩
  | _ :: _, _ :: _, h, r => ⟨h.1, h.2.snoc r⟩
  | [], _ :: _, h, _ => h.elim
  | _ :: _, [], h, _ => h.elim
theorem All2.get {α β : Type} {R : α → β → Prop} : ∀ {as : List α} {bs : List β}, All2 R as bs → ∀ {i : Nat} {b : β}, bs[i]? = some b → ∃ a, as[i]? = some a ∧ R a b
  | [], [], _, i, b, e => by simp at e
  | a :: _, _ :: _, h, 0, b, e => by
    simp only [List.getElem?_cons_zero, Option.some.injEq] at e
    exact ⟨a, rfl, e ▸ h.1⟩
  | _ :: _, _ :: _, h, i + 1, b, e => h.2.get (i := i) e
  | [], _ :: _, h, _, _, _ => h.elim
  | _ :: _, [], h, _, _, _ => h.elim
/-! ### the builder in the heap -/
def wix : Wo → Nat
  | .hi => 25 | .lo => 26 | .hup => 27 | .last => 28 | .ahead => 29 | .nine => 30 | .tenOr => 31 | .oneOr => 32 | .oneOf => 33 | .five => 34 | .signB => 35 | .one2 => 36 | .low2 => 37 | .ordB => 38 | .prod => 134 | .six => 83
def wad (K : PySem.W.Frag) (w : Wo) : Addr := adr K (wix w)
def addW (ws : List Wo) : SR → List Wo
  | .look _ w => if w ∈ ws then ws else ws ++ [w]
  | _ => ws
def worths (rs : List SR) : List Wo := rs.foldl addW []
def rowV (ws : List Wo) : SR → List V
  | .put a k => [.str "put", nV a, nV k]
  | .copy a b => [.str "copy", nV a, nV b]
  | .add a b => [.str "add", nV a, nV b]
  | .and_ a b => [.str "and", nV a, nV b]
  | .or_ a b => [.str "or", nV a, nV b]
  | .look a w => [.str "look", nV a, nV (ws.idxOf w)]
  | .right a => [.str "right", nV a]
def tableV (w : Wo) : List V := (List.range 256).map fun x => nV (w.ap x)
/-- the looks of rows stand in ws -/
def LookIn (ws : List Wo) (rs : List SR) : Prop := ∀ a w, SR.look a w ∈ rs → w ∈ ws
theorem worths_snoc (rs : List SR) (r : SR) : worths (rs ++ [r]) = addW (worths rs) r := by
  unfold worths
  rw [List.foldl_append]
  rfl
theorem addW_pre (ws : List Wo) (r : SR) : ∃ t, addW ws r = ws ++ t := by
  unfold addW
  split
  · split
    · exact ⟨[], by simp⟩
    · exact ⟨_, rfl⟩
  · exact ⟨[], by simp⟩
theorem lookIn_worths (rs : List SR) : LookIn (worths rs) rs := by
  suffices h : ∀ qs : List SR, LookIn (worths qs.reverse) qs.reverse by
    have := h rs.reverse
    rwa [List.reverse_reverse] at this
  intro qs
  induction qs with
  | nil => intro a w h; simp at h
  | cons r qs ih =>
    rw [List.reverse_cons, worths_snoc]
    intro a w h
    rw [List.mem_append] at h
    obtain ⟨t, e⟩ := addW_pre (worths qs.reverse) r
    rcases h with h | h
    · rw [e]
      exact List.mem_append_left _ (ih a w h)
    · have h : SR.look a w = r := by simpa using h
      subst h
      show w ∈ (if w ∈ worths qs.reverse then _ else _)
      split
      · assumption
      · simp
theorem idxOf_app {x : Wo} : ∀ {ws t : List Wo}, x ∈ ws → (ws ++ t).idxOf x = ws.idxOf x
  | [], _, h => nomatch h
  | w :: ws, t, h => by
    rw [List.cons_append, List.idxOf_cons, List.idxOf_cons]
    by_cases e : w = x
    · simp [e]
    · have m : x ∈ ws := by
        rcases List.mem_cons.mp h with h | h
        · exact absurd h.symm e
        · exact h
      rw [idxOf_app m]
theorem rowV_more {ws t : List Wo} {rs : List SR} (h : LookIn ws rs) {r : SR} (hr : r ∈ rs) : rowV (ws ++ t) r = rowV ws r := by
  cases r with
  | look a w =>
    show [V.str "look", nV a, nV ((ws ++ t).idxOf w)] = [V.str "look", nV a, nV (ws.idxOf w)]
    rw [idxOf_app (h a w hr)]
  | _ => rfl
structure Bd where
  (b dx rl tl wl : Addr)
def Bd.Own (B : Bd) (a : Addr) : Prop := a = B.b ∨ a = B.rl ∨ a = B.tl ∨ a = B.wl
/-- all but the builder's own stands as it stood -/
def Bx (B : Bd) (H H' : Hp) : Prop := ∀ a o, ¬ B.Own a → H a = some o → H' a = some o
def Bd.fs (B : Bd) (free : Nat) : List (Str × V) := [("rows", .ref B.rl), ("tables", .ref B.tl), ("worths", .ref B.wl), ("free", nV free)]
structure BAt (K : PySem.W.Frag) (H : Hp) (B : Bd) (s : BS) : Prop where
  obj : H B.b = some (.ins (cB K) B.dx (B.fs s.free))
  rows : ∃ ps : List Addr, H B.rl = some (.lst (ps.map .ref)) ∧ All2 (fun p r => H p = some (.tup (rowV (worths s.rows) r))) ps s.rows
  tabs : ∃ ts : List Addr, H B.tl = some (.lst (ts.map .ref)) ∧ All2 (fun p w => H p = some (.tup (tableV w))) ts (worths s.rows)
  ws : H B.wl = some (.lst (((worths s.rows).map (wad K)).map .ref))
  d1 : B.rl ≠ B.tl
  d2 : B.rl ≠ B.wl
  d3 : B.tl ≠ B.wl
theorem Bx.refl (B : Bd) (H : Hp) : Bx B H H := fun _ _ _ e => e
theorem Bx.trans {B : Bd} {H H1 H2 : Hp} (h : Bx B H H1) (k : Bx B H1 H2) : Bx B H H2 := fun a o n e => k a o n (h a o n e)
theorem Bx.of {B : Bd} {H H1 : Hp} (h : Same H H1) : Bx B H H1 := fun a o _ e => h a o e
theorem Bx.new {B : Bd} {H H1 : Hp} {p : Addr} {o : HO} (h : Bx B H H1) (e : H p = none) : Bx B H (upd H1 p o) := fun a u n q => by
  rw [upd_ne (ne_of_none q e)]
  exact h a u n q
theorem Bx.own {B : Bd} {H H1 : Hp} {p : Addr} {o : HO} (h : Bx B H H1) (e : B.Own p) : Bx B H (upd H1 p o) := fun a u n q => by
  rw [upd_ne (fun z : a = p => n (z ▸ e))]
  exact h a u n q
section
variable {K : PySem.W.Frag} {H H' : Hp} {B : Bd} {s : BS}
theorem ne_kind {p q : Addr} {o u : HO} (h : H p = some o) (k : H q = some u) (e : o ≠ u) : p ≠ q := fun z => by
  subst z
  rw [h] at k
  exact e (Option.some.inj k)
theorem BAt.nb (h : BAt K H B s) {p : Addr} {xs : List V} (e : H p = some (.lst xs)) : p ≠ B.b := ne_kind e h.obj (by intro z; cases z)
theorem BAt.out (h : BAt K H B s) {p : Addr} (e : H p = none) : ¬ B.Own p := by
  obtain ⟨ps, h1, _⟩ := h.rows
  obtain ⟨ts, h2, _⟩ := h.tabs
  rintro (rfl | rfl | rfl | rfl)
  · rw [h.obj] at e; cases e
  · rw [h1] at e; cases e
  · rw [h2] at e; cases e
  · rw [h.ws] at e; cases e
/-- tuples aren't the builder's own -/
theorem BAt.tupOut (h : BAt K H B s) {p : Addr} {xs : List V} (e : H p = some (.tup xs)) : ¬ B.Own p := by
  obtain ⟨ps, h1, _⟩ := h.rows
  obtain ⟨ts, h2, _⟩ := h.tabs
  rintro (rfl | rfl | rfl | rfl)
  · rw [h.obj] at e; cases e
  · rw [h1] at e; cases e
  · rw [h2] at e; cases e
  · rw [h.ws] at e; cases e
/-- what changes nothing of it -/
theorem BAt.keep (h : BAt K H B s) (ko : ∀ a, B.Own a → H' a = H a) (kt : ∀ a xs, H a = some (.tup xs) → H' a = some (.tup xs)) : BAt K H' B s := by
  obtain ⟨ps, h1, h2⟩ := h.rows
  obtain ⟨ts, h3, h4⟩ := h.tabs
  refine ⟨?_, ⟨ps, ?_, h2.imp fun p r _ e => kt _ _ e⟩, ⟨ts, ?_, h4.imp fun p r _ e => kt _ _ e⟩, ?_, h.d1, h.d2, h.d3⟩
  · rw [ko _ (.inl rfl)]; exact h.obj
  · rw [ko _ (.inr (.inl rfl))]; exact h1
  · rw [ko _ (.inr (.inr (.inl rfl)))]; exact h3
  · rw [ko _ (.inr (.inr (.inr rfl)))]; exact h.ws
theorem BAt.same (h : BAt K H B s) (e : Same H H') : BAt K H' B s := by
  refine h.keep (fun a q => ?_) (fun a xs q => e _ _ q)
  obtain ⟨ps, h1, _⟩ := h.rows
  obtain ⟨ts, h2, _⟩ := h.tabs
  rcases q with rfl | rfl | rfl | rfl
  · rw [h.obj]; exact e _ _ h.obj
  · rw [h1]; exact e _ _ h1
  · rw [h2]; exact e _ _ h2
  · rw [h.ws]; exact e _ _ h.ws
theorem BAt.new (h : BAt K H B s) {p : Addr} {o : HO} (e : H p = none) : BAt K (upd H p o) B s := h.same (Same.new e)
theorem BAt.lst (h : BAt K H B s) {p : Addr} {xs : List V} {o : HO} (n : ¬ B.Own p) (e : H p = some (.lst xs)) : BAt K (upd H p o) B s := by
  refine h.keep (fun a q => upd_ne (fun z => n (z ▸ q))) (fun a ys q => ?_)
  rw [upd_ne (ne_kind q e (by intro z; cases z))]
  exact q
theorem BAt.free (h : BAt K H B s) (n : Nat) : BAt K (upd H B.b (.ins (cB K) B.dx (B.fs n))) B ⟨s.rows, n⟩ := by
  obtain ⟨ps, h1, h2⟩ := h.rows
  obtain ⟨ts, h3, h4⟩ := h.tabs
  have kt : ∀ a xs, H a = some (.tup xs) → upd H B.b (.ins (cB K) B.dx (B.fs n)) a = some (.tup xs) := fun a xs q => by
    rw [upd_ne (ne_kind q h.obj (by intro z; cases z))]; exact q
  refine ⟨upd_same, ⟨ps, ?_, h2.imp fun p r _ e => kt _ _ e⟩, ⟨ts, ?_, h4.imp fun p r _ e => kt _ _ e⟩, ?_, h.d1, h.d2, h.d3⟩
  · rw [upd_ne (h.nb h1)]; exact h1
  · rw [upd_ne (h.nb h3)]; exact h3
  · rw [upd_ne (h.nb h.ws)]; exact h.ws
/-- a row more -/
theorem BAt.row (h : BAt K H B s) {r : SR} (hr : worths (s.rows ++ [r]) = worths s.rows) {q : Addr} (hq : H q = some (.tup (rowV (worths s.rows) r))) {ps : List Addr} (hp : H B.rl = some (.lst (ps.map .ref))) (h2 : All2 (fun p r => H p = some (.tup (rowV (worths s.rows) r))) ps s.rows) :
    BAt K (upd H B.rl (.lst (ps.map .ref ++ [.ref q]))) B (bRow r s) := by
  obtain ⟨ts, h3, h4⟩ := h.tabs
  have kt : ∀ a xs, H a = some (.tup xs) → upd H B.rl (.lst (ps.map .ref ++ [.ref q])) a = some (.tup xs) := fun a xs z => by
    rw [upd_ne (ne_kind z hp (by intro z; cases z))]; exact z
  refine ⟨?_, ⟨ps ++ [q], ?_, ?_⟩, ⟨ts, ?_, ?_⟩, ?_, h.d1, h.d2, h.d3⟩
  · rw [upd_ne (Ne.symm (h.nb hp))]; exact h.obj
  · rw [List.map_append]; exact upd_same
  · show All2 _ _ (s.rows ++ [r])
    simp only [bRow, hr]
    exact (h2.imp fun p r _ e => kt _ _ e).snoc (kt _ _ hq)
  · rw [upd_ne (Ne.symm h.d1)]; exact h3
  · simp only [bRow, hr]
    exact h4.imp fun p r _ e => kt _ _ e
  · simp only [bRow, hr]
    rw [upd_ne (Ne.symm h.d2)]; exact h.ws
/-- a worth more: its table -/
theorem BAt.table (h : BAt K H B s) {a : Nat} {x : Wo} (hx : x ∉ worths s.rows) {q t : Addr} {ps ts : List Addr}
    (h2 : All2 (fun p r => H p = some (.tup (rowV (worths s.rows) r))) ps s.rows) (h4 : All2 (fun p w => H p = some (.tup (tableV w))) ts (worths s.rows)) {H' : Hp}
    (e1 : H' B.rl = some (.lst (ps.map .ref ++ [.ref q]))) (e2 : H' B.tl = some (.lst (ts.map .ref ++ [.ref t]))) (e3 : H' B.wl = some (.lst (((worths s.rows).map (wad K)).map .ref ++ [.ref (wad K x)])))
    (e4 : H' B.b = H B.b) (kt : ∀ a xs, H a = some (.tup xs) → H' a = some (.tup xs)) (hq : H' q = some (.tup (rowV (worths s.rows ++ [x]) (.look a x)))) (ht : H' t = some (.tup (tableV x))) : BAt K H' B (bRow (.look a x) s) := by
  have hw : worths (s.rows ++ [.look a x]) = worths s.rows ++ [x] := by
    rw [worths_snoc]
    exact if_neg hx
  refine ⟨?_, ⟨ps ++ [q], ?_, ?_⟩, ⟨ts ++ [t], ?_, ?_⟩, ?_, h.d1, h.d2, h.d3⟩
  · rw [e4]; exact h.obj
  · rw [List.map_append]; exact e1
  · simp only [bRow, hw]
    refine All2.snoc (h2.imp fun p r m e => ?_) hq
    rw [rowV_more (lookIn_worths s.rows) m]
    exact kt _ _ e
  · rw [List.map_append]; exact e2
  · simp only [bRow, hw]
    exact (h4.imp fun p r _ e => kt _ _ e).snoc ht
  · simp only [bRow, hw, List.map_append]
    exact e3
end
end TL
set_option Elab.async false
set_option linter.all false
set_option maxRecDepth 100000
set_option pp.maxSteps 600
set_option maxHeartbeats 4000000
namespace TL
open PySem PySem.Spec PyProof.Rows L2
/-- one question answered, where its answer is plain -/
local macro_rules | `(tactic| walk_at "p") => `(tactic| first
  | refine ⟨_, rfl, ?_⟩
  | refine ⟨_, _, rfl, rfl, ⟨by decide, by decide⟩, ?_⟩
  | refine ⟨_, _, rfl, rfl, (by show (0 : Int) < _; decide), ?_⟩
  | refine ⟨_, _, rfl, rfl, ?_⟩
  | refine ⟨rfl, ?_⟩
  | refine ⟨_, _, _, _, rfl, rfl, (by assumption), rfl, ?_⟩
  | refine .inr ⟨_, rfl, ?_⟩
  | refine .inl ⟨_, rfl, ?_⟩
  | refine iteT ?_
  | refine iteF ?_)
local macro_rules | `(tactic| walk_at "ps") => `(tactic| repeat walk_at "p")

def Fit (s : BS) (n : Nat) : Prop := s.rows.length + n ≤ 1000000
theorem Fit.lt {s : BS} {n : Nat} (h : Fit s n) (hn : 0 < n) : s.rows.length < sizeLine := by unfold Fit at h; rw [show sizeLine = 16777216 from sizeLine_eq]; omega
def wname : Wo → Str
  | .hi => "high_half" | .lo => "low_half" | .hup => "half_up" | .last => "last_figure" | .ahead => "ahead_of_last" | .nine => "nine_less" | .tenOr => "ten_or_none" | .oneOr => "one_or_none" | .oneOf => "one_of_none" | .five => "five_on" | .signB => "sign_below" | .one2 => "one_of_two" | .low2 => "lowest_two" | .ordB => "order_byte" | .prod => "product_byte" | .six => "six_on"
def nameAt (K : PySem.W.Frag) (a : Addr) : Option Str := match K.lookup a with
  | some ⟨_, _, .func fd, _⟩ => some fd.name
  | _ => none
theorem funD_name {K : PySem.W.Frag} {n q : Str} {ps : Arguments} {b : List Stmt} {sc : Scope} {a : Addr} {fd : FuncData} (F : FunD K n q ps b sc [] [] a fd) : nameAt K a = some n := by
  obtain ⟨oc, od, dV, kV, doc, pm, an, cdv, ct, osl, e, l, c, hd, _⟩ := F.ex
  unfold nameAt
  rw [l]
  simp only [e]
theorem worths_le : ∀ rs : List SR, (worths rs).length ≤ rs.length := by
  intro rs
  suffices h : ∀ qs : List SR, (worths qs.reverse).length ≤ qs.length by
    have := h rs.reverse
    rwa [List.reverse_reverse, List.length_reverse] at this
  intro qs
  induction qs with
  | nil => exact Nat.le_refl _
  | cons r qs ih =>
    rw [List.reverse_cons, worths_snoc]
    unfold addW
    split
    · split
      · exact Nat.le_succ_of_le ih
      · rw [List.length_append]; exact Nat.succ_le_succ ih
    · exact Nat.le_succ_of_le ih
section
variable {P : Program} {w : World} {K : PySem.W.Frag} {mg : Str → Option Value} {base : Heap}
theorem TX.wname (T : TX w K mg) (x : Wo) : nameAt K (wad K x) = some (wname x) := by
  cases x
  · exact funD_name (T.fnD 16 (x := "high_half") rfl rfl).choose_spec.2
  · exact funD_name (T.fnD 17 (x := "low_half") rfl rfl).choose_spec.2
  · exact funD_name (T.fnD 18 (x := "half_up") rfl rfl).choose_spec.2
  · exact funD_name (T.fnD 19 (x := "last_figure") rfl rfl).choose_spec.2
  · exact funD_name (T.fnD 20 (x := "ahead_of_last") rfl rfl).choose_spec.2
  · exact funD_name (T.fnD 21 (x := "nine_less") rfl rfl).choose_spec.2
  · exact funD_name (T.fnD 22 (x := "ten_or_none") rfl rfl).choose_spec.2
  · exact funD_name (T.fnD 23 (x := "one_or_none") rfl rfl).choose_spec.2
  · exact funD_name (T.fnD 24 (x := "one_of_none") rfl rfl).choose_spec.2
  · exact funD_name (T.fnD 25 (x := "five_on") rfl rfl).choose_spec.2
  · exact funD_name (T.fnD 26 (x := "sign_below") rfl rfl).choose_spec.2
  · exact funD_name (T.fnD 27 (x := "one_of_two") rfl rfl).choose_spec.2
  · exact funD_name (T.fnD 28 (x := "lowest_two") rfl rfl).choose_spec.2
  · exact funD_name (T.fnD 29 (x := "order_byte") rfl rfl).choose_spec.2
  · exact funD_name (T.fnD 125 (x := "product_byte") rfl rfl).choose_spec.2
  · exact funD_name (T.fnD 74 (x := "six_on") rfl rfl).choose_spec.2
theorem TX.wad_inj (T : TX w K mg) {x y : Wo} (h : wad K x = wad K y) : x = y := by
  have e1 := T.wname x
  rw [h, T.wname y] at e1
  have e2 : TL.wname y = TL.wname x := Option.some.inj e1
  clear e1 h
  cases x <;> cases y <;> first | rfl | exact absurd e2 (by decide)
theorem TX.fnAt (T : TX w K mg) (x : Wo) : FnAt K (wad K x) := by
  have h : exB K = true := T.ex
  have h0 : (worthIx.all fun i => PySem.W.isFn K (.ref (adr K i))) = true := (He.ba (He.ba (He.ba (He.ba (He.ba (He.ba (He.ba h).2).2).2).2).2).2).2
  have h1 := List.all_eq_true.mp h0 (wix x) (by cases x <;> decide)
  exact h1
theorem TX.held (T : TX w K mg) (x : Wo) : Held P w K mg base 1 (wad K x) (spWo x) := by
  cases x
  · exact (d_high_half T).held
  · exact (d_low_half T).held
  · exact (d_half_up T).held
  · exact (d_last_figure T).held
  · exact (d_ahead_of_last T).held
  · exact (d_nine_less T).held
  · exact (d_ten_or_none T).held
  · exact (d_one_or_none T).held
  · exact (d_one_of_none T).held
  · exact (d_five_on T).held
  · exact (d_sign_below T).held
  · exact (d_one_of_two T).held
  · exact (d_lowest_two T).held
  · exact (d_order_byte T).held
  · exact (d_product_byte T).held
  · exact (d_six_on T).held
theorem TX.heldS (T : TX w K mg) (x : Wo) (f : Addr) (sp : Sp) (h : (fun a => if a = wad K x then some (spWo x) else none) f = some sp) : Held P w K mg base 1 f sp := by
  have h' : (if f = wad K x then some (spWo x) else none) = some sp := h
  by_cases e : f = wad K x
  · rw [if_pos e] at h'; rw [e, ← Option.some.inj h']; exact T.held x
  · rw [if_neg e] at h'; cases h'
theorem TX.contains (T : TX w K mg) (x : Wo) (ws : List Wo) : (ws.map (wad K)).contains (wad K x) = decide (x ∈ ws) := by
  rw [Bool.eq_iff_iff]
  simp only [List.contains_iff_mem, List.mem_map, decide_eq_true_eq]
  exact ⟨fun ⟨y, hy, e⟩ => T.wad_inj e ▸ hy, fun h => ⟨x, h, rfl⟩⟩
theorem TX.idxOf (T : TX w K mg) (x : Wo) : ∀ ws : List Wo, (ws.map (wad K)).idxOf (wad K x) = ws.idxOf x
  | [] => rfl
  | y :: ws => by
    rw [List.map_cons, List.idxOf_cons, List.idxOf_cons, T.idxOf x ws]
    by_cases e : y = x
    · subst e; simp
    · have e2 : ¬ wad K y = wad K x := fun z => e (T.wad_inj z)
      rw [beq_eq_false_iff_ne.mpr e, beq_eq_false_iff_ne.mpr e2]
/-! ### the builder's fields and methods -/
variable {H : Hp} {B : Bd} {s : BS}
theorem fld_rows (T : TX w K mg) (hB : BAt K H B s) {Q : VK} (h : Q (.ref B.rl) H) : ∃ a C dx fs v, V.ref B.b = .ref a ∧ H a = some (.ins C dx fs) ∧ Cls K C ∧ NoAttr K C "rows" ∧ fs.lookup ("rows" : Str) = some v ∧ Q v H :=
  ⟨_, _, _, _, _, rfl, hB.obj, T.clsB, T.noB (by decide), rfl, h⟩
theorem fld_tables (T : TX w K mg) (hB : BAt K H B s) {Q : VK} (h : Q (.ref B.tl) H) : ∃ a C dx fs v, V.ref B.b = .ref a ∧ H a = some (.ins C dx fs) ∧ Cls K C ∧ NoAttr K C "tables" ∧ fs.lookup ("tables" : Str) = some v ∧ Q v H :=
  ⟨_, _, _, _, _, rfl, hB.obj, T.clsB, T.noB (by decide), rfl, h⟩
theorem fld_worths (T : TX w K mg) (hB : BAt K H B s) {Q : VK} (h : Q (.ref B.wl) H) : ∃ a C dx fs v, V.ref B.b = .ref a ∧ H a = some (.ins C dx fs) ∧ Cls K C ∧ NoAttr K C "worths" ∧ fs.lookup ("worths" : Str) = some v ∧ Q v H :=
  ⟨_, _, _, _, _, rfl, hB.obj, T.clsB, T.noB (by decide), rfl, h⟩
theorem fld_free (T : TX w K mg) (hB : BAt K H B s) {Q : VK} (h : Q (nV s.free) H) : ∃ a C dx fs v, V.ref B.b = .ref a ∧ H a = some (.ins C dx fs) ∧ Cls K C ∧ NoAttr K C "free" ∧ fs.lookup ("free" : Str) = some v ∧ Q v H :=
  ⟨_, _, _, _, _, rfl, hB.obj, T.clsB, T.noB (by decide), rfl, h⟩
theorem meth_B {m : Str} {p : Prop} (hB : BAt K H B s) (h : p) (hl : (B.fs s.free).lookup m = none := by rfl) : ∃ a dx fs, V.ref B.b = .ref a ∧ H a = some (.ins (cB K) dx fs) ∧ fs.lookup m = none ∧ p := ⟨_, _, _, rfl, hB.obj, hl, h⟩
def spTable (K : PySem.W.Frag) : Sp := fun vs H Q _ => ∃ x : Wo, vs = [.ref (wad K x)] ∧ ∀ H' p, Same H H' → H p = none → H' p = some (.tup (tableV x)) → Q (.ref p) H'
def spB (K : PySem.W.Frag) (n : Nat) (f : BS → Nat × BS) : Bd → List V → Sp := fun B vs0 vs H Q _ => ∃ s, vs = .ref B.b :: vs0 ∧ BAt K H B s ∧ Fit s n ∧ ∀ H', Bx B H H' → BAt K H' B (f s).2 → Q (nV (f s).1) H'
def spCell (K : PySem.W.Frag) : Sp := fun vs H Q _ => ∃ B s, vs = [.ref B.b] ∧ BAt K H B s ∧ ∀ H', Bx B H H' → BAt K H' B (bCell s).2 → Q (nV (bCell s).1) H'
def spPut (K : PySem.W.Frag) : Sp := fun vs H Q _ => ∃ B s k, vs = [.ref B.b, nV k] ∧ BAt K H B s ∧ Fit s 1 ∧ ∀ H', Bx B H H' → BAt K H' B (bPut k s).2 → Q (nV (bPut k s).1) H'
def rowW : SR → Option (Str × Nat × Nat)
  | .put a k => some ("put", a, k)
  | .copy a b => some ("copy", a, b)
  | .add a b => some ("add", a, b)
  | .and_ a b => some ("and", a, b)
  | .or_ a b => some ("or", a, b)
  | _ => none
def spRow (K : PySem.W.Frag) : Sp := fun vs H Q _ => ∃ B s r wd a b, vs = [.ref B.b, .str wd, nV a, nV b] ∧ rowW r = some (wd, a, b) ∧ BAt K H B s ∧ Fit s 1 ∧ ∀ H', Bx B H H' → BAt K H' B (bRow r s) → Q .non H'
def spLook (K : PySem.W.Frag) : Sp := fun vs H Q _ => ∃ B s c x, vs = [.ref B.b, nV c, .ref (wad K x)] ∧ BAt K H B s ∧ Fit s 1 ∧ ∀ H', Bx B H H' → BAt K H' B (bLook c x s) → Q .non H'
def spCopied (K : PySem.W.Frag) : Sp := fun vs H Q _ => ∃ B s c, vs = [.ref B.b, nV c] ∧ BAt K H B s ∧ Fit s 1 ∧ ∀ H', Bx B H H' → BAt K H' B (bCopied c s).2 → Q (nV (bCopied c s).1) H'
def spLooked (K : PySem.W.Frag) : Sp := fun vs H Q _ => ∃ B s c x, vs = [.ref B.b, nV c, .ref (wad K x)] ∧ BAt K H B s ∧ Fit s 2 ∧ ∀ H', Bx B H H' → BAt K H' B (bLooked c x s).2 → Q (nV (bLooked c x s).1) H'
def spBack (K : PySem.W.Frag) : Sp := fun vs H Q _ => ∃ B s n, vs = [.ref B.b, nV n] ∧ BAt K H B s ∧ ∀ H', Bx B H H' → BAt K H' B (bBack n s) → Q .non H'
/-- a program -/
def PAt (H : Hp) (q : Addr) (rs : List SR) : Prop := ∃ (tt rt : Addr) (ts ps : List Addr), H q = some (.tup [.ref tt, .ref rt]) ∧ H tt = some (.tup (ts.map .ref)) ∧ H rt = some (.tup (ps.map .ref)) ∧
  All2 (fun p x => H p = some (.tup (tableV x))) ts (worths rs) ∧ All2 (fun p r => H p = some (.tup (rowV (worths rs) r))) ps rs
def spProgram (K : PySem.W.Frag) : Sp := fun vs H Q _ => ∃ B s, vs = [.ref B.b] ∧ BAt K H B s ∧ ∀ H' q, Same H H' → PAt H' q s.rows → Q (.ref q) H'
def spEnded (K : PySem.W.Frag) : Sp := fun vs H Q _ => ∃ B s c, vs = [.ref B.b, nV c] ∧ BAt K H B s ∧ Fit s 2 ∧ ∀ H' q, Bx B H H' → PAt H' q (bEnded c s).rows → Q (.ref q) H'
def spMakeB (K : PySem.W.Frag) : Sp := fun vs H Q _ => ∃ b dx, vs = [.ref b] ∧ H b = some (.ins (cB K) dx []) ∧ ∀ H' B, B.b = b → (∀ a o, a ≠ b → H a = some o → H' a = some o) → (∀ a, B.Own a → a = b ∨ H a = none) → BAt K H' B bStart → Q .non H'
theorem sc_table_of : FnScope ["worth", "byte"] ["worth"] (defScope (top 32)) := ⟨rfl, rfl, rfl, by decide +kernel, rfl, by decide +kernel, by decide +kernel⟩
theorem d_table_of (T : TX w K mg) : DefOk P w K mg base 2 39 "table_of" ["worth"] (spTable K) := by
  refine mkDef T 30 rfl rfl sc_table_of (fun _ _ _ _ _ _ us hl => match us, hl with | [_], _ => rfl) (fun vs H Q E h => ?_) (fun f cdv A outer s H vs Q E hr h => ?_)
  · obtain ⟨x, rfl, k⟩ := h
    rfl
  · obtain ⟨x, rfl, k⟩ := h
    refine ⟨_, 
        (pss_one (ps_ret (pe_callTy call_tuple_of (by rfl) T.tuple_ (by decide +kernel) (pa_cons (pe_lc (own := [("byte", 1)]) (g := gName 1) (by rfl) sc_table_of.nd (pi_range1 rfl T.range_ (pa_cons pe_int pa_nil)) (blkOk_by (own := [("byte", 1)]) (N := ["worth", "byte"]) (sc := defScope (top 32)) (by decide +kernel)) (fun _ _ _ _ _ => pg_name (i := 1) sc_table_of.nd rfl (Or.inl rfl)) (fun _ _ _ _ _ => pts_nil) (fun _ _ _ _ _ => (pe_callA (i := 0) (S := fun a => if a = wad K x then some (spWo x) else none) (T.heldS x) (hr.mono (by decide)) rfl (by first | exact Or.inl rfl | exact Or.inr (Or.inl rfl) | exact Or.inr (Or.inr rfl)) (pa_cons (pv 1) pa_nil)))) pa_nil)))), ?_⟩
    refine ⟨_, rfl, by decide, by decide, fun D hD => ?_⟩
    refine lc_range (lo := 0) (n := 256) (fun i H' => Same H H' ∧ H' D = some (.lst ((List.range i).map fun x' => nV (x.ap x')))) ⟨Same.new hD, upd_same⟩ ?_ ?_
    · rintro i H' hi ⟨s1, e1⟩
      refine ⟨rfl, ?_⟩
      refine ⟨_, _, rfl, if_pos rfl, ?_⟩
      walk_at "p"
      refine ⟨i, by show [V.int (0 + (i : Int))] = _; rw [Int.zero_add], by omega, fun H2 s2 => ?_⟩
      refine ⟨_, s2 _ _ e1, ?_, ?_⟩
      · rw [List.length_map, List.length_range]
        exact small1000 (by omega)
      · refine ⟨fun b o eb => ?_, ?_⟩
        · rw [upd_ne (ne_of_none eb hD)]
          exact s2 _ _ (s1 b o eb)
        · rw [upd_same, List.range_succ, List.map_append]
          rfl
    · rintro H' ⟨s1, e1⟩
      refine ⟨_, _, rfl, .inl ⟨SqL.of e1, fun q hq => ?_⟩⟩
      exact k _ q (s1.trans (Same.new hq)) (s1.free hq) upd_same
theorem ini_step {b p : Addr} {C dx : Addr} {fs fs' : List (Str × V)} {H : Hp} (hb : H b = some (.ins C dx fs)) (hp : H p = none) :
    p ≠ b ∧ upd (upd H p (.lst [])) b (.ins C dx fs') b = some (.ins C dx fs') ∧ upd (upd H p (.lst [])) b (.ins C dx fs') p = some (.lst []) ∧ (∀ a o, a ≠ b → H a = some o → upd (upd H p (.lst [])) b (.ins C dx fs') a = some o) := by
  have n : p ≠ b := fun z => by rw [z, hb] at hp; cases hp
  refine ⟨n, upd_same, by rw [upd_ne n]; exact upd_same, fun a o na e => ?_⟩
  rw [upd_ne na, upd_ne (ne_of_none e hp)]
  exact e
theorem sc_Builder___init__ : FnScope ["self"] ["self"] (defScope (inClass (top 35) 0)) := ⟨rfl, rfl, rfl, by decide +kernel, rfl, by decide +kernel, by decide +kernel⟩
theorem m___init__ (T : TX w K mg) : MethOk P w K mg base 1 (cB K) "__init__" ["self"] (spMakeB K) := by
  refine mkMeth T 0 (q := "Builder.__init__") (a := 35) (j := 0) rfl rfl T.clsB sc_Builder___init__ (fun _ _ _ _ _ _ us hl => match us, hl with | [_], _ => rfl) (fun vs H Q E h => ?_) (fun f cdv A outer s H vs Q E hr h => ?_)
  · obtain ⟨b, dx, rfl, hb, k⟩ := h
    rfl
  · obtain ⟨b, dx, rfl, hb, k⟩ := h
    refine ⟨_, 
        (pss_cons (ps_fld (pv 0) (pe_lst pa_nil) rfl) 
        (pss_cons (ps_fld (pv 0) (pe_lst pa_nil) rfl) 
        (pss_cons (ps_fld (pv 0) (pe_lst pa_nil) rfl) 
        (pss_one (ps_fld (pv 0) (pe_gInt (T.int 31)) rfl))))), ?_⟩
    refine ⟨by decide, fun p1 h1 => ?_⟩
    walk_at "p"
    have n1 : p1 ≠ b := fun z => by rw [z, hb] at h1; cases h1
    refine ⟨_, _, _, _, rfl, (upd_ne n1.symm).trans hb, T.clsB, T.noB (by decide), Nat.le_of_ble_eq_true rfl, ?_⟩
    obtain ⟨_, b1, q1, k1⟩ := ini_step (fs' := putF "rows" (V.ref p1) []) hb h1
    revert b1 q1 k1
    generalize upd (upd H p1 (HO.lst [])) b _ = H1
    intro b1 q1 k1
    refine ⟨by decide, fun p2 h2 => ?_⟩
    walk_at "p"
    have n2 : p2 ≠ b := fun z => by rw [z, b1] at h2; cases h2
    refine ⟨_, _, _, _, rfl, (upd_ne n2.symm).trans b1, T.clsB, T.noB (by decide), Nat.le_of_ble_eq_true rfl, ?_⟩
    obtain ⟨_, b2, q2, k2⟩ := ini_step (fs' := putF "tables" (V.ref p2) (putF "rows" (V.ref p1) [])) b1 h2
    revert b2 q2 k2
    generalize upd (upd H1 p2 (HO.lst [])) b _ = H2
    intro b2 q2 k2
    refine ⟨by decide, fun p3 h3 => ?_⟩
    walk_at "p"
    have n3 : p3 ≠ b := fun z => by rw [z, b2] at h3; cases h3
    refine ⟨_, _, _, _, rfl, (upd_ne n3.symm).trans b2, T.clsB, T.noB (by decide), Nat.le_of_ble_eq_true rfl, ?_⟩
    obtain ⟨_, b3, q3, k3⟩ := ini_step (fs' := putF "worths" (V.ref p3) (putF "tables" (V.ref p2) (putF "rows" (V.ref p1) []))) b2 h3
    revert b3 q3 k3
    generalize upd (upd H2 p3 (HO.lst [])) b _ = H3
    intro b3 q3 k3
    walk_at "p"
    refine ⟨_, _, _, _, rfl, b3, T.clsB, T.noB (by decide), Nat.le_of_ble_eq_true rfl, ?_⟩
    have p12 : p1 ≠ p2 := fun z => by rw [← z, q1] at h2; cases h2
    have p13 : p1 ≠ p3 := fun z => by rw [← z, k2 _ _ n1 q1] at h3; cases h3
    have p23 : p2 ≠ p3 := fun z => by rw [← z, q2] at h3; cases h3
    refine k _ ⟨b, dx, p1, p2, p3⟩ rfl (fun a o na e => ?_) ?_ ?_
    · rw [upd_ne na]
      exact k3 _ _ na (k2 _ _ na (k1 _ _ na e))
    · rintro a (rfl | rfl | rfl | rfl)
      · exact .inl rfl
      · exact .inr h1
      · refine .inr ?_
        cases e : H a with
        | none => rfl
        | some o => rw [k1 _ _ n2 e] at h2; cases h2
      · refine .inr ?_
        cases e : H a with
        | none => rfl
        | some o => rw [k2 _ _ n3 (k1 _ _ n3 e)] at h3; cases h3
    · refine ⟨upd_same, ⟨[], ?_, trivial⟩, ⟨[], ?_, trivial⟩, ?_, p12, p13, p23⟩
      · rw [upd_ne n1]; exact k3 _ _ n1 (k2 _ _ n1 q1)
      · rw [upd_ne n2]; exact k3 _ _ n2 q2
      · rw [upd_ne n3]; exact q3
theorem sc_Builder_cell : FnScope ["self"] ["self"] (defScope (inClass (top 35) 1)) := ⟨rfl, rfl, rfl, by decide +kernel, rfl, by decide +kernel, by decide +kernel⟩
theorem m_cell (T : TX w K mg) : MethOk P w K mg base 1 (cB K) "cell" ["self"] (spCell K) := by
  refine mkMeth T 1 (q := "Builder.cell") (a := 35) (j := 1) rfl rfl T.clsB sc_Builder_cell (fun _ _ _ _ _ _ us hl => match us, hl with | [_], _ => rfl) (fun vs H Q E h => ?_) (fun f cdv A outer s H vs Q E hr h => ?_)
  · obtain ⟨B, s, rfl, hB, k⟩ := h
    rfl
  · obtain ⟨B, s, rfl, hB, k⟩ := h
    refine ⟨_, 
        (pss_cons (ps_fldaug (pv 0) pe_int in_add) 
        (pss_one (ps_ret (pe_op op_sub (pe_fld (pv 0) rfl) pe_int)))), ?_⟩
    walk_at "p"
    refine ⟨_, _, _, _, _, rfl, hB.obj, T.clsB, T.noB (by decide), rfl, ?_⟩
    walk_at "p"
    refine ⟨_, _, hB.obj, Nat.le_of_ble_eq_true rfl, ?_⟩
    have e : putF "free" (.int ((s.free : Int) + 1)) (B.fs s.free) = B.fs (s.free + 1) := rfl
    rw [e]
    have hB2 := hB.free (s.free + 1)
    walk_at "p"
    refine ⟨_, _, _, _, _, rfl, hB2.obj, T.clsB, T.noB (by decide), rfl, ?_⟩
    walk_at "p"
    refine qi ?_ (k _ ((Bx.refl B H).own (.inl rfl)) hB2)
    show ((s.free + 1 : Nat) : Int) - 1 = (s.free : Int)
    omega
theorem sc_Builder_put : FnScope ["self", "byte", "cell"] ["self", "byte"] (defScope (inClass (top 35) 2)) := ⟨rfl, rfl, rfl, by decide +kernel, rfl, by decide +kernel, by decide +kernel⟩
theorem m_put (T : TX w K mg) : MethOk P w K mg base 2 (cB K) "put" ["self", "byte"] (spPut K) := by
  refine mkMeth T 2 (q := "Builder.put") (a := 35) (j := 2) rfl rfl T.clsB sc_Builder_put (fun _ _ _ _ _ _ us hl => match us, hl with | [_, _], _ => rfl) (fun vs H Q E h => ?_) (fun f cdv A outer s H vs Q E hr h => ?_)
  · obtain ⟨B, s, k0, rfl, hB, hf, k⟩ := h
    rfl
  · obtain ⟨B, s, k0, rfl, hB, hf, k⟩ := h
    refine ⟨_, 
        (pss_cons (ps_set (i := 2) sc_Builder_put.nd rfl (Or.inl rfl) (pe_meth0D (T.methB (by decide)) (m_cell T) (hr.mono (by decide)) (pv 0))) 
        (pss_cons (ps_expr (pe_bm PySem.F.plainAttrs_list PySem.F.slot_list_append PySem.F.type_list_append mt_append (pe_fld (pv 0) rfl) (pa_cons (pe_tup (pa_cons pe_str (pa_cons (pv 2) (pa_cons (pv 1) pa_nil)))) pa_nil))) 
        (pss_one (ps_ret (pv 2))))), ?_⟩
    walk_at "p"
    refine ⟨_, _, _, rfl, hB.obj, rfl, ?_⟩
    refine ⟨B, s, rfl, hB, fun H1 x1 b1 => ?_⟩
    walk_at "p"
    refine ⟨_, _, _, _, _, rfl, b1.obj, T.clsB, T.noB (by decide), rfl, ?_⟩
    obtain ⟨ps, r1, r2⟩ := b1.rows
    refine ⟨.inl ⟨rfl, _, SqL.of r1⟩, ?_⟩
    refine ⟨_, rfl, _, rfl, (by decide : 3 ≤ sizeLine), fun p hp => ?_⟩
    have b2 := b1.new (o := .tup [.str "put", nV s.free, nV k0]) hp
    refine ⟨_, _, _, rfl, rfl, (Same.new hp) _ _ r1, ?_, ?_⟩
    · rw [List.length_map, r2.length]; exact hf.lt (by omega)
    walk_at "p"
    refine k _ ((x1.trans (Bx.of (Same.new hp))).own (.inr (.inl rfl))) ?_
    exact b2.row (r := .put s.free k0) (worths_snoc _ _) upd_same ((Same.new hp) _ _ r1) (r2.imp fun p r _ e => (Same.new hp) _ _ e)
theorem sc_Builder_row : FnScope ["self", "word", "one", "other"] ["self", "word", "one", "other"] (defScope (inClass (top 35) 3)) := ⟨rfl, rfl, rfl, by decide +kernel, rfl, by decide +kernel, by decide +kernel⟩
theorem m_row (T : TX w K mg) : MethOk P w K mg base 1 (cB K) "row" ["self", "word", "one", "other"] (spRow K) := by
  refine mkMeth T 3 (q := "Builder.row") (a := 35) (j := 3) rfl rfl T.clsB sc_Builder_row (fun _ _ _ _ _ _ us hl => match us, hl with | [_, _, _, _], _ => rfl) (fun vs H Q E h => ?_) (fun f cdv A outer s H vs Q E hr h => ?_)
  · obtain ⟨B, s, r, wd, a, b, rfl, hr', hB, hf, k⟩ := h
    rfl
  · obtain ⟨B, s, r, wd, a, b, rfl, hr', hB, hf, k⟩ := h
    refine ⟨_, 
        (pss_one (ps_expr (pe_bm PySem.F.plainAttrs_list PySem.F.slot_list_append PySem.F.type_list_append mt_append (pe_fld (pv 0) rfl) (pa_cons (pe_tup (pa_cons (pv 1) (pa_cons (pv 2) (pa_cons (pv 3) pa_nil)))) pa_nil)))), ?_⟩
    walk_at "p"
    refine ⟨_, _, _, _, _, rfl, hB.obj, T.clsB, T.noB (by decide), rfl, ?_⟩
    obtain ⟨ps, r1, r2⟩ := hB.rows
    refine ⟨.inl ⟨rfl, _, SqL.of r1⟩, ?_⟩
    refine ⟨_, rfl, _, rfl, _, rfl, (by decide : 3 ≤ sizeLine), fun p hp => ?_⟩
    have b2 := hB.new (o := .tup [.str wd, nV a, nV b]) hp
    refine ⟨_, _, _, rfl, rfl, (Same.new hp) _ _ r1, ?_, ?_⟩
    · rw [List.length_map, r2.length]; exact hf.lt (by omega)
    refine k _ (((Bx.refl B H).trans (Bx.of (Same.new hp))).own (.inr (.inl rfl))) ?_
    refine b2.row (r := r) ?_ ?_ ((Same.new hp) _ _ r1) (r2.imp fun p r _ e => (Same.new hp) _ _ e)
    · rw [worths_snoc]
      cases r <;> first | rfl | cases hr'
    · refine upd_is ?_
      cases r <;> first | (cases hr'; rfl) | cases hr'
theorem sc_Builder_look : FnScope ["self", "cell", "worth"] ["self", "cell", "worth"] (defScope (inClass (top 35) 4)) := ⟨rfl, rfl, rfl, by decide +kernel, rfl, by decide +kernel, by decide +kernel⟩
theorem m_look (T : TX w K mg) : MethOk P w K mg base 3 (cB K) "look" ["self", "cell", "worth"] (spLook K) := by
  refine mkMeth T 4 (q := "Builder.look") (a := 35) (j := 4) rfl rfl T.clsB sc_Builder_look (fun _ _ _ _ _ _ us hl => match us, hl with | [_, _, _], _ => rfl) (fun vs H Q E h => ?_) (fun f cdv A outer s H vs Q E hr h => ?_)
  · obtain ⟨B, s, c, x, rfl, hB, hf, k⟩ := h
    rfl
  · obtain ⟨B, s, c, x, rfl, hB, hf, k⟩ := h
    refine ⟨_, 
        (pss_cons (ps_if (pt_cmpR (op_notIn_fn hr) (pv 2) (pe_fld (pv 0) rfl) (by rfl)) 
          (pss_cons (ps_expr (pe_bm PySem.F.plainAttrs_list PySem.F.slot_list_append PySem.F.type_list_append mt_append (pe_fld (pv 0) rfl) (pa_cons (pv 2) pa_nil))) 
          (pss_one (ps_expr (pe_bm PySem.F.plainAttrs_list PySem.F.slot_list_append PySem.F.type_list_append mt_append (pe_fld (pv 0) rfl) (pa_cons (pe_callD (d_table_of T) (hr.mono (by decide)) (by rfl) (pa_cons (pv 2) pa_nil)) pa_nil))))) pss_nil) 
        (pss_one (ps_expr (pe_bm PySem.F.plainAttrs_list PySem.F.slot_list_append PySem.F.type_list_append mt_append (pe_fld (pv 0) rfl) (pa_cons (pe_tup (pa_cons pe_str (pa_cons (pv 1) (pa_cons (pe_bm PySem.F.plainAttrs_list PySem.F.slot_list_index PySem.F.type_list_index (mt_index_fn hr) (pe_fld (pv 0) rfl) (pa_cons (pv 2) pa_nil)) pa_nil)))) pa_nil))))), ?_⟩
    obtain ⟨ps, r1, r2⟩ := hB.rows
    obtain ⟨ts, t1, t2⟩ := hB.tabs
    walk_at "p"
    refine ⟨_, rfl, ?_⟩
    refine ⟨_, _, _, _, _, rfl, hB.obj, T.clsB, T.noB (by decide), rfl, ?_⟩
    refine ⟨_, _, _, rfl, rfl, .inl (.inl hB.ws), T.fnAt x, ?_, ?_⟩
    · intro z hz
      obtain ⟨y, _, rfl⟩ := List.mem_map.mp hz
      exact T.fnAt y
    rw [T.contains]
    have hin : ∀ ws : List Wo, ∀ z ∈ ws.map (wad K), FnAt K z := fun ws z hz => by
      obtain ⟨y, _, rfl⟩ := List.mem_map.mp hz
      exact T.fnAt y
    walk_at "p"
    refine iteND (fun hx => ?_) (fun hx => ?_)
    · walk_at "p"
      refine ⟨_, _, _, _, _, rfl, hB.obj, T.clsB, T.noB (by decide), rfl, ?_⟩
      refine ⟨.inl ⟨rfl, _, SqL.of hB.ws⟩, ?_⟩
      walk_at "p"
      have hl : (worths s.rows).length = ts.length := t2.length.symm
      refine ⟨_, _, _, rfl, rfl, hB.ws, ?_, ?_⟩
      · rw [List.length_map, List.length_map]
        exact Nat.lt_of_le_of_lt (worths_le s.rows) (hf.lt (by omega))
      have nrw : B.rl ≠ B.wl := hB.d2
      have e1b : upd H B.wl (.lst (((worths s.rows).map (wad K)).map .ref ++ [.ref (wad K x)])) B.b = H B.b := upd_ne (Ne.symm (hB.nb hB.ws))
      have e1t := (upd_ne (o := .lst (((worths s.rows).map (wad K)).map .ref ++ [.ref (wad K x)])) hB.d3).trans t1
      have e1r := (upd_ne (o := .lst (((worths s.rows).map (wad K)).map .ref ++ [.ref (wad K x)])) hB.d2).trans r1
      have e1w : upd H B.wl (.lst (((worths s.rows).map (wad K)).map .ref ++ [.ref (wad K x)])) B.wl = _ := upd_same
      have kt1 : ∀ a xs, H a = some (.tup xs) → upd H B.wl (.lst (((worths s.rows).map (wad K)).map .ref ++ [.ref (wad K x)])) a = some (.tup xs) := fun a xs z => by
        rw [upd_ne (ne_kind z hB.ws (by intro z; cases z))]; exact z
      have x1 : Bx B H (upd H B.wl (.lst (((worths s.rows).map (wad K)).map .ref ++ [.ref (wad K x)]))) := (Bx.refl B H).own (.inr (.inr (.inr rfl)))
      revert e1b e1t e1r e1w kt1 x1
      generalize upd H B.wl _ = H1
      intro e1b e1t e1r e1w kt1 x1
      have ob := hB.obj
      refine ⟨_, rfl, ?_⟩
      refine ⟨_, _, _, _, _, rfl, e1b.trans ob, T.clsB, T.noB (by decide), rfl, ?_⟩
      refine ⟨.inl ⟨rfl, _, SqL.of e1t⟩, ?_⟩
      walk_at "p"
      refine ⟨x, rfl, fun H2 p s2 f2 e2 => ?_⟩
      refine ⟨_, _, _, rfl, rfl, s2 _ _ e1t, ?_, ?_⟩
      · rw [List.length_map, ← hl]
        exact Nat.lt_of_le_of_lt (worths_le s.rows) (hf.lt (by omega))
      have e3b : upd H2 B.tl (.lst (ts.map .ref ++ [.ref p])) B.b = H B.b := (upd_ne (Ne.symm (hB.nb t1))).trans ((s2 _ _ (e1b.trans ob)).trans ob.symm)
      have e3r : upd H2 B.tl (.lst (ts.map .ref ++ [.ref p])) B.rl = some (.lst (ps.map .ref)) := (upd_ne hB.d1).trans (s2 _ _ e1r)
      have e3w : upd H2 B.tl (.lst (ts.map .ref ++ [.ref p])) B.wl = _ := (upd_ne hB.d3.symm).trans (s2 _ _ e1w)
      have e3t : upd H2 B.tl (.lst (ts.map .ref ++ [.ref p])) B.tl = _ := upd_same
      have kt3 : ∀ a xs, H2 a = some (.tup xs) → upd H2 B.tl (.lst (ts.map .ref ++ [.ref p])) a = some (.tup xs) := fun a xs z => by
        rw [upd_ne (ne_kind z (s2 _ _ e1t) (by intro z; cases z))]; exact z
      have x3 : Bx B H (upd H2 B.tl (.lst (ts.map .ref ++ [.ref p]))) := (x1.trans (Bx.of s2)).own (.inr (.inr (.inl rfl)))
      have kt13 : ∀ a xs, H a = some (.tup xs) → upd H2 B.tl (.lst (ts.map .ref ++ [.ref p])) a = some (.tup xs) := fun a xs z => kt3 _ _ (s2 _ _ (kt1 _ _ z))
      have ep3 := kt3 _ _ e2
      revert e3b e3r e3w e3t x3 kt13 ep3
      clear kt3
      generalize upd H2 B.tl _ = H3
      intro e3b e3r e3w e3t x3 kt13 ep3
      refine ⟨_, rfl, ?_⟩
      refine ⟨_, _, _, _, _, rfl, e3b.trans ob, T.clsB, T.noB (by decide), rfl, ?_⟩
      refine ⟨.inl ⟨rfl, _, SqL.of e3r⟩, ?_⟩
      walk_at "p"
      walk_at "p"
      refine ⟨_, _, _, _, _, rfl, e3b.trans ob, T.clsB, T.noB (by decide), rfl, ?_⟩
      refine ⟨.inl ⟨rfl, _, SqL.of e3w⟩, ?_⟩
      walk_at "p"
      refine ⟨_, _, (worths s.rows ++ [x]).map (wad K), rfl, rfl, SqL.of (e3w.trans (by rw [List.map_append, List.map_append]; rfl)), T.fnAt x, hin _, List.mem_map.mpr ⟨x, by simp, rfl⟩, ?_⟩
      rw [T.idxOf]
      refine ⟨(by decide : 3 ≤ sizeLine), fun q hq => ?_⟩
      have s4 : Same H3 (upd H3 q (.tup [.str "look", nV c, nV ((worths s.rows ++ [x]).idxOf x)])) := Same.new hq
      refine ⟨_, _, _, rfl, rfl, s4 _ _ e3r, ?_, ?_⟩
      · rw [List.length_map, r2.length]; exact hf.lt (by omega)
      refine k _ ((x3.trans (Bx.of s4)).own (.inr (.inl rfl))) ?_
      have nq : ∀ a, a ≠ B.rl → upd (upd H3 q (.tup [.str "look", nV c, nV ((worths s.rows ++ [x]).idxOf x)])) B.rl (.lst (ps.map .ref ++ [.ref q])) a = upd H3 q (.tup [.str "look", nV c, nV ((worths s.rows ++ [x]).idxOf x)]) a := fun a h => upd_ne h
      have keep : ∀ a o, a ≠ B.rl → H3 a = some o → upd (upd H3 q (.tup [.str "look", nV c, nV ((worths s.rows ++ [x]).idxOf x)])) B.rl (.lst (ps.map .ref ++ [.ref q])) a = some o := fun a o h z => by
        rw [nq a h]; exact s4 _ _ z
      refine hB.table hx r2 t2 (q := q) (t := p) upd_same (keep _ _ hB.d1.symm e3t) (keep _ _ hB.d2.symm e3w) ?_ ?_ ?_ ?_
      · exact (keep _ _ (Ne.symm (hB.nb r1)) (e3b.trans ob)).trans ob.symm
      · intro a xs z
        exact keep _ _ (ne_kind z r1 (by intro z; cases z)) (kt13 _ _ z)
      · exact (nq q (fun z => by rw [z, e3r] at hq; cases hq)).trans upd_same
      · exact keep _ _ (ne_kind ep3 e3r (by intro z; cases z)) ep3
    · walk_at "p"
      refine ⟨_, _, _, _, _, rfl, hB.obj, T.clsB, T.noB (by decide), rfl, ?_⟩
      refine ⟨.inl ⟨rfl, _, SqL.of r1⟩, ?_⟩
      walk_at "p"
      walk_at "p"
      refine ⟨_, _, _, _, _, rfl, hB.obj, T.clsB, T.noB (by decide), rfl, ?_⟩
      refine ⟨.inl ⟨rfl, _, SqL.of hB.ws⟩, ?_⟩
      walk_at "p"
      refine ⟨_, _, (worths s.rows).map (wad K), rfl, rfl, SqL.of hB.ws, T.fnAt x, hin _, List.mem_map.mpr ⟨x, hx, rfl⟩, ?_⟩
      rw [T.idxOf]
      refine ⟨(by decide : 3 ≤ sizeLine), fun q hq => ?_⟩
      have s4 : Same H (upd H q (.tup [.str "look", nV c, nV ((worths s.rows).idxOf x)])) := Same.new hq
      refine ⟨_, _, _, rfl, rfl, s4 _ _ r1, ?_, ?_⟩
      · rw [List.length_map, r2.length]; exact hf.lt (by omega)
      refine k _ ((Bx.of s4).own (.inr (.inl rfl))) ?_
      refine (hB.new hq).row (r := .look c x) ?_ upd_same (s4 _ _ r1) (r2.imp fun p r _ e => s4 _ _ e)
      rw [worths_snoc]
      exact if_pos hx
theorem sc_Builder_copied : FnScope ["self", "cell", "new"] ["self", "cell"] (defScope (inClass (top 35) 5)) := ⟨rfl, rfl, rfl, by decide +kernel, rfl, by decide +kernel, by decide +kernel⟩
theorem m_copied (T : TX w K mg) : MethOk P w K mg base 2 (cB K) "copied" ["self", "cell"] (spCopied K) := by
  refine mkMeth T 5 (q := "Builder.copied") (a := 35) (j := 5) rfl rfl T.clsB sc_Builder_copied (fun _ _ _ _ _ _ us hl => match us, hl with | [_, _], _ => rfl) (fun vs H Q E h => ?_) (fun f cdv A outer s H vs Q E hr h => ?_)
  · obtain ⟨B, s, c, rfl, hB, hf, k⟩ := h
    rfl
  · obtain ⟨B, s, c, rfl, hB, hf, k⟩ := h
    refine ⟨_, 
        (pss_cons (ps_set (i := 2) sc_Builder_copied.nd rfl (Or.inl rfl) (pe_meth0D (T.methB (by decide)) (m_cell T) (hr.mono (by decide)) (pv 0))) 
        (pss_cons (ps_expr (pe_methD (T.methB (by decide)) (m_row T) (hr.mono (by decide)) (pv 0) (pa_cons pe_str (pa_cons (pv 2) (pa_cons (pv 1) pa_nil))))) 
        (pss_one (ps_ret (pv 2))))), ?_⟩
    walk_at "p"
    refine ⟨_, _, _, rfl, hB.obj, rfl, ?_⟩
    refine ⟨B, s, rfl, hB, fun H1 x1 b1 => ?_⟩
    walk_at "p"
    refine ⟨_, _, _, rfl, b1.obj, rfl, ?_⟩
    refine ⟨_, rfl, _, rfl, ?_⟩
    refine ⟨B, _, .copy s.free c, _, _, _, rfl, rfl, b1, hf, fun H2 x2 b2 => ?_⟩
    walk_at "p"
    exact k _ (x1.trans x2) b2
theorem sc_Builder_looked : FnScope ["self", "cell", "worth", "new"] ["self", "cell", "worth"] (defScope (inClass (top 35) 6)) := ⟨rfl, rfl, rfl, by decide +kernel, rfl, by decide +kernel, by decide +kernel⟩
theorem m_looked (T : TX w K mg) : MethOk P w K mg base 4 (cB K) "looked" ["self", "cell", "worth"] (spLooked K) := by
  refine mkMeth T 6 (q := "Builder.looked") (a := 35) (j := 6) rfl rfl T.clsB sc_Builder_looked (fun _ _ _ _ _ _ us hl => match us, hl with | [_, _, _], _ => rfl) (fun vs H Q E h => ?_) (fun f cdv A outer s H vs Q E hr h => ?_)
  · obtain ⟨B, s, c, x, rfl, hB, hf, k⟩ := h
    rfl
  · obtain ⟨B, s, c, x, rfl, hB, hf, k⟩ := h
    refine ⟨_, 
        (pss_cons (ps_set (i := 3) sc_Builder_looked.nd rfl (Or.inl rfl) (pe_methD (T.methB (by decide)) (m_copied T) (hr.mono (by decide)) (pv 0) (pa_cons (pv 1) pa_nil))) 
        (pss_cons (ps_expr (pe_methD (T.methB (by decide)) (m_look T) (hr.mono (by decide)) (pv 0) (pa_cons (pv 3) (pa_cons (pv 2) pa_nil)))) 
        (pss_one (ps_ret (pv 3))))), ?_⟩
    walk_at "p"
    refine ⟨_, _, _, rfl, hB.obj, rfl, ?_⟩
    refine ⟨_, rfl, ?_⟩
    refine ⟨B, s, c, rfl, hB, Nat.le_of_succ_le hf, fun H1 x1 b1 => ?_⟩
    walk_at "p"
    refine ⟨_, _, _, rfl, b1.obj, rfl, ?_⟩
    refine ⟨_, rfl, _, rfl, ?_⟩
    refine ⟨B, _, _, x, rfl, b1, ?_, fun H2 x2 b2 => ?_⟩
    · unfold Fit bCopied bRow bCell; unfold Fit at hf; simp only [List.length_append, List.length_cons, List.length_nil]; omega
    walk_at "p"
    exact k _ (x1.trans x2) b2
theorem sc_Builder_back_to : FnScope ["self", "free"] ["self", "free"] (defScope (inClass (top 35) 7)) := ⟨rfl, rfl, rfl, by decide +kernel, rfl, by decide +kernel, by decide +kernel⟩
theorem m_back_to (T : TX w K mg) : MethOk P w K mg base 1 (cB K) "back_to" ["self", "free"] (spBack K) := by
  refine mkMeth T 7 (q := "Builder.back_to") (a := 35) (j := 7) rfl rfl T.clsB sc_Builder_back_to (fun _ _ _ _ _ _ us hl => match us, hl with | [_, _], _ => rfl) (fun vs H Q E h => ?_) (fun f cdv A outer s H vs Q E hr h => ?_)
  · obtain ⟨B, s, n, rfl, hB, k⟩ := h
    rfl
  · obtain ⟨B, s, n, rfl, hB, k⟩ := h
    refine ⟨_, 
        (pss_one (ps_fld (pv 0) (pv 1) rfl)), ?_⟩
    walk_at "p"
    walk_at "p"
    refine ⟨_, _, _, _, rfl, hB.obj, T.clsB, T.noB (by decide), Nat.le_of_ble_eq_true rfl, ?_⟩
    have e : putF "free" (nV n) (B.fs s.free) = B.fs n := rfl
    rw [e]
    exact k _ ((Bx.refl B H).own (.inl rfl)) (hB.free n)
theorem sc_Builder_program : FnScope ["self"] ["self"] (defScope (inClass (top 35) 9)) := ⟨rfl, rfl, rfl, by decide +kernel, rfl, by decide +kernel, by decide +kernel⟩
theorem m_program (T : TX w K mg) : MethOk P w K mg base 1 (cB K) "program" ["self"] (spProgram K) := by
  refine mkMeth T 9 (q := "Builder.program") (a := 35) (j := 9) rfl rfl T.clsB sc_Builder_program (fun _ _ _ _ _ _ us hl => match us, hl with | [_], _ => rfl) (fun vs H Q E h => ?_) (fun f cdv A outer s H vs Q E hr h => ?_)
  · obtain ⟨B, s, rfl, hB, k⟩ := h
    rfl
  · obtain ⟨B, s, rfl, hB, k⟩ := h
    refine ⟨_, 
        (pss_one (ps_ret (pe_tup (pa_cons (pe_callTy call_tuple_of (by rfl) T.tuple_ (by decide +kernel) (pa_cons (pe_fld (pv 0) rfl) pa_nil)) (pa_cons (pe_callTy call_tuple_of (by rfl) T.tuple_ (by decide +kernel) (pa_cons (pe_fld (pv 0) rfl) pa_nil)) pa_nil))))), ?_⟩
    obtain ⟨ps, r1, r2⟩ := hB.rows
    obtain ⟨ts, t1, t2⟩ := hB.tabs
    walk_at "p"
    refine ⟨_, _, _, _, _, rfl, hB.obj, T.clsB, T.noB (by decide), rfl, ?_⟩
    refine ⟨_, _, rfl, .inl ⟨SqL.of t1, fun tt htt => ?_⟩⟩
    have s1 : Same H (upd H tt (.tup (ts.map .ref))) := Same.new htt
    refine ⟨_, rfl, ?_⟩
    refine ⟨_, _, _, _, _, rfl, s1 _ _ hB.obj, T.clsB, T.noB (by decide), rfl, ?_⟩
    refine ⟨_, _, rfl, .inl ⟨SqL.of (s1 _ _ r1), fun rt hrt => ?_⟩⟩
    have s2 := Same.new (o := .tup (ps.map .ref)) hrt
    refine ⟨(by decide : 2 ≤ sizeLine), fun q hq => ?_⟩
    have s3 := Same.new (o := .tup [.ref tt, .ref rt]) hq
    refine k _ q ((s1.trans s2).trans s3) ⟨tt, rt, ts, ps, upd_same, s3 _ _ (s2 _ _ upd_same), s3 _ _ upd_same, t2.imp fun p x _ e => s3 _ _ (s2 _ _ (s1 _ _ e)), r2.imp fun p r _ e => s3 _ _ (s2 _ _ (s1 _ _ e))⟩
theorem sc_Builder_ended : FnScope ["self", "cell"] ["self", "cell"] (defScope (inClass (top 35) 8)) := ⟨rfl, rfl, rfl, by decide +kernel, rfl, by decide +kernel, by decide +kernel⟩
theorem m_ended (T : TX w K mg) : MethOk P w K mg base 3 (cB K) "ended" ["self", "cell"] (spEnded K) := by
  refine mkMeth T 8 (q := "Builder.ended") (a := 35) (j := 8) rfl rfl T.clsB sc_Builder_ended (fun _ _ _ _ _ _ us hl => match us, hl with | [_, _], _ => rfl) (fun vs H Q E h => ?_) (fun f cdv A outer s H vs Q E hr h => ?_)
  · obtain ⟨B, s, c, rfl, hB, hf, k⟩ := h
    rfl
  · obtain ⟨B, s, c, rfl, hB, hf, k⟩ := h
    refine ⟨_, 
        (pss_cons (ps_expr (pe_bm PySem.F.plainAttrs_list PySem.F.slot_list_append PySem.F.type_list_append mt_append (pe_fld (pv 0) rfl) (pa_cons (pe_tup (pa_cons pe_str (pa_cons (pe_methD (T.methB (by decide)) (m_copied T) (hr.mono (by decide)) (pv 0) (pa_cons (pv 1) pa_nil)) pa_nil))) pa_nil))) 
        (pss_one (ps_ret (pe_meth0D (T.methB (by decide)) (m_program T) (hr.mono (by decide)) (pv 0))))), ?_⟩
    walk_at "p"
    refine ⟨_, _, _, _, _, rfl, hB.obj, T.clsB, T.noB (by decide), rfl, ?_⟩
    obtain ⟨ps, r1, r2⟩ := hB.rows
    refine ⟨.inl ⟨rfl, _, SqL.of r1⟩, ?_⟩
    walk_at "p"
    refine ⟨_, _, _, rfl, hB.obj, rfl, ?_⟩
    refine ⟨_, rfl, ?_⟩
    refine ⟨B, s, c, rfl, hB, Nat.le_of_succ_le hf, fun H1 x1 b1 => ?_⟩
    refine ⟨(by decide : 2 ≤ sizeLine), fun p hp => ?_⟩
    have s2 : Same H1 (upd H1 p (.tup [.str "right", nV s.free])) := Same.new hp
    obtain ⟨ps1, r3, r4⟩ := b1.rows
    refine ⟨_, _, _, rfl, rfl, s2 _ _ r3, ?_, ?_⟩
    · rw [List.length_map, r4.length]
      refine Fit.lt (n := 1) ?_ (by decide)
      unfold Fit bCopied bRow bCell; unfold Fit at hf; simp only [List.length_append, List.length_cons, List.length_nil]; omega
    have b3 := (b1.new (o := .tup [.str "right", nV s.free]) hp).row (r := .right s.free) (worths_snoc _ _) upd_same (s2 _ _ r3) (r4.imp fun p r _ e => s2 _ _ e)
    walk_at "p"
    refine ⟨_, _, _, rfl, b3.obj, rfl, ?_⟩
    refine ⟨B, _, rfl, b3, fun H4 q s4 p4 => ?_⟩
    exact k _ q (((x1.trans (Bx.of s2)).own (.inr (.inl rfl))).trans (Bx.of s4)) p4
end
end TL
set_option Elab.async false
set_option linter.all false
set_option maxRecDepth 100000
set_option pp.maxSteps 600
set_option maxHeartbeats 4000000
namespace TL
open PySem PySem.Spec PyProof.Rows L2
/-- one question answered, where its answer is plain -/
local macro_rules | `(tactic| walk_at "p") => `(tactic| first
  | refine ⟨_, rfl, ?_⟩
  | refine ⟨_, _, rfl, rfl, ⟨by decide, by decide⟩, ?_⟩
  | refine ⟨_, _, rfl, rfl, (by show (0 : Int) < _; decide), ?_⟩
  | refine ⟨_, _, rfl, rfl, ?_⟩
  | refine ⟨rfl, ?_⟩
  | refine ⟨_, _, _, _, rfl, rfl, (by assumption), rfl, ?_⟩
  | refine .inr ⟨_, rfl, ?_⟩
  | refine .inl ⟨_, rfl, ?_⟩
  | refine iteT ?_
  | refine iteF ?_)
local macro_rules | `(tactic| walk_at "ps") => `(tactic| repeat walk_at "p")

/-! ### how many rows -/
theorem len_row (r : SR) (s : BS) : (bRow r s).rows.length = s.rows.length + 1 := by simp [bRow]
theorem len_cell (s : BS) : (bCell s).2.rows.length = s.rows.length := rfl
theorem len_back (n : Nat) (s : BS) : (bBack n s).rows.length = s.rows.length := rfl
theorem len_put (k : Nat) (s : BS) : (bPut k s).2.rows.length = s.rows.length + 1 := by simp [bPut, len_row, len_cell]
theorem len_look (c : Nat) (w : Wo) (s : BS) : (bLook c w s).rows.length = s.rows.length + 1 := len_row _ _
theorem len_copied (c : Nat) (s : BS) : (bCopied c s).2.rows.length = s.rows.length + 1 := by simp [bCopied, len_row, len_cell]
theorem len_looked (c : Nat) (w : Wo) (s : BS) : (bLooked c w s).2.rows.length = s.rows.length + 2 := by simp [bLooked, len_look, len_copied]
theorem len_map {α : Type} {f : α → BS → Nat × BS} {c : Nat} (hf : ∀ x s, (f x s).2.rows.length ≤ s.rows.length + c) (xs : List α) (s : BS) : (bMap f xs s).2.rows.length ≤ s.rows.length + c * xs.length := by
  suffices h : ∀ ys : List α, (bMap f ys.reverse s).2.rows.length ≤ s.rows.length + c * ys.length by
    have := h xs.reverse
    rwa [List.reverse_reverse, List.length_reverse] at this
  intro ys
  induction ys with
  | nil => exact Nat.le_refl _
  | cons y ys ih =>
    rw [List.reverse_cons, bMap_snoc]
    have := hf y (bMap f ys.reverse s).2
    rw [List.length_cons, Nat.mul_add, Nat.mul_one]
    show (f y (bMap f ys.reverse s).2).2.rows.length ≤ _
    omega
theorem map_len {α : Type} {f : α → BS → Nat × BS} (xs : List α) (s : BS) : (bMap f xs s).1.length = xs.length := by
  suffices h : ∀ ys : List α, (bMap f ys.reverse s).1.length = ys.length by
    have := h xs.reverse
    rwa [List.reverse_reverse, List.length_reverse] at this
  intro ys
  induction ys with
  | nil => rfl
  | cons y ys ih =>
    rw [List.reverse_cons, bMap_snoc]
    show ((bMap f ys.reverse s).1 ++ [_]).length = _
    rw [List.length_append, ih]
    rfl
theorem len_each {α : Type} {f : α → BS → BS} {c : Nat} (hf : ∀ x s, (f x s).rows.length ≤ s.rows.length + c) : ∀ (xs : List α) (s : BS), (bEach f xs s).rows.length ≤ s.rows.length + c * xs.length
  | [], s => Nat.le_refl _
  | x :: xs, s => by
    have h1 := len_each hf xs (f x s)
    have h2 := hf x s
    show (bEach f xs (f x s)).rows.length ≤ _
    rw [List.length_cons, Nat.mul_add, Nat.mul_one]
    omega
theorem len_backward {α : Type} {f : α → BS → BS} {c : Nat} (hf : ∀ x s, (f x s).rows.length ≤ s.rows.length + c) : ∀ (xs : List α) (s : BS), (bBackward f xs s).rows.length ≤ s.rows.length + c * xs.length
  | [], s => Nat.le_refl _
  | x :: xs, s => by
    have h1 := len_backward hf xs s
    have h2 := hf x (bBackward f xs s)
    show (f x (bBackward f xs s)).rows.length ≤ _
    rw [List.length_cons, Nat.mul_add, Nat.mul_one]
    omega
theorem len_noughts (n : Nat) (s : BS) : (bNoughts n s).2.rows.length ≤ s.rows.length + n := by
  have h := len_map (f := fun _ : Nat => bPut 0) (c := 1) (fun _ s => by rw [len_put]; exact Nat.le_refl _) (List.range n) s
  rw [List.length_range, Nat.one_mul] at h
  exact h
theorem len_taken (cs : List Nat) (s : BS) : (bTaken cs s).2.rows.length ≤ s.rows.length + cs.length := by
  have h := len_map (f := bCopied) (c := 1) (fun _ s => by rw [len_copied]; exact Nat.le_refl _) cs s
  rw [Nat.one_mul] at h
  exact h
theorem len_anyOf (cs : List Nat) (s : BS) : (bAnyOf cs s).2.rows.length ≤ s.rows.length + cs.length + 2 := by
  have h := len_each (f := fun c => bRow (.or_ (bPut 0 s).1 c)) (c := 1) (fun _ s => by rw [len_row]; exact Nat.le_refl _) cs (bPut 0 s).2
  rw [Nat.one_mul, len_put] at h
  show (bLook _ _ _).rows.length ≤ _
  rw [len_look]
  omega
theorem len_both (a b : Nat) (s : BS) : (bBoth a b s).2.rows.length = s.rows.length + 2 := by
  show (bRow _ _).rows.length = _
  rw [len_row, len_copied]
theorem len_carried (a b : Nat) (s : BS) : (bCarried a b s).rows.length = s.rows.length + 4 := by
  unfold bCarried
  rw [len_look, len_look, len_row, len_row]
theorem len_addTo (xs ys : List Nat) (c : Nat) (s : BS) : (bAddTo xs ys c s).rows.length ≤ s.rows.length + 5 * xs.length := by
  have h := len_backward (f := fun (p : Nat × Nat) s => bCarried p.1 c (bRow (.add p.1 p.2) s)) (c := 5) (fun _ s => by rw [len_carried, len_row]; exact Nat.le_refl _) (xs.zip ys) s
  have : (xs.zip ys).length ≤ xs.length := by rw [List.length_zip]; exact Nat.min_le_left _ _
  show (bBackward _ _ _).rows.length ≤ _
  omega
theorem len_turnBy (xs : List Nat) (c : Nat) (s : BS) : (bTurnBy xs c s).rows.length ≤ s.rows.length + 6 * xs.length + 3 := by
  have h := len_backward (f := fun f t => bCarried f (bCopied c (bLooked c .tenOr s).2).1 (bLook f .nine (bRow (.add f (bLooked c .tenOr s).1) t))) (c := 6) (fun _ s => by rw [len_carried, len_look, len_row]; exact Nat.le_refl _) xs (bCopied c (bLooked c .tenOr s).2).2
  rw [len_copied, len_looked] at h
  show (bBackward _ _ _).rows.length ≤ _
  omega
theorem len_joined (a b c : Nat) (s : BS) : (bJoined a b c s).rows.length = s.rows.length + 4 := by
  unfold bJoined
  simp only [len_row, len_looked]
/-- turning loops -/
theorem for_down {n : Nat} {g : TG} {tb : TS} {D : Ends} {σ : L2.St} {H : Hp} (Pv : Nat → L2.St → Hp → Prop) (h0 : Pv 0 σ H)
    (hs : ∀ i σ H, i < n → Pv i σ H → g (nV (n - 1 - i)) σ H fun σ2 H2 => tb { D with nx := Pv (i + 1), ct := Pv (i + 1), bk := D.nx } σ2 H2) (hd : ∀ σ H, Pv n σ H → D.nx σ H) :
    ∃ W : Nat → Nat → L2.St → Hp → Prop, (∃ m, W 0 m σ H) ∧ ∀ i m σ H, W i m σ H →
      ((Itc ((n : Int) - 1) (-1) n).stop i H ∧ D.nx σ H) ∨ ((Itc ((n : Int) - 1) (-1) n).go i H ∧ ∃ N : L2.St → Hp → Prop, (∀ σ' H', N σ' H' → ∃ m', m' < m ∧ W (i + 1) m' σ' H') ∧ ∀ x H', (Itc ((n : Int) - 1) (-1) n).yld i H x H' → g x σ H' fun σ2 H2 => tb { D with nx := N, ct := N, bk := D.nx } σ2 H2) :=
  for_rangeC Pv h0 (fun i σ H hi p => by
    have e : ((n : Int) - 1) + (i : Nat) * (-1) = ((n - 1 - i : Nat) : Int) := by omega
    rw [e]
    exact hs i σ H hi p) hd
theorem rg_down {n : Nat} (h : n ≤ 1000000) : RgC ((n : Int) - 1) (-1) (-1) n := by
  have := RgC.neg (i := (n : Int) - 1) (j := -1) (by omega) (by omega) (by decide) (by decide)
  rwa [show ((n : Int) - 1 - -1).toNat = n by omega] at this
theorem drop_turn {α : Type} {xs : List α} {i : Nat} (h : i < xs.length) : xs.drop (xs.length - (i + 1)) = xs[xs.length - 1 - i]'(by omega) :: xs.drop (xs.length - i) := by
  have e : xs.length - (i + 1) = xs.length - 1 - i := by omega
  rw [e, List.drop_eq_getElem_cons (by omega)]
  congr 2
  omega
/-- a list of cells that isn't the builder's own -/
def CL (B : Bd) (H : Hp) (p : Addr) (cs : List Nat) : Prop := H p = some (.lst (cs.map nV)) ∧ ¬ B.Own p
theorem CL.x {B : Bd} {H H' : Hp} {p : Addr} {cs : List Nat} (h : CL B H p cs) (x : Bx B H H') : CL B H' p cs := ⟨x _ _ h.2 h.1, h.2⟩
theorem CL.sq {B : Bd} {K : PySem.W.Frag} {H : Hp} {p : Addr} {cs : List Nat} (h : CL B H p cs) : SqL K H p (cs.map nV) := SqL.of h.1
theorem atC {cs : List Nat} {j : Nat} (h : j < cs.length) : atI (cs.map nV) (j : Int) = some (nV cs[j]) := atI_nat (by rw [List.getElem?_map, List.getElem?_eq_getElem h]; rfl)
theorem CL.lt {B : Bd} {H : Hp} {cs : List Nat} {n : Nat} (h : cs.length + n ≤ 1000000) (hn : 0 < n) : (cs.map nV).length < sizeLine := by rw [List.length_map, show sizeLine = 16777216 from sizeLine_eq]; omega
theorem lt_line {n : Nat} (h : n ≤ 1000000) : n < sizeLine := by rw [show sizeLine = 16777216 from sizeLine_eq]; omega
local macro_rules | `(tactic| walk_at "fit") => `(tactic| (unfold Fit at *; (try simp only [len_row, len_cell, len_back, len_put, len_look, len_copied, len_looked, len_both, len_carried, len_joined] at *); omega))
def spNoughts (K : PySem.W.Frag) : Sp := fun vs H Q _ => ∃ B s n, vs = [.ref B.b, nV n] ∧ BAt K H B s ∧ Fit s n ∧ ∀ H' p, Bx B H H' → BAt K H' B (bNoughts n s).2 → CL B H' p (bNoughts n s).1 → H p = none → Q (.ref p) H'
def spTaken (K : PySem.W.Frag) : Sp := fun vs H Q _ => ∃ B s a cs, vs = [.ref B.b, .ref a] ∧ BAt K H B s ∧ CL B H a cs ∧ Fit s cs.length ∧ ∀ H' p, Bx B H H' → BAt K H' B (bTaken cs s).2 → CL B H' p (bTaken cs s).1 → H p = none → Q (.ref p) H'
def spAnyOf (K : PySem.W.Frag) : Sp := fun vs H Q _ => ∃ B s a cs, vs = [.ref B.b, .ref a] ∧ BAt K H B s ∧ CL B H a cs ∧ Fit s (cs.length + 2) ∧ ∀ H', Bx B H H' → BAt K H' B (bAnyOf cs s).2 → Q (nV (bAnyOf cs s).1) H'
def spBoth (K : PySem.W.Frag) : Sp := fun vs H Q _ => ∃ B s c d, vs = [.ref B.b, nV c, nV d] ∧ BAt K H B s ∧ Fit s 2 ∧ ∀ H', Bx B H H' → BAt K H' B (bBoth c d s).2 → Q (nV (bBoth c d s).1) H'
def spCarried (K : PySem.W.Frag) : Sp := fun vs H Q _ => ∃ B s c d, vs = [.ref B.b, nV c, nV d] ∧ BAt K H B s ∧ Fit s 4 ∧ ∀ H', Bx B H H' → BAt K H' B (bCarried c d s) → Q .non H'
def spAddTo (K : PySem.W.Frag) : Sp := fun vs H Q _ => ∃ B s a cs a2 ds d, vs = [.ref B.b, .ref a, .ref a2, nV d] ∧ BAt K H B s ∧ CL B H a cs ∧ CL B H a2 ds ∧ cs.length = ds.length ∧ Fit s (5 * cs.length) ∧ ∀ H', Bx B H H' → BAt K H' B (bAddTo cs ds d s) → Q .non H'
def spTurnBy (K : PySem.W.Frag) : Sp := fun vs H Q _ => ∃ B s a cs d, vs = [.ref B.b, .ref a, nV d] ∧ BAt K H B s ∧ CL B H a cs ∧ Fit s (6 * cs.length + 3) ∧ ∀ H', Bx B H H' → BAt K H' B (bTurnBy cs d s) → Q .non H'
def spJoined (K : PySem.W.Frag) : Sp := fun vs H Q _ => ∃ B s c d e, vs = [.ref B.b, nV c, nV d, nV e] ∧ BAt K H B s ∧ Fit s 4 ∧ ∀ H', Bx B H H' → BAt K H' B (bJoined c d e s) → Q .non H'
section
variable {P : Program} {w : World} {K : PySem.W.Frag} {mg : Str → Option Value} {base : Heap}
theorem sc_noughts : FnScope ["b", "many", "k"] ["b", "many"] (defScope (top 36)) := ⟨rfl, rfl, rfl, by decide +kernel, rfl, by decide +kernel, by decide +kernel⟩
theorem d_noughts (T : TX w K mg) : DefOk P w K mg base 3 42 "noughts" ["b", "many"] (spNoughts K) := by
  refine mkDef T 33 rfl rfl sc_noughts (fun _ _ _ _ _ _ us hl => match us, hl with | [_, _], _ => rfl) (fun vs H Q E h => ?_) (fun f cdv A outer s H vs Q E hr h => ?_)
  · obtain ⟨B, s, n, rfl, hB, hf, k⟩ := h
    rfl
  · obtain ⟨B, s, n, rfl, hB, hf, k⟩ := h
    refine ⟨_, 
        (pss_one (ps_ret (pe_lc (own := [("k", 2)]) (g := gName 2) (by rfl) sc_noughts.nd (pi_range1 rfl T.range_ (pa_cons (pv 1) pa_nil)) (blkOk_by (own := [("k", 2)]) (N := ["b", "many", "k"]) (sc := defScope (top 36)) (by decide +kernel)) (fun _ _ _ _ _ => pg_name (i := 2) sc_noughts.nd rfl (Or.inl rfl)) (fun _ _ _ _ _ => pts_nil) (fun _ _ _ _ _ => (pe_methD (T.methB (by decide)) (m_put T) (hr.mono (by decide)) (pv 0) (pa_cons pe_int pa_nil)))))), ?_⟩
    walk_at "p"
    refine ⟨_, rfl, by omega, by unfold Fit at hf; omega, fun D hD => ?_⟩
    have nD := hB.out hD
    refine lc_range (lo := 0) (n := n) (fun i H' => Bx B H H' ∧ BAt K H' B (bNoughts i s).2 ∧ H' D = some (.lst ((bNoughts i s).1.map nV))) ⟨Bx.of (Same.new hD), hB.new hD, upd_same⟩ ?_ ?_
    · rintro i H' hi ⟨x1, b1, e1⟩
      refine ⟨rfl, ?_⟩
      refine ⟨_, rfl, ?_⟩
      refine ⟨_, _, _, rfl, b1.obj, rfl, ?_⟩
      have hl := len_noughts i s
      refine ⟨B, _, 0, rfl, b1, by unfold Fit at *; omega, fun H2 x2 b2 => ?_⟩
      have es : bNoughts (i + 1) s = ((bNoughts i s).1 ++ [(bPut 0 (bNoughts i s).2).1], (bPut 0 (bNoughts i s).2).2) := by
        unfold bNoughts
        rw [List.range_succ, bMap_snoc]
      refine ⟨_, x2 _ _ nD e1, ?_, ?_⟩
      · rw [List.length_map]
        unfold bNoughts
        rw [map_len, List.length_range]
        exact lt_line (by unfold Fit at *; omega)
      · rw [es]
        refine ⟨(x1.trans x2).new hD, b2.lst nD (x2 _ _ nD e1), ?_⟩
        rw [List.map_append]
        exact upd_same
    · rintro H' ⟨x1, b1, e1⟩
      exact k _ _ x1 b1 ⟨e1, nD⟩ hD
theorem sc_taken : FnScope ["b", "cells", "cell"] ["b", "cells"] (defScope (top 37)) := ⟨rfl, rfl, rfl, by decide +kernel, rfl, by decide +kernel, by decide +kernel⟩
theorem d_taken (T : TX w K mg) : DefOk P w K mg base 3 43 "taken" ["b", "cells"] (spTaken K) := by
  refine mkDef T 34 rfl rfl sc_taken (fun _ _ _ _ _ _ us hl => match us, hl with | [_, _], _ => rfl) (fun vs H Q E h => ?_) (fun f cdv A outer s H vs Q E hr h => ?_)
  · obtain ⟨B, s, a, cs, rfl, hB, hc, hf, k⟩ := h
    rfl
  · obtain ⟨B, s, a, cs, rfl, hB, hc, hf, k⟩ := h
    refine ⟨_, 
        (pss_one (ps_ret (pe_lc (own := [("cell", 2)]) (g := gName 2) (by rfl) sc_taken.nd (pi_list (pv 1)) (blkOk_by (own := [("cell", 2)]) (N := ["b", "cells", "cell"]) (sc := defScope (top 37)) (by decide +kernel)) (fun _ _ _ _ _ => pg_name (i := 2) sc_taken.nd rfl (Or.inl rfl)) (fun _ _ _ _ _ => pts_nil) (fun _ _ _ _ _ => (pe_methD (T.methB (by decide)) (m_copied T) (hr.mono (by decide)) (pv 0) (pa_cons (pv 2) pa_nil)))))), ?_⟩
    walk_at "p"
    refine ⟨_, rfl, ⟨_, hc.sq⟩, fun D hD => ?_⟩
    have nD := hB.out hD
    refine lc_list (K := K) (a := a) (xs := cs.map nV) (fun i H' => Bx B H H' ∧ BAt K H' B (bTaken (cs.take i) s).2 ∧ H' D = some (.lst ((bTaken (cs.take i) s).1.map nV))) ⟨Bx.of (Same.new hD), hB.new hD, upd_same⟩ (fun i H' _ h => (hc.x h.1).sq) ?_ ?_
    · rintro i x H' hx ⟨x1, b1, e1⟩
      rw [List.getElem?_map] at hx
      obtain ⟨d, hd, rfl⟩ := Option.map_eq_some_iff.mp hx
      have hil : i < cs.length := (List.getElem?_eq_some_iff.mp hd).1
      refine ⟨rfl, ?_⟩
      refine ⟨_, rfl, ?_⟩
      refine ⟨_, _, _, rfl, b1.obj, rfl, ?_⟩
      walk_at "p"
      have hl := len_taken (cs.take i) s
      rw [List.length_take] at hl
      refine ⟨B, _, d, rfl, b1, by unfold Fit at *; omega, fun H2 x2 b2 => ?_⟩
      have es : bTaken (cs.take (i + 1)) s = ((bTaken (cs.take i) s).1 ++ [(bCopied d (bTaken (cs.take i) s).2).1], (bCopied d (bTaken (cs.take i) s).2).2) := by
        unfold bTaken
        rw [List.take_succ, hd]
        exact bMap_snoc _ _ _ _
      refine ⟨_, x2 _ _ nD e1, ?_, ?_⟩
      · rw [List.length_map]
        unfold bTaken
        rw [map_len, List.length_take]
        exact lt_line (by unfold Fit at *; omega)
      · rw [es]
        refine ⟨(x1.trans x2).new hD, b2.lst nD (x2 _ _ nD e1), ?_⟩
        rw [List.map_append]
        exact upd_same
    · rintro H' ⟨x1, b1, e1⟩
      rw [List.length_map, List.take_length] at b1 e1
      exact k _ _ x1 b1 ⟨e1, nD⟩ hD
theorem sc_any_of : FnScope ["b", "cells", "found", "cell"] ["b", "cells"] (defScope (top 38)) := ⟨rfl, rfl, rfl, by decide +kernel, rfl, by decide +kernel, by decide +kernel⟩
theorem d_any_of (T : TX w K mg) : DefOk P w K mg base 4 44 "any_of" ["b", "cells"] (spAnyOf K) := by
  refine mkDef T 35 rfl rfl sc_any_of (fun _ _ _ _ _ _ us hl => match us, hl with | [_, _], _ => rfl) (fun vs H Q E h => ?_) (fun f cdv A outer s H vs Q E hr h => ?_)
  · obtain ⟨B, s, a, cs, rfl, hB, hc, hf, k⟩ := h
    rfl
  · obtain ⟨B, s, a, cs, rfl, hB, hc, hf, k⟩ := h
    refine ⟨_, 
        (pss_cons (ps_set (i := 2) sc_any_of.nd rfl (Or.inl rfl) (pe_methD (T.methB (by decide)) (m_put T) (hr.mono (by decide)) (pv 0) (pa_cons pe_int pa_nil))) 
        (pss_cons (ps_for PassesOwn.never rfl (pi_list (pv 1)) (pg_name (i := 3) sc_any_of.nd rfl (Or.inl rfl)) 
          (pss_one (ps_expr (pe_methD (T.methB (by decide)) (m_row T) (hr.mono (by decide)) (pv 0) (pa_cons pe_str (pa_cons (pv 2) (pa_cons (pv 3) pa_nil))))))) 
        (pss_cons (ps_expr (pe_methD (T.methB (by decide)) (m_look T) (hr.mono (by decide)) (pv 0) (pa_cons (pv 2) (pa_cons (pe_gRef (T.fnG 23 rfl rfl)) pa_nil)))) 
        (pss_one (ps_ret (pv 2)))))), ?_⟩
    walk_at "p"
    refine ⟨_, _, _, rfl, hB.obj, rfl, ?_⟩
    refine ⟨B, s, 0, rfl, hB, by walk_at "fit", fun H1 x1 b1 => ?_⟩
    walk_at "p"
    refine ⟨_, rfl, ⟨_, (hc.x x1).sq⟩, for_list (K := K) (a := a) (xs := cs.map nV) (fun i σ H' => Bx B H H' ∧ BAt K H' B (bEach (fun c => bRow (.or_ (bPut 0 s).1 c)) (cs.take i) (bPut 0 s).2) ∧ ∃ v, σ = [some (.ref B.b), some (.ref a), some (nV (bPut 0 s).1), v]) ⟨x1, b1, none, rfl⟩ (fun i σ H' _ h => (hc.x h.1).sq) ?_ ?_⟩
    · rintro i x σ H' hx ⟨x1, b1, v, rfl⟩
      rw [List.getElem?_map] at hx
      obtain ⟨d, hd, rfl⟩ := Option.map_eq_some_iff.mp hx
      have hil : i < cs.length := (List.getElem?_eq_some_iff.mp hd).1
      have hl := len_each (f := fun c => bRow (.or_ (bPut 0 s).1 c)) (c := 1) (fun _ s => by rw [len_row]; exact Nat.le_refl _) (cs.take i) (bPut 0 s).2
      rw [List.length_take] at hl
      walk_at "p"
      refine ⟨_, _, _, rfl, b1.obj, rfl, ?_⟩
      walk_at "ps"
      refine ⟨B, _, .or_ (bPut 0 s).1 d, _, _, _, rfl, rfl, b1, by walk_at "fit", fun H2 x2 b2 => ?_⟩
      refine ⟨x1.trans x2, ?_, _, rfl⟩
      have e : bEach (fun c => bRow (.or_ (bPut 0 s).1 c)) (cs.take (i + 1)) (bPut 0 s).2 = bRow (.or_ (bPut 0 s).1 d) (bEach (fun c => bRow (.or_ (bPut 0 s).1 c)) (cs.take i) (bPut 0 s).2) := by
        unfold bEach
        rw [List.take_succ, hd, List.foldl_append]
        rfl
      rw [e]
      exact b2
    · rintro σ H' ⟨x1, b1, v, rfl⟩
      rw [List.length_map, List.take_length] at b1
      have hl := len_each (f := fun c => bRow (.or_ (bPut 0 s).1 c)) (c := 1) (fun _ s => by rw [len_row]; exact Nat.le_refl _) cs (bPut 0 s).2
      walk_at "p"
      refine ⟨_, _, _, rfl, b1.obj, rfl, ?_⟩
      walk_at "ps"
      refine ⟨B, _, _, .oneOr, rfl, b1, by walk_at "fit", fun H2 x2 b2 => ?_⟩
      walk_at "p"
      exact k _ (x1.trans x2) b2
theorem sc_both : FnScope ["b", "one", "other", "found"] ["b", "one", "other"] (defScope (top 39)) := ⟨rfl, rfl, rfl, by decide +kernel, rfl, by decide +kernel, by decide +kernel⟩
theorem d_both (T : TX w K mg) : DefOk P w K mg base 3 45 "both" ["b", "one", "other"] (spBoth K) := by
  refine mkDef T 36 rfl rfl sc_both (fun _ _ _ _ _ _ us hl => match us, hl with | [_, _, _], _ => rfl) (fun vs H Q E h => ?_) (fun f cdv A outer s H vs Q E hr h => ?_)
  · obtain ⟨B, s, c, d, rfl, hB, hf, k⟩ := h
    rfl
  · obtain ⟨B, s, c, d, rfl, hB, hf, k⟩ := h
    refine ⟨_, 
        (pss_cons (ps_set (i := 3) sc_both.nd rfl (Or.inl rfl) (pe_methD (T.methB (by decide)) (m_copied T) (hr.mono (by decide)) (pv 0) (pa_cons (pv 1) pa_nil))) 
        (pss_cons (ps_expr (pe_methD (T.methB (by decide)) (m_row T) (hr.mono (by decide)) (pv 0) (pa_cons pe_str (pa_cons (pv 3) (pa_cons (pv 2) pa_nil))))) 
        (pss_one (ps_ret (pv 3))))), ?_⟩
    walk_at "p"
    refine ⟨_, _, _, rfl, hB.obj, rfl, ?_⟩
    walk_at "ps"
    refine ⟨B, s, c, rfl, hB, by walk_at "fit", fun H1 x1 b1 => ?_⟩
    walk_at "p"
    refine ⟨_, _, _, rfl, b1.obj, rfl, ?_⟩
    walk_at "ps"
    refine ⟨B, _, .and_ _ _, _, _, _, rfl, rfl, b1, by walk_at "fit", fun H2 x2 b2 => ?_⟩
    walk_at "p"
    exact k _ (x1.trans x2) b2
theorem sc_carried : FnScope ["b", "cell", "carry"] ["b", "cell", "carry"] (defScope (top 40)) := ⟨rfl, rfl, rfl, by decide +kernel, rfl, by decide +kernel, by decide +kernel⟩
theorem d_carried (T : TX w K mg) : DefOk P w K mg base 4 46 "carried" ["b", "cell", "carry"] (spCarried K) := by
  refine mkDef T 37 rfl rfl sc_carried (fun _ _ _ _ _ _ us hl => match us, hl with | [_, _, _], _ => rfl) (fun vs H Q E h => ?_) (fun f cdv A outer s H vs Q E hr h => ?_)
  · obtain ⟨B, s, c, d, rfl, hB, hf, k⟩ := h
    rfl
  · obtain ⟨B, s, c, d, rfl, hB, hf, k⟩ := h
    refine ⟨_, 
        (pss_cons (ps_expr (pe_methD (T.methB (by decide)) (m_row T) (hr.mono (by decide)) (pv 0) (pa_cons pe_str (pa_cons (pv 1) (pa_cons (pv 2) pa_nil))))) 
        (pss_cons (ps_expr (pe_methD (T.methB (by decide)) (m_row T) (hr.mono (by decide)) (pv 0) (pa_cons pe_str (pa_cons (pv 2) (pa_cons (pv 1) pa_nil))))) 
        (pss_cons (ps_expr (pe_methD (T.methB (by decide)) (m_look T) (hr.mono (by decide)) (pv 0) (pa_cons (pv 2) (pa_cons (pe_gRef (T.fnG 20 rfl rfl)) pa_nil)))) 
        (pss_one (ps_expr (pe_methD (T.methB (by decide)) (m_look T) (hr.mono (by decide)) (pv 0) (pa_cons (pv 1) (pa_cons (pe_gRef (T.fnG 19 rfl rfl)) pa_nil)))))))), ?_⟩
    walk_at "p"
    refine ⟨_, _, _, rfl, hB.obj, rfl, ?_⟩
    walk_at "ps"
    refine ⟨B, s, .add _ _, _, _, _, rfl, rfl, hB, by walk_at "fit", fun H1 x1 b1 => ?_⟩
    walk_at "p"
    refine ⟨_, _, _, rfl, b1.obj, rfl, ?_⟩
    walk_at "ps"
    refine ⟨B, _, .copy _ _, _, _, _, rfl, rfl, b1, by walk_at "fit", fun H2 x2 b2 => ?_⟩
    walk_at "p"
    refine ⟨_, _, _, rfl, b2.obj, rfl, ?_⟩
    walk_at "ps"
    refine ⟨B, _, _, .ahead, rfl, b2, by walk_at "fit", fun H3 x3 b3 => ?_⟩
    walk_at "p"
    refine ⟨_, _, _, rfl, b3.obj, rfl, ?_⟩
    walk_at "ps"
    refine ⟨B, _, _, .last, rfl, b3, by walk_at "fit", fun H4 x4 b4 => ?_⟩
    exact k _ (((x1.trans x2).trans x3).trans x4) b4
theorem sc_joined : FnScope ["b", "one", "other", "to", "part"] ["b", "one", "other", "to"] (defScope (top 49)) := ⟨rfl, rfl, rfl, by decide +kernel, rfl, by decide +kernel, by decide +kernel⟩
theorem d_joined (T : TX w K mg) : DefOk P w K mg base 5 54 "joined" ["b", "one", "other", "to"] (spJoined K) := by
  refine mkDef T 45 rfl rfl sc_joined (fun _ _ _ _ _ _ us hl => match us, hl with | [_, _, _, _], _ => rfl) (fun vs H Q E h => ?_) (fun f cdv A outer s H vs Q E hr h => ?_)
  · obtain ⟨B, s, c, d, e, rfl, hB, hf, k⟩ := h
    rfl
  · obtain ⟨B, s, c, d, e, rfl, hB, hf, k⟩ := h
    refine ⟨_, 
        (pss_cons (ps_set (i := 4) sc_joined.nd rfl (Or.inl rfl) (pe_methD (T.methB (by decide)) (m_looked T) (hr.mono (by decide)) (pv 0) (pa_cons (pv 1) (pa_cons (pe_gRef (T.fnG 18 rfl rfl)) pa_nil)))) 
        (pss_cons (ps_expr (pe_methD (T.methB (by decide)) (m_row T) (hr.mono (by decide)) (pv 0) (pa_cons pe_str (pa_cons (pv 4) (pa_cons (pv 2) pa_nil))))) 
        (pss_one (ps_expr (pe_methD (T.methB (by decide)) (m_row T) (hr.mono (by decide)) (pv 0) (pa_cons pe_str (pa_cons (pv 3) (pa_cons (pv 4) pa_nil)))))))), ?_⟩
    walk_at "p"
    refine ⟨_, _, _, rfl, hB.obj, rfl, ?_⟩
    walk_at "ps"
    refine ⟨B, s, _, .hup, rfl, hB, by walk_at "fit", fun H1 x1 b1 => ?_⟩
    walk_at "p"
    refine ⟨_, _, _, rfl, b1.obj, rfl, ?_⟩
    walk_at "ps"
    refine ⟨B, _, .or_ _ _, _, _, _, rfl, rfl, b1, by walk_at "fit", fun H2 x2 b2 => ?_⟩
    walk_at "p"
    refine ⟨_, _, _, rfl, b2.obj, rfl, ?_⟩
    walk_at "ps"
    refine ⟨B, _, .copy _ _, _, _, _, rfl, rfl, b2, by walk_at "fit", fun H3 x3 b3 => ?_⟩
    exact k _ ((x1.trans x2).trans x3) b3
theorem sc_add_to : FnScope ["b", "figures", "other", "carry", "k"] ["b", "figures", "other", "carry"] (defScope (top 41)) := ⟨rfl, rfl, rfl, by decide +kernel, rfl, by decide +kernel, by decide +kernel⟩
theorem d_add_to (T : TX w K mg) : DefOk P w K mg base 5 47 "add_to" ["b", "figures", "other", "carry"] (spAddTo K) := by
  refine mkDef T 38 rfl rfl sc_add_to (fun _ _ _ _ _ _ us hl => match us, hl with | [_, _, _, _], _ => rfl) (fun vs H Q E h => ?_) (fun f cdv A outer s H vs Q E hr h => ?_)
  · obtain ⟨B, s, a, cs, a2, ds, d, rfl, hB, hc, hd, hl, hf, k⟩ := h
    rfl
  · obtain ⟨B, s, a, cs, a2, ds, d, rfl, hB, hc, hd, hl, hf, k⟩ := h
    refine ⟨_, 
        (pss_one (ps_for PassesOwn.never rfl (pi_range3 rfl T.range_ (pa_cons (pe_op op_sub (pe_callB call_len_seq (by rfl) T.len_ (by decide +kernel) (pa_cons (pv 1) pa_nil)) pe_int) (pa_cons (pe_un un_neg pe_int) (pa_cons (pe_un un_neg pe_int) pa_nil)))) (pg_name (i := 4) sc_add_to.nd rfl (Or.inl rfl)) 
          (pss_cons (ps_expr (pe_methD (T.methB (by decide)) (m_row T) (hr.mono (by decide)) (pv 0) (pa_cons pe_str (pa_cons (pe_ix ix_list (pv 1) (pv 4) (fun _ _ => rfl)) (pa_cons (pe_ix ix_list (pv 2) (pv 4) (fun _ _ => rfl)) pa_nil))))) 
          (pss_one (ps_expr (pe_callD (d_carried T) (hr.mono (by decide)) (by rfl) (pa_cons (pv 0) (pa_cons (pe_ix ix_list (pv 1) (pv 4) (fun _ _ => rfl)) (pa_cons (pv 3) pa_nil))))))))), ?_⟩
    walk_at "p"
    refine ⟨a, cs.map nV, rfl, .inl hc.sq, ?_⟩
    rw [List.length_map]
    walk_at "ps"
    refine ⟨_, _, _, cs.length, rfl, rg_down (by unfold Fit at hf; omega), ?_⟩
    refine for_down (n := cs.length) (fun i σ H' => Bx B H H' ∧ BAt K H' B (bBackward (fun (p : Nat × Nat) t => bCarried p.1 d (bRow (.add p.1 p.2) t)) ((cs.zip ds).drop ((cs.zip ds).length - i)) s) ∧ ∃ v, σ = [some (.ref B.b), some (.ref a), some (.ref a2), some (nV d), v]) ⟨Bx.refl _ _, by rw [Nat.sub_zero, List.drop_length]; exact hB, none, rfl⟩ ?_ ?_
    · rintro i σ H' hi ⟨x1, b1, v, rfl⟩
      have hz : (cs.zip ds).length = cs.length := by rw [List.length_zip]; omega
      have hlen := len_backward (f := fun (p : Nat × Nat) t => bCarried p.1 d (bRow (.add p.1 p.2) t)) (c := 5) (fun _ t => by rw [len_carried, len_row]; exact Nat.le_refl _) ((cs.zip ds).drop ((cs.zip ds).length - i)) s
      rw [List.length_drop] at hlen
      have e := drop_turn (xs := cs.zip ds) (i := i) (by omega)
      have hj1 : cs.length - 1 - i < cs.length := by omega
      have hj2 : cs.length - 1 - i < ds.length := by omega
      have ez : (cs.zip ds)[(cs.zip ds).length - 1 - i]'(by omega) = (cs[cs.length - 1 - i], ds[cs.length - 1 - i]) := by
        rw [List.getElem_zip]
        simp only [hz]
      rw [ez] at e
      walk_at "p"
      refine ⟨_, _, _, rfl, b1.obj, rfl, ?_⟩
      walk_at "ps"
      refine ⟨_, _, _, _, rfl, rfl, (hc.x x1).sq, atC hj1, ?_⟩
      walk_at "ps"
      refine ⟨_, _, _, _, rfl, rfl, (hd.x x1).sq, atC hj2, ?_⟩
      walk_at "ps"
      refine ⟨B, _, .add _ _, _, _, _, rfl, rfl, b1, by walk_at "fit", fun H2 x2 b2 => ?_⟩
      walk_at "ps"
      refine ⟨_, _, _, _, rfl, rfl, ((hc.x x1).x x2).sq, atC hj1, ?_⟩
      walk_at "ps"
      refine ⟨B, _, _, _, rfl, b2, by walk_at "fit", fun H3 x3 b3 => ?_⟩
      refine ⟨(x1.trans x2).trans x3, ?_, _, rfl⟩
      rw [e]
      exact b3
    · rintro σ H' ⟨x1, b1, v, rfl⟩
      rw [show cs.length = (cs.zip ds).length by rw [List.length_zip]; omega, Nat.sub_self, List.drop_zero] at b1
      exact k _ x1 b1
theorem sc_turn_by : FnScope ["b", "figures", "flag", "more", "carry", "k"] ["b", "figures", "flag"] (defScope (top 42)) := ⟨rfl, rfl, rfl, by decide +kernel, rfl, by decide +kernel, by decide +kernel⟩
theorem d_turn_by (T : TX w K mg) : DefOk P w K mg base 5 48 "turn_by" ["b", "figures", "flag"] (spTurnBy K) := by
  refine mkDef T 39 rfl rfl sc_turn_by (fun _ _ _ _ _ _ us hl => match us, hl with | [_, _, _], _ => rfl) (fun vs H Q E h => ?_) (fun f cdv A outer s H vs Q E hr h => ?_)
  · obtain ⟨B, s, a, cs, d, rfl, hB, hc, hf, k⟩ := h
    rfl
  · obtain ⟨B, s, a, cs, d, rfl, hB, hc, hf, k⟩ := h
    refine ⟨_, 
        (pss_cons (ps_set (i := 3) sc_turn_by.nd rfl (Or.inl rfl) (pe_methD (T.methB (by decide)) (m_looked T) (hr.mono (by decide)) (pv 0) (pa_cons (pv 2) (pa_cons (pe_gRef (T.fnG 22 rfl rfl)) pa_nil)))) 
        (pss_cons (ps_set (i := 4) sc_turn_by.nd rfl (Or.inl rfl) (pe_methD (T.methB (by decide)) (m_copied T) (hr.mono (by decide)) (pv 0) (pa_cons (pv 2) pa_nil))) 
        (pss_one (ps_for PassesOwn.never rfl (pi_range3 rfl T.range_ (pa_cons (pe_op op_sub (pe_callB call_len_seq (by rfl) T.len_ (by decide +kernel) (pa_cons (pv 1) pa_nil)) pe_int) (pa_cons (pe_un un_neg pe_int) (pa_cons (pe_un un_neg pe_int) pa_nil)))) (pg_name (i := 5) sc_turn_by.nd rfl (Or.inl rfl)) 
          (pss_cons (ps_expr (pe_methD (T.methB (by decide)) (m_row T) (hr.mono (by decide)) (pv 0) (pa_cons pe_str (pa_cons (pe_ix ix_list (pv 1) (pv 5) (fun _ _ => rfl)) (pa_cons (pv 3) pa_nil))))) 
          (pss_cons (ps_expr (pe_methD (T.methB (by decide)) (m_look T) (hr.mono (by decide)) (pv 0) (pa_cons (pe_ix ix_list (pv 1) (pv 5) (fun _ _ => rfl)) (pa_cons (pe_gRef (T.fnG 21 rfl rfl)) pa_nil)))) 
          (pss_one (ps_expr (pe_callD (d_carried T) (hr.mono (by decide)) (by rfl) (pa_cons (pv 0) (pa_cons (pe_ix ix_list (pv 1) (pv 5) (fun _ _ => rfl)) (pa_cons (pv 4) pa_nil)))))))))))), ?_⟩
    walk_at "p"
    refine ⟨_, _, _, rfl, hB.obj, rfl, ?_⟩
    walk_at "ps"
    refine ⟨B, s, _, .tenOr, rfl, hB, by walk_at "fit", fun H1 x1 b1 => ?_⟩
    walk_at "p"
    refine ⟨_, _, _, rfl, b1.obj, rfl, ?_⟩
    walk_at "ps"
    refine ⟨B, _, _, rfl, b1, by walk_at "fit", fun H2 x2 b2 => ?_⟩
    have x0 := x1.trans x2
    clear x1 x2 b1
    walk_at "p"
    refine ⟨a, cs.map nV, rfl, .inl (hc.x x0).sq, ?_⟩
    rw [List.length_map]
    walk_at "ps"
    refine ⟨_, _, _, cs.length, rfl, rg_down (by unfold Fit at hf; omega), ?_⟩
    refine for_down (n := cs.length) (fun i σ H' => Bx B H H' ∧ BAt K H' B (bBackward (fun f t => bCarried f (bCopied d (bLooked d .tenOr s).2).1 (bLook f .nine (bRow (.add f (bLooked d .tenOr s).1) t))) (cs.drop (cs.length - i)) (bCopied d (bLooked d .tenOr s).2).2) ∧ ∃ v, σ = [some (.ref B.b), some (.ref a), some (nV d), some (nV (bLooked d .tenOr s).1), some (nV (bCopied d (bLooked d .tenOr s).2).1), v]) ⟨x0, by rw [Nat.sub_zero, List.drop_length]; exact b2, none, rfl⟩ ?_ ?_
    · clear x0 b2
      rintro i σ H' hi ⟨x1, b1, v, rfl⟩
      have hlen := len_backward (f := fun f t => bCarried f (bCopied d (bLooked d .tenOr s).2).1 (bLook f .nine (bRow (.add f (bLooked d .tenOr s).1) t))) (c := 6) (fun _ t => by rw [len_carried, len_look, len_row]; exact Nat.le_refl _) (cs.drop (cs.length - i)) (bCopied d (bLooked d .tenOr s).2).2
      rw [List.length_drop] at hlen
      have e := drop_turn (xs := cs) (i := i) (by omega)
      have hj1 : cs.length - 1 - i < cs.length := by omega
      walk_at "p"
      refine ⟨_, _, _, rfl, b1.obj, rfl, ?_⟩
      walk_at "ps"
      refine ⟨_, _, _, _, rfl, rfl, (hc.x x1).sq, atC hj1, ?_⟩
      walk_at "ps"
      refine ⟨B, _, .add _ _, _, _, _, rfl, rfl, b1, by walk_at "fit", fun H2 x2 b2 => ?_⟩
      walk_at "p"
      refine ⟨_, _, _, rfl, b2.obj, rfl, ?_⟩
      walk_at "ps"
      refine ⟨_, _, _, _, rfl, rfl, ((hc.x x1).x x2).sq, atC hj1, ?_⟩
      walk_at "ps"
      refine ⟨B, _, _, .nine, rfl, b2, by walk_at "fit", fun H3 x3 b3 => ?_⟩
      walk_at "ps"
      refine ⟨_, _, _, _, rfl, rfl, (((hc.x x1).x x2).x x3).sq, atC hj1, ?_⟩
      walk_at "ps"
      refine ⟨B, _, _, _, rfl, b3, by walk_at "fit", fun H4 x4 b4 => ?_⟩
      refine ⟨((x1.trans x2).trans x3).trans x4, ?_, _, rfl⟩
      rw [e]
      exact b4
    · rintro σ H' ⟨x1, b1, v, rfl⟩
      rw [Nat.sub_self, List.drop_zero] at b1
      exact k _ x1 b1
end
end TL
set_option Elab.async false
set_option linter.all false
set_option maxRecDepth 100000
set_option pp.maxSteps 600
set_option maxHeartbeats 4000000
namespace TL
open PySem PySem.Spec PyProof.Rows L2
/-- one question answered, where its answer is plain -/
local macro_rules | `(tactic| walk_at "p") => `(tactic| first
  | refine ⟨_, rfl, ?_⟩
  | refine ⟨_, _, rfl, rfl, ⟨by decide, by decide⟩, ?_⟩
  | refine ⟨_, _, rfl, rfl, (by show (0 : Int) < _; decide), ?_⟩
  | refine ⟨_, _, rfl, rfl, ?_⟩
  | refine ⟨rfl, ?_⟩
  | refine ⟨_, _, _, _, rfl, rfl, (by assumption), rfl, ?_⟩
  | refine .inr ⟨_, rfl, ?_⟩
  | refine .inl ⟨_, rfl, ?_⟩
  | refine iteT ?_
  | refine iteF ?_)
local macro_rules | `(tactic| walk_at "ps") => `(tactic| repeat walk_at "p")

local macro_rules | `(tactic| walk_at "fit") => `(tactic| (unfold Fit at *; (try simp only [len_row, len_cell, len_back, len_put, len_look, len_copied, len_looked, len_both, len_carried, len_joined, List.length_append, List.length_cons, List.length_nil] at *); omega))
theorem len_noughts1 (n : Nat) (s : BS) : (bNoughts n s).1.length = n := by
  unfold bNoughts; rw [map_len, List.length_range]
theorem len_taken1 (cs : List Nat) (s : BS) : (bTaken cs s).1.length = cs.length := by
  unfold bTaken; rw [map_len]
theorem Bx.fresh {K : PySem.W.Frag} {B : Bd} {H H' : Hp} {s : BS} (x : Bx B H H') (b : BAt K H' B s) {q : Addr} (hq : H' q = none) : H q = none := by
  cases e : H q with
  | none => rfl
  | some o => rw [x q o (b.out hq) e] at hq; cases hq
theorem _root_.L2.SqT.bx {K : PySem.W.Frag} {B : Bd} {H H' : Hp} {s : BS} {a : Addr} {xs : List V} (h : SqT K H a xs) (b : BAt K H B s) (x : Bx B H H') : SqT K H' a xs := by
  rcases h with (h | ⟨o, h⟩) | h
  · exact .inl (.inl (x _ _ (b.tupOut h) h))
  · refine .inl (.inr ⟨o, x _ _ ?_ h⟩)
    obtain ⟨ps, h1, _⟩ := b.rows
    obtain ⟨ts, h2, _⟩ := b.tabs
    rintro (rfl | rfl | rfl | rfl)
    · rw [b.obj] at h; cases h
    · rw [h1] at h; cases h
    · rw [h2] at h; cases h
    · rw [b.ws] at h; cases h
  · exact .inr h
theorem CL.new {B : Bd} {H : Hp} {K : PySem.W.Frag} {s : BS} (b : BAt K H B s) {p : Addr} {cs : List Nat} (h : H p = none) : CL B (upd H p (.lst (cs.map nV))) p cs := ⟨upd_same, b.out h⟩
def spTogether (K : PySem.W.Frag) : Sp := fun vs H Q _ => ∃ B s a one below a2 other beyond, vs = [.ref B.b, .ref a, nV below, .ref a2, nV beyond] ∧ BAt K H B s ∧ CL B H a one ∧ CL B H a2 other ∧ one.length = other.length ∧ Fit s (25 * one.length + 50) ∧
  ∀ H' q p, Bx B H H' → BAt K H' B (bTogether one below other beyond s).2 → H' q = some (.tup [.ref p, nV (bTogether one below other beyond s).1.2]) → CL B H' p (bTogether one below other beyond s).1.1 → Q (.ref q) H'
def spLoaded (K : PySem.W.Frag) : Sp := fun vs H Q _ => ∃ B s fa f at_, vs = [.ref B.b, .ref fa, nV at_] ∧ BAt K H B s ∧ SqT K H fa f.vs ∧ 0 < f.n ∧ f.n ≤ 100 ∧ Fit s (8 * f.n + 10) ∧
  ∀ H' q p, Bx B H H' → BAt K H' B (bLoaded f at_ s).2 → H' q = some (.tup [.ref p, nV (bLoaded f at_ s).1.2]) → CL B H' p (bLoaded f at_ s).1.1 → Q (.ref q) H'
section
variable {P : Program} {w : World} {K : PySem.W.Frag} {mg : Str → Option Value} {base : Heap}
theorem sc_together : FnScope ["b", "one", "below", "other", "beyond", "first", "second", "under"] ["b", "one", "below", "other", "beyond"] (defScope (top 52)) := ⟨rfl, rfl, rfl, by decide +kernel, rfl, by decide +kernel, by decide +kernel⟩
theorem d_together (T : TX w K mg) : DefOk P w K mg base 6 57 "together" ["b", "one", "below", "other", "beyond"] (spTogether K) := by
  refine mkDef T 48 rfl rfl sc_together (fun _ _ _ _ _ _ us hl => match us, hl with | [_, _, _, _, _], _ => rfl) (fun vs H Q E h => ?_) (fun f cdv A outer s H vs Q E hr h => ?_)
  · obtain ⟨B, s, a, one, below, a2, other, beyond, rfl, hB, hc, hd, hl, hf, k⟩ := h
    rfl
  · obtain ⟨B, s, a, one, below, a2, other, beyond, rfl, hB, hc, hd, hl, hf, k⟩ := h
    refine ⟨_, 
        (pss_cons (ps_set (i := 5) sc_together.nd rfl (Or.inl rfl) (pe_op op_cat (pe_callD (d_noughts T) (hr.mono (by decide)) (by rfl) (pa_cons (pv 0) (pa_cons pe_int pa_nil))) (pe_callD (d_taken T) (hr.mono (by decide)) (by rfl) (pa_cons (pv 0) (pa_cons (pv 1) pa_nil))))) 
        (pss_cons (ps_set (i := 6) sc_together.nd rfl (Or.inl rfl) (pe_op op_cat (pe_callD (d_noughts T) (hr.mono (by decide)) (by rfl) (pa_cons (pv 0) (pa_cons pe_int pa_nil))) (pe_callD (d_taken T) (hr.mono (by decide)) (by rfl) (pa_cons (pv 0) (pa_cons (pv 3) pa_nil))))) 
        (pss_cons (ps_expr (pe_callD (d_turn_by T) (hr.mono (by decide)) (by rfl) (pa_cons (pv 0) (pa_cons (pv 5) (pa_cons (pv 2) pa_nil))))) 
        (pss_cons (ps_expr (pe_callD (d_turn_by T) (hr.mono (by decide)) (by rfl) (pa_cons (pv 0) (pa_cons (pv 6) (pa_cons (pv 4) pa_nil))))) 
        (pss_cons (ps_expr (pe_callD (d_add_to T) (hr.mono (by decide)) (by rfl) (pa_cons (pv 0) (pa_cons (pv 5) (pa_cons (pv 6) (pa_cons (pe_methD (T.methB (by decide)) (m_put T) (hr.mono (by decide)) (pv 0) (pa_cons pe_int pa_nil)) pa_nil)))))) 
        (pss_cons (ps_set (i := 7) sc_together.nd rfl (Or.inl rfl) (pe_methD (T.methB (by decide)) (m_looked T) (hr.mono (by decide)) (pv 0) (pa_cons (pe_ix ix_list (pv 5) pe_int (fun _ _ => rfl)) (pa_cons (pe_gRef (T.fnG 25 rfl rfl)) pa_nil)))) 
        (pss_cons (ps_expr (pe_callD (d_turn_by T) (hr.mono (by decide)) (by rfl) (pa_cons (pv 0) (pa_cons (pv 5) (pa_cons (pv 7) pa_nil))))) 
        (pss_one (ps_ret (pe_tup (pa_cons (pv 5) (pa_cons (pv 7) pa_nil)))))))))))), ?_⟩
    have n1 := len_noughts 1 s
    have l1 := len_noughts1 1 s
    have n2 := len_taken one (bNoughts 1 s).2
    have l2 := len_taken1 one (bNoughts 1 s).2
    have n3 := len_noughts 1 (bTaken one (bNoughts 1 s).2).2
    have l3 := len_noughts1 1 (bTaken one (bNoughts 1 s).2).2
    have n4 := len_taken other (bNoughts 1 (bTaken one (bNoughts 1 s).2).2).2
    have l4 := len_taken1 other (bNoughts 1 (bTaken one (bNoughts 1 s).2).2).2
    have lf : ((bNoughts 1 s).1 ++ (bTaken one (bNoughts 1 s).2).1).length = one.length + 1 := by rw [List.length_append]; omega
    have lg : ((bNoughts 1 (bTaken one (bNoughts 1 s).2).2).1 ++ (bTaken other (bNoughts 1 (bTaken one (bNoughts 1 s).2).2).2).1).length = one.length + 1 := by rw [List.length_append]; omega
    refine ⟨_, rfl, ?_⟩
    refine ⟨B, s, 1, rfl, hB, by walk_at "fit", fun H1 p1 x1 b1 c1 f1 => ?_⟩
    refine ⟨_, rfl, ?_⟩
    refine ⟨_, rfl, ?_⟩
    refine ⟨B, _, a, one, rfl, b1, hc.x x1, by walk_at "fit", fun H2 p2 x2 b2 c2 f2 => ?_⟩
    refine ⟨_, _, _, _, rfl, rfl, (c1.x x2).1, c2.1, ?_, fun p3 f3 => ?_⟩
    · rw [List.length_map, List.length_map]
      exact Nat.le_of_lt (lt_line (by walk_at "fit"))
    rw [← List.map_append]
    have c3 := CL.new (cs := (bNoughts 1 s).1 ++ (bTaken one (bNoughts 1 s).2).1) b2 f3
    have b3 := b2.new (o := .lst (((bNoughts 1 s).1 ++ (bTaken one (bNoughts 1 s).2).1).map nV)) f3
    have x3 : Bx B H (upd H2 p3 (.lst (((bNoughts 1 s).1 ++ (bTaken one (bNoughts 1 s).2).1).map nV))) := (x1.trans x2).trans (Bx.of (Same.new f3))
    revert c3 b3 x3
    generalize upd H2 p3 _ = H3
    intro c3 b3 x3
    refine ⟨_, rfl, ?_⟩
    refine ⟨B, _, 1, rfl, b3, by walk_at "fit", fun H4 p4 x4 b4 c4 f4 => ?_⟩
    refine ⟨_, rfl, ?_⟩
    refine ⟨_, rfl, ?_⟩
    refine ⟨B, _, a2, other, rfl, b4, (hd.x x3).x x4, by walk_at "fit", fun H5 p5 x5 b5 c5 f5 => ?_⟩
    refine ⟨_, _, _, _, rfl, rfl, (c4.x x5).1, c5.1, ?_, fun p6 f6 => ?_⟩
    · rw [List.length_map, List.length_map]
      exact Nat.le_of_lt (lt_line (by walk_at "fit"))
    rw [← List.map_append]
    have c6 := CL.new (cs := (bNoughts 1 (bTaken one (bNoughts 1 s).2).2).1 ++ (bTaken other (bNoughts 1 (bTaken one (bNoughts 1 s).2).2).2).1) b5 f6
    have b6 := b5.new (o := .lst (((bNoughts 1 (bTaken one (bNoughts 1 s).2).2).1 ++ (bTaken other (bNoughts 1 (bTaken one (bNoughts 1 s).2).2).2).1).map nV)) f6
    have x6 : Bx B H3 (upd H5 p6 (.lst (((bNoughts 1 (bTaken one (bNoughts 1 s).2).2).1 ++ (bTaken other (bNoughts 1 (bTaken one (bNoughts 1 s).2).2).2).1).map nV))) := (x4.trans x5).trans (Bx.of (Same.new f6))
    have c7 := c3.x x6
    revert c6 b6 x6 c7
    generalize upd H5 p6 _ = H6
    intro c6 b6 x6 c7
    have x7 := x3.trans x6
    have hT : ∀ z : BS, z = bTurnBy ((bNoughts 1 s).1 ++ (bTaken one (bNoughts 1 s).2).1) below (bTaken other (bNoughts 1 (bTaken one (bNoughts 1 s).2).2).2).2 → True := fun _ _ => trivial
    have kk : ∀ H' q p, Bx B H H' → BAt K H' B (bTogether one below other beyond s).2 → H' q = some (.tup [.ref p, nV (bTogether one below other beyond s).1.2]) → CL B H' p (bTogether one below other beyond s).1.1 → Q (.ref q) H' := k
    unfold bTogether at kk
    dsimp only at kk
    generalize (bNoughts 1 s).1 ++ (bTaken one (bNoughts 1 s).2).1 = fi at *
    generalize (bNoughts 1 (bTaken one (bNoughts 1 s).2).2).1 ++ (bTaken other (bNoughts 1 (bTaken one (bNoughts 1 s).2).2).2).1 = se at *
    generalize (bTaken other (bNoughts 1 (bTaken one (bNoughts 1 s).2).2).2).2 = s0 at *
    have m1 := len_turnBy fi below s0
    have m2 := len_turnBy se beyond (bTurnBy fi below s0)
    have m3 := len_addTo fi se (bPut 0 (bTurnBy se beyond (bTurnBy fi below s0))).1 (bPut 0 (bTurnBy se beyond (bTurnBy fi below s0))).2
    refine ⟨_, rfl, ?_⟩
    refine ⟨_, rfl, ?_⟩
    refine ⟨_, rfl, ?_⟩
    refine ⟨B, _, _, _, _, rfl, b6, c7, by walk_at "fit", fun H7 x8 b7 => ?_⟩
    refine ⟨_, rfl, ?_⟩
    refine ⟨_, rfl, ?_⟩
    refine ⟨_, rfl, ?_⟩
    refine ⟨B, _, _, _, _, rfl, b7, c6.x x8, by walk_at "fit", fun H8 x9 b8 => ?_⟩
    refine ⟨_, rfl, ?_⟩
    refine ⟨_, rfl, ?_⟩
    refine ⟨_, rfl, ?_⟩
    refine ⟨_, rfl, ?_⟩
    refine ⟨_, _, _, rfl, b8.obj, rfl, ?_⟩
    refine ⟨B, _, 0, rfl, b8, by walk_at "fit", fun H9 x10 b9 => ?_⟩
    have xa := (x8.trans x9).trans x10
    refine ⟨B, _, _, _, _, _, _, rfl, b9, c7.x xa, c6.x xa, by omega, by walk_at "fit", fun H10 x11 b10 => ?_⟩
    have c8 := (c7.x xa).x x11
    refine ⟨_, rfl, ?_⟩
    refine ⟨_, _, _, rfl, b10.obj, rfl, ?_⟩
    have h0 : 0 < fi.length := by omega
    refine ⟨_, rfl, ?_⟩
    refine ⟨_, _, _, _, rfl, rfl, c8.sq, atC h0, ?_⟩
    have e0 : fi[0] = fi.getD 0 0 := by rw [List.getD_eq_getElem?_getD, List.getElem?_eq_getElem h0]; rfl
    rw [e0]
    skip
    refine ⟨B, _, _, .five, rfl, b10, by walk_at "fit", fun H11 x12 b11 => ?_⟩
    refine ⟨_, rfl, ?_⟩
    refine ⟨_, rfl, ?_⟩
    refine ⟨_, rfl, ?_⟩
    refine ⟨B, _, _, _, _, rfl, b11, c8.x x12, by walk_at "fit", fun H12 x13 b12 => ?_⟩
    refine ⟨_, rfl, ?_⟩
    refine ⟨_, rfl, ?_⟩
    refine ⟨(by decide : 2 ≤ sizeLine), fun q fq => ?_⟩
    have xb := ((((x7.trans xa).trans x11).trans x12).trans x13)
    exact kk _ q _ (xb.trans (Bx.of (Same.new fq))) (b12.new fq) upd_same ((((c8.x x12).x x13)).x (Bx.of (Same.new fq)))
theorem len_loadFig (f : Form) (at_ x : Nat) (s : BS) : (bLoadFig f at_ x s).2.rows.length ≤ s.rows.length + 2 := by
  unfold bLoadFig
  split
  · rw [len_looked]; exact Nat.le_refl _
  · rw [len_looked]; exact Nat.le_refl _
theorem len_loadFigs (f : Form) (at_ n : Nat) (s : BS) : (bMap (bLoadFig f at_) (List.range n) s).2.rows.length ≤ s.rows.length + 2 * n := by
  have h := len_map (f := bLoadFig f at_) (c := 2) (fun x s => len_loadFig f at_ x s) (List.range n) s
  rwa [List.length_range] at h
theorem len_loaded (f : Form) (at_ : Nat) (s : BS) : (bLoaded f at_ s).2.rows.length ≤ s.rows.length + 8 * f.n + 10 := by
  have h := len_loadFigs f at_ f.n s
  have hm : (bMap (bLoadFig f at_) (List.range f.n) s).1.length = f.n := by rw [map_len, List.length_range]
  unfold bLoaded
  dsimp only
  split
  · simp only [len_put]; omega
  · have h2 := len_turnBy (bMap (bLoadFig f at_) (List.range f.n) s).1 (bLooked ((bMap (bLoadFig f at_) (List.range f.n) s).1.getD 0 0) .five (bMap (bLoadFig f at_) (List.range f.n) s).2).1 (bLooked ((bMap (bLoadFig f at_) (List.range f.n) s).1.getD 0 0) .five (bMap (bLoadFig f at_) (List.range f.n) s).2).2
    rw [len_looked, hm] at h2
    dsimp only
    omega
  · simp only [len_look]
    split
    · rw [len_copied]; omega
    · rw [len_look, len_copied]; omega
theorem len_loaded1 (f : Form) (at_ : Nat) (s : BS) : (bLoaded f at_ s).1.1.length = f.n := by
  have hm : (bMap (bLoadFig f at_) (List.range f.n) s).1.length = f.n := by rw [map_len, List.length_range]
  unfold bLoaded
  dsimp only
  split <;> exact hm
theorem width_pos {f : Form} (hn : 0 < f.n) : 0 < f.width := by
  cases h : f.packed
  · rw [width_spread h]; exact hn
  · rw [width_packed h]
    unfold Form.halves
    omega
theorem arg3 {x z : V} {i : Int} {n : Nat} (e : i = n) : [x, .int i, z] = [x, nV n, z] := by rw [e]; rfl
theorem arg2 {x : V} {i : Int} {n : Nat} (e : i = n) : [x, .int i] = [x, nV n] := by rw [e]; rfl
theorem sc_loaded : FnScope ["b", "form", "at", "figures", "ahead", "k", "below"] ["b", "form", "at"] (defScope (top 48)) := ⟨rfl, rfl, rfl, by decide +kernel, rfl, by decide +kernel, by decide +kernel⟩
theorem d_loaded (T : TX w K mg) : DefOk P w K mg base 6 53 "loaded" ["b", "form", "at"] (spLoaded K) := by
  refine mkDef T 44 rfl rfl sc_loaded (fun _ _ _ _ _ _ us hl => match us, hl with | [_, _, _], _ => rfl) (fun vs H Q E h => ?_) (fun f cdv A outer s H vs Q E hr h => ?_)
  · obtain ⟨B, s, fa, f, at_, rfl, hB, hF, hn, hn2, hf, k⟩ := h
    rfl
  · obtain ⟨B, s, fa, f, at_, rfl, hB, hF, hn, hn2, hf, k⟩ := h
    refine ⟨_, 
        (pss_cons (ps_set (i := 3) sc_loaded.nd rfl (Or.inl rfl) (pe_lst pa_nil)) 
        (pss_cons (ps_set (i := 4) sc_loaded.nd rfl (Or.inl rfl) (pe_ix ix_tup (pe_callD (d_halves_of T) (hr.mono (by decide)) (by rfl) (pa_cons (pv 1) pa_nil)) pe_int (fun _ _ => rfl))) 
        (pss_cons (ps_for PassesOwn.never rfl (pi_range1 rfl T.range_ (pa_cons (pe_ix ix_tup (pv 1) pe_int (fun _ _ => rfl)) pa_nil)) (pg_name (i := 5) sc_loaded.nd rfl (Or.inl rfl)) 
          (pss_one (ps_if (pt_cmpR op_eq (pe_ix ix_tup (pv 1) pe_int (fun _ _ => rfl)) pe_str (nomark _)) 
            (pss_one (ps_expr (pe_bm PySem.F.plainAttrs_list PySem.F.slot_list_append PySem.F.type_list_append mt_append (pv 3) (pa_cons (pe_methD (T.methB (by decide)) (m_looked T) (hr.mono (by decide)) (pv 0) (pa_cons (pe_op op_add (pv 2) (pv 5)) (pa_cons (pe_gRef (T.fnG 17 rfl rfl)) pa_nil))) pa_nil)))) 
            (pss_one (ps_expr (pe_bm PySem.F.plainAttrs_list PySem.F.slot_list_append PySem.F.type_list_append mt_append (pv 3) (pa_cons (pe_methD (T.methB (by decide)) (m_looked T) (hr.mono (by decide)) (pv 0) (pa_cons (pe_op op_add (pv 2) (pe_op op_fdiv (pe_op op_add (pv 5) (pv 4)) pe_int)) (pa_cons (pe_ix ix_tup (pe_tup (pa_cons (pe_gRef (T.fnG 16 rfl rfl)) (pa_cons (pe_gRef (T.fnG 17 rfl rfl)) pa_nil))) (pe_op op_mod (pe_op op_add (pv 5) (pv 4)) pe_int) (fun _ _ => rfl)) pa_nil))) pa_nil))))))) 
        (pss_cons (ps_if (pt_cmpR op_eq (pe_ix ix_tup (pv 1) pe_int (fun _ _ => rfl)) pe_str (nomark _)) 
          (pss_one (ps_ret (pe_tup (pa_cons (pv 3) (pa_cons (pe_methD (T.methB (by decide)) (m_put T) (hr.mono (by decide)) (pv 0) (pa_cons pe_int pa_nil)) pa_nil))))) pss_nil) 
        (pss_cons (ps_if (pt_cmpR op_eq (pe_ix ix_tup (pv 1) pe_int (fun _ _ => rfl)) pe_str (nomark _)) 
          (pss_cons (ps_set (i := 6) sc_loaded.nd rfl (Or.inl rfl) (pe_methD (T.methB (by decide)) (m_looked T) (hr.mono (by decide)) (pv 0) (pa_cons (pe_ix ix_list (pv 3) pe_int (fun _ _ => rfl)) (pa_cons (pe_gRef (T.fnG 25 rfl rfl)) pa_nil)))) 
          (pss_cons (ps_expr (pe_callD (d_turn_by T) (hr.mono (by decide)) (by rfl) (pa_cons (pv 0) (pa_cons (pv 3) (pa_cons (pv 6) pa_nil))))) 
          (pss_one (ps_ret (pe_tup (pa_cons (pv 3) (pa_cons (pv 6) pa_nil))))))) pss_nil) 
        (pss_cons (ps_set (i := 6) sc_loaded.nd rfl (Or.inl rfl) (pe_methD (T.methB (by decide)) (m_copied T) (hr.mono (by decide)) (pv 0) (pa_cons (pe_op op_sub (pe_op op_add (pv 2) (pe_callD (d_width T) (hr.mono (by decide)) (by rfl) (pa_cons (pv 1) pa_nil))) pe_int) pa_nil))) 
        (pss_cons (ps_if (pt_cmpR op_eq (pe_ix ix_tup (pv 1) pe_int (fun _ _ => rfl)) pe_str (nomark _)) 
          (pss_one (ps_expr (pe_methD (T.methB (by decide)) (m_look T) (hr.mono (by decide)) (pv 0) (pa_cons (pv 6) (pa_cons (pe_gRef (T.fnG 16 rfl rfl)) pa_nil))))) pss_nil) 
        (pss_cons (ps_expr (pe_methD (T.methB (by decide)) (m_look T) (hr.mono (by decide)) (pv 0) (pa_cons (pv 6) (pa_cons (pe_gRef (T.fnG 26 rfl rfl)) pa_nil)))) 
        (pss_one (ps_ret (pe_tup (pa_cons (pv 3) (pa_cons (pv 6) pa_nil))))))))))))), ?_⟩
    refine ⟨by decide, fun p hp => ?_⟩
    have np := hB.out hp
    have b0 := hB.new (o := .lst []) hp
    have x0 : Bx B H (upd H p (.lst [])) := Bx.of (Same.new hp)
    have e0 : upd H p (.lst []) p = some (.lst []) := upd_same
    have hF0 := hF.bx hB x0
    revert b0 x0 e0 hF0
    generalize upd H p _ = H0
    intro b0 x0 e0 hF0
    refine ⟨_, rfl, ?_⟩
    refine ⟨fa, f, rfl, hF0, fun H1 ph s1 e1 => ?_⟩
    refine ⟨_, _, _, _, rfl, rfl, SqT.of e1, rfl, ?_⟩
    have hF1 := s1.teq hF0
    refine ⟨_, rfl, ?_⟩
    refine ⟨_, _, _, _, rfl, rfl, (by assumption), rfl, ?_⟩
    refine ⟨_, rfl, by omega, by omega, for_range (lo := 0) (n := f.n) (fun i σ H' => Bx B H H' ∧ BAt K H' B (bMap (bLoadFig f at_) (List.range i) s).2 ∧ H' p = some (.lst ((bMap (bLoadFig f at_) (List.range i) s).1.map nV)) ∧ ∃ v, σ = [some (.ref B.b), some (.ref fa), some (nV at_), some (.ref p), some (nV f.ahead), v, none]) ⟨x0.trans (Bx.of s1), b0.same s1, s1 _ _ e0, none, rfl⟩ ?_ ?_⟩
    · rintro i σ H' hi ⟨x1, b1, e1, v, rfl⟩
      have hF2 := hF.bx hB x1
      have hl := len_loadFigs f at_ i s
      have es : bMap (bLoadFig f at_) (List.range (i + 1)) s = ((bMap (bLoadFig f at_) (List.range i) s).1 ++ [(bLoadFig f at_ i (bMap (bLoadFig f at_) (List.range i) s).2).1], (bLoadFig f at_ i (bMap (bLoadFig f at_) (List.range i) s).2).2) := by
        rw [List.range_succ, bMap_snoc]
      have ln : ((bMap (bLoadFig f at_) (List.range i) s).1.map nV).length < sizeLine := by
        rw [List.length_map, map_len, List.length_range]
        exact lt_line (by omega)
      refine ⟨_, rfl, ?_⟩
      refine ⟨_, _, _, _, rfl, rfl, (by assumption), rfl, ?_⟩
      refine ⟨rfl, ?_⟩
      refine ⟨_, rfl, ?_⟩
      rw [isSpread]
      refine iteB (fun h => ?_) (fun h => ?_)
      · have hp : f.packed = false := by simpa using h
        have eL : bLoadFig f at_ i (bMap (bLoadFig f at_) (List.range i) s).2 = bLooked (at_ + i) .lo (bMap (bLoadFig f at_) (List.range i) s).2 := by
          unfold bLoadFig
          rw [hp]
          rfl
        refine ⟨_, rfl, ?_⟩
        refine ⟨.inl ⟨rfl, _, SqL.of e1⟩, ?_⟩
        refine ⟨_, rfl, ?_⟩
        refine ⟨_, _, _, rfl, b1.obj, rfl, ?_⟩
        refine ⟨_, rfl, ?_⟩
        refine ⟨_, rfl, ?_⟩
        refine ⟨_, _, rfl, rfl, ?_⟩
        refine ⟨B, _, at_ + i, .lo, arg3 (by omega), b1, by walk_at "fit", fun H2 x2 b2 => ?_⟩
        refine ⟨_, _, _, rfl, rfl, x2 _ _ np e1, ln, ?_⟩
        refine ⟨(x1.trans x2).new (by assumption), ?_, ?_, _, rfl⟩
        · rw [es, eL]
          exact b2.lst np (x2 _ _ np e1)
        · rw [es, eL, List.map_append]
          exact upd_same
      · have hp : f.packed = true := by simpa using h
        have eL : bLoadFig f at_ i (bMap (bLoadFig f at_) (List.range i) s).2 = bLooked (at_ + (i + f.ahead) / 2) (if (i + f.ahead) % 2 = 0 then .hi else .lo) (bMap (bLoadFig f at_) (List.range i) s).2 := by
          unfold bLoadFig
          rw [hp]
          rfl
        generalize hw : (if (i + f.ahead) % 2 = 0 then Wo.hi else Wo.lo) = xw at eL
        have hix : atI [V.ref (wad K .hi), V.ref (wad K .lo)] ((0 + (i : Int) + (f.ahead : Int)) % 2) = some (V.ref (wad K xw)) := by
          rw [← hw]
          split
          · rename_i hz
            rw [show (0 + (i : Int) + (f.ahead : Int)) % 2 = 0 by omega]
            rfl
          · rename_i hz
            rw [show (0 + (i : Int) + (f.ahead : Int)) % 2 = 1 by omega]
            rfl
        refine ⟨_, rfl, ?_⟩
        refine ⟨.inl ⟨rfl, _, SqL.of e1⟩, ?_⟩
        refine ⟨_, rfl, ?_⟩
        refine ⟨_, _, _, rfl, b1.obj, rfl, ?_⟩
        refine ⟨_, rfl, ?_⟩
        refine ⟨_, rfl, ?_⟩
        refine ⟨_, rfl, ?_⟩
        refine ⟨_, _, rfl, rfl, ?_⟩
        refine ⟨_, _, rfl, rfl, ⟨by decide, by decide⟩, ?_⟩
        refine ⟨_, _, rfl, rfl, ?_⟩
        refine ⟨(by decide : 2 ≤ sizeLine), fun p2 hp2 => ?_⟩
        refine ⟨_, rfl, ?_⟩
        refine ⟨_, rfl, ?_⟩
        refine ⟨_, _, rfl, rfl, ?_⟩
        refine ⟨_, _, rfl, rfl, (by show (0 : Int) < _; decide), ?_⟩
        refine ⟨_, _, _, _, rfl, rfl, SqT.of upd_same, hix, ?_⟩
        have s5 := Same.new (o := .tup [V.ref (wad K .hi), V.ref (wad K .lo)]) hp2
        refine ⟨B, _, at_ + (i + f.ahead) / 2, xw, arg3 (by omega), b1.same s5, by walk_at "fit", fun H2 x2 b2 => ?_⟩
        have x3 := (Bx.of (B := B) s5).trans x2
        refine ⟨_, _, _, rfl, rfl, x3 _ _ np e1, ln, ?_⟩
        refine ⟨(x1.trans x3).new (by assumption), ?_, ?_, _, rfl⟩
        · rw [es, eL]
          exact b2.lst np (x3 _ _ np e1)
        · rw [es, eL, List.map_append]
          exact upd_same
    · rintro σ H' ⟨x1, b1, e1, v, rfl⟩
      have hl := len_loadFigs f at_ f.n s
      have c1 : CL B H' p (bMap (bLoadFig f at_) (List.range f.n) s).1 := ⟨e1, np⟩
      have hF2 := hF.bx hB x1
      have lm : (bMap (bLoadFig f at_) (List.range f.n) s).1.length = f.n := by rw [map_len, List.length_range]
      have kk := k
      unfold bLoaded at kk
      clear k e1 s1 e0 b0 x0
      generalize bMap (bLoadFig f at_) (List.range f.n) s = pq at *
      refine ⟨_, rfl, ?_⟩
      refine ⟨_, _, _, _, rfl, rfl, (by assumption), rfl, ?_⟩
      refine ⟨rfl, ?_⟩
      refine ⟨_, rfl, ?_⟩
      rw [isNone]
      refine iteD (fun h => ?_) (fun h => ?_)
      · rw [h] at kk
        dsimp only at kk
        refine ⟨_, rfl, ?_⟩
        refine ⟨_, rfl, ?_⟩
        refine ⟨_, _, _, rfl, b1.obj, rfl, ?_⟩
        refine ⟨B, _, 0, rfl, b1, by walk_at "fit", fun H2 x2 b2 => ?_⟩
        refine ⟨(by decide : 2 ≤ sizeLine), fun q fq => ?_⟩
        exact kk _ q _ ((x1.trans x2).trans (Bx.of (Same.new fq))) (b2.new fq) upd_same ((c1.x x2).x (Bx.of (Same.new fq)))
      refine ⟨_, rfl, ?_⟩
      refine ⟨_, _, _, _, rfl, rfl, (by assumption), rfl, ?_⟩
      refine ⟨rfl, ?_⟩
      refine ⟨_, rfl, ?_⟩
      rw [isTens]
      refine iteD (fun h2 => ?_) (fun h2 => ?_)
      · rw [h2] at kk
        dsimp only at kk
        refine ⟨_, rfl, ?_⟩
        refine ⟨_, _, _, rfl, b1.obj, rfl, ?_⟩
        have h0 : 0 < pq.1.length := by omega
        refine ⟨_, rfl, ?_⟩
        refine ⟨_, _, _, _, rfl, rfl, c1.sq, atC h0, ?_⟩
        have e0 : pq.1[0] = pq.1.getD 0 0 := by rw [List.getD_eq_getElem?_getD, List.getElem?_eq_getElem h0]; rfl
        rw [e0]
        refine ⟨B, _, _, .five, rfl, b1, by walk_at "fit", fun H2 x2 b2 => ?_⟩
        refine ⟨_, rfl, ?_⟩
        refine ⟨_, rfl, ?_⟩
        refine ⟨_, rfl, ?_⟩
        refine ⟨B, _, _, _, _, rfl, b2, c1.x x2, by walk_at "fit", fun H3 x3 b3 => ?_⟩
        refine ⟨_, rfl, ?_⟩
        refine ⟨_, rfl, ?_⟩
        refine ⟨(by decide : 2 ≤ sizeLine), fun q fq => ?_⟩
        exact kk _ q _ (((x1.trans x2).trans x3).trans (Bx.of (Same.new fq))) (b3.new fq) upd_same (((c1.x x2).x x3).x (Bx.of (Same.new fq)))
      have h3 : f.sg = .end_ := by
        revert h h2
        cases f.sg <;> simp
      rw [h3] at kk
      dsimp only at kk
      refine ⟨_, rfl, ?_⟩
      refine ⟨_, _, _, rfl, b1.obj, rfl, ?_⟩
      refine ⟨_, rfl, ?_⟩
      refine ⟨_, rfl, ?_⟩
      refine ⟨fa, f, rfl, hF2, hn, hn2, fun H2 s2 => ?_⟩
      refine ⟨_, _, rfl, rfl, ?_⟩
      refine ⟨_, _, rfl, rfl, ?_⟩
      have hw : 0 < f.width := width_pos hn
      refine ⟨B, _, at_ + f.width - 1, arg2 (by show (at_ : Int) + (f.width : Int) - 1 = _; omega), b1.same s2, by walk_at "fit", fun H3 x3 b3 => ?_⟩
      have x4 := (x1.trans (Bx.of s2)).trans x3
      have hF3 := hF.bx hB x4
      have c2 := (c1.x (Bx.of s2)).x x3
      refine ⟨_, rfl, ?_⟩
      refine ⟨_, _, _, _, rfl, rfl, (by assumption), rfl, ?_⟩
      refine ⟨rfl, ?_⟩
      refine ⟨_, rfl, ?_⟩
      rw [isSpread]
      refine iteB (fun h => ?_) (fun h => ?_)
      · have hp : f.packed = false := by simpa using h
        rw [hp] at kk
        simp only [Bool.false_eq_true, if_false] at kk
        refine ⟨_, rfl, ?_⟩
        refine ⟨_, _, _, rfl, b3.obj, rfl, ?_⟩
        refine ⟨_, rfl, ?_⟩
        refine ⟨B, _, _, .hi, rfl, b3, by walk_at "fit", fun H4 x5 b4 => ?_⟩
        refine ⟨_, rfl, ?_⟩
        refine ⟨_, _, _, rfl, b4.obj, rfl, ?_⟩
        refine ⟨_, rfl, ?_⟩
        refine ⟨B, _, _, .signB, rfl, b4, by walk_at "fit", fun H5 x6 b5 => ?_⟩
        refine ⟨_, rfl, ?_⟩
        refine ⟨_, rfl, ?_⟩
        refine ⟨(by decide : 2 ≤ sizeLine), fun q fq => ?_⟩
        exact kk _ q _ (((x4.trans x5).trans x6).trans (Bx.of (Same.new fq))) (b5.new fq) upd_same (((c2.x x5).x x6).x (Bx.of (Same.new fq)))
      · have hp : f.packed = true := by simpa using h
        rw [hp] at kk
        simp only [if_true] at kk
        refine ⟨_, rfl, ?_⟩
        refine ⟨_, _, _, rfl, b3.obj, rfl, ?_⟩
        refine ⟨_, rfl, ?_⟩
        refine ⟨B, _, _, .signB, rfl, b3, by walk_at "fit", fun H5 x6 b5 => ?_⟩
        refine ⟨_, rfl, ?_⟩
        refine ⟨_, rfl, ?_⟩
        refine ⟨(by decide : 2 ≤ sizeLine), fun q fq => ?_⟩
        exact kk _ q _ ((x4.trans x6).trans (Bx.of (Same.new fq))) (b5.new fq) upd_same ((c2.x x6).x (Bx.of (Same.new fq)))
end
end TL
set_option Elab.async false
set_option linter.all false
set_option maxRecDepth 100000
set_option pp.maxSteps 600
set_option maxHeartbeats 4000000
namespace TL
open PySem PySem.Spec PyProof.Rows L2
/-- one question answered, where its answer is plain -/
local macro_rules | `(tactic| walk_at "p") => `(tactic| first
  | refine ⟨_, rfl, ?_⟩
  | refine ⟨_, _, rfl, rfl, ⟨by decide, by decide⟩, ?_⟩
  | refine ⟨_, _, rfl, rfl, (by show (0 : Int) < _; decide), ?_⟩
  | refine ⟨_, _, rfl, rfl, ?_⟩
  | refine ⟨rfl, ?_⟩
  | refine ⟨_, _, _, _, rfl, rfl, (by assumption), rfl, ?_⟩
  | refine .inr ⟨_, rfl, ?_⟩
  | refine .inl ⟨_, rfl, ?_⟩
  | refine iteT ?_
  | refine iteF ?_)
local macro_rules | `(tactic| walk_at "ps") => `(tactic| repeat walk_at "p")

local macro_rules | `(tactic| walk_at "fit") => `(tactic| (unfold Fit at *; (try simp only [len_row, len_cell, len_back, len_put, len_look, len_copied, len_looked, len_both, len_carried, len_joined, List.length_append, List.length_cons, List.length_nil] at *); omega))
theorem len_storeSpread (f : Form) (figures : List Nat) (sign zone at_ k : Nat) (s : BS) : (bStoreSpread f figures sign zone at_ k s).rows.length ≤ s.rows.length + 5 := by
  unfold bStoreSpread
  dsimp only
  split
  · rw [len_row, len_row]; omega
  · rw [len_joined, len_row]; omega
theorem len_storePacked (halves : List Nat) (at_ j : Nat) (s : BS) : (bStorePacked halves at_ j s).rows.length ≤ s.rows.length + 4 := by
  unfold bStorePacked
  rw [len_joined]; exact Nat.le_refl _
theorem halves_le (f : Form) : f.halves ≤ f.n + 2 := by
  unfold Form.halves Form.e
  split <;> omega
theorem ahead_le (f : Form) : f.ahead ≤ 1 := by
  unfold Form.ahead
  omega
theorem len_stored (f : Form) (figures : List Nat) (below at_ : Nat) (s : BS) : (bStored f figures below at_ s).rows.length ≤ s.rows.length + 5 * f.n + 10 := by
  unfold bStored
  dsimp only
  split
  · have h1 := len_each (f := bStorePacked ((bNoughts f.ahead (bRow (.add (bPut 12 s).1 below) (bPut 12 s).2)).1 ++ figures ++ (if f.sg = .end_ then [(bPut 12 s).1] else [])) at_) (c := 4) (fun x s => len_storePacked _ _ x s) (List.range (f.halves / 2)) (bNoughts f.ahead (bRow (.add (bPut 12 s).1 below) (bPut 12 s).2)).2
    have h2 := len_noughts f.ahead (bRow (.add (bPut 12 s).1 below) (bPut 12 s).2)
    rw [List.length_range] at h1
    rw [len_row, len_put] at h2
    have h3 := halves_le f
    have h4 := ahead_le f
    omega
  · have h1 := len_each (f := bStoreSpread f figures (bPut 12 s).1 (bPut 240 (bRow (.add (bPut 12 s).1 below) (bPut 12 s).2)).1 at_) (c := 5) (fun x s => len_storeSpread _ _ _ _ _ x s) (List.range f.n) (bPut 240 (bRow (.add (bPut 12 s).1 below) (bPut 12 s).2)).2
    rw [List.length_range, len_put, len_row, len_put] at h1
    omega
theorem len_finished (f : Form) (figures : List Nat) (below at_ : Nat) (s : BS) : (bFinished f figures below at_ s).2.rows.length ≤ s.rows.length + 14 * f.n + 3 * figures.length + 60 := by
  have h1 := len_noughts (f.n - figures.length) s
  have h2 := len_taken (lastN f.n figures) (bNoughts (f.n - figures.length) s).2
  have l1 := len_noughts1 (f.n - figures.length) s
  have l2 := len_taken1 (lastN f.n figures) (bNoughts (f.n - figures.length) s).2
  have h3 := len_anyOf (figures.take (figures.length - f.n)) (bTaken (lastN f.n figures) (bNoughts (f.n - figures.length) s).2).2
  rw [List.length_take] at h3
  have h4 := len_anyOf figures (bAnyOf (figures.take (figures.length - f.n)) (bTaken (lastN f.n figures) (bNoughts (f.n - figures.length) s).2).2).2
  have hl : (lastN f.n figures).length = min f.n figures.length := by unfold lastN; rw [List.length_drop]; omega
  rw [hl] at l2 h2
  unfold bFinished
  generalize bNoughts (f.n - figures.length) s = pn at *
  dsimp only
  generalize bTaken (lastN f.n figures) pn.2 = q at *
  generalize bAnyOf (figures.take (figures.length - f.n)) q.2 = m at *
  generalize bAnyOf figures m.2 = a at *
  have h5 := len_both a.1 below a.2
  generalize bBoth a.1 below a.2 = r at *
  split
  · have h6 := len_anyOf (pn.1 ++ q.1) r.2
    rw [List.length_append] at h6
    have h7 := len_both (bAnyOf (pn.1 ++ q.1) r.2).1 below (bAnyOf (pn.1 ++ q.1) r.2).2
    have h8 := len_stored f (pn.1 ++ q.1) (bBoth (bAnyOf (pn.1 ++ q.1) r.2).1 below (bAnyOf (pn.1 ++ q.1) r.2).2).1 at_ (bBoth (bAnyOf (pn.1 ++ q.1) r.2).1 below (bAnyOf (pn.1 ++ q.1) r.2).2).2
    dsimp only
    omega
  · have h6 := len_turnBy (pn.1 ++ q.1) r.1 r.2
    rw [List.length_append] at h6
    generalize bTurnBy (pn.1 ++ q.1) r.1 r.2 = s1 at *
    have h7 := len_looked ((pn.1 ++ q.1).getD 0 0) .five s1
    generalize bLooked ((pn.1 ++ q.1).getD 0 0) .five s1 = sn at *
    have h8 := len_stored f (pn.1 ++ q.1) below at_ (bRow (.or_ m.1 sn.1) (bLook sn.1 .one2 (bRow (.add sn.1 r.1) (bRow (.add sn.1 r.1) sn.2))))
    simp only [len_row, len_look] at h8
    dsimp only
    omega
  · have h6 := len_turnBy (pn.1 ++ q.1) r.1 r.2
    rw [List.length_append] at h6
    have h8 := len_stored f (pn.1 ++ q.1) below at_ (bRow (.or_ m.1 r.1) (bTurnBy (pn.1 ++ q.1) r.1 r.2))
    rw [len_row] at h8
    dsimp only
    omega
theorem arg4 {x y z : V} {i : Int} {n : Nat} (e : i = n) : [x, y, .int i, z] = [x, y, nV n, z] := by rw [e]; rfl
theorem arg4' {x y z : V} {i : Int} {n : Nat} (e : i = n) : [x, y, z, .int i] = [x, y, z, nV n] := by rw [e]; rfl
theorem each_range {f : Nat → BS → BS} (i : Nat) (s : BS) : bEach f (List.range (i + 1)) s = f i (bEach f (List.range i) s) := by
  unfold bEach
  rw [List.range_succ, List.foldl_append]
  rfl
theorem getC {cs : List Nat} {j : Nat} (h : j < cs.length) : cs[j] = cs.getD j 0 := by rw [List.getD_eq_getElem?_getD, List.getElem?_eq_getElem h]; rfl
theorem atD {cs : List Nat} {j : Nat} (h : j < cs.length) : atI (cs.map nV) (j : Int) = some (nV (cs.getD j 0)) := by rw [← getC h]; exact atC h
theorem fitsL {i : Int} (h1 : -(2 ^ 63) ≤ i) (h2 : i < 2 ^ 63) : Builtin.Range.rangeFitsLong i = true := by
  unfold Builtin.Range.rangeFitsLong
  rw [decide_eq_true h1, decide_eq_true h2]; rfl
theorem rg_two {L n : Nat} (h : L = 2 * n) (hL : L ≤ 1000) : RgC 0 (L : Int) 2 n := by
  have e : Builtin.Range.rangeSize 0 (L : Int) 2 = (n : Int) := by
    rw [rangeSize_pos (by decide) (by omega)]
    omega
  refine ⟨by decide, by decide, ?_, e⟩
  unfold Builtin.Range.small
  rw [e]
  rw [fitsL (i := 0) (by decide) (by decide), fitsL (i := (L : Int)) (by omega) (by omega), fitsL (i := 2) (by decide) (by decide), fitsL (i := (n : Int)) (by omega) (by omega), if_pos (show (2 : Int) > 0 by decide), fitsL (i := (L : Int) + (2 - 1)) (by omega) (by omega), Bool.or_true]
  rfl
def spStored (K : PySem.W.Frag) : Sp := fun vs H Q _ => ∃ B s fa f a cs below at_, vs = [.ref B.b, .ref fa, .ref a, nV below, nV at_] ∧ BAt K H B s ∧ SqT K H fa f.vs ∧ CL B H a cs ∧ cs.length = f.n ∧ 0 < f.n ∧ f.n ≤ 100 ∧ Fit s (5 * f.n + 10) ∧
  ∀ H', Bx B H H' → BAt K H' B (bStored f cs below at_ s) → Q .non H'
def spFinished (K : PySem.W.Frag) : Sp := fun vs H Q _ => ∃ B s fa f a cs below at_, vs = [.ref B.b, .ref fa, .ref a, nV below, nV at_] ∧ BAt K H B s ∧ SqT K H fa f.vs ∧ CL B H a cs ∧ cs.length ≤ 200 ∧ 0 < f.n ∧ f.n ≤ 100 ∧ Fit s (14 * f.n + 3 * cs.length + 60) ∧
  ∀ H', Bx B H H' → BAt K H' B (bFinished f cs below at_ s).2 → Q (nV (bFinished f cs below at_ s).1) H'
section
variable {P : Program} {w : World} {K : PySem.W.Frag} {mg : Str → Option Value} {base : Heap}
theorem sc_stored : FnScope ["b", "form", "figures", "below", "at", "sign", "zone", "k", "halves"] ["b", "form", "figures", "below", "at"] (defScope (top 50)) := ⟨rfl, rfl, rfl, by decide +kernel, rfl, by decide +kernel, by decide +kernel⟩
theorem d_stored (T : TX w K mg) : DefOk P w K mg base 6 55 "stored" ["b", "form", "figures", "below", "at"] (spStored K) := by
  refine mkDef T 46 rfl rfl sc_stored (fun _ _ _ _ _ _ us hl => match us, hl with | [_, _, _, _, _], _ => rfl) (fun vs H Q E h => ?_) (fun f cdv A outer s H vs Q E hr h => ?_)
  · obtain ⟨B, s, fa, f, a, cs, below, at_, rfl, hB, hF, hc, hl, hn, hn2, hf, k⟩ := h
    rfl
  · obtain ⟨B, s, fa, f, a, cs, below, at_, rfl, hB, hF, hc, hl, hn, hn2, hf, k⟩ := h
    refine ⟨_, 
        (pss_cons (ps_set (i := 5) sc_stored.nd rfl (Or.inl rfl) (pe_methD (T.methB (by decide)) (m_put T) (hr.mono (by decide)) (pv 0) (pa_cons (pe_gInt (T.int 40)) pa_nil))) 
        (pss_cons (ps_expr (pe_methD (T.methB (by decide)) (m_row T) (hr.mono (by decide)) (pv 0) (pa_cons pe_str (pa_cons (pv 5) (pa_cons (pv 3) pa_nil))))) 
        (pss_cons (ps_if (pt_cmpR op_eq (pe_ix ix_tup (pv 1) pe_int (fun _ _ => rfl)) pe_str (nomark _)) 
          (pss_cons (ps_set (i := 6) sc_stored.nd rfl (Or.inl rfl) (pe_methD (T.methB (by decide)) (m_put T) (hr.mono (by decide)) (pv 0) (pa_cons (pe_gInt (T.int 41)) pa_nil))) 
          (pss_cons (ps_for PassesOwn.never rfl (pi_range1 rfl T.range_ (pa_cons (pe_ix ix_tup (pv 1) pe_int (fun _ _ => rfl)) pa_nil)) (pg_name (i := 7) sc_stored.nd rfl (Or.inl rfl)) 
            (pss_cons (ps_expr (pe_methD (T.methB (by decide)) (m_row T) (hr.mono (by decide)) (pv 0) (pa_cons pe_str (pa_cons (pe_op op_add (pv 4) (pv 7)) (pa_cons (pe_ix ix_list (pv 2) (pv 7) (fun _ _ => rfl)) pa_nil))))) 
            (pss_one (ps_if (PW.pt (pw_or (pt_cmpR op_lt (pv 7) (pe_op op_sub (pe_ix ix_tup (pv 1) pe_int (fun _ _ => rfl)) pe_int) (nomark _)) (pw_or1 (pt_cmpR op_ne (pe_ix ix_tup (pv 1) pe_int (fun _ _ => rfl)) pe_str (nomark _))))) 
              (pss_one (ps_expr (pe_methD (T.methB (by decide)) (m_row T) (hr.mono (by decide)) (pv 0) (pa_cons pe_str (pa_cons (pe_op op_add (pv 4) (pv 7)) (pa_cons (pv 6) pa_nil)))))) 
              (pss_one (ps_expr (pe_callD (d_joined T) (hr.mono (by decide)) (by rfl) (pa_cons (pv 0) (pa_cons (pv 5) (pa_cons (pe_ix ix_list (pv 2) (pv 7) (fun _ _ => rfl)) (pa_cons (pe_op op_add (pv 4) (pv 7)) pa_nil))))))))))) 
          (pss_one ps_retN))) pss_nil) 
        (pss_cons (ps_set (i := 8) sc_stored.nd rfl (Or.inl rfl) (pe_op op_cat (pe_callD (d_noughts T) (hr.mono (by decide)) (by rfl) (pa_cons (pv 0) (pa_cons (pe_ix ix_tup (pe_callD (d_halves_of T) (hr.mono (by decide)) (by rfl) (pa_cons (pv 1) pa_nil)) pe_int (fun _ _ => rfl)) pa_nil))) (pe_callTy call_list_of (by rfl) T.list_ (by decide +kernel) (pa_cons (pv 2) pa_nil)))) 
        (pss_cons (ps_if (pt_cmpR op_eq (pe_ix ix_tup (pv 1) pe_int (fun _ _ => rfl)) pe_str (nomark _)) 
          (pss_one (ps_expr (pe_bm PySem.F.plainAttrs_list PySem.F.slot_list_append PySem.F.type_list_append mt_append (pv 8) (pa_cons (pv 5) pa_nil)))) pss_nil) 
        (pss_one (ps_for PassesOwn.never rfl (pi_range3 rfl T.range_ (pa_cons pe_int (pa_cons (pe_callB call_len_seq (by rfl) T.len_ (by decide +kernel) (pa_cons (pv 8) pa_nil)) (pa_cons pe_int pa_nil)))) (pg_name (i := 7) sc_stored.nd rfl (Or.inl rfl)) 
          (pss_one (ps_expr (pe_callD (d_joined T) (hr.mono (by decide)) (by rfl) (pa_cons (pv 0) (pa_cons (pe_ix ix_list (pv 8) (pv 7) (fun _ _ => rfl)) (pa_cons (pe_ix ix_list (pv 8) (pe_op op_add (pv 7) pe_int) (fun _ _ => rfl)) (pa_cons (pe_op op_add (pv 4) (pe_op op_fdiv (pv 7) pe_int)) pa_nil)))))))))))))), ?_⟩
    refine ⟨_, rfl, ?_⟩
    refine ⟨_, _, _, rfl, hB.obj, rfl, ?_⟩
    refine ⟨B, s, 12, rfl, hB, by walk_at "fit", fun H1 x1 b1 => ?_⟩
    refine ⟨_, rfl, ?_⟩
    refine ⟨_, _, _, rfl, b1.obj, rfl, ?_⟩
    refine ⟨_, rfl, ?_⟩
    refine ⟨_, rfl, ?_⟩
    refine ⟨B, _, .add _ _, _, _, _, rfl, rfl, b1, by walk_at "fit", fun H2 x2 b2 => ?_⟩
    have x0 := x1.trans x2
    clear x1 b1
    have hF2 := hF.bx hB x0
    have kk := k
    unfold bStored at kk
    dsimp only at kk
    have h3 := halves_le f
    have h4 := ahead_le f
    have l0 : (bRow (.add (bPut 12 s).1 below) (bPut 12 s).2).rows.length = s.rows.length + 2 := by rw [len_row, len_put]
    clear k
    generalize bRow (.add (bPut 12 s).1 below) (bPut 12 s).2 = s2 at *
    generalize (bPut 12 s).1 = sn at *
    refine ⟨_, rfl, ?_⟩
    refine ⟨_, _, _, _, rfl, rfl, (by assumption), rfl, ?_⟩
    refine ⟨rfl, ?_⟩
    refine ⟨_, rfl, ?_⟩
    rw [isSpread]
    refine iteB (fun h => ?_) (fun h => ?_)
    · have hp : f.packed = false := by simpa using h
      rw [hp] at kk
      simp only [Bool.false_eq_true, if_false] at kk
      refine ⟨_, rfl, ?_⟩
      refine ⟨_, _, _, rfl, b2.obj, rfl, ?_⟩
      refine ⟨B, s2, 240, rfl, b2, by walk_at "fit", fun H3 x3 b3 => ?_⟩
      have hF3 := hF2.bx b2 x3
      have x4 := x0.trans x3
      refine ⟨_, rfl, ?_⟩
      refine ⟨_, _, _, _, rfl, rfl, (by assumption), rfl, ?_⟩
      refine ⟨_, rfl, by omega, by omega, for_range (lo := 0) (n := f.n) (fun i σ H' => Bx B H H' ∧ BAt K H' B (bEach (bStoreSpread f cs sn (bPut 240 s2).1 at_) (List.range i) (bPut 240 s2).2) ∧ ∃ v, σ = [some (.ref B.b), some (.ref fa), some (.ref a), some (nV below), some (nV at_), some (nV sn), some (nV (bPut 240 s2).1), v, none]) ⟨x4, b3, none, rfl⟩ ?_ ?_⟩
      · rintro i σ H' hi ⟨y1, c1, v, rfl⟩
        have hl1 := len_each (f := bStoreSpread f cs sn (bPut 240 s2).1 at_) (c := 5) (fun x s => len_storeSpread _ _ _ _ _ x s) (List.range i) (bPut 240 s2).2
        rw [List.length_range, len_put] at hl1
        have hF4 := hF.bx hB y1
        have hj : i < cs.length := by omega
        have es := each_range (f := bStoreSpread f cs sn (bPut 240 s2).1 at_) i (bPut 240 s2).2
        generalize bEach (bStoreSpread f cs sn (bPut 240 s2).1 at_) (List.range i) (bPut 240 s2).2 = t at *
        unfold bStoreSpread at es
        dsimp only at es
        refine ⟨_, rfl, ?_⟩
        refine ⟨_, _, _, rfl, c1.obj, rfl, ?_⟩
        refine ⟨_, rfl, ?_⟩
        refine ⟨_, rfl, ?_⟩
        refine ⟨_, _, rfl, rfl, ?_⟩
        refine ⟨_, rfl, ?_⟩
        refine ⟨_, rfl, ?_⟩
        rw [Int.zero_add]
        refine ⟨_, _, _, _, rfl, rfl, (hc.x y1).sq, atD hj, ?_⟩
        refine ⟨B, _, .copy (at_ + i) _, _, _, _, arg4 (by omega), rfl, c1, by walk_at "fit", fun H5 y2 c2 => ?_⟩
        have y3 := y1.trans y2
        have hF5 := hF.bx hB y3
        by_cases hd : i + 1 < f.n ∨ f.sg ≠ .end_
        · rw [if_pos hd] at es
          have fin : ∀ H6, Bx B H5 H6 → BAt K H6 B (bRow (.or_ (at_ + i) (bPut 240 s2).1) (bRow (.copy (at_ + i) (cs.getD i 0)) t)) → Bx B H H6 ∧ BAt K H6 B (bEach (bStoreSpread f cs sn (bPut 240 s2).1 at_) (List.range (i + 1)) (bPut 240 s2).2) := fun H6 y c => ⟨y3.trans y, by rw [show bEach (bStoreSpread f cs sn (bPut 240 s2).1 at_) (List.range (i + 1)) (bPut 240 s2).2 = _ from es]; exact c⟩
          refine ⟨_, rfl, ?_⟩
          refine ⟨_, rfl, ?_⟩
          refine ⟨_, _, _, _, rfl, rfl, (by assumption), rfl, ?_⟩
          refine ⟨_, _, rfl, rfl, ?_⟩
          refine ⟨_, _, rfl, rfl, ?_⟩
          refine ⟨_, rfl, ?_⟩
          refine iteD (fun hk => ?_) (fun hk => ?_)
          · walk_at "ps"
            refine ⟨_, _, _, rfl, c2.obj, rfl, ?_⟩
            refine ⟨_, rfl, ?_⟩
            refine ⟨_, rfl, ?_⟩
            refine ⟨_, _, rfl, rfl, ?_⟩
            refine ⟨_, rfl, ?_⟩
            refine ⟨B, _, .or_ (at_ + i) _, _, _, _, arg4 (by omega), rfl, c2, by walk_at "fit", fun H6 y4 c3 => ?_⟩
            exact ⟨(fin _ y4 c3).1, (fin _ y4 c3).2, _, rfl⟩
          · walk_at "ps"
            have hne : f.sg ≠ .end_ := by
              rcases hd with hd | hd
              · exact absurd (show (i : Int) < (f.n : Int) - 1 by omega) hk
              · exact hd
            rw [isEnd, decide_eq_false hne]
            refine ⟨_, rfl, ?_⟩
            refine ⟨_, _, _, rfl, c2.obj, rfl, ?_⟩
            refine ⟨_, rfl, ?_⟩
            refine ⟨_, rfl, ?_⟩
            refine ⟨_, _, rfl, rfl, ?_⟩
            refine ⟨_, rfl, ?_⟩
            refine ⟨B, _, .or_ (at_ + i) _, _, _, _, arg4 (by omega), rfl, c2, by walk_at "fit", fun H6 y4 c3 => ?_⟩
            exact ⟨(fin _ y4 c3).1, (fin _ y4 c3).2, _, rfl⟩
        · rw [if_neg hd] at es
          have hd1 : ¬ i + 1 < f.n := fun q => hd (.inl q)
          have hd2 : f.sg = .end_ := Classical.byContradiction fun q => hd (.inr q)
          refine ⟨_, rfl, ?_⟩
          refine ⟨_, rfl, ?_⟩
          refine ⟨_, _, _, _, rfl, rfl, (by assumption), rfl, ?_⟩
          refine ⟨_, _, rfl, rfl, ?_⟩
          refine ⟨_, _, rfl, rfl, ?_⟩
          refine ⟨_, rfl, ?_⟩
          refine iteD (fun hk => ?_) (fun hk => ?_)
          · exact absurd (show i + 1 < f.n by omega) hd1
          · walk_at "ps"
            rw [isEnd, decide_eq_true hd2]
            refine ⟨_, rfl, ?_⟩
            refine ⟨_, rfl, ?_⟩
            refine ⟨_, rfl, ?_⟩
            refine ⟨_, rfl, ?_⟩
            refine ⟨_, _, _, _, rfl, rfl, (hc.x y3).sq, atD hj, ?_⟩
            refine ⟨_, rfl, ?_⟩
            refine ⟨_, rfl, ?_⟩
            refine ⟨_, _, rfl, rfl, ?_⟩
            refine ⟨B, _, _, _, at_ + i, arg4' (by omega), c2, by walk_at "fit", fun H6 y4 c3 => ?_⟩
            exact ⟨y3.trans y4, by rw [show bEach (bStoreSpread f cs sn (bPut 240 s2).1 at_) (List.range (i + 1)) (bPut 240 s2).2 = _ from es]; exact c3, _, rfl⟩
      · rintro σ H' ⟨y1, c1, v, rfl⟩
        exact kk _ y1 c1
    · have hp : f.packed = true := by simpa using h
      rw [hp] at kk
      simp only [if_true] at kk
      have l3 := len_noughts f.ahead s2
      have l4 := len_noughts1 f.ahead s2
      refine ⟨_, rfl, ?_⟩
      refine ⟨_, rfl, ?_⟩
      refine ⟨fa, f, rfl, hF2, fun H3 ph s3 e3 => ?_⟩
      refine ⟨_, _, _, _, rfl, rfl, SqT.of e3, rfl, ?_⟩
      refine ⟨B, s2, f.ahead, rfl, b2.same s3, by walk_at "fit", fun H4 p4 x4 b4 c4 f4 => ?_⟩
      have x5 := (x0.trans (Bx.of s3)).trans x4
      refine ⟨_, rfl, ?_⟩
      refine ⟨_, _, rfl, .inl (hc.x x5).sq, fun p5 f5 => ?_⟩
      have s5 := Same.new (o := .lst (cs.map nV)) f5
      refine ⟨_, _, _, _, rfl, rfl, s5 _ _ c4.1, upd_same, ?_, fun p6 f6 => ?_⟩
      · rw [List.length_map, List.length_map]
        exact Nat.le_of_lt (lt_line (by omega))
      rw [← List.map_append]
      have b6 := (b4.same s5).new (o := .lst (((bNoughts f.ahead s2).1 ++ cs).map nV)) f6
      have c6 := CL.new (cs := (bNoughts f.ahead s2).1 ++ cs) (b4.same s5) f6
      have x6 := (x5.trans (Bx.of s5)).trans (Bx.of (Same.new (o := .lst (((bNoughts f.ahead s2).1 ++ cs).map nV)) f6))
      have p6H : H p6 = none := (x5.trans (Bx.of s5)).fresh (b4.same s5) f6
      revert b6 c6 x6
      generalize upd (upd H4 p5 _) p6 _ = H6
      intro b6 c6 x6
      clear b4 c4 f4 x4 s5 f5 f6
      have hF6 := hF.bx hB x6
      have rest : ∀ H7 hs, hs = (bNoughts f.ahead s2).1 ++ cs ++ (if f.sg = .end_ then [sn] else []) → Bx B H H7 → BAt K H7 B (bNoughts f.ahead s2).2 → CL B H7 p6 hs → BAt K H7 B (bNoughts f.ahead s2).2 ∧ hs.length = 2 * (f.halves / 2) := by
        intro H7 hs e y c d
        refine ⟨c, ?_⟩
        rw [e, List.length_append, List.length_append, l4, hl]
        have : (if f.sg = .end_ then [sn] else []).length = f.e := by
          unfold Form.e
          split <;> rfl
        rw [this]
        unfold Form.halves Form.ahead
        omega
      refine ⟨_, rfl, ?_⟩
      refine ⟨_, _, _, _, rfl, rfl, (by assumption), rfl, ?_⟩
      refine ⟨rfl, ?_⟩
      refine ⟨_, rfl, ?_⟩
      rw [isEnd]
      generalize hpq : bNoughts f.ahead s2 = pq at *
      refine iteD (fun h5 => ?_) (fun h5 => ?_)
      · rw [if_pos h5] at kk rest
        refine ⟨_, rfl, ?_⟩
        refine ⟨.inl ⟨rfl, _, c6.sq⟩, ?_⟩
        refine ⟨_, rfl, ?_⟩
        refine ⟨_, _, _, rfl, rfl, c6.1, ?_, ?_⟩
        · rw [List.length_map, List.length_append]
          exact lt_line (by omega)
        have e7 : upd H6 p6 (.lst ((pq.1 ++ cs).map nV ++ [nV sn])) p6 = some (.lst ((pq.1 ++ cs ++ [sn]).map nV)) := by
          rw [List.map_append (l₁ := pq.1 ++ cs)]
          exact upd_same
        have b7 := b6.lst (o := .lst ((pq.1 ++ cs).map nV ++ [nV sn])) c6.2 c6.1
        have x7 := x6.new (o := .lst ((pq.1 ++ cs).map nV ++ [nV sn])) p6H
        revert e7 b7 x7
        generalize upd H6 p6 _ = H7
        intro e7 b7 x7
        have c7 : CL B H7 p6 (pq.1 ++ cs ++ [sn]) := ⟨e7, c6.2⟩
        obtain ⟨_, hlen⟩ := rest H7 _ rfl x7 b7 c7
        generalize pq.1 ++ cs ++ [sn] = hs at *
        refine ⟨_, rfl, ?_⟩
        refine ⟨_, _, rfl, .inl c7.sq, ?_⟩
        rw [List.length_map]
        refine ⟨_, _, _, f.halves / 2, rfl, rg_two hlen (by omega), ?_⟩
        refine for_rangeC (lo := 0) (c := 2) (n := f.halves / 2) (fun i σ H' => Bx B H H' ∧ BAt K H' B (bEach (bStorePacked hs at_) (List.range i) pq.2) ∧ CL B H' p6 hs ∧ ∃ v, σ = [some (.ref B.b), some (.ref fa), some (.ref a), some (nV below), some (nV at_), some (nV sn), none, v, some (.ref p6)]) ⟨x7, b7, c7, none, rfl⟩ ?_ ?_
        · rintro i σ H' hi ⟨y1, c1, d1, v, rfl⟩
          have hl1 := len_each (f := bStorePacked hs at_) (c := 4) (fun x s => len_storePacked _ _ x s) (List.range i) pq.2
          rw [List.length_range] at hl1
          have es := each_range (f := bStorePacked hs at_) i pq.2
          unfold bStorePacked at es
          refine ⟨_, rfl, ?_⟩
          refine ⟨_, rfl, ?_⟩
          refine ⟨_, rfl, ?_⟩
          rw [show (0 : Int) + (i : Nat) * 2 = ((2 * i : Nat) : Int) by omega]
          refine ⟨_, _, _, _, rfl, rfl, d1.sq, atD (by omega), ?_⟩
          refine ⟨_, rfl, ?_⟩
          refine ⟨_, rfl, ?_⟩
          refine ⟨_, _, rfl, rfl, ?_⟩
          refine ⟨_, _, _, _, rfl, rfl, d1.sq, atD (j := 2 * i + 1) (by omega), ?_⟩
          refine ⟨_, rfl, ?_⟩
          refine ⟨_, rfl, ?_⟩
          refine ⟨_, _, rfl, rfl, ⟨by decide, by decide⟩, ?_⟩
          refine ⟨_, _, rfl, rfl, ?_⟩
          refine ⟨B, _, _, _, at_ + i, arg4' (by omega), c1, by walk_at "fit", fun H8 y4 c3 => ?_⟩
          exact ⟨y1.trans y4, by rw [show bEach (bStorePacked hs at_) (List.range (i + 1)) pq.2 = _ from es]; exact c3, d1.x y4, _, rfl⟩
        · rintro σ H' ⟨y1, c1, d1, v, rfl⟩
          exact kk _ y1 c1
      · rw [if_neg h5] at kk rest
        rw [List.append_nil] at kk
        obtain ⟨_, hlen⟩ := rest H6 (pq.1 ++ cs) (by rw [List.append_nil]) x6 b6 c6
        generalize pq.1 ++ cs = hs at *
        refine ⟨_, rfl, ?_⟩
        refine ⟨_, _, rfl, .inl c6.sq, ?_⟩
        rw [List.length_map]
        refine ⟨_, _, _, f.halves / 2, rfl, rg_two hlen (by omega), ?_⟩
        refine for_rangeC (lo := 0) (c := 2) (n := f.halves / 2) (fun i σ H' => Bx B H H' ∧ BAt K H' B (bEach (bStorePacked hs at_) (List.range i) pq.2) ∧ CL B H' p6 hs ∧ ∃ v, σ = [some (.ref B.b), some (.ref fa), some (.ref a), some (nV below), some (nV at_), some (nV sn), none, v, some (.ref p6)]) ⟨x6, b6, c6, none, rfl⟩ ?_ ?_
        · rintro i σ H' hi ⟨y1, c1, d1, v, rfl⟩
          have hl1 := len_each (f := bStorePacked hs at_) (c := 4) (fun x s => len_storePacked _ _ x s) (List.range i) pq.2
          rw [List.length_range] at hl1
          have es := each_range (f := bStorePacked hs at_) i pq.2
          unfold bStorePacked at es
          refine ⟨_, rfl, ?_⟩
          refine ⟨_, rfl, ?_⟩
          refine ⟨_, rfl, ?_⟩
          rw [show (0 : Int) + (i : Nat) * 2 = ((2 * i : Nat) : Int) by omega]
          refine ⟨_, _, _, _, rfl, rfl, d1.sq, atD (by omega), ?_⟩
          refine ⟨_, rfl, ?_⟩
          refine ⟨_, rfl, ?_⟩
          refine ⟨_, _, rfl, rfl, ?_⟩
          refine ⟨_, _, _, _, rfl, rfl, d1.sq, atD (j := 2 * i + 1) (by omega), ?_⟩
          refine ⟨_, rfl, ?_⟩
          refine ⟨_, rfl, ?_⟩
          refine ⟨_, _, rfl, rfl, ⟨by decide, by decide⟩, ?_⟩
          refine ⟨_, _, rfl, rfl, ?_⟩
          refine ⟨B, _, _, _, at_ + i, arg4' (by omega), c1, by walk_at "fit", fun H8 y4 c3 => ?_⟩
          exact ⟨y1.trans y4, by rw [show bEach (bStorePacked hs at_) (List.range (i + 1)) pq.2 = _ from es]; exact c3, d1.x y4, _, rfl⟩
        · rintro σ H' ⟨y1, c1, d1, v, rfl⟩
          exact kk _ y1 c1
end
end TL
set_option Elab.async false
set_option linter.all false
set_option maxRecDepth 100000
set_option pp.maxSteps 600
set_option maxHeartbeats 4000000
namespace TL
open PySem PySem.Spec PyProof.Rows L2
/-- one question answered, where its answer is plain -/
local macro_rules | `(tactic| walk_at "p") => `(tactic| first
  | refine ⟨_, rfl, ?_⟩
  | refine ⟨_, _, rfl, rfl, ⟨by decide, by decide⟩, ?_⟩
  | refine ⟨_, _, rfl, rfl, (by show (0 : Int) < _; decide), ?_⟩
  | refine ⟨_, _, rfl, rfl, ?_⟩
  | refine ⟨rfl, ?_⟩
  | refine ⟨_, _, _, _, rfl, rfl, (by assumption), rfl, ?_⟩
  | refine .inr ⟨_, rfl, ?_⟩
  | refine .inl ⟨_, rfl, ?_⟩
  | refine iteT ?_
  | refine iteF ?_)
local macro_rules | `(tactic| walk_at "ps") => `(tactic| repeat walk_at "p")

local macro_rules | `(tactic| walk_at "fit") => `(tactic| (unfold Fit at *; (try simp only [len_row, len_cell, len_back, len_put, len_look, len_copied, len_looked, len_both, len_carried, len_joined, List.length_append, List.length_cons, List.length_nil] at *); omega))
theorem cut_last {n : Nat} (hn : 0 < n) (cs : List Nat) : cutV (cs.map nV) (some (-(n : Int))) none = (lastN n cs).map nV := by
  unfold cutV lastN
  simp only [HT.sIx, List.length_map]
  rw [if_pos (by omega), show (-(n : Int) + (cs.length : Int)).toNat = cs.length - n by omega, ← List.map_drop, ← List.map_take]
  congr 1
  rw [List.take_of_length_le (by rw [List.length_drop]; omega)]
theorem cut_take (m : Nat) (cs : List Nat) : cutV (cs.map nV) none (some (m : Int)) = (cs.take m).map nV := by
  unfold cutV
  simp only [HT.sIx, List.length_map]
  rw [if_neg (by omega), List.drop_zero, Nat.sub_zero, ← List.map_take]
  congr 1
  rw [Int.toNat_natCast]
  by_cases h : m ≤ cs.length
  · rw [Nat.min_eq_left h]
  · rw [Nat.min_eq_right (by omega), List.take_of_length_le (by omega), List.take_of_length_le (by omega)]
section
variable {P : Program} {w : World} {K : PySem.W.Frag} {mg : Str → Option Value} {base : Heap}
theorem sc_finished : FnScope ["b", "form", "figures", "below", "at", "lower", "more", "real", "seen"] ["b", "form", "figures", "below", "at"] (defScope (top 51)) := ⟨rfl, rfl, rfl, by decide +kernel, rfl, by decide +kernel, by decide +kernel⟩
theorem d_finished (T : TX w K mg) : DefOk P w K mg base 7 56 "finished" ["b", "form", "figures", "below", "at"] (spFinished K) := by
  refine mkDef T 47 rfl rfl sc_finished (fun _ _ _ _ _ _ us hl => match us, hl with | [_, _, _, _, _], _ => rfl) (fun vs H Q E h => ?_) (fun f cdv A outer s H vs Q E hr h => ?_)
  · obtain ⟨B, s, fa, f, a, cs, below, at_, rfl, hB, hF, hc, hl, hn, hn2, hf, k⟩ := h
    rfl
  · obtain ⟨B, s, fa, f, a, cs, below, at_, rfl, hB, hF, hc, hl, hn, hn2, hf, k⟩ := h
    refine ⟨_, 
        (pss_cons (ps_set (i := 5) sc_finished.nd rfl (Or.inl rfl) (pe_op op_cat (pe_callD (d_noughts T) (hr.mono (by decide)) (by rfl) (pa_cons (pv 0) (pa_cons (pe_callB (call_max2 rfl) (by rfl) T.max_ (by decide +kernel) (pa_cons pe_int (pa_cons (pe_op op_sub (pe_ix ix_tup (pv 1) pe_int (fun _ _ => rfl)) (pe_callB call_len_seq (by rfl) T.len_ (by decide +kernel) (pa_cons (pv 2) pa_nil))) pa_nil))) pa_nil))) (pe_callD (d_taken T) (hr.mono (by decide)) (by rfl) (pa_cons (pv 0) (pa_cons (pe_slice sl_list (pv 2) (po_some (pe_un un_neg (pe_ix ix_tup (pv 1) pe_int (fun _ _ => rfl)))) po_none) pa_nil))))) 
        (pss_cons (ps_set (i := 6) sc_finished.nd rfl (Or.inl rfl) (pe_callD (d_any_of T) (hr.mono (by decide)) (by rfl) (pa_cons (pv 0) (pa_cons (pe_slice sl_list (pv 2) po_none (po_some (pe_callB (call_max2 rfl) (by rfl) T.max_ (by decide +kernel) (pa_cons pe_int (pa_cons (pe_op op_sub (pe_callB call_len_seq (by rfl) T.len_ (by decide +kernel) (pa_cons (pv 2) pa_nil)) (pe_ix ix_tup (pv 1) pe_int (fun _ _ => rfl))) pa_nil))))) pa_nil)))) 
        (pss_cons (ps_set (i := 7) sc_finished.nd rfl (Or.inl rfl) (pe_callD (d_both T) (hr.mono (by decide)) (by rfl) (pa_cons (pv 0) (pa_cons (pe_callD (d_any_of T) (hr.mono (by decide)) (by rfl) (pa_cons (pv 0) (pa_cons (pv 2) pa_nil))) (pa_cons (pv 3) pa_nil))))) 
        (pss_cons (ps_if (pt_cmpR op_eq (pe_ix ix_tup (pv 1) pe_int (fun _ _ => rfl)) pe_str (nomark _)) 
          (pss_cons (ps_expr (pe_callD (d_stored T) (hr.mono (by decide)) (by rfl) (pa_cons (pv 0) (pa_cons (pv 1) (pa_cons (pv 5) (pa_cons (pe_callD (d_both T) (hr.mono (by decide)) (by rfl) (pa_cons (pv 0) (pa_cons (pe_callD (d_any_of T) (hr.mono (by decide)) (by rfl) (pa_cons (pv 0) (pa_cons (pv 5) pa_nil))) (pa_cons (pv 3) pa_nil)))) (pa_cons (pv 4) pa_nil))))))) 
          (pss_one (ps_ret (pv 6)))) pss_nil) 
        (pss_cons (ps_expr (pe_callD (d_turn_by T) (hr.mono (by decide)) (by rfl) (pa_cons (pv 0) (pa_cons (pv 5) (pa_cons (pv 7) pa_nil))))) 
        (pss_cons (ps_if (pt_cmpR op_eq (pe_ix ix_tup (pv 1) pe_int (fun _ _ => rfl)) pe_str (nomark _)) 
          (pss_cons (ps_set (i := 8) sc_finished.nd rfl (Or.inl rfl) (pe_methD (T.methB (by decide)) (m_looked T) (hr.mono (by decide)) (pv 0) (pa_cons (pe_ix ix_list (pv 5) pe_int (fun _ _ => rfl)) (pa_cons (pe_gRef (T.fnG 25 rfl rfl)) pa_nil)))) 
          (pss_cons (ps_expr (pe_methD (T.methB (by decide)) (m_row T) (hr.mono (by decide)) (pv 0) (pa_cons pe_str (pa_cons (pv 8) (pa_cons (pv 7) pa_nil))))) 
          (pss_cons (ps_expr (pe_methD (T.methB (by decide)) (m_row T) (hr.mono (by decide)) (pv 0) (pa_cons pe_str (pa_cons (pv 8) (pa_cons (pv 7) pa_nil))))) 
          (pss_cons (ps_expr (pe_methD (T.methB (by decide)) (m_look T) (hr.mono (by decide)) (pv 0) (pa_cons (pv 8) (pa_cons (pe_gRef (T.fnG 27 rfl rfl)) pa_nil)))) 
          (pss_one (ps_expr (pe_methD (T.methB (by decide)) (m_row T) (hr.mono (by decide)) (pv 0) (pa_cons pe_str (pa_cons (pv 6) (pa_cons (pv 8) pa_nil)))))))))) 
          (pss_one (ps_expr (pe_methD (T.methB (by decide)) (m_row T) (hr.mono (by decide)) (pv 0) (pa_cons pe_str (pa_cons (pv 6) (pa_cons (pv 7) pa_nil))))))) 
        (pss_cons (ps_expr (pe_callD (d_stored T) (hr.mono (by decide)) (by rfl) (pa_cons (pv 0) (pa_cons (pv 1) (pa_cons (pv 5) (pa_cons (pv 3) (pa_cons (pv 4) pa_nil))))))) 
        (pss_one (ps_ret (pv 6)))))))))), ?_⟩
    try dsimp only [L2.start, List.map, List.length_cons, List.length_nil, Nat.reduceAdd, Nat.reduceSub, List.replicate, List.cons_append, List.nil_append, List.append, List.set_cons_succ, List.set_cons_zero]
    have l1 := len_noughts (f.n - cs.length) s
    have l2 := len_taken (lastN f.n cs) (bNoughts (f.n - cs.length) s).2
    have m1 := len_noughts1 (f.n - cs.length) s
    have m2 := len_taken1 (lastN f.n cs) (bNoughts (f.n - cs.length) s).2
    have hlast : (lastN f.n cs).length = min f.n cs.length := by unfold lastN; rw [List.length_drop]; omega
    rw [hlast] at l2 m2
    have h3 := len_anyOf (cs.take (cs.length - f.n)) (bTaken (lastN f.n cs) (bNoughts (f.n - cs.length) s).2).2
    rw [List.length_take] at h3
    have h4 := len_anyOf cs (bAnyOf (cs.take (cs.length - f.n)) (bTaken (lastN f.n cs) (bNoughts (f.n - cs.length) s).2).2).2
    refine ⟨_, rfl, ?_⟩
    refine ⟨_, rfl, ?_⟩
    refine ⟨_, _, _, _, rfl, rfl, (by assumption), rfl, ?_⟩
    refine ⟨_, rfl, ?_⟩
    refine ⟨a, cs.map nV, rfl, .inl hc.sq, ?_⟩
    rw [List.length_map]
    refine ⟨_, _, rfl, rfl, ?_⟩
    refine ⟨_, _, rfl, ?_⟩
    have e1 : (if (f.n : Int) - (cs.length : Int) > 0 then (f.n : Int) - (cs.length : Int) else 0) = ((f.n - cs.length : Nat) : Int) := by split <;> omega
    rw [e1]
    refine ⟨B, s, f.n - cs.length, rfl, hB, by walk_at "fit", fun H1 p1 x1 b1 c1 f1 => ?_⟩
    have hF1 := hF.bx hB x1
    refine ⟨_, rfl, ?_⟩
    refine ⟨_, rfl, ?_⟩
    refine ⟨_, rfl, ?_⟩
    refine ⟨_, _, _, _, rfl, rfl, (by assumption), rfl, ?_⟩
    refine ⟨_, rfl, ?_⟩
    refine ⟨_, rfl, ?_⟩
    refine ⟨_, _, rfl, (hc.x x1).sq, fun p2 f2 => ?_⟩
    rw [show cutV (cs.map nV) (some (-(f.n : Int))) none = (lastN f.n cs).map nV from cut_last hn cs]
    have b2 := b1.new (o := .lst ((lastN f.n cs).map nV)) f2
    have c2 := CL.new (cs := lastN f.n cs) b1 f2
    have s2 := Same.new (o := .lst ((lastN f.n cs).map nV)) f2
    have c1' := c1.x (Bx.of s2)
    have x2 := x1.trans (Bx.of s2)
    revert b2 c2 c1' x2
    clear s2
    generalize upd H1 p2 _ = H2
    intro b2 c2 c1 x2
    refine ⟨B, _, p2, lastN f.n cs, rfl, b2, c2, by walk_at "fit", fun H3 p3 x3 b3 c3 f3 => ?_⟩
    refine ⟨_, _, _, _, rfl, rfl, (c1.x x3).1, c3.1, ?_, fun p4 f4 => ?_⟩
    · rw [List.length_map, List.length_map]
      exact Nat.le_of_lt (lt_line (by omega))
    rw [← List.map_append]
    have kk := k
    unfold bFinished at kk
    dsimp only at kk
    clear k
    have x4 := x2.trans x3
    clear x1 x2 x3 b1 b2 c1 c2 f1 f2 f3 hF1
    generalize bNoughts (f.n - cs.length) s = pn at *
    generalize bTaken (lastN f.n cs) pn.2 = q at *
    have lL : (pn.1 ++ q.1).length = f.n := by rw [List.length_append]; omega
    generalize pn.1 ++ q.1 = lower at *
    have b5 := b3.new (o := .lst (lower.map nV)) f4
    have c5 := CL.new (cs := lower) b3 f4
    have x5 := x4.trans (Bx.of (Same.new (o := .lst (lower.map nV)) f4))
    revert b5 c5 x5
    generalize upd H3 p4 _ = H5
    intro b5 c5 x5
    clear b3 c3 f4 x4
    have hF5 := hF.bx hB x5
    refine ⟨_, rfl, ?_⟩
    refine ⟨_, rfl, ?_⟩
    refine ⟨_, rfl, ?_⟩
    refine ⟨a, cs.map nV, rfl, .inl (hc.x x5).sq, ?_⟩
    rw [List.length_map]
    refine ⟨_, rfl, ?_⟩
    refine ⟨_, _, _, _, rfl, rfl, (by assumption), rfl, ?_⟩
    refine ⟨_, _, rfl, rfl, ?_⟩
    refine ⟨_, _, rfl, ?_⟩
    have e2 : (if (cs.length : Int) - (f.n : Int) > 0 then (cs.length : Int) - (f.n : Int) else 0) = ((cs.length - f.n : Nat) : Int) := by split <;> omega
    rw [e2]
    refine ⟨_, rfl, ?_⟩
    refine ⟨_, _, rfl, (hc.x x5).sq, fun p6 f6 => ?_⟩
    rw [cut_take]
    have b6 := b5.new (o := .lst ((cs.take (cs.length - f.n)).map nV)) f6
    have c6 := CL.new (cs := cs.take (cs.length - f.n)) b5 f6
    have s6 := Same.new (o := .lst ((cs.take (cs.length - f.n)).map nV)) f6
    have c5' := c5.x (Bx.of s6)
    have x6 := x5.trans (Bx.of s6)
    revert b6 c6 c5' x6
    clear s6
    generalize upd H5 p6 _ = H6
    intro b6 c6 c5 x6
    refine ⟨B, _, p6, _, rfl, b6, c6, by rw [List.length_take]; walk_at "fit", fun H7 x7 b7 => ?_⟩
    have x8 := x6.trans x7
    have c8 := c5.x x7
    clear x5 x6 b5 b6 c5 c6 f6 x7 hF5
    generalize bAnyOf (cs.take (cs.length - f.n)) q.2 = m at *
    refine ⟨_, rfl, ?_⟩
    refine ⟨_, rfl, ?_⟩
    refine ⟨_, rfl, ?_⟩
    refine ⟨B, _, a, cs, rfl, b7, hc.x x8, by walk_at "fit", fun H8 x9 b8 => ?_⟩
    generalize bAnyOf cs m.2 = an at *
    refine ⟨_, rfl, ?_⟩
    refine ⟨B, _, _, _, rfl, b8, by walk_at "fit", fun H9 xa b9 => ?_⟩
    have xb := (x8.trans x9).trans xa
    have cb := (c8.x x9).x xa
    have hF9 := hF.bx hB xb
    have h5 := len_both an.1 below an.2
    clear x8 c8 x9 xa b7 b8
    generalize bBoth an.1 below an.2 = r at *
    refine ⟨_, rfl, ?_⟩
    refine ⟨_, _, _, _, rfl, rfl, (by assumption), rfl, ?_⟩
    refine ⟨rfl, ?_⟩
    refine ⟨_, rfl, ?_⟩
    rw [isEnd]
    refine iteD (fun h => ?_) (fun h => ?_)
    · rw [h] at kk
      dsimp only at kk
      have h6 := len_anyOf lower r.2
      refine ⟨_, rfl, ?_⟩
      refine ⟨_, rfl, ?_⟩
      refine ⟨_, rfl, ?_⟩
      refine ⟨_, rfl, ?_⟩
      refine ⟨_, rfl, ?_⟩
      refine ⟨_, rfl, ?_⟩
      refine ⟨B, _, p4, lower, rfl, b9, cb, by walk_at "fit", fun Ha xc ba => ?_⟩
      generalize bAnyOf lower r.2 = a2 at *
      refine ⟨_, rfl, ?_⟩
      refine ⟨B, _, _, _, rfl, ba, by walk_at "fit", fun Hb xd bb => ?_⟩
      have h7 := len_both a2.1 below a2.2
      generalize bBoth a2.1 below a2.2 = r2 at *
      have xe := (xb.trans xc).trans xd
      refine ⟨_, rfl, ?_⟩
      refine ⟨B, _, fa, f, p4, lower, _, _, rfl, bb, hF.bx hB xe, (cb.x xc).x xd, lL, hn, hn2, by walk_at "fit", fun Hc xf bc => ?_⟩
      refine ⟨_, rfl, ?_⟩
      exact kk _ (xe.trans xf) bc
    refine ⟨_, rfl, ?_⟩
    refine ⟨_, rfl, ?_⟩
    refine ⟨_, rfl, ?_⟩
    have h6 := len_turnBy lower r.1 r.2
    refine ⟨B, _, p4, lower, _, rfl, b9, cb, by walk_at "fit", fun Ha xc ba => ?_⟩
    have xd := xb.trans xc
    have cd := cb.x xc
    have hFa := hF.bx hB xd
    have h0 : 0 < lower.length := by omega
    refine ⟨_, rfl, ?_⟩
    refine ⟨_, _, _, _, rfl, rfl, (by assumption), rfl, ?_⟩
    refine ⟨rfl, ?_⟩
    refine ⟨_, rfl, ?_⟩
    rw [isTens]
    refine iteD (fun h2 => ?_) (fun h2 => ?_)
    · rw [h2] at kk
      dsimp only at kk
      generalize bTurnBy lower r.1 r.2 = s1 at *
      refine ⟨_, rfl, ?_⟩
      refine ⟨_, _, _, rfl, ba.obj, rfl, ?_⟩
      refine ⟨_, rfl, ?_⟩
      refine ⟨_, _, _, _, rfl, rfl, cd.sq, atD h0, ?_⟩
      skip
      refine ⟨B, _, _, .five, rfl, ba, by walk_at "fit", fun Hb xe bb => ?_⟩
      have h7 := len_looked (lower.getD 0 0) .five s1
      generalize bLooked (lower.getD 0 0) .five s1 = sn at *
      refine ⟨_, rfl, ?_⟩
      refine ⟨_, _, _, rfl, bb.obj, rfl, ?_⟩
      refine ⟨_, rfl, ?_⟩
      refine ⟨_, rfl, ?_⟩
      refine ⟨B, _, .add _ _, _, _, _, rfl, rfl, bb, by walk_at "fit", fun Hc xf bc => ?_⟩
      refine ⟨_, rfl, ?_⟩
      refine ⟨_, _, _, rfl, bc.obj, rfl, ?_⟩
      refine ⟨_, rfl, ?_⟩
      refine ⟨_, rfl, ?_⟩
      refine ⟨B, _, .add _ _, _, _, _, rfl, rfl, bc, by walk_at "fit", fun Hd xg bd => ?_⟩
      refine ⟨_, rfl, ?_⟩
      refine ⟨_, _, _, rfl, bd.obj, rfl, ?_⟩
      refine ⟨_, rfl, ?_⟩
      refine ⟨B, _, _, .one2, rfl, bd, by walk_at "fit", fun He xh be => ?_⟩
      refine ⟨_, rfl, ?_⟩
      refine ⟨_, _, _, rfl, be.obj, rfl, ?_⟩
      refine ⟨_, rfl, ?_⟩
      refine ⟨_, rfl, ?_⟩
      refine ⟨B, _, .or_ _ _, _, _, _, rfl, rfl, be, by walk_at "fit", fun Hf xi bf => ?_⟩
      have xx := (((xe.trans xf).trans xg).trans xh).trans xi
      refine ⟨_, rfl, ?_⟩
      refine ⟨_, rfl, ?_⟩
      refine ⟨_, rfl, ?_⟩
      refine ⟨_, rfl, ?_⟩
      refine ⟨_, rfl, ?_⟩
      refine ⟨B, _, fa, f, p4, lower, _, _, rfl, bf, hF.bx hB (xd.trans xx), cd.x xx, lL, hn, hn2, by walk_at "fit", fun Hg xj bg => ?_⟩
      refine ⟨_, rfl, ?_⟩
      exact kk _ ((xd.trans xx).trans xj) bg
    · have h3 : f.sg = .none := by
        revert h h2
        cases f.sg <;> simp
      rw [h3] at kk
      dsimp only at kk
      generalize bTurnBy lower r.1 r.2 = s1 at *
      refine ⟨_, rfl, ?_⟩
      refine ⟨_, _, _, rfl, ba.obj, rfl, ?_⟩
      refine ⟨_, rfl, ?_⟩
      refine ⟨_, rfl, ?_⟩
      refine ⟨B, _, .or_ _ _, _, _, _, rfl, rfl, ba, by walk_at "fit", fun Hf xi bf => ?_⟩
      refine ⟨_, rfl, ?_⟩
      refine ⟨_, rfl, ?_⟩
      refine ⟨_, rfl, ?_⟩
      refine ⟨_, rfl, ?_⟩
      refine ⟨_, rfl, ?_⟩
      refine ⟨B, _, fa, f, p4, lower, _, _, rfl, bf, hF.bx hB (xd.trans xi), cd.x xi, lL, hn, hn2, by walk_at "fit", fun Hg xj bg => ?_⟩
      refine ⟨_, rfl, ?_⟩
      exact kk _ ((xd.trans xi).trans xj) bg
end
end TL
set_option Elab.async false
set_option linter.all false
set_option maxRecDepth 100000
set_option pp.maxSteps 600
set_option maxHeartbeats 4000000
namespace TL
open PySem PySem.Spec PyProof.Rows L2
/-- one question answered, where its answer is plain -/
local macro_rules | `(tactic| walk_at "p") => `(tactic| first
  | refine ⟨_, rfl, ?_⟩
  | refine ⟨_, _, rfl, rfl, ⟨by decide, by decide⟩, ?_⟩
  | refine ⟨_, _, rfl, rfl, (by show (0 : Int) < _; decide), ?_⟩
  | refine ⟨_, _, rfl, rfl, ?_⟩
  | refine ⟨rfl, ?_⟩
  | refine ⟨_, _, _, _, rfl, rfl, (by assumption), rfl, ?_⟩
  | refine .inr ⟨_, rfl, ?_⟩
  | refine .inl ⟨_, rfl, ?_⟩
  | refine iteT ?_
  | refine iteF ?_)
local macro_rules | `(tactic| walk_at "ps") => `(tactic| repeat walk_at "p")

local macro_rules | `(tactic| walk_at "fit") => `(tactic| (unfold Fit at *; (try simp only [len_row, len_cell, len_back, len_put, len_look, len_copied, len_looked, len_both, len_carried, len_joined, List.length_append, List.length_cons, List.length_nil] at *); omega))
theorem len_column (cs : List Nat) (p a b c : Nat) (s : BS) : (bColumn cs p a b c s).rows.length = s.rows.length + 8 := by
  unfold bColumn
  simp only [len_carried, len_row, len_look, len_copied]
theorem together_len (one : List Nat) (below : Nat) (other : List Nat) (beyond : Nat) (s : BS) (h : one.length = other.length) :
    (bTogether one below other beyond s).2.rows.length ≤ s.rows.length + 25 * one.length + 50 ∧ (bTogether one below other beyond s).1.1.length = one.length + 1 := by
  have n1 := len_noughts 1 s
  have l1 := len_noughts1 1 s
  have n2 := len_taken one (bNoughts 1 s).2
  have l2 := len_taken1 one (bNoughts 1 s).2
  have n3 := len_noughts 1 (bTaken one (bNoughts 1 s).2).2
  have l3 := len_noughts1 1 (bTaken one (bNoughts 1 s).2).2
  have n4 := len_taken other (bNoughts 1 (bTaken one (bNoughts 1 s).2).2).2
  have l4 := len_taken1 other (bNoughts 1 (bTaken one (bNoughts 1 s).2).2).2
  have lf : ((bNoughts 1 s).1 ++ (bTaken one (bNoughts 1 s).2).1).length = one.length + 1 := by rw [List.length_append]; omega
  have lg : ((bNoughts 1 (bTaken one (bNoughts 1 s).2).2).1 ++ (bTaken other (bNoughts 1 (bTaken one (bNoughts 1 s).2).2).2).1).length = one.length + 1 := by rw [List.length_append]; omega
  unfold bTogether
  dsimp only
  generalize (bNoughts 1 s).1 ++ (bTaken one (bNoughts 1 s).2).1 = fi at *
  generalize (bNoughts 1 (bTaken one (bNoughts 1 s).2).2).1 ++ (bTaken other (bNoughts 1 (bTaken one (bNoughts 1 s).2).2).2).1 = se at *
  generalize (bTaken other (bNoughts 1 (bTaken one (bNoughts 1 s).2).2).2).2 = s0 at *
  have m1 := len_turnBy fi below s0
  have m2 := len_turnBy se beyond (bTurnBy fi below s0)
  have m3 := len_addTo fi se (bPut 0 (bTurnBy se beyond (bTurnBy fi below s0))).1 (bPut 0 (bTurnBy se beyond (bTurnBy fi below s0))).2
  rw [len_put] at m3
  generalize bAddTo fi se _ _ = s3 at *
  have m4 := len_turnBy fi (bLooked (fi.getD 0 0) .five s3).1 (bLooked (fi.getD 0 0) .five s3).2
  rw [len_looked] at m4
  exact ⟨by omega, lf⟩
theorem range_turn {n i : Nat} (h : i < n) : (List.range n).drop (n - (i + 1)) = (n - 1 - i) :: (List.range n).drop (n - i) := by
  have e := drop_turn (xs := List.range n) (i := i) (by rw [List.length_range]; exact h)
  simp only [List.length_range, List.getElem_range] at e
  exact e
def lastV : Option Nat → V
  | some l => nV l
  | none => .non
def spColumn (K : PySem.W.Frag) : Sp := fun vs H Q _ => ∃ B s a cs p x y c, vs = [.ref B.b, .ref a, nV p, nV x, nV y, nV c] ∧ BAt K H B s ∧ CL B H a cs ∧ p < cs.length ∧ Fit s 8 ∧ ∀ H', Bx B H H' → BAt K H' B (bColumn cs p x y c s) → Q .non H'
def spColumnsOf (K : PySem.W.Frag) : Sp := fun vs H Q _ => ∃ B s a one a2 other, vs = [.ref B.b, .ref a, .ref a2] ∧ BAt K H B s ∧ CL B H a one ∧ CL B H a2 other ∧ one.length ≤ 12 ∧ other.length ≤ 12 ∧ Fit s 2000 ∧
  ∀ H' p, Bx B H H' → BAt K H' B (bColumnsOf one other s).2 → CL B H' p (bColumnsOf one other s).1 → Q (.ref p) H'
def spDiffIn (K : PySem.W.Frag) : Sp := fun vs H Q _ => ∃ B s fa f, vs = [.ref B.b, .ref fa] ∧ BAt K H B s ∧ SqT K H fa f.vs ∧ 0 < f.n ∧ f.n ≤ 100 ∧ Fit s (41 * f.n + 80) ∧
  ∀ H' q p, Bx B H H' → BAt K H' B (bDifferenceIn f s).2 → H' q = some (.tup [.ref p, nV (bDifferenceIn f s).1.2]) → CL B H' p (bDifferenceIn f s).1.1 → Q (.ref q) H'
def spPastHalf (K : PySem.W.Frag) : Sp := fun vs H Q _ => ∃ B s c a cs last, vs = [.ref B.b, nV c, .ref a, lastV last] ∧ BAt K H B s ∧ CL B H a cs ∧ Fit s (cs.length + 12) ∧ ∀ H', Bx B H H' → BAt K H' B (bPastHalf c cs last s).2 → Q (nV (bPastHalf c cs last s).1) H'
def spAddedBy (K : PySem.W.Frag) : Sp := fun vs H Q _ => ∃ B s a left a2 lost d rule, vs = [.ref B.b, .ref a, .ref a2, nV d, .str (ruleS rule)] ∧ BAt K H B s ∧ CL B H a left ∧ CL B H a2 lost ∧ 0 < lost.length ∧ Fit s (lost.length + 20) ∧
  ∀ H', Bx B H H' → BAt K H' B (bAddedBy left lost d rule s).2 → Q (nV (bAddedBy left lost d rule s).1) H'
section
variable {P : Program} {w : World} {K : PySem.W.Frag} {mg : Str → Option Value} {base : Heap}
theorem sc_difference_in : FnScope ["b", "form", "one", "below", "other", "beyond"] ["b", "form"] (defScope (top 135)) := ⟨rfl, rfl, rfl, by decide +kernel, rfl, by decide +kernel, by decide +kernel⟩
theorem d_difference_in (T : TX w K mg) : DefOk P w K mg base 7 130 "difference_in" ["b", "form"] (spDiffIn K) := by
  refine mkDef T 121 rfl rfl sc_difference_in (fun _ _ _ _ _ _ us hl => match us, hl with | [_, _], _ => rfl) (fun vs H Q E h => ?_) (fun f cdv A outer s H vs Q E hr h => ?_)
  · obtain ⟨B, s, fa, f, rfl, hB, hF, hn, hn2, hf, k⟩ := h
    rfl
  · obtain ⟨B, s, fa, f, rfl, hB, hF, hn, hn2, hf, k⟩ := h
    refine ⟨_, 
        (pss_cons (ps_asg (pe_callD (d_loaded T) (hr.mono (by decide)) (by rfl) (pa_cons (pv 0) (pa_cons (pv 1) (pa_cons pe_int pa_nil)))) (pg_tup rfl (pgs_cons (pg_name (i := 2) sc_difference_in.nd rfl (Or.inl rfl)) (pgs_cons (pg_name (i := 3) sc_difference_in.nd rfl (Or.inl rfl)) pgs_nil)))) 
        (pss_cons (ps_asg (pe_callD (d_loaded T) (hr.mono (by decide)) (by rfl) (pa_cons (pv 0) (pa_cons (pv 1) (pa_cons (pe_callD (d_width T) (hr.mono (by decide)) (by rfl) (pa_cons (pv 1) pa_nil)) pa_nil)))) (pg_tup rfl (pgs_cons (pg_name (i := 4) sc_difference_in.nd rfl (Or.inl rfl)) (pgs_cons (pg_name (i := 5) sc_difference_in.nd rfl (Or.inl rfl)) pgs_nil)))) 
        (pss_cons (ps_expr (pe_methD (T.methB (by decide)) (m_look T) (hr.mono (by decide)) (pv 0) (pa_cons (pv 5) (pa_cons (pe_gRef (T.fnG 24 rfl rfl)) pa_nil)))) 
        (pss_one (ps_ret (pe_callD (d_together T) (hr.mono (by decide)) (by rfl) (pa_cons (pv 0) (pa_cons (pv 2) (pa_cons (pv 3) (pa_cons (pv 4) (pa_cons (pv 5) pa_nil))))))))))), ?_⟩
    have l1 := len_loaded f 0 s
    have m1 := len_loaded1 f 0 s
    have l2 := len_loaded f f.width (bLoaded f 0 s).2
    have m2 := len_loaded1 f f.width (bLoaded f 0 s).2
    walk_at "ps"
    refine ⟨B, s, fa, f, 0, rfl, hB, hF, hn, hn2, by walk_at "fit", fun H1 q p x1 b1 e1 c1 => ?_⟩
    have hF1 := hF.bx hB x1
    refine ⟨_, _, rfl, SqT.of e1, rfl, _, _, rfl, _, _, rfl, rfl, ?_⟩
    walk_at "ps"
    refine ⟨fa, f, rfl, hF1, hn, hn2, fun H2 s2 => ?_⟩
    refine ⟨B, _, fa, f, f.width, rfl, b1.same s2, s2.teq hF1, hn, hn2, by walk_at "fit", fun H3 q2 p2 x3 b3 e3 c3 => ?_⟩
    refine ⟨_, _, rfl, SqT.of e3, rfl, _, _, rfl, _, _, rfl, rfl, ?_⟩
    have c2 := (c1.x (Bx.of s2)).x x3
    have x4 := (x1.trans (Bx.of s2)).trans x3
    walk_at "ps"
    refine ⟨_, _, _, rfl, b3.obj, rfl, ?_⟩
    walk_at "ps"
    refine ⟨B, _, _, .oneOf, rfl, b3, by walk_at "fit", fun H4 x5 b4 => ?_⟩
    walk_at "ps"
    refine ⟨B, _, p, _, _, p2, _, _, rfl, b4, c2.x x5, c3.x x5, by omega, by walk_at "fit", fun H5 q5 p5 x6 b5 e5 c5 => ?_⟩
    exact k _ q5 p5 ((x4.trans x5).trans x6) b5 e5 c5
theorem sc_past_half : FnScope ["b", "first", "rest", "last", "half", "more", "found"] ["b", "first", "rest", "last"] (defScope (top 85)) := ⟨rfl, rfl, rfl, by decide +kernel, rfl, by decide +kernel, by decide +kernel⟩
theorem d_past_half (T : TX w K mg) : DefOk P w K mg base 5 86 "past_half" ["b", "first", "rest", "last"] (spPastHalf K) := by
  refine mkDef T 77 rfl rfl sc_past_half (fun _ _ _ _ _ _ us hl => match us, hl with | [_, _, _, _], _ => rfl) (fun vs H Q E h => ?_) (fun f cdv A outer s H vs Q E hr h => ?_)
  · obtain ⟨B, s, c, a, cs, last, rfl, hB, hc, hf, k⟩ := h
    rfl
  · obtain ⟨B, s, c, a, cs, last, rfl, hB, hc, hf, k⟩ := h
    refine ⟨_, 
        (pss_cons (ps_set (i := 4) sc_past_half.nd rfl (Or.inl rfl) (pe_methD (T.methB (by decide)) (m_looked T) (hr.mono (by decide)) (pv 0) (pa_cons (pv 1) (pa_cons (pe_gRef (T.fnG 25 rfl rfl)) pa_nil)))) 
        (pss_cons (ps_set (i := 5) sc_past_half.nd rfl (Or.inl rfl) (pe_callD (d_any_of T) (hr.mono (by decide)) (by rfl) (pa_cons (pv 0) (pa_cons (pv 2) pa_nil)))) 
        (pss_cons (ps_if (pt_cmpR op_notN (pv 3) pe_non (nomark _)) 
          (pss_one (ps_expr (pe_methD (T.methB (by decide)) (m_row T) (hr.mono (by decide)) (pv 0) (pa_cons pe_str (pa_cons (pv 5) (pa_cons (pe_methD (T.methB (by decide)) (m_looked T) (hr.mono (by decide)) (pv 0) (pa_cons (pv 3) (pa_cons (pe_gRef (T.fnG 28 rfl rfl)) pa_nil))) pa_nil)))))) pss_nil) 
        (pss_cons (ps_set (i := 6) sc_past_half.nd rfl (Or.inl rfl) (pe_callD (d_both T) (hr.mono (by decide)) (by rfl) (pa_cons (pv 0) (pa_cons (pv 4) (pa_cons (pv 5) pa_nil))))) 
        (pss_cons (ps_expr (pe_methD (T.methB (by decide)) (m_row T) (hr.mono (by decide)) (pv 0) (pa_cons pe_str (pa_cons (pv 6) (pa_cons (pe_methD (T.methB (by decide)) (m_looked T) (hr.mono (by decide)) (pv 0) (pa_cons (pv 1) (pa_cons (pe_gRef (T.fnG 74 rfl rfl)) pa_nil))) pa_nil))))) 
        (pss_one (ps_ret (pv 6)))))))), ?_⟩
    have l1 := len_anyOf cs (bLooked c .five s).2
    walk_at "ps"
    refine ⟨_, _, _, rfl, hB.obj, rfl, ?_⟩
    walk_at "ps"
    refine ⟨B, _, _, .five, rfl, hB, by walk_at "fit", fun H1 x1 b1 => ?_⟩
    walk_at "ps"
    refine ⟨B, _, a, cs, rfl, b1, hc.x x1, by walk_at "fit", fun H2 x2 b2 => ?_⟩
    have x3 := x1.trans x2
    cases last with
    | none =>
      walk_at "ps"
      refine ⟨B, _, _, _, rfl, b2, by walk_at "fit", fun H3 x4 b3 => ?_⟩
      have lb := len_both (bLooked c .five s).1 (bAnyOf cs (bLooked c .five s).2).1 (bAnyOf cs (bLooked c .five s).2).2
      walk_at "ps"
      refine ⟨_, _, _, rfl, b3.obj, rfl, ?_⟩
      walk_at "ps"
      refine ⟨_, _, _, rfl, b3.obj, rfl, ?_⟩
      walk_at "ps"
      refine ⟨B, _, _, .six, rfl, b3, by walk_at "fit", fun H4 x5 b4 => ?_⟩
      refine ⟨B, _, .or_ _ _, _, _, _, rfl, rfl, b4, by walk_at "fit", fun H5 x6 b5 => ?_⟩
      walk_at "ps"
      exact k _ (((x3.trans x4).trans x5).trans x6) b5
    | some l =>
      walk_at "ps"
      refine ⟨_, _, _, rfl, b2.obj, rfl, ?_⟩
      walk_at "ps"
      refine ⟨_, _, _, rfl, b2.obj, rfl, ?_⟩
      walk_at "ps"
      refine ⟨B, _, _, .low2, rfl, b2, by walk_at "fit", fun H4 x5 b4 => ?_⟩
      refine ⟨B, _, .or_ _ _, _, _, _, rfl, rfl, b4, by walk_at "fit", fun H5 x6 b5 => ?_⟩
      have x7 := (x3.trans x5).trans x6
      have la : (bRow (.or_ (bAnyOf cs (bLooked c .five s).2).1 (bLooked l .low2 (bAnyOf cs (bLooked c .five s).2).2).1) (bLooked l .low2 (bAnyOf cs (bLooked c .five s).2).2).2).rows.length ≤ s.rows.length + cs.length + 7 := by
        rw [len_row, len_looked]; rw [len_looked] at l1; omega
      have kk := k
      unfold bPastHalf at kk
      dsimp only at kk
      generalize bRow (.or_ (bAnyOf cs (bLooked c .five s).2).1 (bLooked l .low2 (bAnyOf cs (bLooked c .five s).2).2).1) (bLooked l .low2 (bAnyOf cs (bLooked c .five s).2).2).2 = s5 at *
      walk_at "ps"
      refine ⟨B, _, _, _, rfl, b5, by walk_at "fit", fun H3 x4 b3 => ?_⟩
      have lb := len_both (bLooked c .five s).1 (bAnyOf cs (bLooked c .five s).2).1 s5
      walk_at "ps"
      refine ⟨_, _, _, rfl, b3.obj, rfl, ?_⟩
      walk_at "ps"
      refine ⟨_, _, _, rfl, b3.obj, rfl, ?_⟩
      walk_at "ps"
      refine ⟨B, _, _, .six, rfl, b3, by walk_at "fit", fun H4 x5 b4 => ?_⟩
      refine ⟨B, _, .or_ _ _, _, _, _, rfl, rfl, b4, by walk_at "fit", fun H5 x6 b6 => ?_⟩
      walk_at "ps"
      exact kk _ (((x7.trans x4).trans x5).trans x6) b6
theorem sc_column : FnScope ["b", "columns", "place", "first", "second", "carry", "part"] ["b", "columns", "place", "first", "second", "carry"] (defScope (top 141)) := ⟨rfl, rfl, rfl, by decide +kernel, rfl, by decide +kernel, by decide +kernel⟩
theorem d_column (T : TX w K mg) : DefOk P w K mg base 5 135 "column" ["b", "columns", "place", "first", "second", "carry"] (spColumn K) := by
  refine mkDef T 126 rfl rfl sc_column (fun _ _ _ _ _ _ us hl => match us, hl with | [_, _, _, _, _, _], _ => rfl) (fun vs H Q E h => ?_) (fun f cdv A outer s H vs Q E hr h => ?_)
  · obtain ⟨B, s, a, cs, p, x, y, c, rfl, hB, hc, hp, hf, k⟩ := h
    rfl
  · obtain ⟨B, s, a, cs, p, x, y, c, rfl, hB, hc, hp, hf, k⟩ := h
    refine ⟨_, 
        (pss_cons (ps_set (i := 6) sc_column.nd rfl (Or.inl rfl) (pe_methD (T.methB (by decide)) (m_copied T) (hr.mono (by decide)) (pv 0) (pa_cons (pv 3) pa_nil))) 
        (pss_cons (ps_expr (pe_methD (T.methB (by decide)) (m_row T) (hr.mono (by decide)) (pv 0) (pa_cons pe_str (pa_cons (pv 6) (pa_cons (pv 4) pa_nil))))) 
        (pss_cons (ps_expr (pe_methD (T.methB (by decide)) (m_look T) (hr.mono (by decide)) (pv 0) (pa_cons (pv 6) (pa_cons (pe_gRef (T.fnG 125 rfl rfl)) pa_nil)))) 
        (pss_cons (ps_expr (pe_methD (T.methB (by decide)) (m_row T) (hr.mono (by decide)) (pv 0) (pa_cons pe_str (pa_cons (pe_ix ix_list (pv 1) (pv 2) (fun _ _ => rfl)) (pa_cons (pv 6) pa_nil))))) 
        (pss_one (ps_expr (pe_callD (d_carried T) (hr.mono (by decide)) (by rfl) (pa_cons (pv 0) (pa_cons (pe_ix ix_list (pv 1) (pv 2) (fun _ _ => rfl)) (pa_cons (pv 5) pa_nil)))))))))), ?_⟩
    walk_at "ps"
    refine ⟨_, _, _, rfl, hB.obj, rfl, ?_⟩
    walk_at "ps"
    refine ⟨B, _, _, rfl, hB, by walk_at "fit", fun H1 x1 b1 => ?_⟩
    walk_at "ps"
    refine ⟨_, _, _, rfl, b1.obj, rfl, ?_⟩
    walk_at "ps"
    refine ⟨B, _, .or_ _ _, _, _, _, rfl, rfl, b1, by walk_at "fit", fun H2 x2 b2 => ?_⟩
    walk_at "ps"
    refine ⟨_, _, _, rfl, b2.obj, rfl, ?_⟩
    walk_at "ps"
    refine ⟨B, _, _, .prod, rfl, b2, by walk_at "fit", fun H3 x3 b3 => ?_⟩
    have x4 := (x1.trans x2).trans x3
    walk_at "ps"
    refine ⟨_, _, _, rfl, b3.obj, rfl, ?_⟩
    walk_at "ps"
    refine ⟨_, _, _, _, rfl, rfl, (hc.x x4).sq, atD hp, ?_⟩
    walk_at "ps"
    refine ⟨B, _, .add _ _, _, _, _, rfl, rfl, b3, by walk_at "fit", fun H4 x5 b4 => ?_⟩
    have x6 := x4.trans x5
    walk_at "ps"
    refine ⟨_, _, _, _, rfl, rfl, (hc.x x6).sq, atD hp, ?_⟩
    walk_at "ps"
    refine ⟨B, _, _, _, rfl, b4, by walk_at "fit", fun H5 x7 b5 => ?_⟩
    exact k _ (x6.trans x7) b5
theorem sc_added_by : FnScope ["b", "left", "lost", "below", "rule", "last", "found"] ["b", "left", "lost", "below", "rule"] (defScope (top 86)) := ⟨rfl, rfl, rfl, by decide +kernel, rfl, by decide +kernel, by decide +kernel⟩
theorem d_added_by (T : TX w K mg) : DefOk P w K mg base 6 87 "added_by" ["b", "left", "lost", "below", "rule"] (spAddedBy K) := by
  refine mkDef T 78 rfl rfl sc_added_by (fun _ _ _ _ _ _ us hl => match us, hl with | [_, _, _, _, _], _ => rfl) (fun vs H Q E h => ?_) (fun f cdv A outer s H vs Q E hr h => ?_)
  · obtain ⟨B, s, a, left, a2, lost, d, rule, rfl, hB, hc, hd, hz, hf, k⟩ := h
    rfl
  · obtain ⟨B, s, a, left, a2, lost, d, rule, rfl, hB, hc, hd, hz, hf, k⟩ := h
    refine ⟨_, 
        (pss_cons (ps_if (pt_cmpR op_eq (pv 4) pe_str (nomark _)) 
          (pss_one (ps_ret (pe_methD (T.methB (by decide)) (m_put T) (hr.mono (by decide)) (pv 0) (pa_cons pe_int pa_nil)))) pss_nil) 
        (pss_cons (ps_if (pt_cmpR op_eq (pv 4) pe_str (nomark _)) 
          (pss_one (ps_ret (pe_methD (T.methB (by decide)) (m_looked T) (hr.mono (by decide)) (pv 0) (pa_cons (pe_ix ix_list (pv 2) pe_int (fun _ _ => rfl)) (pa_cons (pe_gRef (T.fnG 25 rfl rfl)) pa_nil))))) pss_nil) 
        (pss_cons (ps_if (pt_cmpR op_eq (pv 4) pe_str (nomark _)) 
          (pss_cons (ps_set (i := 5) sc_added_by.nd rfl (Or.inl rfl) pe_non) 
          (pss_cons (ps_if (pt_cmpR op_gt (pe_callB call_len_seq (by rfl) T.len_ (by decide +kernel) (pa_cons (pv 1) pa_nil)) pe_int (nomark _)) 
            (pss_one (ps_set (i := 5) sc_added_by.nd rfl (Or.inl rfl) (pe_ix ix_list (pv 1) (pe_un un_neg pe_int) (fun _ _ => rfl)))) pss_nil) 
          (pss_one (ps_ret (pe_callD (d_past_half T) (hr.mono (by decide)) (by rfl) (pa_cons (pv 0) (pa_cons (pe_ix ix_list (pv 2) pe_int (fun _ _ => rfl)) (pa_cons (pe_slice sl_list (pv 2) (po_some pe_int) po_none) (pa_cons (pv 5) pa_nil))))))))) pss_nil) 
        (pss_cons (ps_set (i := 6) sc_added_by.nd rfl (Or.inl rfl) (pe_callD (d_any_of T) (hr.mono (by decide)) (by rfl) (pa_cons (pv 0) (pa_cons (pv 2) pa_nil)))) 
        (pss_cons (ps_if (pt_cmpR op_eq (pv 4) pe_str (nomark _)) 
          (pss_one (ps_ret (pe_callD (d_both T) (hr.mono (by decide)) (by rfl) (pa_cons (pv 0) (pa_cons (pv 6) (pa_cons (pv 3) pa_nil)))))) pss_nil) 
        (pss_cons (ps_if (pt_cmpR op_eq (pv 4) pe_str (nomark _)) 
          (pss_one (ps_ret (pe_callD (d_both T) (hr.mono (by decide)) (by rfl) (pa_cons (pv 0) (pa_cons (pv 6) (pa_cons (pe_methD (T.methB (by decide)) (m_looked T) (hr.mono (by decide)) (pv 0) (pa_cons (pv 3) (pa_cons (pe_gRef (T.fnG 24 rfl rfl)) pa_nil))) pa_nil)))))) pss_nil) 
        (pss_one (ps_ret (pv 6))))))))), ?_⟩
    have la := len_anyOf lost s
    cases rule with
    | cut =>
      walk_at "ps"
      refine ⟨_, _, _, rfl, hB.obj, rfl, ?_⟩
      refine ⟨B, s, 0, rfl, hB, by walk_at "fit", fun H1 x1 b1 => ?_⟩
      exact k _ x1 b1
    | half =>
      walk_at "ps"
      refine ⟨_, _, _, rfl, hB.obj, rfl, ?_⟩
      walk_at "p"
      refine ⟨_, _, _, _, rfl, rfl, hd.sq, atD hz, ?_⟩
      refine ⟨B, s, _, .five, rfl, hB, by walk_at "fit", fun H1 x1 b1 => ?_⟩
      exact k _ x1 b1
    | even =>
      walk_at "ps"
      refine ⟨a, left.map nV, rfl, .inl hc.sq, ?_⟩
      rw [List.length_map]
      have rest : ∀ last : Option Nat, left.getLast? = last → ∀ H1 p, H p = none → H1 = upd H p (.lst ((lost.drop 1).map nV)) → Fit s ((lost.drop 1).length + 12) ∧ BAt K H1 B s ∧ CL B H1 p (lost.drop 1) ∧ ∀ H', Bx B H1 H' → BAt K H' B (bPastHalf (lost.getD 0 0) (lost.drop 1) last s).2 → Q (nV (bPastHalf (lost.getD 0 0) (lost.drop 1) last s).1) H' := by
        intro last e H1 p hp e1
        subst e1
        refine ⟨by rw [List.length_drop]; walk_at "fit", hB.new hp, CL.new hB hp, fun H' x b => ?_⟩
        have kk : BAt K H' B (bPastHalf (lost.getD 0 0) (lost.drop 1) left.getLast? s).2 → Q (nV (bPastHalf (lost.getD 0 0) (lost.drop 1) left.getLast? s).1) H' := k H' ((Bx.of (Same.new hp)).trans x)
        rw [e] at kk
        exact kk b
      have cut1 : cutV (lost.map nV) (some 1) none = (lost.drop 1).map nV := by
        unfold cutV
        simp only [HT.sIx, List.length_map]
        rw [if_neg (by decide), show (1 : Int).toNat = 1 from rfl, Nat.min_eq_left hz, List.map_drop]
        rw [List.take_of_length_le (by rw [List.length_drop, List.length_map]; exact Nat.le_refl _)]
      walk_at "ps"
      refine iteD (fun h0 => ?_) (fun h0 => ?_)
      · have hne : left ≠ [] := fun z => by subst z; exact absurd h0 (by decide)
        have hgl : left.getLast? = some (left.getLast hne) := List.getLast?_eq_some_getLast hne
        have hat : atI (left.map nV) (-1) = some (nV (left.getLast hne)) := by
          have e : left.map nV = (left.dropLast).map nV ++ [nV (left.getLast hne)] := by
            rw [show [nV (left.getLast hne)] = [left.getLast hne].map nV from rfl, ← List.map_append, List.dropLast_concat_getLast]
          rw [e]
          exact atI_last _ _
        walk_at "p"
        walk_at "p"
        refine ⟨_, _, _, _, rfl, rfl, hc.sq, hat, ?_⟩
        walk_at "p"
        walk_at "p"
        refine ⟨_, _, _, _, rfl, rfl, hd.sq, atD hz, ?_⟩
        walk_at "p"
        refine ⟨_, rfl, ?_⟩
        refine ⟨_, _, rfl, hd.sq, fun p hp => ?_⟩
        rw [cut1]
        obtain ⟨f1, b1, c1, k1⟩ := rest _ hgl _ p hp rfl
        walk_at "ps"
        refine ⟨B, s, _, p, _, some _, rfl, b1, c1, f1, k1⟩
      · have hne : left = [] := List.length_eq_zero_iff.mp (by omega)
        walk_at "p"
        walk_at "p"
        refine ⟨_, _, _, _, rfl, rfl, hd.sq, atD hz, ?_⟩
        walk_at "p"
        refine ⟨_, rfl, ?_⟩
        refine ⟨_, _, rfl, hd.sq, fun p hp => ?_⟩
        rw [cut1]
        obtain ⟨f1, b1, c1, k1⟩ := rest none (by rw [hne]; rfl) _ p hp rfl
        walk_at "ps"
        refine ⟨B, s, _, p, _, none, rfl, b1, c1, f1, k1⟩
    | floor =>
      walk_at "ps"
      refine ⟨B, _, a2, lost, rfl, hB, hd, by walk_at "fit", fun H1 x1 b1 => ?_⟩
      walk_at "ps"
      refine ⟨B, _, _, _, rfl, b1, by walk_at "fit", fun H2 x2 b2 => ?_⟩
      exact k _ (x1.trans x2) b2
    | ceil =>
      walk_at "ps"
      refine ⟨B, _, a2, lost, rfl, hB, hd, by walk_at "fit", fun H1 x1 b1 => ?_⟩
      walk_at "ps"
      refine ⟨_, _, _, rfl, b1.obj, rfl, ?_⟩
      walk_at "ps"
      refine ⟨B, _, _, .oneOf, rfl, b1, by walk_at "fit", fun H2 x2 b2 => ?_⟩
      refine ⟨B, _, _, _, rfl, b2, by walk_at "fit", fun H3 x3 b3 => ?_⟩
      exact k _ ((x1.trans x2).trans x3) b3
    | up =>
      walk_at "ps"
      refine ⟨B, _, a2, lost, rfl, hB, hd, by walk_at "fit", fun H1 x1 b1 => ?_⟩
      walk_at "ps"
      exact k _ x1 b1
end
end TL
set_option Elab.async false
set_option linter.all false
set_option maxRecDepth 100000
set_option pp.maxSteps 600
set_option maxHeartbeats 4000000
namespace TL
open PySem PySem.Spec PyProof.Rows L2
/-- one question answered, where its answer is plain -/
local macro_rules | `(tactic| walk_at "p") => `(tactic| first
  | refine ⟨_, rfl, ?_⟩
  | refine ⟨_, _, rfl, rfl, ⟨by decide, by decide⟩, ?_⟩
  | refine ⟨_, _, rfl, rfl, (by show (0 : Int) < _; decide), ?_⟩
  | refine ⟨_, _, rfl, rfl, ?_⟩
  | refine ⟨rfl, ?_⟩
  | refine ⟨_, _, _, _, rfl, rfl, (by assumption), rfl, ?_⟩
  | refine .inr ⟨_, rfl, ?_⟩
  | refine .inl ⟨_, rfl, ?_⟩
  | refine iteT ?_
  | refine iteF ?_)
local macro_rules | `(tactic| walk_at "ps") => `(tactic| repeat walk_at "p")

local macro_rules | `(tactic| walk_at "fit") => `(tactic| (unfold Fit at *; (try simp only [len_row, len_cell, len_back, len_put, len_look, len_copied, len_looked, len_both, len_carried, len_joined, len_column, List.length_append, List.length_cons, List.length_nil] at *); omega))
section
variable {P : Program} {w : World} {K : PySem.W.Frag} {mg : Str → Option Value} {base : Heap}
theorem sc_columns_of : FnScope ["b", "one", "other", "columns", "highs", "figure", "carry", "free", "j", "i"] ["b", "one", "other"] (defScope (top 142)) := ⟨rfl, rfl, rfl, by decide +kernel, rfl, by decide +kernel, by decide +kernel⟩
theorem d_columns_of (T : TX w K mg) : DefOk P w K mg base 6 136 "columns_of" ["b", "one", "other"] (spColumnsOf K) := by
  refine mkDef T 127 rfl rfl sc_columns_of (fun _ _ _ _ _ _ us hl => match us, hl with | [_, _, _], _ => rfl) (fun vs H Q E h => ?_) (fun f cdv A outer s H vs Q E hr h => ?_)
  · obtain ⟨B, s, a, one, a2, other, rfl, hB, hc, hd, h1, h2, hf, k⟩ := h
    rfl
  · obtain ⟨B, s, a, one, a2, other, rfl, hB, hc, hd, h1, h2, hf, k⟩ := h
    refine ⟨_, 
        (pss_cons (ps_set (i := 3) sc_columns_of.nd rfl (Or.inl rfl) (pe_callD (d_noughts T) (hr.mono (by decide)) (by rfl) (pa_cons (pv 0) (pa_cons (pe_op op_add (pe_callB call_len_seq (by rfl) T.len_ (by decide +kernel) (pa_cons (pv 1) pa_nil)) (pe_callB call_len_seq (by rfl) T.len_ (by decide +kernel) (pa_cons (pv 2) pa_nil))) pa_nil)))) 
        (pss_cons (ps_setLc (i := 4) (own := [("figure", 5)]) (g := gName 5) (by rfl) sc_columns_of.nd rfl rfl (sw_true rfl rfl rfl (by decide +kernel)) (pi_list (pv 1)) (blkOk_by (own := [("figure", 5)]) (N := ["b", "one", "other", "columns", "highs", "figure", "carry", "free", "j", "i"]) (sc := defScope (top 142)) (by decide +kernel)) (fun _ _ _ _ _ => pg_name (i := 5) sc_columns_of.nd rfl (Or.inl rfl)) (fun _ _ _ _ _ => pts_nil) (fun _ _ _ _ _ => (pe_methD (T.methB (by decide)) (m_looked T) (hr.mono (by decide)) (pv 0) (pa_cons (pv 5) (pa_cons (pe_gRef (T.fnG 18 rfl rfl)) pa_nil))))) 
        (pss_cons (ps_set (i := 6) sc_columns_of.nd rfl (Or.inl rfl) (pe_meth0D (T.methB (by decide)) (m_cell T) (hr.mono (by decide)) (pv 0))) 
        (pss_cons (ps_set (i := 7) sc_columns_of.nd rfl (Or.inl rfl) (pe_fld (pv 0) rfl)) 
        (pss_cons (ps_for PassesOwn.never rfl (pi_range3 rfl T.range_ (pa_cons (pe_op op_sub (pe_callB call_len_seq (by rfl) T.len_ (by decide +kernel) (pa_cons (pv 2) pa_nil)) pe_int) (pa_cons (pe_un un_neg pe_int) (pa_cons (pe_un un_neg pe_int) pa_nil)))) (pg_name (i := 8) sc_columns_of.nd rfl (Or.inl rfl)) 
          (pss_cons (ps_expr (pe_methD (T.methB (by decide)) (m_row T) (hr.mono (by decide)) (pv 0) (pa_cons pe_str (pa_cons (pv 6) (pa_cons pe_int pa_nil))))) 
          (pss_cons (ps_for PassesOwn.never rfl (pi_range3 rfl T.range_ (pa_cons (pe_op op_sub (pe_callB call_len_seq (by rfl) T.len_ (by decide +kernel) (pa_cons (pv 1) pa_nil)) pe_int) (pa_cons (pe_un un_neg pe_int) (pa_cons (pe_un un_neg pe_int) pa_nil)))) (pg_name (i := 9) sc_columns_of.nd rfl (Or.inl rfl)) 
            (pss_cons (ps_expr (pe_callD (d_column T) (hr.mono (by decide)) (by rfl) (pa_cons (pv 0) (pa_cons (pv 3) (pa_cons (pe_op op_add (pe_op op_add (pv 9) (pv 8)) pe_int) (pa_cons (pe_ix ix_list (pv 4) (pv 9) (fun _ _ => rfl)) (pa_cons (pe_ix ix_list (pv 2) (pv 8) (fun _ _ => rfl)) (pa_cons (pv 6) pa_nil)))))))) 
            (pss_one (ps_expr (pe_methD (T.methB (by decide)) (m_back_to T) (hr.mono (by decide)) (pv 0) (pa_cons (pv 7) pa_nil)))))) 
          (pss_one (ps_expr (pe_methD (T.methB (by decide)) (m_row T) (hr.mono (by decide)) (pv 0) (pa_cons pe_str (pa_cons (pe_ix ix_list (pv 3) (pv 8) (fun _ _ => rfl)) (pa_cons (pv 6) pa_nil))))))))) 
        (pss_one (ps_ret (pv 3)))))))), ?_⟩
    have l1 := len_noughts (one.length + other.length) s
    have m1 := len_noughts1 (one.length + other.length) s
    have kk := k
    unfold bColumnsOf at kk
    dsimp only at kk
    clear k
    walk_at "ps"
    refine ⟨a, one.map nV, rfl, .inl hc.sq, ?_⟩
    rw [List.length_map]
    walk_at "p"
    refine ⟨a2, other.map nV, rfl, .inl hd.sq, ?_⟩
    rw [List.length_map]
    walk_at "ps"
    refine ⟨B, s, one.length + other.length, arg2 (by show ((one.length : Int) + (other.length : Int)) = _; omega), hB, by walk_at "fit", fun H1 p1 x1 b1 c1 f1 => ?_⟩
    generalize bNoughts (one.length + other.length) s = c at *
    walk_at "p"
    refine ⟨_, rfl, ⟨_, (hc.x x1).sq⟩, fun D hD => ?_⟩
    have nD := b1.out hD
    refine lc_list (K := K) (a := a) (xs := one.map nV) (fun i H' => Bx B H1 H' ∧ BAt K H' B (bMap (fun x => bLooked x .hup) (one.take i) c.2).2 ∧ H' D = some (.lst ((bMap (fun x => bLooked x .hup) (one.take i) c.2).1.map nV))) ⟨Bx.of (Same.new hD), b1.new hD, upd_same⟩ (fun i H' _ h => ((hc.x x1).x h.1).sq) ?_ ?_
    · rintro i x H' hx ⟨y1, d1, e1⟩
      rw [List.getElem?_map] at hx
      obtain ⟨d, hdx, rfl⟩ := Option.map_eq_some_iff.mp hx
      have hil : i < one.length := (List.getElem?_eq_some_iff.mp hdx).1
      refine ⟨rfl, ?_⟩
      refine ⟨_, rfl, ?_⟩
      refine ⟨_, _, _, rfl, d1.obj, rfl, ?_⟩
      have hl := len_map (f := fun x => bLooked x .hup) (c := 2) (fun x s => by rw [len_looked]; exact Nat.le_refl _) (one.take i) c.2
      have hl2 := map_len (f := fun x => bLooked x .hup) (one.take i) c.2
      rw [List.length_take] at hl hl2
      walk_at "ps"
      refine ⟨B, _, d, .hup, rfl, d1, by walk_at "fit", fun H2 x2 b2 => ?_⟩
      have es : bMap (fun x => bLooked x .hup) (one.take (i + 1)) c.2 = ((bMap (fun x => bLooked x .hup) (one.take i) c.2).1 ++ [(bLooked d .hup (bMap (fun x => bLooked x .hup) (one.take i) c.2).2).1], (bLooked d .hup (bMap (fun x => bLooked x .hup) (one.take i) c.2).2).2) := by
        rw [List.take_succ, hdx]
        exact bMap_snoc _ _ _ _
      refine ⟨_, x2 _ _ nD e1, ?_, ?_⟩
      · rw [List.length_map]
        exact lt_line (by omega)
      · rw [es]
        refine ⟨(y1.trans x2).new hD, b2.lst nD (x2 _ _ nD e1), ?_⟩
        rw [List.map_append]
        exact upd_same
    rintro H2 ⟨y1, b2, e2⟩
    rw [List.length_map, List.take_length] at b2 e2
    have hl := len_map (f := fun x => bLooked x .hup) (c := 2) (fun x s => by rw [len_looked]; exact Nat.le_refl _) one c.2
    have hl2 := map_len (f := fun x => bLooked x .hup) one c.2
    generalize bMap (fun x => bLooked x .hup) one c.2 = h at *
    have c2 : CL B H2 D h.1 := ⟨e2, nD⟩
    have x2 := x1.trans y1
    have c1' := c1.x y1
    clear c1 y1 b1 e2 x1 f1 hD
    walk_at "ps"
    refine ⟨_, _, _, rfl, b2.obj, rfl, ?_⟩
    refine ⟨B, _, rfl, b2, fun H3 x3 b3 => ?_⟩
    walk_at "p"
    refine ⟨_, _, _, _, _, rfl, b3.obj, T.clsB, T.noB (by decide), rfl, ?_⟩
    have x4 := x2.trans x3
    have c3 := c2.x x3
    have c4 := c1'.x x3
    have lk : (bCell h.2).2.rows.length = h.2.rows.length := len_cell _
    generalize bCell h.2 = kc at *
    clear x2 x3 b2 c2 c1'
    walk_at "p"
    refine ⟨a2, other.map nV, rfl, .inl (hd.x x4).sq, ?_⟩
    rw [List.length_map]
    walk_at "ps"
    refine ⟨_, _, _, other.length, rfl, rg_down (by omega), ?_⟩
    have lin : ∀ j t (is : List Nat), (bBackward (fun i s => bBack kc.2.free (bColumn c.1 (i + j + 1) (h.1.getD i 0) (other.getD j 0) kc.1 s)) is t).rows.length ≤ t.rows.length + 8 * is.length := fun j t is =>
      len_backward (fun x t => by rw [len_back, len_column]; exact Nat.le_refl _) is t
    refine for_down (n := other.length) (fun j σ H' => Bx B H H' ∧ BAt K H' B (bBackward (fun j s => bRow (.copy (c.1.getD j 0) kc.1) (bBackward (fun i s => bBack kc.2.free (bColumn c.1 (i + j + 1) (h.1.getD i 0) (other.getD j 0) kc.1 s)) (List.range one.length) (bRow (.put kc.1 0) s))) ((List.range other.length).drop (other.length - j)) kc.2) ∧ CL B H' D h.1 ∧ CL B H' p1 c.1 ∧ ∃ v v2, σ = [some (.ref B.b), some (.ref a), some (.ref a2), some (.ref p1), some (.ref D), none, some (nV kc.1), some (nV kc.2.free), v, v2]) ⟨x4, ?_, c3, c4, none, none, rfl⟩ ?_ ?_
    · rw [Nat.sub_zero, List.drop_of_length_le (by rw [List.length_range]; exact Nat.le_refl _)]
      exact b3
    · rintro j σ H4 hj ⟨y1, d1, g1, g2, v, v2, rfl⟩
      have lj := len_backward (f := fun j s => bRow (.copy (c.1.getD j 0) kc.1) (bBackward (fun i s => bBack kc.2.free (bColumn c.1 (i + j + 1) (h.1.getD i 0) (other.getD j 0) kc.1 s)) (List.range one.length) (bRow (.put kc.1 0) s))) (c := 98) (fun j t => by
        rw [len_row]
        have := lin j (bRow (.put kc.1 0) t) (List.range one.length)
        rw [len_row, List.length_range] at this
        omega) ((List.range other.length).drop (other.length - j)) kc.2
      rw [List.length_drop, List.length_range] at lj
      rw [range_turn hj]
      have es : ∀ t j' (js : List Nat), bBackward (fun j s => bRow (.copy (c.1.getD j 0) kc.1) (bBackward (fun i s => bBack kc.2.free (bColumn c.1 (i + j + 1) (h.1.getD i 0) (other.getD j 0) kc.1 s)) (List.range one.length) (bRow (.put kc.1 0) s))) (j' :: js) t =
        bRow (.copy (c.1.getD j' 0) kc.1) (bBackward (fun i s => bBack kc.2.free (bColumn c.1 (i + j' + 1) (h.1.getD i 0) (other.getD j' 0) kc.1 s)) (List.range one.length) (bRow (.put kc.1 0) (bBackward (fun j s => bRow (.copy (c.1.getD j 0) kc.1) (bBackward (fun i s => bBack kc.2.free (bColumn c.1 (i + j + 1) (h.1.getD i 0) (other.getD j 0) kc.1 s)) (List.range one.length) (bRow (.put kc.1 0) s))) js t))) := fun _ _ _ => rfl
      rw [es]
      clear es
      generalize bBackward (fun j s => bRow (.copy (c.1.getD j 0) kc.1) (bBackward (fun i s => bBack kc.2.free (bColumn c.1 (i + j + 1) (h.1.getD i 0) (other.getD j 0) kc.1 s)) (List.range one.length) (bRow (.put kc.1 0) s))) ((List.range other.length).drop (other.length - j)) kc.2 = t0 at *
      have hjo : other.length - 1 - j < other.length := by omega
      generalize other.length - 1 - j = j' at *
      walk_at "ps"
      refine ⟨_, _, _, rfl, d1.obj, rfl, ?_⟩
      walk_at "ps"
      refine ⟨B, _, .put kc.1 0, _, _, _, rfl, rfl, d1, by walk_at "fit", fun H5 x5 b5 => ?_⟩
      have y2 := y1.trans x5
      have g3 := g1.x x5
      have g4 := g2.x x5
      clear y1 g1 g2 d1 x5
      walk_at "p"
      refine ⟨a, one.map nV, rfl, .inl (hc.x y2).sq, ?_⟩
      rw [List.length_map]
      walk_at "ps"
      refine ⟨_, _, _, one.length, rfl, rg_down (by omega), ?_⟩
      refine for_down (n := one.length) (fun i σ H' => Bx B H H' ∧ BAt K H' B (bBackward (fun i s => bBack kc.2.free (bColumn c.1 (i + j' + 1) (h.1.getD i 0) (other.getD j' 0) kc.1 s)) ((List.range one.length).drop (one.length - i)) (bRow (.put kc.1 0) t0)) ∧ CL B H' D h.1 ∧ CL B H' p1 c.1 ∧ ∃ v2, σ = [some (.ref B.b), some (.ref a), some (.ref a2), some (.ref p1), some (.ref D), none, some (nV kc.1), some (nV kc.2.free), some (nV j'), v2]) ⟨y2, ?_, g3, g4, v2, rfl⟩ ?_ ?_
      · rw [Nat.sub_zero, List.drop_of_length_le (by rw [List.length_range]; exact Nat.le_refl _)]
        exact b5
      · clear y2 g3 g4 b5
        rintro i σ H6 hi ⟨y1, d1, g1, g2, v2, rfl⟩
        have li := lin j' (bRow (.put kc.1 0) t0) ((List.range one.length).drop (one.length - i))
        rw [List.length_drop, List.length_range] at li
        rw [range_turn hi]
        have es : ∀ t i' (is : List Nat), bBackward (fun i s => bBack kc.2.free (bColumn c.1 (i + j' + 1) (h.1.getD i 0) (other.getD j' 0) kc.1 s)) (i' :: is) t =
          bBack kc.2.free (bColumn c.1 (i' + j' + 1) (h.1.getD i' 0) (other.getD j' 0) kc.1 (bBackward (fun i s => bBack kc.2.free (bColumn c.1 (i + j' + 1) (h.1.getD i 0) (other.getD j' 0) kc.1 s)) is t)) := fun _ _ _ => rfl
        rw [es]
        clear es
        generalize bBackward (fun i s => bBack kc.2.free (bColumn c.1 (i + j' + 1) (h.1.getD i 0) (other.getD j' 0) kc.1 s)) ((List.range one.length).drop (one.length - i)) (bRow (.put kc.1 0) t0) = t1 at *
        have hio : one.length - 1 - i < one.length := by omega
        generalize one.length - 1 - i = i' at *
        walk_at "ps"
        refine ⟨_, _, _, _, rfl, rfl, g1.sq, atD (by omega), ?_⟩
        walk_at "ps"
        refine ⟨_, _, _, _, rfl, rfl, (hd.x y1).sq, atD hjo, ?_⟩
        walk_at "ps"
        refine ⟨B, t1, p1, c.1, i' + j' + 1, _, _, _, rfl, d1, g2, by omega, by walk_at "fit", fun H7 x7 b7 => ?_⟩
        walk_at "ps"
        refine ⟨_, _, _, rfl, b7.obj, rfl, ?_⟩
        walk_at "ps"
        refine ⟨B, _, _, rfl, b7, fun H8 x8 b8 => ?_⟩
        exact ⟨(y1.trans x7).trans x8, b8, (g1.x x7).x x8, (g2.x x7).x x8, _, rfl⟩
      · rintro σ H6 ⟨y1, d1, g1, g2, v2, rfl⟩
        rw [Nat.sub_self, List.drop_zero] at d1
        have li := lin j' (bRow (.put kc.1 0) t0) (List.range one.length)
        rw [List.length_range] at li
        walk_at "ps"
        refine ⟨_, _, _, rfl, d1.obj, rfl, ?_⟩
        walk_at "ps"
        refine ⟨_, _, _, _, rfl, rfl, g2.sq, atD (by omega), ?_⟩
        walk_at "ps"
        refine ⟨B, _, .copy _ _, _, _, _, rfl, rfl, d1, by walk_at "fit", fun H7 x7 b7 => ?_⟩
        exact ⟨y1.trans x7, b7, g1.x x7, g2.x x7, _, _, rfl⟩
    · rintro σ H4 ⟨y1, d1, g1, g2, v, v2, rfl⟩
      rw [Nat.sub_self, List.drop_zero] at d1
      walk_at "ps"
      exact kk _ p1 y1 d1 g2
end
end TL
set_option Elab.async false
set_option linter.all false
set_option maxRecDepth 100000
set_option pp.maxSteps 600
set_option maxHeartbeats 4000000
namespace TL
open PySem PySem.Spec PyProof.Rows L2
/-- one question answered, where its answer is plain -/
local macro_rules | `(tactic| walk_at "p") => `(tactic| first
  | refine ⟨_, rfl, ?_⟩
  | refine ⟨_, _, rfl, rfl, ⟨by decide, by decide⟩, ?_⟩
  | refine ⟨_, _, rfl, rfl, (by show (0 : Int) < _; decide), ?_⟩
  | refine ⟨_, _, rfl, rfl, ?_⟩
  | refine ⟨rfl, ?_⟩
  | refine ⟨_, _, _, _, rfl, rfl, (by assumption), rfl, ?_⟩
  | refine .inr ⟨_, rfl, ?_⟩
  | refine .inl ⟨_, rfl, ?_⟩
  | refine iteT ?_
  | refine iteF ?_)
local macro_rules | `(tactic| walk_at "ps") => `(tactic| repeat walk_at "p")

local macro_rules | `(tactic| walk_at "fit") => `(tactic| (unfold Fit at *; (try simp only [len_row, len_cell, len_back, len_put, len_look, len_copied, len_looked, len_both, len_carried, len_joined, len_column, List.length_append, List.length_cons, List.length_nil] at *); omega))
theorem col_len (one other : List Nat) (s : BS) (h1 : one.length ≤ 12) (h2 : other.length ≤ 12) : (bColumnsOf one other s).2.rows.length ≤ s.rows.length + 2000 ∧ (bColumnsOf one other s).1.length = one.length + other.length := by
  have l1 := len_noughts (one.length + other.length) s
  have m1 := len_noughts1 (one.length + other.length) s
  have hl := len_map (f := fun x => bLooked x .hup) (c := 2) (fun x s => by rw [len_looked]; exact Nat.le_refl _) one (bNoughts (one.length + other.length) s).2
  unfold bColumnsOf
  dsimp only
  generalize bNoughts (one.length + other.length) s = c at *
  generalize bMap (fun x => bLooked x .hup) one c.2 = h at *
  have lk : (bCell h.2).2.rows.length = h.2.rows.length := len_cell _
  generalize bCell h.2 = kc at *
  refine ⟨?_, m1⟩
  have lin : ∀ j t (is : List Nat), (bBackward (fun i s => bBack kc.2.free (bColumn c.1 (i + j + 1) (h.1.getD i 0) (other.getD j 0) kc.1 s)) is t).rows.length ≤ t.rows.length + 8 * is.length := fun j t is =>
    len_backward (fun x t => by rw [len_back, len_column]; exact Nat.le_refl _) is t
  have lj := len_backward (f := fun j s => bRow (.copy (c.1.getD j 0) kc.1) (bBackward (fun i s => bBack kc.2.free (bColumn c.1 (i + j + 1) (h.1.getD i 0) (other.getD j 0) kc.1 s)) (List.range one.length) (bRow (.put kc.1 0) s))) (c := 98) (fun j t => by
    rw [len_row]
    have := lin j (bRow (.put kc.1 0) t) (List.range one.length)
    rw [len_row, List.length_range] at this
    omega) (List.range other.length) kc.2
  rw [List.length_range] at lj
  omega
theorem diff_len (f : Form) (s : BS) : (bDifferenceIn f s).2.rows.length ≤ s.rows.length + 41 * f.n + 75 ∧ (bDifferenceIn f s).1.1.length = f.n + 1 := by
  have l1 := len_loaded f 0 s
  have m1 := len_loaded1 f 0 s
  have l2 := len_loaded f f.width (bLoaded f 0 s).2
  have m2 := len_loaded1 f f.width (bLoaded f 0 s).2
  unfold bDifferenceIn
  dsimp only
  generalize bLoaded f f.width (bLoaded f 0 s).2 = q at *
  generalize bLoaded f 0 s = p at *
  obtain ⟨l4, m4⟩ := together_len p.1.1 p.1.2 q.1.1 q.1.2 (bLook q.1.2 .oneOf q.2) (by omega)
  rw [len_look] at l4
  omega
theorem newB {K : PySem.W.Frag} {H H1 : Hp} {x dx : Addr} {o1 o2 : HO} {B : Bd} (h1 : H x = none) (h2 : H dx = none) (e1 : B.b = x) (e2 : ∀ a o, a ≠ x → upd (upd H dx o1) x o2 a = some o → H1 a = some o) (e3 : ∀ a, B.Own a → a = x ∨ upd (upd H dx o1) x o2 a = none) :
    Same H H1 ∧ ∀ a, B.Own a → H a = none := by
  refine ⟨fun a o e => e2 a o (ne_of_none e h1) ?_, fun a h => ?_⟩
  · rw [upd_ne (ne_of_none e h1), upd_ne (ne_of_none e h2)]; exact e
  · rcases e3 a h with rfl | h
    · exact h1
    · cases e : H a with
      | none => rfl
      | some o => rw [upd_ne (ne_of_none e h1), upd_ne (ne_of_none e h2), e] at h; cases h
theorem own_same {H H1 H' : Hp} {B : Bd} (n : Same H H1 ∧ ∀ a, B.Own a → H a = none) (x : Bx B H1 H') : Same H H' := fun a o e => x a o (fun h => by rw [n.2 a h] at e; cases e) (n.1 a o e)
def spRows1 (K : PySem.W.Frag) (g : Form → BS) : Sp := fun vs H Q _ => ∃ fa f, vs = [.ref fa] ∧ SqT K H fa f.vs ∧ 0 < f.n ∧ f.n ≤ 100 ∧ ∀ H' q, Same H H' → PAt H' q (g f).rows → Q (.ref q) H'
def spRekept (K : PySem.W.Frag) : Sp := fun vs H Q _ => ∃ fa f fb g, vs = [.ref fa, .ref fb] ∧ SqT K H fa f.vs ∧ SqT K H fb g.vs ∧ 0 < f.n ∧ f.n ≤ 100 ∧ 0 < g.n ∧ g.n ≤ 100 ∧ ∀ H' q, Same H H' → PAt H' q (bRekept f g).rows → Q (.ref q) H'
def spProduct (K : PySem.W.Frag) : Sp := fun vs H Q _ => ∃ fa f m, vs = [.ref fa, nV m] ∧ SqT K H fa f.vs ∧ 0 < f.n ∧ 0 < m ∧ f.n + m ≤ 12 ∧ ∀ H' q, Same H H' → PAt H' q (bProduct f m).rows → Q (.ref q) H'
def spMoved (K : PySem.W.Frag) : Sp := fun vs H Q _ => ∃ fa f by_ rule, vs = [.ref fa, .int by_, .str (ruleS rule)] ∧ SqT K H fa f.vs ∧ 0 < f.n ∧ f.n ≤ 12 ∧ by_.natAbs ≤ f.n ∧ ∀ H' q, Same H H' → PAt H' q (bMoved f by_ rule).rows → Q (.ref q) H'
section
variable {P : Program} {w : World} {K : PySem.W.Frag} {mg : Str → Option Value} {base : Heap}
theorem sc_sum_rows : FnScope ["form", "b", "one", "below", "other", "beyond", "total", "under"] ["form"] (defScope (top 147)) := ⟨rfl, rfl, rfl, by decide +kernel, rfl, by decide +kernel, by decide +kernel⟩
theorem d_sum_rows (T : TX w K mg) : DefOk P w K mg base 8 139 "sum_rows" ["form"] (spRows1 K bSum) := by
  refine mkDef T 130 rfl rfl sc_sum_rows (fun _ _ _ _ _ _ us hl => match us, hl with | [_], _ => rfl) (fun vs H Q E h => ?_) (fun f cdv A outer s H vs Q E hr h => ?_)
  · obtain ⟨fa, f, rfl, hF, hn, hn2, k⟩ := h
    rfl
  · obtain ⟨fa, f, rfl, hF, hn, hn2, k⟩ := h
    refine ⟨_, 
        (pss_cons (ps_set (i := 1) sc_sum_rows.nd rfl (Or.inl rfl) (pe_make0D T.mkB (m___init__ T) (hr.mono (by decide)) (T.obj 32 rfl rfl))) 
        (pss_cons (ps_asg (pe_callD (d_loaded T) (hr.mono (by decide)) (by rfl) (pa_cons (pv 1) (pa_cons (pv 0) (pa_cons pe_int pa_nil)))) (pg_tup rfl (pgs_cons (pg_name (i := 2) sc_sum_rows.nd rfl (Or.inl rfl)) (pgs_cons (pg_name (i := 3) sc_sum_rows.nd rfl (Or.inl rfl)) pgs_nil)))) 
        (pss_cons (ps_asg (pe_callD (d_loaded T) (hr.mono (by decide)) (by rfl) (pa_cons (pv 1) (pa_cons (pv 0) (pa_cons (pe_callD (d_width T) (hr.mono (by decide)) (by rfl) (pa_cons (pv 0) pa_nil)) pa_nil)))) (pg_tup rfl (pgs_cons (pg_name (i := 4) sc_sum_rows.nd rfl (Or.inl rfl)) (pgs_cons (pg_name (i := 5) sc_sum_rows.nd rfl (Or.inl rfl)) pgs_nil)))) 
        (pss_cons (ps_asg (pe_callD (d_together T) (hr.mono (by decide)) (by rfl) (pa_cons (pv 1) (pa_cons (pv 2) (pa_cons (pv 3) (pa_cons (pv 4) (pa_cons (pv 5) pa_nil)))))) (pg_tup rfl (pgs_cons (pg_name (i := 6) sc_sum_rows.nd rfl (Or.inl rfl)) (pgs_cons (pg_name (i := 7) sc_sum_rows.nd rfl (Or.inl rfl)) pgs_nil)))) 
        (pss_one (ps_ret (pe_methD (T.methB (by decide)) (m_ended T) (hr.mono (by decide)) (pv 1) (pa_cons (pe_callD (d_finished T) (hr.mono (by decide)) (by rfl) (pa_cons (pv 1) (pa_cons (pv 0) (pa_cons (pv 6) (pa_cons (pv 7) (pa_cons pe_int pa_nil)))))) pa_nil)))))))), ?_⟩
    refine fun x dx h1 h2 h3 => ⟨x, dx, rfl, upd_same, fun H0 B e1 e2 e3 hB => ⟨rfl, ?_⟩⟩
    have hN := newB (K := K) h1 h2 e1 e2 e3
    subst e1
    have l0 : bStart.rows.length = 0 := rfl
    have l1 := len_loaded f 0 bStart
    have m1 := len_loaded1 f 0 bStart
    have l2 := len_loaded f f.width (bLoaded f 0 bStart).2
    have m2 := len_loaded1 f f.width (bLoaded f 0 bStart).2
    have hF0 := hN.1.teq hF
    have kk := k
    unfold bSum at kk
    dsimp only at kk
    walk_at "ps"
    refine ⟨B, _, fa, f, 0, rfl, hB, hF0, hn, hn2, by walk_at "fit", fun H1 q p x1 b1 e1 c1 => ?_⟩
    have hF1 := hF0.bx hB x1
    refine ⟨_, _, rfl, SqT.of e1, rfl, _, _, rfl, _, _, rfl, rfl, ?_⟩
    walk_at "ps"
    refine ⟨fa, f, rfl, hF1, hn, hn2, fun H2 s2 => ?_⟩
    refine ⟨B, _, fa, f, f.width, rfl, b1.same s2, s2.teq hF1, hn, hn2, by walk_at "fit", fun H3 q2 p2 x3 b3 e3 c3 => ?_⟩
    refine ⟨_, _, rfl, SqT.of e3, rfl, _, _, rfl, _, _, rfl, rfl, ?_⟩
    have c2 := (c1.x (Bx.of s2)).x x3
    have x4 := (x1.trans (Bx.of s2)).trans x3
    obtain ⟨l4, m4⟩ := together_len (bLoaded f 0 bStart).1.1 (bLoaded f 0 bStart).1.2 (bLoaded f f.width (bLoaded f 0 bStart).2).1.1 (bLoaded f f.width (bLoaded f 0 bStart).2).1.2 (bLoaded f f.width (bLoaded f 0 bStart).2).2 (by omega)
    walk_at "ps"
    refine ⟨B, _, p, _, _, p2, _, _, rfl, b3, c2, c3, by omega, by walk_at "fit", fun H5 q5 p5 x6 b5 e5 c5 => ?_⟩
    generalize bTogether (bLoaded f 0 bStart).1.1 (bLoaded f 0 bStart).1.2 (bLoaded f f.width (bLoaded f 0 bStart).2).1.1 (bLoaded f f.width (bLoaded f 0 bStart).2).1.2 (bLoaded f f.width (bLoaded f 0 bStart).2).2 = t at *
    refine ⟨_, _, rfl, SqT.of e5, rfl, _, _, rfl, _, _, rfl, rfl, ?_⟩
    have x7 := x4.trans x6
    have l5 := len_finished f t.1.1 t.1.2 0 t.2
    walk_at "p"
    refine ⟨_, _, _, rfl, b5.obj, rfl, ?_⟩
    walk_at "ps"
    refine ⟨B, _, fa, f, p5, _, _, 0, rfl, b5, hF0.bx hB x7, c5, by omega, hn, hn2, by walk_at "fit", fun H6 x8 b6 => ?_⟩
    refine ⟨B, _, _, rfl, b6, by walk_at "fit", fun H7 q7 x9 p7 => ?_⟩
    exact kk H7 q7 (own_same hN ((x7.trans x8).trans x9)) p7
theorem sc_difference_rows : FnScope ["form", "b", "total", "under"] ["form"] (defScope (top 136)) := ⟨rfl, rfl, rfl, by decide +kernel, rfl, by decide +kernel, by decide +kernel⟩
theorem d_difference_rows (T : TX w K mg) : DefOk P w K mg base 8 131 "difference_rows" ["form"] (spRows1 K bDifference) := by
  refine mkDef T 122 rfl rfl sc_difference_rows (fun _ _ _ _ _ _ us hl => match us, hl with | [_], _ => rfl) (fun vs H Q E h => ?_) (fun f cdv A outer s H vs Q E hr h => ?_)
  · obtain ⟨fa, f, rfl, hF, hn, hn2, k⟩ := h
    rfl
  · obtain ⟨fa, f, rfl, hF, hn, hn2, k⟩ := h
    refine ⟨_, 
        (pss_cons (ps_set (i := 1) sc_difference_rows.nd rfl (Or.inl rfl) (pe_make0D T.mkB (m___init__ T) (hr.mono (by decide)) (T.obj 32 rfl rfl))) 
        (pss_cons (ps_asg (pe_callD (d_difference_in T) (hr.mono (by decide)) (by rfl) (pa_cons (pv 1) (pa_cons (pv 0) pa_nil))) (pg_tup rfl (pgs_cons (pg_name (i := 2) sc_difference_rows.nd rfl (Or.inl rfl)) (pgs_cons (pg_name (i := 3) sc_difference_rows.nd rfl (Or.inl rfl)) pgs_nil)))) 
        (pss_one (ps_ret (pe_methD (T.methB (by decide)) (m_ended T) (hr.mono (by decide)) (pv 1) (pa_cons (pe_callD (d_finished T) (hr.mono (by decide)) (by rfl) (pa_cons (pv 1) (pa_cons (pv 0) (pa_cons (pv 2) (pa_cons (pv 3) (pa_cons pe_int pa_nil)))))) pa_nil)))))), ?_⟩
    refine fun x dx h1 h2 h3 => ⟨x, dx, rfl, upd_same, fun H0 B e1 e2 e3 hB => ⟨rfl, ?_⟩⟩
    have hN := newB (K := K) h1 h2 e1 e2 e3
    subst e1
    have l0 : bStart.rows.length = 0 := rfl
    obtain ⟨l4, m4⟩ := diff_len f bStart
    have hF0 := hN.1.teq hF
    have kk := k
    unfold bDifference at kk
    dsimp only at kk
    walk_at "ps"
    refine ⟨B, _, fa, f, rfl, hB, hF0, hn, hn2, by walk_at "fit", fun H5 q5 p5 x7 b5 e5 c5 => ?_⟩
    generalize bDifferenceIn f bStart = t at *
    refine ⟨_, _, rfl, SqT.of e5, rfl, _, _, rfl, _, _, rfl, rfl, ?_⟩
    have l5 := len_finished f t.1.1 t.1.2 0 t.2
    walk_at "p"
    refine ⟨_, _, _, rfl, b5.obj, rfl, ?_⟩
    walk_at "ps"
    refine ⟨B, _, fa, f, p5, _, _, 0, rfl, b5, hF0.bx hB x7, c5, by omega, hn, hn2, by walk_at "fit", fun H6 x8 b6 => ?_⟩
    refine ⟨B, _, _, rfl, b6, by walk_at "fit", fun H7 q7 x9 p7 => ?_⟩
    exact kk H7 q7 (own_same hN ((x7.trans x8).trans x9)) p7
theorem sc_compare_rows : FnScope ["form", "b", "total", "under", "there", "less"] ["form"] (defScope (top 137)) := ⟨rfl, rfl, rfl, by decide +kernel, rfl, by decide +kernel, by decide +kernel⟩
theorem d_compare_rows (T : TX w K mg) : DefOk P w K mg base 8 132 "compare_rows" ["form"] (spRows1 K bCompare) := by
  refine mkDef T 123 rfl rfl sc_compare_rows (fun _ _ _ _ _ _ us hl => match us, hl with | [_], _ => rfl) (fun vs H Q E h => ?_) (fun f cdv A outer s H vs Q E hr h => ?_)
  · obtain ⟨fa, f, rfl, hF, hn, hn2, k⟩ := h
    rfl
  · obtain ⟨fa, f, rfl, hF, hn, hn2, k⟩ := h
    refine ⟨_, 
        (pss_cons (ps_set (i := 1) sc_compare_rows.nd rfl (Or.inl rfl) (pe_make0D T.mkB (m___init__ T) (hr.mono (by decide)) (T.obj 32 rfl rfl))) 
        (pss_cons (ps_asg (pe_callD (d_difference_in T) (hr.mono (by decide)) (by rfl) (pa_cons (pv 1) (pa_cons (pv 0) pa_nil))) (pg_tup rfl (pgs_cons (pg_name (i := 2) sc_compare_rows.nd rfl (Or.inl rfl)) (pgs_cons (pg_name (i := 3) sc_compare_rows.nd rfl (Or.inl rfl)) pgs_nil)))) 
        (pss_cons (ps_set (i := 4) sc_compare_rows.nd rfl (Or.inl rfl) (pe_callD (d_any_of T) (hr.mono (by decide)) (by rfl) (pa_cons (pv 1) (pa_cons (pv 2) pa_nil)))) 
        (pss_cons (ps_set (i := 5) sc_compare_rows.nd rfl (Or.inl rfl) (pe_callD (d_both T) (hr.mono (by decide)) (by rfl) (pa_cons (pv 1) (pa_cons (pv 3) (pa_cons (pv 4) pa_nil))))) 
        (pss_cons (ps_expr (pe_methD (T.methB (by decide)) (m_row T) (hr.mono (by decide)) (pv 1) (pa_cons pe_str (pa_cons (pv 4) (pa_cons (pv 5) pa_nil))))) 
        (pss_cons (ps_expr (pe_methD (T.methB (by decide)) (m_row T) (hr.mono (by decide)) (pv 1) (pa_cons pe_str (pa_cons (pv 4) (pa_cons (pv 5) pa_nil))))) 
        (pss_cons (ps_expr (pe_methD (T.methB (by decide)) (m_look T) (hr.mono (by decide)) (pv 1) (pa_cons (pv 4) (pa_cons (pe_gRef (T.fnG 29 rfl rfl)) pa_nil)))) 
        (pss_cons (ps_expr (pe_methD (T.methB (by decide)) (m_row T) (hr.mono (by decide)) (pv 1) (pa_cons pe_str (pa_cons pe_int (pa_cons (pv 4) pa_nil))))) 
        (pss_one (ps_ret (pe_methD (T.methB (by decide)) (m_ended T) (hr.mono (by decide)) (pv 1) (pa_cons (pe_methD (T.methB (by decide)) (m_put T) (hr.mono (by decide)) (pv 1) (pa_cons pe_int pa_nil)) pa_nil)))))))))))), ?_⟩
    refine fun x dx h1 h2 h3 => ⟨x, dx, rfl, upd_same, fun H0 B e1 e2 e3 hB => ⟨rfl, ?_⟩⟩
    have hN := newB (K := K) h1 h2 e1 e2 e3
    subst e1
    have l0 : bStart.rows.length = 0 := rfl
    obtain ⟨l4, m4⟩ := diff_len f bStart
    have hF0 := hN.1.teq hF
    have kk := k
    unfold bCompare at kk
    dsimp only at kk
    walk_at "ps"
    refine ⟨B, _, fa, f, rfl, hB, hF0, hn, hn2, by walk_at "fit", fun H5 q5 p5 x7 b5 e5 c5 => ?_⟩
    generalize bDifferenceIn f bStart = t at *
    refine ⟨_, _, rfl, SqT.of e5, rfl, _, _, rfl, _, _, rfl, rfl, ?_⟩
    have l5 := len_anyOf t.1.1 t.2
    walk_at "ps"
    refine ⟨B, _, p5, _, rfl, b5, c5, by walk_at "fit", fun H6 x8 b6 => ?_⟩
    generalize bAnyOf t.1.1 t.2 = an at *
    walk_at "ps"
    refine ⟨B, _, _, _, rfl, b6, by walk_at "fit", fun H7 x9 b7 => ?_⟩
    have l6 := len_both t.1.2 an.1 an.2
    generalize bBoth t.1.2 an.1 an.2 = l at *
    have xa := (x7.trans x8).trans x9
    walk_at "ps"
    refine ⟨_, _, _, rfl, b7.obj, rfl, ?_⟩
    walk_at "ps"
    refine ⟨B, _, .add _ _, _, _, _, rfl, rfl, b7, by walk_at "fit", fun Hc xf bc => ?_⟩
    walk_at "ps"
    refine ⟨_, _, _, rfl, bc.obj, rfl, ?_⟩
    walk_at "ps"
    refine ⟨B, _, .add _ _, _, _, _, rfl, rfl, bc, by walk_at "fit", fun Hd xg bd => ?_⟩
    walk_at "ps"
    refine ⟨_, _, _, rfl, bd.obj, rfl, ?_⟩
    walk_at "ps"
    refine ⟨B, _, _, .ordB, rfl, bd, by walk_at "fit", fun He xh be => ?_⟩
    walk_at "ps"
    refine ⟨_, _, _, rfl, be.obj, rfl, ?_⟩
    walk_at "ps"
    refine ⟨B, _, .copy 0 _, _, _, _, rfl, rfl, be, by walk_at "fit", fun Hf xi bf => ?_⟩
    have xx := (((xa.trans xf).trans xg).trans xh).trans xi
    walk_at "ps"
    refine ⟨_, _, _, rfl, bf.obj, rfl, ?_⟩
    walk_at "ps"
    refine ⟨_, _, _, rfl, bf.obj, rfl, ?_⟩
    refine ⟨B, _, 0, rfl, bf, by walk_at "fit", fun Hg xj bg => ?_⟩
    refine ⟨B, _, _, rfl, bg, by walk_at "fit", fun H7 q7 x9 p7 => ?_⟩
    exact kk H7 q7 (own_same hN ((xx.trans xj).trans x9)) p7
theorem sc_rekept_rows : FnScope ["one", "other", "b", "figures", "below"] ["one", "other"] (defScope (top 145)) := ⟨rfl, rfl, rfl, by decide +kernel, rfl, by decide +kernel, by decide +kernel⟩
theorem d_rekept_rows (T : TX w K mg) : DefOk P w K mg base 8 138 "rekept_rows" ["one", "other"] (spRekept K) := by
  refine mkDef T 129 rfl rfl sc_rekept_rows (fun _ _ _ _ _ _ us hl => match us, hl with | [_, _], _ => rfl) (fun vs H Q E h => ?_) (fun f cdv A outer s H vs Q E hr h => ?_)
  · obtain ⟨fa, f, fb, g, rfl, hF, hG, hn, hn2, hm, hm2, k⟩ := h
    rfl
  · obtain ⟨fa, f, fb, g, rfl, hF, hG, hn, hn2, hm, hm2, k⟩ := h
    refine ⟨_, 
        (pss_cons (ps_set (i := 2) sc_rekept_rows.nd rfl (Or.inl rfl) (pe_make0D T.mkB (m___init__ T) (hr.mono (by decide)) (T.obj 32 rfl rfl))) 
        (pss_cons (ps_asg (pe_callD (d_loaded T) (hr.mono (by decide)) (by rfl) (pa_cons (pv 2) (pa_cons (pv 0) (pa_cons pe_int pa_nil)))) (pg_tup rfl (pgs_cons (pg_name (i := 3) sc_rekept_rows.nd rfl (Or.inl rfl)) (pgs_cons (pg_name (i := 4) sc_rekept_rows.nd rfl (Or.inl rfl)) pgs_nil)))) 
        (pss_one (ps_ret (pe_methD (T.methB (by decide)) (m_ended T) (hr.mono (by decide)) (pv 2) (pa_cons (pe_callD (d_finished T) (hr.mono (by decide)) (by rfl) (pa_cons (pv 2) (pa_cons (pv 1) (pa_cons (pv 3) (pa_cons (pv 4) (pa_cons pe_int pa_nil)))))) pa_nil)))))), ?_⟩
    refine fun x dx h1 h2 h3 => ⟨x, dx, rfl, upd_same, fun H0 B e1 e2 e3 hB => ⟨rfl, ?_⟩⟩
    have hN := newB (K := K) h1 h2 e1 e2 e3
    subst e1
    have l0 : bStart.rows.length = 0 := rfl
    have l1 := len_loaded f 0 bStart
    have m1 := len_loaded1 f 0 bStart
    have hF0 := hN.1.teq hF
    have hG0 := hN.1.teq hG
    have kk := k
    unfold bRekept at kk
    dsimp only at kk
    walk_at "ps"
    refine ⟨B, _, fa, f, 0, rfl, hB, hF0, hn, hn2, by walk_at "fit", fun H1 q p x1 b1 e1 c1 => ?_⟩
    generalize bLoaded f 0 bStart = t at *
    refine ⟨_, _, rfl, SqT.of e1, rfl, _, _, rfl, _, _, rfl, rfl, ?_⟩
    have l5 := len_finished g t.1.1 t.1.2 0 t.2
    walk_at "p"
    refine ⟨_, _, _, rfl, b1.obj, rfl, ?_⟩
    walk_at "ps"
    refine ⟨B, _, fb, g, p, _, _, 0, rfl, b1, hG0.bx hB x1, c1, by omega, hm, hm2, by walk_at "fit", fun H6 x8 b6 => ?_⟩
    refine ⟨B, _, _, rfl, b6, by walk_at "fit", fun H7 q7 x9 p7 => ?_⟩
    exact kk H7 q7 (own_same hN ((x1.trans x8).trans x9)) p7
end
end TL
set_option Elab.async false
set_option linter.all false
set_option maxRecDepth 100000
set_option pp.maxSteps 600
set_option maxHeartbeats 4000000
namespace TL
open PySem PySem.Spec PyProof.Rows L2
/-- one question answered, where its answer is plain -/
local macro_rules | `(tactic| walk_at "p") => `(tactic| first
  | refine ⟨_, rfl, ?_⟩
  | refine ⟨_, _, rfl, rfl, ⟨by decide, by decide⟩, ?_⟩
  | refine ⟨_, _, rfl, rfl, (by show (0 : Int) < _; decide), ?_⟩
  | refine ⟨_, _, rfl, rfl, ?_⟩
  | refine ⟨rfl, ?_⟩
  | refine ⟨_, _, _, _, rfl, rfl, (by assumption), rfl, ?_⟩
  | refine .inr ⟨_, rfl, ?_⟩
  | refine .inl ⟨_, rfl, ?_⟩
  | refine iteT ?_
  | refine iteF ?_)
local macro_rules | `(tactic| walk_at "ps") => `(tactic| repeat walk_at "p")

local macro_rules | `(tactic| walk_at "fit") => `(tactic| (unfold Fit at *; (try simp only [len_row, len_cell, len_back, len_put, len_look, len_copied, len_looked, len_both, len_carried, len_joined, len_column, List.length_append, List.length_cons, List.length_nil] at *); omega))
theorem len_pastHalf (c : Nat) (cs : List Nat) (last : Option Nat) (s : BS) : (bPastHalf c cs last s).2.rows.length ≤ s.rows.length + cs.length + 12 := by
  have l1 := len_anyOf cs (bLooked c .five s).2
  rw [len_looked] at l1
  unfold bPastHalf
  cases last with
  | none =>
    dsimp only
    rw [len_row, len_looked, len_both]
    omega
  | some l =>
    dsimp only
    rw [len_row, len_looked, len_both, len_row, len_looked]
    omega
theorem len_addedBy (left lost : List Nat) (d : Nat) (rule : Rule) (s : BS) : (bAddedBy left lost d rule s).2.rows.length ≤ s.rows.length + lost.length + 20 := by
  have l1 := len_anyOf lost s
  unfold bAddedBy
  cases rule
  · show (bPut 0 s).2.rows.length ≤ _
    rw [len_put]; omega
  · dsimp only; omega
  · dsimp only; rw [len_looked]; omega
  · have := len_pastHalf (lost.getD 0 0) (lost.drop 1) left.getLast? s
    rw [List.length_drop] at this
    dsimp only; omega
  · dsimp only; rw [len_both]; omega
  · dsimp only; rw [len_both, len_looked]; omega
section
variable {P : Program} {w : World} {K : PySem.W.Frag} {mg : Str → Option Value} {base : Heap}
theorem sc_product_rows : FnScope ["form", "figures", "kind", "many", "sign", "point", "b", "one", "below", "other", "beyond", "under", "columns"] ["form", "figures"] (defScope (top 143)) := ⟨rfl, rfl, rfl, by decide +kernel, rfl, by decide +kernel, by decide +kernel⟩
theorem d_product_rows (T : TX w K mg) : DefOk P w K mg base 8 137 "product_rows" ["form", "figures"] (spProduct K) := by
  refine mkDef T 128 rfl rfl sc_product_rows (fun _ _ _ _ _ _ us hl => match us, hl with | [_, _], _ => rfl) (fun vs H Q E h => ?_) (fun f cdv A outer s H vs Q E hr h => ?_)
  · obtain ⟨fa, f, m, rfl, hF, hn, hm, hnm, k⟩ := h
    rfl
  · obtain ⟨fa, f, m, rfl, hF, hn, hm, hnm, k⟩ := h
    refine ⟨_, 
        (pss_cons (ps_if (PW.pt (pw_or (pt_cmpR op_lt (pv 1) pe_int (nomark _)) (pw_or1 (pt_cmpR op_gt (pe_op op_add (pe_ix ix_tup (pv 0) pe_int (fun _ _ => rfl)) (pv 1)) (pe_gInt (T.int 124)) (nomark _))))) pss_never pss_nil) 
        (pss_cons (ps_asg (pv 0) (pg_tup rfl (pgs_cons (pg_name (i := 2) sc_product_rows.nd rfl (Or.inl rfl)) (pgs_cons (pg_name (i := 3) sc_product_rows.nd rfl (Or.inl rfl)) (pgs_cons (pg_name (i := 4) sc_product_rows.nd rfl (Or.inl rfl)) (pgs_cons (pg_name (i := 5) sc_product_rows.nd rfl (Or.inl rfl)) pgs_nil)))))) 
        (pss_cons (ps_set (i := 6) sc_product_rows.nd rfl (Or.inl rfl) (pe_make0D T.mkB (m___init__ T) (hr.mono (by decide)) (T.obj 32 rfl rfl))) 
        (pss_cons (ps_asg (pe_callD (d_loaded T) (hr.mono (by decide)) (by rfl) (pa_cons (pv 6) (pa_cons (pv 0) (pa_cons pe_int pa_nil)))) (pg_tup rfl (pgs_cons (pg_name (i := 7) sc_product_rows.nd rfl (Or.inl rfl)) (pgs_cons (pg_name (i := 8) sc_product_rows.nd rfl (Or.inl rfl)) pgs_nil)))) 
        (pss_cons (ps_asg (pe_callD (d_loaded T) (hr.mono (by decide)) (by rfl) (pa_cons (pv 6) (pa_cons (pe_tup (pa_cons (pv 2) (pa_cons (pv 1) (pa_cons (pv 4) (pa_cons pe_int pa_nil))))) (pa_cons (pe_callD (d_width T) (hr.mono (by decide)) (by rfl) (pa_cons (pv 0) pa_nil)) pa_nil)))) (pg_tup rfl (pgs_cons (pg_name (i := 9) sc_product_rows.nd rfl (Or.inl rfl)) (pgs_cons (pg_name (i := 10) sc_product_rows.nd rfl (Or.inl rfl)) pgs_nil)))) 
        (pss_cons (ps_set (i := 11) sc_product_rows.nd rfl (Or.inl rfl) (pe_methD (T.methB (by decide)) (m_copied T) (hr.mono (by decide)) (pv 6) (pa_cons (pv 8) pa_nil))) 
        (pss_cons (ps_expr (pe_methD (T.methB (by decide)) (m_row T) (hr.mono (by decide)) (pv 6) (pa_cons pe_str (pa_cons (pv 11) (pa_cons (pv 10) pa_nil))))) 
        (pss_cons (ps_expr (pe_methD (T.methB (by decide)) (m_look T) (hr.mono (by decide)) (pv 6) (pa_cons (pv 11) (pa_cons (pe_gRef (T.fnG 28 rfl rfl)) pa_nil)))) 
        (pss_cons (ps_set (i := 12) sc_product_rows.nd rfl (Or.inl rfl) (pe_callD (d_columns_of T) (hr.mono (by decide)) (by rfl) (pa_cons (pv 6) (pa_cons (pv 7) (pa_cons (pv 9) pa_nil))))) 
        (pss_one (ps_ret (pe_methD (T.methB (by decide)) (m_ended T) (hr.mono (by decide)) (pv 6) (pa_cons (pe_callD (d_finished T) (hr.mono (by decide)) (by rfl) (pa_cons (pv 6) (pa_cons (pe_tup (pa_cons (pv 2) (pa_cons (pe_op op_add (pv 3) (pv 1)) (pa_cons (pv 4) (pa_cons pe_int pa_nil))))) (pa_cons (pv 12) (pa_cons (pv 11) (pa_cons pe_int pa_nil)))))) pa_nil))))))))))))), ?_⟩
    try dsimp only [L2.start, List.map, List.length_cons, List.length_nil, Nat.reduceAdd, Nat.reduceSub, List.replicate, List.cons_append, List.nil_append, List.append, List.set_cons_succ, List.set_cons_zero]
    refine ⟨_, rfl, ?_⟩
    refine ⟨_, _, rfl, rfl, ?_⟩
    refine ⟨_, rfl, ?_⟩
    refine iteD (fun h => ?_) (fun _ => ?_)
    · exact absurd (show (m : Int) < 1 from h) (by omega)
    refine ⟨_, rfl, ?_⟩
    refine ⟨_, _, _, _, rfl, rfl, (by assumption), rfl, ?_⟩
    refine ⟨_, rfl, ?_⟩
    refine ⟨_, _, rfl, rfl, ?_⟩
    refine ⟨_, _, rfl, rfl, ?_⟩
    refine ⟨_, rfl, ?_⟩
    refine iteD (fun h => ?_) (fun _ => ?_)
    · exact absurd (show (f.n : Int) + (m : Int) > 12 from h) (by omega)
    refine ⟨_, rfl, ?_⟩
    refine ⟨_, _, rfl, hF, rfl, _, _, rfl, _, _, rfl, _, _, rfl, _, _, rfl, rfl, ?_⟩
    try dsimp only [L2.start, List.map, List.length_cons, List.length_nil, Nat.reduceAdd, Nat.reduceSub, List.replicate, List.cons_append, List.nil_append, List.append, List.set_cons_succ, List.set_cons_zero]
    refine fun x dx h1 h2 h3 => ⟨x, dx, rfl, upd_same, fun H0 B e1 e2 e3 hB => ⟨rfl, ?_⟩⟩
    have hN := newB (K := K) h1 h2 e1 e2 e3
    subst e1
    try dsimp only [L2.start, List.map, List.length_cons, List.length_nil, Nat.reduceAdd, Nat.reduceSub, List.replicate, List.cons_append, List.nil_append, List.append, List.set_cons_succ, List.set_cons_zero]
    have l0 : bStart.rows.length = 0 := rfl
    have l1 := len_loaded f 0 bStart
    have m1 := len_loaded1 f 0 bStart
    have hF0 := hN.1.teq hF
    have kk := k
    unfold bProduct at kk
    dsimp only at kk
    have hn2 : f.n ≤ 100 := by omega
    refine ⟨_, rfl, ?_⟩
    refine ⟨_, rfl, ?_⟩
    refine ⟨B, _, fa, f, 0, rfl, hB, hF0, hn, hn2, by walk_at "fit", fun H1 q p x1 b1 e1 c1 => ?_⟩
    generalize bLoaded f 0 bStart = t1 at *
    have hF1 := hF0.bx hB x1
    refine ⟨_, _, rfl, SqT.of e1, rfl, _, _, rfl, _, _, rfl, rfl, ?_⟩
    try dsimp only [L2.start, List.map, List.length_cons, List.length_nil, Nat.reduceAdd, Nat.reduceSub, List.replicate, List.cons_append, List.nil_append, List.append, List.set_cons_succ, List.set_cons_zero]
    refine ⟨_, rfl, ?_⟩
    refine ⟨_, rfl, ?_⟩
    refine ⟨_, rfl, ?_⟩
    refine ⟨_, rfl, ?_⟩
    refine ⟨(by decide : 4 ≤ sizeLine), fun pg hpg => ?_⟩
    have sg := Same.new (o := .tup (Form.vs ⟨f.packed, m, f.sg, 0⟩)) hpg
    have eg : upd H1 pg (.tup (Form.vs ⟨f.packed, m, f.sg, 0⟩)) pg = _ := upd_same
    have bg := b1.same sg
    have hFg := sg.teq hF1
    have xg := x1.trans (Bx.of sg)
    have cg := c1.x (Bx.of sg)
    refine ⟨_, rfl, ?_⟩
    refine ⟨fa, f, rfl, hFg, hn, hn2, fun H3 s3 => ?_⟩
    have l2 := len_loaded ⟨f.packed, m, f.sg, 0⟩ f.width t1.2
    have m2 := len_loaded1 ⟨f.packed, m, f.sg, 0⟩ f.width t1.2
    have l2' : (bLoaded ⟨f.packed, m, f.sg, 0⟩ f.width t1.2).2.rows.length ≤ t1.2.rows.length + 8 * m + 10 := l2
    have m2' : (bLoaded ⟨f.packed, m, f.sg, 0⟩ f.width t1.2).1.1.length = m := m2
    refine ⟨B, _, pg, ⟨f.packed, m, f.sg, 0⟩, f.width, rfl, bg.same s3, SqT.of (s3 _ _ eg), hm, (by show m ≤ 100; omega), (by show Fit _ (8 * m + 10); walk_at "fit"), fun H4 q2 p2 x4 b4 e4 c4 => ?_⟩
    have c5 := (cg.x (Bx.of s3)).x x4
    have x5 := (xg.trans (Bx.of s3)).trans x4
    clear l2 m2
    generalize bLoaded ⟨f.packed, m, f.sg, 0⟩ f.width t1.2 = t2 at *
    refine ⟨_, _, rfl, SqT.of e4, rfl, _, _, rfl, _, _, rfl, rfl, ?_⟩
    try dsimp only [L2.start, List.map, List.length_cons, List.length_nil, Nat.reduceAdd, Nat.reduceSub, List.replicate, List.cons_append, List.nil_append, List.append, List.set_cons_succ, List.set_cons_zero]
    refine ⟨_, rfl, ?_⟩
    refine ⟨_, _, _, rfl, b4.obj, rfl, ?_⟩
    refine ⟨_, rfl, ?_⟩
    refine ⟨B, _, _, rfl, b4, by walk_at "fit", fun H5 x6 b5 => ?_⟩
    refine ⟨_, rfl, ?_⟩
    refine ⟨_, _, _, rfl, b5.obj, rfl, ?_⟩
    refine ⟨_, rfl, ?_⟩
    refine ⟨_, rfl, ?_⟩
    refine ⟨B, _, .add _ _, _, _, _, rfl, rfl, b5, by walk_at "fit", fun H6 x7 b6 => ?_⟩
    refine ⟨_, rfl, ?_⟩
    refine ⟨_, _, _, rfl, b6.obj, rfl, ?_⟩
    refine ⟨_, rfl, ?_⟩
    refine ⟨B, _, _, .low2, rfl, b6, by walk_at "fit", fun H7 x8 b7 => ?_⟩
    have x9 := (x6.trans x7).trans x8
    have lu : (bLook (bCopied t1.1.2 t2.2).1 .low2 (bRow (.add (bCopied t1.1.2 t2.2).1 t2.1.2) (bCopied t1.1.2 t2.2).2)).rows.length = t2.2.rows.length + 3 := by
      rw [len_look, len_row, len_copied]
    generalize bLook (bCopied t1.1.2 t2.2).1 .low2 (bRow (.add (bCopied t1.1.2 t2.2).1 t2.1.2) (bCopied t1.1.2 t2.2).2) = s3' at *
    obtain ⟨lc, mc⟩ := col_len t1.1.1 t2.1.1 s3' (by omega) (by omega)
    refine ⟨_, rfl, ?_⟩
    refine ⟨_, rfl, ?_⟩
    refine ⟨_, rfl, ?_⟩
    refine ⟨B, _, p, _, p2, _, rfl, b7, c5.x x9, c4.x x9, by omega, by omega, by walk_at "fit", fun H8 p8 xa b8 c8 => ?_⟩
    generalize bColumnsOf t1.1.1 t2.1.1 s3' = tc at *
    have xb := (x5.trans x9).trans xa
    refine ⟨_, rfl, ?_⟩
    refine ⟨_, _, _, rfl, b8.obj, rfl, ?_⟩
    refine ⟨_, rfl, ?_⟩
    refine ⟨_, rfl, ?_⟩
    refine ⟨_, rfl, ?_⟩
    refine ⟨_, rfl, ?_⟩
    refine ⟨_, _, rfl, rfl, ?_⟩
    refine ⟨_, rfl, ?_⟩
    refine ⟨(by decide : 4 ≤ sizeLine), fun ph hph => ?_⟩
    have sh := Same.new (o := .tup (Form.vs ⟨f.packed, f.n + m, f.sg, 0⟩)) hph
    have eh : upd H8 ph (.tup (Form.vs ⟨f.packed, f.n + m, f.sg, 0⟩)) ph = _ := upd_same
    refine ⟨_, rfl, ?_⟩
    refine ⟨_, rfl, ?_⟩
    have l5 := len_finished ⟨f.packed, f.n + m, f.sg, 0⟩ tc.1 (bCopied t1.1.2 t2.2).1 0 tc.2
    have l5' : (bFinished ⟨f.packed, f.n + m, f.sg, 0⟩ tc.1 (bCopied t1.1.2 t2.2).1 0 tc.2).2.rows.length ≤ tc.2.rows.length + 14 * (f.n + m) + 3 * tc.1.length + 60 := l5
    clear l5
    refine ⟨B, _, ph, ⟨f.packed, f.n + m, f.sg, 0⟩, p8, _, _, 0, rfl, b8.same sh, SqT.of eh, c8.x (Bx.of sh), by omega, (by show 0 < f.n + m; omega), (by show f.n + m ≤ 100; omega), (by show Fit _ (14 * (f.n + m) + 3 * tc.1.length + 60); walk_at "fit"), fun H9 xc b9 => ?_⟩
    refine ⟨B, _, _, rfl, b9, by walk_at "fit", fun Ha qa xd pa => ?_⟩
    exact kk Ha qa (own_same hN (((xb.trans (Bx.of sh)).trans xc).trans xd)) pa
end
end TL
set_option Elab.async false
set_option linter.all false
set_option maxRecDepth 100000
set_option pp.maxSteps 600
set_option maxHeartbeats 4000000
namespace TL
open PySem PySem.Spec PyProof.Rows L2
/-- one question answered, where its answer is plain -/
local macro_rules | `(tactic| walk_at "p") => `(tactic| first
  | refine ⟨_, rfl, ?_⟩
  | refine ⟨_, _, rfl, rfl, ⟨by decide, by decide⟩, ?_⟩
  | refine ⟨_, _, rfl, rfl, (by show (0 : Int) < _; decide), ?_⟩
  | refine ⟨_, _, rfl, rfl, ?_⟩
  | refine ⟨rfl, ?_⟩
  | refine ⟨_, _, _, _, rfl, rfl, (by assumption), rfl, ?_⟩
  | refine .inr ⟨_, rfl, ?_⟩
  | refine .inl ⟨_, rfl, ?_⟩
  | refine iteT ?_
  | refine iteF ?_)
local macro_rules | `(tactic| walk_at "ps") => `(tactic| repeat walk_at "p")

local macro_rules | `(tactic| walk_at "fit") => `(tactic| (unfold Fit at *; (try simp only [len_row, len_cell, len_back, len_put, len_look, len_copied, len_looked, len_both, len_carried, len_joined, len_column, List.length_append, List.length_cons, List.length_nil] at *); omega))
section
variable {P : Program} {w : World} {K : PySem.W.Frag} {mg : Str → Option Value} {base : Heap}
theorem cut_drop (m : Nat) (cs : List Nat) (hm : m ≤ cs.length) : cutV (cs.map nV) (some (m : Int)) none = (cs.drop m).map nV := by
  unfold cutV
  simp only [HT.sIx, List.length_map]
  rw [if_neg (by omega), Int.toNat_natCast, Nat.min_eq_left hm, ← List.map_drop, List.take_of_length_le (by rw [List.length_map, List.length_drop]; exact Nat.le_refl _)]
theorem sc_moved_rows : FnScope ["form", "by", "rule", "b", "figures", "below", "left", "carry", "size", "cell"] ["form", "by", "rule"] (defScope (top 87)) := ⟨rfl, rfl, rfl, by decide +kernel, rfl, by decide +kernel, by decide +kernel⟩
theorem d_moved_rows (T : TX w K mg) : DefOk P w K mg base 8 88 "moved_rows" ["form", "by", "rule"] (spMoved K) := by
  refine mkDef T 79 rfl rfl sc_moved_rows (fun _ _ _ _ _ _ us hl => match us, hl with | [_, _, _], _ => rfl) (fun vs H Q E h => ?_) (fun f cdv A outer s H vs Q E hr h => ?_)
  · obtain ⟨fa, f, by_, rule, rfl, hF, hn, hn12, hby, k⟩ := h
    rfl
  · obtain ⟨fa, f, by_, rule, rfl, hF, hn, hn12, hby, k⟩ := h
    refine ⟨_, 
        (pss_cons (ps_if (pt_cmpR op_notIn_seq (pv 2) (pe_gRef (T.obj 73 rfl rfl)) (by rfl)) pss_never pss_nil) 
        (pss_cons (ps_if (pt_cmpR op_gt (pe_callB call_abs (by rfl) T.abs_ (by decide +kernel) (pa_cons (pv 1) pa_nil)) (pe_ix ix_tup (pv 0) pe_int (fun _ _ => rfl)) (nomark _)) pss_never pss_nil) 
        (pss_cons (ps_set (i := 3) sc_moved_rows.nd rfl (Or.inl rfl) (pe_make0D T.mkB (m___init__ T) (hr.mono (by decide)) (T.obj 32 rfl rfl))) 
        (pss_cons (ps_asg (pe_callD (d_loaded T) (hr.mono (by decide)) (by rfl) (pa_cons (pv 3) (pa_cons (pv 0) (pa_cons pe_int pa_nil)))) (pg_tup rfl (pgs_cons (pg_name (i := 4) sc_moved_rows.nd rfl (Or.inl rfl)) (pgs_cons (pg_name (i := 5) sc_moved_rows.nd rfl (Or.inl rfl)) pgs_nil)))) 
        (pss_cons (ps_if (pt_cmpR op_ge (pv 1) pe_int (nomark _)) 
          (pss_one (ps_ret (pe_methD (T.methB (by decide)) (m_ended T) (hr.mono (by decide)) (pv 3) (pa_cons (pe_callD (d_finished T) (hr.mono (by decide)) (by rfl) (pa_cons (pv 3) (pa_cons (pv 0) (pa_cons (pe_op op_cat (pv 4) (pe_callD (d_noughts T) (hr.mono (by decide)) (by rfl) (pa_cons (pv 3) (pa_cons (pv 1) pa_nil)))) (pa_cons (pv 5) (pa_cons pe_int pa_nil)))))) pa_nil)))) pss_nil) 
        (pss_cons (ps_set (i := 6) sc_moved_rows.nd rfl (Or.inl rfl) (pe_slice sl_list (pv 4) po_none (po_some (pe_op op_add (pe_ix ix_tup (pv 0) pe_int (fun _ _ => rfl)) (pv 1))))) 
        (pss_cons (ps_set (i := 7) sc_moved_rows.nd rfl (Or.inl rfl) (pe_callD (d_added_by T) (hr.mono (by decide)) (by rfl) (pa_cons (pv 3) (pa_cons (pv 6) (pa_cons (pe_slice sl_list (pv 4) (po_some (pe_op op_add (pe_ix ix_tup (pv 0) pe_int (fun _ _ => rfl)) (pv 1))) po_none) (pa_cons (pv 5) (pa_cons (pv 2) pa_nil))))))) 
        (pss_cons (ps_set (i := 8) sc_moved_rows.nd rfl (Or.inl rfl) (pe_op op_cat (pe_callD (d_noughts T) (hr.mono (by decide)) (by rfl) (pa_cons (pv 3) (pa_cons pe_int pa_nil))) (pv 6))) 
        (pss_cons (ps_for PassesOwn.never rfl (pi_reversed (by rfl) T.reversed_ (pa_cons (pv 8) pa_nil)) (pg_name (i := 9) sc_moved_rows.nd rfl (Or.inl rfl)) 
          (pss_one (ps_expr (pe_callD (d_carried T) (hr.mono (by decide)) (by rfl) (pa_cons (pv 3) (pa_cons (pv 9) (pa_cons (pv 7) pa_nil))))))) 
        (pss_one (ps_ret (pe_methD (T.methB (by decide)) (m_ended T) (hr.mono (by decide)) (pv 3) (pa_cons (pe_callD (d_finished T) (hr.mono (by decide)) (by rfl) (pa_cons (pv 3) (pa_cons (pv 0) (pa_cons (pv 8) (pa_cons (pv 5) (pa_cons pe_int pa_nil)))))) pa_nil))))))))))))), ?_⟩
    have hn2 : f.n ≤ 100 := by omega
    walk_at "ps"
    refine ⟨_, _, rfl, .inr (tupAt_ok T.tups.2.2.2 _), rfl, rfl, ?_⟩
    walk_at "ps"
    have e : inV (V.str (ruleS rule)) [V.str "cut", V.str "up", V.str "half", V.str "even", V.str "floor", V.str "ceil"] = true := by cases rule <;> decide
    rw [e]
    refine iteF ?_
    walk_at "ps"
    refine iteD (fun h => ?_) (fun _ => ?_)
    · have ea : (if by_ < 0 then -by_ else by_) = (by_.natAbs : Int) := by split <;> omega
      exact absurd (show (if by_ < 0 then -by_ else by_) > (f.n : Int) from h) (by rw [ea]; omega)
    refine fun x dx h1 h2 h3 => ⟨x, dx, rfl, upd_same, fun H0 B e1 e2 e3 hB => ⟨rfl, ?_⟩⟩
    have hN := newB (K := K) h1 h2 e1 e2 e3
    subst e1
    have l0 : bStart.rows.length = 0 := rfl
    have l1 := len_loaded f 0 bStart
    have m1 := len_loaded1 f 0 bStart
    have hF0 := hN.1.teq hF
    have kk := k
    unfold bMoved at kk
    dsimp only at kk
    walk_at "ps"
    refine ⟨B, _, fa, f, 0, rfl, hB, hF0, hn, hn2, by walk_at "fit", fun H1 q p x1 b1 e1 c1 => ?_⟩
    generalize bLoaded f 0 bStart = t1 at *
    have hF1 := hF0.bx hB x1
    refine ⟨_, _, rfl, SqT.of e1, rfl, _, _, rfl, _, _, rfl, rfl, ?_⟩
    clear k
    walk_at "ps"
    refine iteD (fun h0 => ?_) (fun h0 => ?_)
    · have h0 : 0 ≤ by_ := h0
      rw [if_pos h0] at kk
      have lz := len_noughts by_.toNat t1.2
      have mz := len_noughts1 by_.toNat t1.2
      walk_at "p"
      refine ⟨_, _, _, rfl, b1.obj, rfl, ?_⟩
      walk_at "ps"
      refine ⟨B, _, by_.toNat, arg2 (by omega), b1, by walk_at "fit", fun H2 p2 x2 b2 c2 f2 => ?_⟩
      generalize bNoughts by_.toNat t1.2 = z at *
      refine ⟨_, _, _, _, rfl, rfl, (c1.x x2).1, c2.1, ?_, fun p3 f3 => ?_⟩
      · rw [List.length_map, List.length_map]
        exact Nat.le_of_lt (lt_line (by omega))
      rw [← List.map_append]
      have b3 := b2.new (o := .lst ((t1.1.1 ++ z.1).map nV)) f3
      have c3 := CL.new (cs := t1.1.1 ++ z.1) b2 f3
      have x3 := (x1.trans x2).trans (Bx.of (Same.new (o := .lst ((t1.1.1 ++ z.1).map nV)) f3))
      have lz2 : (t1.1.1 ++ z.1).length = f.n + by_.toNat := by rw [List.length_append]; omega
      have l5 := len_finished f (t1.1.1 ++ z.1) t1.1.2 0 z.2
      generalize t1.1.1 ++ z.1 = cs at *
      walk_at "ps"
      refine ⟨B, _, fa, f, p3, cs, _, 0, rfl, b3, hF0.bx hB x3, c3, by omega, hn, hn2, by walk_at "fit", fun H6 x8 b6 => ?_⟩
      refine ⟨B, _, _, rfl, b6, by walk_at "fit", fun H7 q7 x9 p7 => ?_⟩
      exact kk H7 q7 (own_same hN ((x3.trans x8).trans x9)) p7
    have h0 : ¬ 0 ≤ by_ := h0
    rw [if_neg h0] at kk
    generalize hk : f.n - (-by_).toNat = kx at *
    have ek : (f.n : Int) + by_ = (kx : Int) := by omega
    walk_at "p"
    walk_at "p"
    walk_at "p"
    walk_at "p"
    walk_at "p"
    refine ⟨_, rfl, ?_⟩
    refine ⟨_, _, rfl, c1.sq, fun p2 f2 => ?_⟩
    rw [ek, cut_take]
    have b2 := b1.new (o := .lst ((t1.1.1.take kx).map nV)) f2
    have c2 := CL.new (cs := t1.1.1.take kx) b1 f2
    have s2 := Same.new (o := .lst ((t1.1.1.take kx).map nV)) f2
    have x2 := x1.trans (Bx.of s2)
    have d2 := c1.x (Bx.of s2)
    have hF2 := hF0.bx hB x2
    have lt1 : (t1.1.1.take kx).length = kx := by rw [List.length_take]; omega
    have lt2 : (t1.1.1.drop kx).length = f.n - kx := by rw [List.length_drop]; omega
    revert b2 c2 x2 d2 hF2
    clear s2
    generalize upd H1 p2 _ = H2
    intro b2 c2 x2 d2 hF2
    walk_at "p"
    walk_at "p"
    walk_at "p"
    walk_at "p"
    walk_at "p"
    walk_at "p"
    walk_at "p"
    refine ⟨_, rfl, ?_⟩
    refine ⟨_, _, rfl, d2.sq, fun p3 f3 => ?_⟩
    rw [ek, cut_drop kx _ (by omega)]
    have b3 := b2.new (o := .lst ((t1.1.1.drop kx).map nV)) f3
    have c3 := CL.new (cs := t1.1.1.drop kx) b2 f3
    have s3 := Same.new (o := .lst ((t1.1.1.drop kx).map nV)) f3
    have x3 := x2.trans (Bx.of s3)
    have d3 := c2.x (Bx.of s3)
    revert b3 c3 x3 d3
    clear s3
    generalize upd H2 p3 _ = H3
    intro b3 c3 x3 d3
    clear b2 c2 x2 d2 hF2 f2 f3
    have la := len_addedBy (t1.1.1.take kx) (t1.1.1.drop kx) t1.1.2 rule t1.2
    walk_at "ps"
    refine ⟨B, _, p2, _, p3, _, _, rule, rfl, b3, d3, c3, by omega, by walk_at "fit", fun H4 x4 b4 => ?_⟩
    generalize t1.1.1.drop kx = lost at *
    generalize t1.1.1.take kx = left at *
    generalize bAddedBy left lost t1.1.2 rule t1.2 = c at *
    have x5 := x3.trans x4
    have d5 := d3.x x4
    have lz := len_noughts 1 c.2
    have mz := len_noughts1 1 c.2
    walk_at "ps"
    refine ⟨B, _, 1, rfl, b4, by walk_at "fit", fun H5 p5 x6 b5 c5 f5 => ?_⟩
    generalize bNoughts 1 c.2 = z at *
    walk_at "p"
    refine ⟨_, _, _, _, rfl, rfl, c5.1, (d5.x x6).1, ?_, fun p6 f6 => ?_⟩
    · rw [List.length_map, List.length_map]
      exact Nat.le_of_lt (lt_line (by omega))
    rw [← List.map_append]
    have b6 := b5.new (o := .lst ((z.1 ++ left).map nV)) f6
    have c6 := CL.new (cs := z.1 ++ left) b5 f6
    have x7 := (x5.trans x6).trans (Bx.of (Same.new (o := .lst ((z.1 ++ left).map nV)) f6))
    have lz2 : (z.1 ++ left).length = 1 + kx := by rw [List.length_append]; omega
    generalize z.1 ++ left = size at *
    revert b6 c6 x7
    generalize upd H5 p6 _ = H6
    intro b6 c6 x7
    walk_at "p"
    refine ⟨p6, size.map nV, rfl, c6.sq, ?_⟩
    refine RT.for_Itv (K := K) (a := p6) (xs := size.map nV) (fun i σ H' => Bx B H0 H' ∧ BAt K H' B (bBackward (fun x => bCarried x c.1) (size.drop (size.length - i)) z.2) ∧ CL B H' p6 size ∧ ∃ v, σ = [some (.ref fa), some (.int by_), some (.str (ruleS rule)), some (.ref B.b), some (.ref p), some (nV t1.1.2), some (.ref p2), some (nV c.1), some (.ref p6), v]) ⟨x7, by rw [Nat.sub_zero, List.drop_length]; exact b6, c6, none, rfl⟩ (fun i σ H' h => h.2.2.1.sq) ?_ ?_
    · rintro i x σ H' hi hx ⟨y1, d1, g1, v, rfl⟩
      rw [List.length_map] at hi hx
      have hj : size.length - 1 - i < size.length := by omega
      rw [List.getElem?_map, List.getElem?_eq_getElem hj] at hx
      obtain rfl := Option.some.inj hx
      have hlb := len_backward (f := fun x => bCarried x c.1) (c := 4) (fun x t => by rw [len_carried]; exact Nat.le_refl _) (size.drop (size.length - i)) z.2
      rw [List.length_drop] at hlb
      have e := drop_turn (xs := size) (i := i) hi
      walk_at "ps"
      refine ⟨B, _, _, _, rfl, d1, by walk_at "fit", fun H7 x8 b7 => ?_⟩
      refine ⟨y1.trans x8, ?_, g1.x x8, _, rfl⟩
      rw [e]
      exact b7
    · rintro σ H' ⟨y1, d1, g1, v, rfl⟩
      rw [List.length_map, Nat.sub_self, List.drop_zero] at d1
      have hlb := len_backward (f := fun x => bCarried x c.1) (c := 4) (fun x t => by rw [len_carried]; exact Nat.le_refl _) size z.2
      have l5 := len_finished f size t1.1.2 0 (bBackward (fun x => bCarried x c.1) size z.2)
      walk_at "p"
      refine ⟨_, _, _, rfl, d1.obj, rfl, ?_⟩
      walk_at "ps"
      refine ⟨B, _, fa, f, p6, size, _, 0, rfl, d1, hF0.bx hB y1, g1, by omega, hn, hn2, by walk_at "fit", fun H8 x8 b8 => ?_⟩
      refine ⟨B, _, _, rfl, b8, by walk_at "fit", fun H9 q9 x9 p9 => ?_⟩
      exact kk H9 q9 (own_same hN ((y1.trans x8).trans x9)) p9
end
end TL
set_option Elab.async false
set_option linter.all false
set_option maxRecDepth 100000
set_option pp.maxSteps 600
set_option maxHeartbeats 4000000
namespace TL
open PySem PySem.Spec PyProof.Rows L2
/-- one question answered, where its answer is plain -/
local macro_rules | `(tactic| walk_at "p") => `(tactic| first
  | refine ⟨_, rfl, ?_⟩
  | refine ⟨_, _, rfl, rfl, ⟨by decide, by decide⟩, ?_⟩
  | refine ⟨_, _, rfl, rfl, (by show (0 : Int) < _; decide), ?_⟩
  | refine ⟨_, _, rfl, rfl, ?_⟩
  | refine ⟨rfl, ?_⟩
  | refine ⟨_, _, _, _, rfl, rfl, (by assumption), rfl, ?_⟩
  | refine .inr ⟨_, rfl, ?_⟩
  | refine .inl ⟨_, rfl, ?_⟩
  | refine iteT ?_
  | refine iteF ?_)
local macro_rules | `(tactic| walk_at "ps") => `(tactic| repeat walk_at "p")

/-! ### keeping -/
theorem small_len {n : Nat} (h : n ≤ 100000) : n ≤ sizeLine := by rw [show sizeLine = 16777216 from sizeLine_eq]; omega
theorem for_enum {K : PySem.W.Frag} {a : Addr} {xs : List V} {g : TG} {tb : TS} {D : Ends} {σ : L2.St} {H : Hp} (Pv : Nat → L2.St → Hp → Prop) (h0 : Pv 0 σ H) (hl : ∀ i σ H, i ≤ xs.length → Pv i σ H → SqL K H a xs)
    (hs : ∀ i x σ H T, xs[i]? = some x → Pv i σ H → H T = none → g (.ref T) σ (upd H T (.tup [.int (i : Nat), x])) fun σ2 H2 => tb { D with nx := Pv (i + 1), ct := Pv (i + 1), bk := D.nx } σ2 H2) (hd : ∀ σ H, Pv xs.length σ H → D.nx σ H) :
    ∃ W : Nat → Nat → L2.St → Hp → Prop, (∃ m, W 0 m σ H) ∧ ∀ i m σ H, W i m σ H →
      ((Ite K a).stop i H ∧ D.nx σ H) ∨ ((Ite K a).go i H ∧ ∃ N : L2.St → Hp → Prop, (∀ σ' H', N σ' H' → ∃ m', m' < m ∧ W (i + 1) m' σ' H') ∧ ∀ v H', (Ite K a).yld i H v H' → g v σ H' fun σ2 H2 => tb { D with nx := N, ct := N, bk := D.nx } σ2 H2) := by
  refine ⟨fun i m σ H => m = xs.length - i ∧ i ≤ xs.length ∧ Pv i σ H, ⟨xs.length, rfl, Nat.zero_le _, h0⟩, ?_⟩
  rintro i m σ H ⟨rfl, hi, p⟩
  have q := hl i σ H hi p
  by_cases hlt : i < xs.length
  · have hx : xs[i]? = some xs[i] := List.getElem?_eq_getElem hlt
    refine .inr ⟨⟨xs, _, q, hx⟩, Pv (i + 1), fun σ' H' p' => ⟨xs.length - (i + 1), by omega, rfl, hlt, p'⟩, fun v H' y => ?_⟩
    obtain ⟨T, x, rfl, hT, rfl, hy⟩ := y
    exact hs i x σ _ T (hy xs q) p hT
  · have e : i = xs.length := by omega
    subst e
    exact .inl ⟨⟨xs, q, Nat.le_refl _⟩, hd σ H p⟩
def duS : Du → Str
  | .ahead => "ahead"
  | .figure => "figure"
  | .zone => "zone"
  | .sign => "sign"
def duV (d : Du) : V := .str (duS d)
def spKeptH (K : PySem.W.Frag) : Sp := fun vs H Q _ => ∃ (fa : Addr) (f : Form) (N : Int), vs = [.ref fa, .int N] ∧ SqT K H fa f.vs ∧ 0 < f.n ∧ f.n ≤ 100 ∧ ∀ H' p, Same H H' → H p = none → H' p = some (.lst ((hsL f (digs f.n (keptNum f N)) (signOf N)).map nV)) → Q (.ref p) H'
def spKept (K : PySem.W.Frag) : Sp := fun vs H Q _ => ∃ (fa : Addr) (f : Form) (N : Int), vs = [.ref fa, .int N] ∧ SqT K H fa f.vs ∧ 0 < f.n ∧ f.n ≤ 100 ∧ fitsZ f N = true ∧ ∀ H' p, Same H H' → H p = none → H' p = some (.tup ((keptRow f N).map nV)) → Q (.ref p) H'
def spHalvesIn (K : PySem.W.Frag) : Sp := fun vs H Q _ => ∃ (a : Addr) (bs : List Nat), vs = [.ref a] ∧ SqT K H a (bs.map nV) ∧ bs.length ≤ 1000 ∧ ∀ H' p, Same H H' → H p = none → H' p = some (.lst ((split2 bs).map nV)) → Q (.ref p) H'
def spDuties (K : PySem.W.Frag) : Sp := fun vs H Q _ => ∃ (fa : Addr) (f : Form), vs = [.ref fa] ∧ SqT K H fa f.vs ∧ 0 < f.n ∧ f.n ≤ 100 ∧ ∀ H' p, Same H H' → H p = none → H' p = some (.lst ((dueL f).map duV)) → Q (.ref p) H'
def spHalfRight : Sp := fun vs H Q _ => ∃ (d : Du) (h : Nat), vs = [duV d, nV h] ∧ ∀ H', Same H H' → Q (.bl (d.ok h)) H'
def spCaught (K : PySem.W.Frag) : Sp := fun vs H Q _ => ∃ (fa ra : Addr) (f : Form) (ds : List Nat) (sh : Nat), vs = [.ref fa, .ref ra] ∧ SqT K H fa f.vs ∧ SqT K H ra ((rowOf f ds sh).map nV) ∧ 0 < f.n ∧ f.n ≤ 100 ∧ Good f ds sh ∧ ∀ H', Same H H' → Q .non H'
def spNumberOf (K : PySem.W.Frag) : Sp := fun vs H Q _ => ∃ (fa ra : Addr) (f : Form) (ds : List Nat) (sh : Nat), vs = [.ref fa, .ref ra] ∧ SqT K H fa f.vs ∧ SqT K H ra ((rowOf f ds sh).map nV) ∧ 0 < f.n ∧ f.n ≤ 100 ∧ Good f ds sh ∧ ∀ H', Same H H' → Q (.int (readZ f ds sh)) H'
section
variable {P : Program} {w : World} {K : PySem.W.Frag} {mg : Str → Option Value} {base : Heap}
theorem sc_half_right : FnScope ["duty", "half"] ["duty", "half"] (defScope (top 77)) := ⟨rfl, rfl, rfl, by decide +kernel, rfl, by decide +kernel, by decide +kernel⟩
theorem d_half_right (T : TX w K mg) : DefOk P w K mg base 1 79 "half_right" ["duty", "half"] (spHalfRight) := by
  refine mkDef T 70 rfl rfl sc_half_right (fun _ _ _ _ _ _ us hl => match us, hl with | [_, _], _ => rfl) (fun vs H Q E h => ?_) (fun f cdv A outer s H vs Q E hr h => ?_)
  · obtain ⟨d, h, rfl, k⟩ := h
    rfl
  · obtain ⟨d, h, rfl, k⟩ := h
    refine ⟨_, 
        (pss_cons (ps_if (pt_cmpR op_eq (pv 0) pe_str (nomark _)) 
          (pss_one (ps_ret (pe_cmpR op_eq (pv 1) pe_int (nomark _)))) pss_nil) 
        (pss_cons (ps_if (pt_cmpR op_eq (pv 0) pe_str (nomark _)) 
          (pss_one (ps_ret (pe_cmpR op_lt (pv 1) pe_int (nomark _)))) pss_nil) 
        (pss_cons (ps_if (pt_cmpR op_eq (pv 0) pe_str (nomark _)) 
          (pss_one (ps_ret (pe_cmpR op_eq (pv 1) (pe_gInt (T.int 63)) (nomark _)))) pss_nil) 
        (pss_one (ps_ret (pe_cmpR op_gt (pv 1) pe_int (nomark _))))))), ?_⟩
    have k' := k _ (Same.refl _)
    clear k
    cases d
    · walk_at "ps"
      refine qv ?_ k'
      show V.bl (decide (V.int (h : Int) = V.int 0)) = V.bl (h == 0)
      congr 1
      rw [Bool.eq_iff_iff, decide_eq_true_iff, beq_iff_eq]
      constructor
      · intro q; injection q with q; omega
      · intro q; subst q; rfl
    · walk_at "ps"
      refine qv ?_ k'
      show V.bl (decide ((h : Int) < 10)) = V.bl (decide (h < 10))
      congr 1
      rw [decide_eq_decide]; omega
    · walk_at "ps"
      refine qv ?_ k'
      show V.bl (decide (V.int (h : Int) = V.int 15)) = V.bl (h == 15)
      congr 1
      rw [Bool.eq_iff_iff, decide_eq_true_iff, beq_iff_eq]
      constructor
      · intro q; injection q with q; omega
      · intro q; subst q; rfl
    · walk_at "ps"
      refine qv ?_ k'
      show V.bl (decide ((h : Int) > 9)) = V.bl (decide (9 < h))
      congr 1
      rw [decide_eq_decide]; omega
theorem sc_halves_in : FnScope ["row", "found", "byte"] ["row"] (defScope (top 75)) := ⟨rfl, rfl, rfl, by decide +kernel, rfl, by decide +kernel, by decide +kernel⟩
theorem d_halves_in (T : TX w K mg) : DefOk P w K mg base 1 77 "halves_in" ["row"] (spHalvesIn K) := by
  refine mkDef T 68 rfl rfl sc_halves_in (fun _ _ _ _ _ _ us hl => match us, hl with | [_], _ => rfl) (fun vs H Q E h => ?_) (fun f cdv A outer s H vs Q E hr h => ?_)
  · obtain ⟨a, bs, rfl, hL, hl, k⟩ := h
    rfl
  · obtain ⟨a, bs, rfl, hL, hl, k⟩ := h
    refine ⟨_, 
        (pss_cons (ps_set (i := 1) sc_halves_in.nd rfl (Or.inl rfl) (pe_lst pa_nil)) 
        (pss_cons (ps_for PassesOwn.never rfl (pi_tup (pv 0)) (pg_name (i := 2) sc_halves_in.nd rfl (Or.inl rfl)) 
          (pss_one (ps_expr (pe_bm PySem.F.plainAttrs_list PySem.F.slot_list_extend PySem.F.type_list_extend mt_extend (pv 1) (pa_cons (pe_lst (pa_cons (pe_op op_fdiv (pv 2) pe_int) (pa_cons (pe_op op_mod (pv 2) pe_int) pa_nil))) pa_nil))))) 
        (pss_one (ps_ret (pv 1))))), ?_⟩
    refine ⟨by decide, fun p hp => ?_⟩
    walk_at "p"
    refine ⟨_, rfl, ⟨_, (Same.new hp).teq hL⟩, for_tup (K := K) (a := a) (xs := bs.map nV) (fun i σ H' => Same H H' ∧ H' p = some (.lst ((split2 (bs.take i)).map nV)) ∧ ∃ v, σ = [some (.ref a), some (.ref p), v]) ⟨Same.new hp, upd_same, none, rfl⟩ (fun i σ H' _ h => h.1.teq hL) ?_ ?_⟩
    · rintro i x σ H' hx ⟨s1, e1, v, rfl⟩
      rw [List.getElem?_map] at hx
      obtain ⟨d, hd, rfl⟩ := Option.map_eq_some_iff.mp hx
      have hil : i < bs.length := (List.getElem?_eq_some_iff.mp hd).1
      walk_at "p"
      refine ⟨.inl ⟨rfl, _, SqL.of e1⟩, ?_⟩
      walk_at "ps"
      refine ⟨(by show 2 ≤ sizeLine; decide), fun q hq => ?_⟩
      have eq : ∀ bs : List Nat, (split2 bs).length = 2 * bs.length := fun bs => by
        unfold split2
        induction bs with
        | nil => rfl
        | cons b bs ih => rw [List.flatMap_cons, List.length_append, ih, List.length_cons]; simp; omega
      refine ⟨_, _, _, _, rfl, rfl, (Same.new hq) _ _ e1, upd_same, ?_, ?_⟩
      · rw [List.length_map, eq, List.length_take]
        exact small_len (by simp; omega)
      have hpq : p ≠ q := fun z => by rw [← z, e1] at hq; cases hq
      refine ⟨fun b o eb => ?_, ?_, _, rfl⟩
      · rw [upd_ne (ne_of_none eb hp)]
        exact (Same.new hq) _ _ (s1 b o eb)
      · refine upd_is ?_
        congr 1
        have e : split2 (bs.take (i + 1)) = split2 (bs.take i) ++ [d / 16, d % 16] := by
          rw [List.take_succ, hd]
          unfold split2
          rw [List.flatMap_append]
          rfl
        rw [e, List.map_append]
        show _ ++ [V.int ((d : Int) / 16), V.int ((d : Int) % 16)] = _ ++ [V.int ((d / 16 : Nat) : Int), V.int ((d % 16 : Nat) : Int)]
        rw [Int.natCast_ediv, Int.natCast_emod]
        rfl
    · rintro σ H' ⟨s1, e1, v, rfl⟩
      walk_at "p"
      rw [List.length_map, List.take_length] at e1
      exact k _ p s1 hp e1
theorem sc_kept_halves : FnScope ["form", "number", "figures", "last", "found", "figure"] ["form", "number"] (defScope (top 73)) := ⟨rfl, rfl, rfl, by decide +kernel, rfl, by decide +kernel, by decide +kernel⟩
theorem d_kept_halves (T : TX w K mg) : DefOk P w K mg base 2 75 "kept_halves" ["form", "number"] (spKeptH K) := by
  refine mkDef T 66 rfl rfl sc_kept_halves (fun _ _ _ _ _ _ us hl => match us, hl with | [_, _], _ => rfl) (fun vs H Q E h => ?_) (fun f cdv A outer s H vs Q E hr h => ?_)
  · obtain ⟨fa, f, N, rfl, hF, hn, hn2, k⟩ := h
    rfl
  · obtain ⟨fa, f, N, rfl, hF, hn, hn2, k⟩ := h
    refine ⟨_, 
        (pss_cons (ps_if (pt_cmpR op_eq (pe_ix ix_tup (pv 0) pe_int (fun _ _ => rfl)) pe_str (nomark _)) 
          (pss_one (ps_set (i := 1) sc_kept_halves.nd rfl (Or.inl rfl) (pe_op op_mod (pv 1) (pe_callD (d_power T) (hr.mono (by decide)) (by rfl) (pa_cons pe_int (pa_cons (pe_ix ix_tup (pv 0) pe_int (fun _ _ => rfl)) pa_nil)))))) pss_nil) 
        (pss_cons (ps_set (i := 2) sc_kept_halves.nd rfl (Or.inl rfl) (pe_callD (d_figures_of T) (hr.mono (by decide)) (by rfl) (pa_cons (pe_callB call_abs (by rfl) T.abs_ (by decide +kernel) (pa_cons (pv 1) pa_nil)) (pa_cons (pe_ix ix_tup (pv 0) pe_int (fun _ _ => rfl)) pa_nil)))) 
        (pss_cons (ps_if (pt_cmpR op_eq (pe_ix ix_tup (pv 0) pe_int (fun _ _ => rfl)) pe_str (nomark _)) 
          (pss_cons (ps_set (i := 3) sc_kept_halves.nd rfl (Or.inl rfl) (pe_op op_rep (pe_lst (pa_cons (pe_callD (d_sign_half T) (hr.mono (by decide)) (by rfl) (pa_cons (pv 1) pa_nil)) pa_nil)) (pe_callTy call_int1 (by rfl) T.int_ (by decide +kernel) (pa_cons (pe_cmpR op_eq (pe_ix ix_tup (pv 0) pe_int (fun _ _ => rfl)) pe_str (nomark _)) pa_nil)))) 
          (pss_one (ps_ret (pe_op op_cat (pe_op op_cat (pe_op op_rep (pe_lst (pa_cons pe_int pa_nil)) (pe_ix ix_tup (pe_callD (d_halves_of T) (hr.mono (by decide)) (by rfl) (pa_cons (pv 0) pa_nil)) pe_int (fun _ _ => rfl))) (pv 2)) (pv 3))))) pss_nil) 
        (pss_cons (ps_set (i := 4) sc_kept_halves.nd rfl (Or.inl rfl) (pe_lst pa_nil)) 
        (pss_cons (ps_for PassesOwn.never rfl (pi_list (pv 2)) (pg_name (i := 5) sc_kept_halves.nd rfl (Or.inl rfl)) 
          (pss_one (ps_expr (pe_bm PySem.F.plainAttrs_list PySem.F.slot_list_extend PySem.F.type_list_extend mt_extend (pv 4) (pa_cons (pe_lst (pa_cons (pe_gInt (T.int 63)) (pa_cons (pv 5) pa_nil))) pa_nil))))) 
        (pss_cons (ps_if (pt_cmpR op_eq (pe_ix ix_tup (pv 0) pe_int (fun _ _ => rfl)) pe_str (nomark _)) 
          (pss_one (ps_asg (pe_callD (d_sign_half T) (hr.mono (by decide)) (by rfl) (pa_cons (pv 1) pa_nil)) (pg_sub (pv 4) (pe_un un_neg pe_int) set_list))) pss_nil) 
        (pss_one (ps_ret (pv 4))))))))), ?_⟩
    have kk : ∀ (M : Int) H' p, M.natAbs = keptNum f N → Same H H' → H p = none → H' p = some (.lst ((hsL f (digs f.n M.natAbs) (signOf N)).map nV)) → Q (.ref p) H' := fun M H' p e s hp h => k H' p s hp (by rw [← e]; exact h)
    clear k
    walk_at "ps"
    rw [isTens]
    refine iteD (fun h => ?_) (fun h => ?_)
    rotate_left
    have s1 := Same.refl H
    have hF1 := hF
    have eM : N.natAbs = keptNum f N := by
      unfold keptNum
      split
      · rename_i q; exact absurd q h
      · rfl
    have kk := fun H' p => kk _ H' p eM
    clear eM
    generalize N = M at *
    rotate_left
    walk_at "ps"
    refine ⟨10, f.n, rfl, by decide, by decide, by omega, fun H1 s1 => ?_⟩
    have hF1 := s1.teq hF
    walk_at "ps"
    refine ⟨pow_pos10 f.n, ?_⟩
    have h0 := Int.emod_nonneg N (Int.ne_of_gt (pow_pos10 f.n))
    have eM : (N % 10 ^ f.n).natAbs = keptNum f N := by
      unfold keptNum
      rw [h]
      dsimp only
      omega
    have hE : f.sg ≠ .end_ := by rw [h]; decide
    have eS : hsL f (digs f.n (N % 10 ^ f.n).natAbs) (signOf (N % 10 ^ f.n)) = hsL f (digs f.n (N % 10 ^ f.n).natAbs) (signOf N) := by
      unfold hsL pairsL
      split
      · first | rfl | rw [if_neg hE]
      · rw [decide_eq_false hE, spread_flat, spread_flat]
    have kk := fun H' p => kk _ H' p eM
    rw [← eS] at kk
    clear eS eM h0
    dsimp only
    generalize N % 10 ^ f.n = M at *
    all_goals
      walk_at "ps"
      refine ⟨M.natAbs, f.n, ?_, by omega, fun H2 p2 s2 f2 e2 => ?_⟩
      · show [V.int (if M < 0 then -M else M), V.int (f.n : Int)] = [V.int ((M.natAbs : Nat) : Int), V.int (f.n : Int)]
        rw [show (if M < 0 then -M else M) = (M.natAbs : Int) by split <;> omega]
      have s3 := s1.trans s2
      have hF2 := s2.teq hF1
      have ld := digs_length f.n M.natAbs
      generalize digs f.n M.natAbs = ds at *
      walk_at "ps"
      rw [isPacked]
      refine iteB (fun hp => ?_) (fun hp => ?_)
      · rw [hsL_packed hp] at kk
        unfold packH at kk
        walk_at "ps"
        refine fun H3 s4 => ?_
        refine ⟨(by show 1 ≤ sizeLine; decide), fun p3 f3 => ?_⟩
        have s5 := s4.trans (Same.new (o := .lst [V.int (signOf M)]) f3)
        have hF3 := s5.teq hF2
        have e3 := s5 _ _ e2
        walk_at "ps"
        have ek : (if decide (V.str (sgS f.sg) = V.str "end") = true then (1 : Int) else 0) = (f.e : Int) := by
          rw [isEnd]
          unfold Form.e
          by_cases he : f.sg = .end_
          · rw [if_pos he, decide_eq_true he]; rfl
          · rw [if_neg he, decide_eq_false he]; rfl
        rw [ek]
        have he1 : f.e ≤ 1 := by unfold Form.e; split <;> omega
        refine ⟨_, _, _, rfl, rfl, upd_same, by omega, by omega, ?_, fun p4 f4 => ?_⟩
        · exact small_len (by simp; omega)
        have el : (List.replicate ((f.e : Nat) : Int).toNat [V.int (signOf M : Int)]).flatten = ((if f.sg = .end_ then [signOf M] else []) : List Nat).map nV := by
          unfold Form.e
          split <;> rfl
        rw [el]
        generalize hla : ((if f.sg = .end_ then [signOf M] else []) : List Nat) = la at *
        have lla : la.length ≤ 1 := by
          rw [← hla]; split <;> simp
        have s6 := Same.new (o := .lst (la.map nV)) f4
        have e4 : upd (upd H3 p3 (.lst [V.int (signOf M)])) p4 (.lst (la.map nV)) p4 = _ := upd_same
        have e2' := s6 _ _ ((Same.new f3) _ _ (s4 _ _ e2))
        have sH := ((s3.trans s4).trans (Same.new (o := .lst [V.int (signOf M)]) f3)).trans s6
        have hF4 := sH.teq hF
        refine ⟨(by show 1 ≤ sizeLine; decide), fun p5 f5 => ?_⟩
        have s7 := Same.new (o := .lst [V.int 0]) f5
        walk_at "p"
        refine ⟨fa, f, rfl, s7.teq hF4, fun H6 p6 s8 e6 => ?_⟩
        refine ⟨_, _, _, _, rfl, rfl, SqT.of e6, rfl, ?_⟩
        have ha := ahead_le f
        refine ⟨_, _, _, rfl, rfl, s8 _ _ upd_same, by omega, by omega, ?_, fun p7 f7 => ?_⟩
        · exact small_len (by simp; omega)
        have ez : (List.replicate ((f.ahead : Nat) : Int).toNat [V.int 0]).flatten = (List.replicate f.ahead 0).map nV := by
          rw [Int.toNat_natCast]
          generalize f.ahead = a
          induction a with
          | zero => rfl
          | succ a ih => rw [List.replicate_succ, List.flatten_cons, ih]; rfl
        rw [ez]
        have s9 := Same.new (o := .lst ((List.replicate f.ahead 0).map nV)) f7
        have sB := (s7.trans s8).trans s9
        walk_at "p"
        refine ⟨_, _, _, _, rfl, rfl, upd_same, sB _ _ e2', ?_, fun p8 f8 => ?_⟩
        · rw [List.length_map, List.length_map, List.length_replicate]
          exact small_len (by omega)
        rw [← List.map_append]
        have sC := Same.new (o := .lst ((List.replicate f.ahead 0 ++ ds).map nV)) f8
        walk_at "p"
        refine ⟨_, _, _, _, rfl, rfl, upd_same, sC _ _ (sB _ _ e4), ?_, fun p9 f9 => ?_⟩
        · rw [List.length_map, List.length_map, List.length_append, List.length_replicate]
          exact small_len (by omega)
        rw [← List.map_append]
        have sD := sH.trans (sB.trans sC)
        exact kk _ p9 (sD.trans (Same.new f9)) (sD.free f9) upd_same
      · have hp' : f.packed = false := hp
        rw [hsL_spread hp'] at kk
        refine ⟨by decide, fun p3 f3 => ?_⟩
        have s4 := Same.new (o := .lst []) f3
        have e3 : upd H2 p3 (.lst []) p3 = some (.lst []) := upd_same
        have p3H : H p3 = none := s3.free f3
        have n32 : p2 ≠ p3 := fun z => by rw [← z, e2] at f3; cases f3
        walk_at "p"
        refine ⟨_, rfl, ⟨_, SqL.of (s4 _ _ e2)⟩, for_list (K := K) (a := p2) (xs := ds.map nV) (fun i σ H' => Same H2 H' ∧ H' p3 = some (.lst (((ds.take i).flatMap fun d => [15, d]).map nV)) ∧ ∃ v, σ = [some (.ref fa), some (.int M), some (.ref p2), none, some (.ref p3), v]) ⟨s4, e3, none, rfl⟩ (fun i σ H' _ h => SqL.of (h.1 _ _ e2)) ?_ ?_⟩
        · rintro i x σ H' hx ⟨t1, g1, v, rfl⟩
          rw [List.getElem?_map] at hx
          obtain ⟨d, hd, rfl⟩ := Option.map_eq_some_iff.mp hx
          have hil : i < ds.length := (List.getElem?_eq_some_iff.mp hd).1
          walk_at "p"
          refine ⟨.inl ⟨rfl, _, SqL.of g1⟩, ?_⟩
          walk_at "ps"
          refine ⟨(by show 2 ≤ sizeLine; decide), fun q hq => ?_⟩
          have el : ∀ ds : List Nat, (ds.flatMap fun d => [15, d]).length = 2 * ds.length := fun ds => by
            induction ds with
            | nil => rfl
            | cons b bs ih => rw [List.flatMap_cons, List.length_append, ih, List.length_cons]; simp; omega
          refine ⟨_, _, _, _, rfl, rfl, (Same.new hq) _ _ g1, upd_same, ?_, ?_⟩
          · rw [List.length_map, el, List.length_take]
            exact small_len (by simp; omega)
          refine ⟨fun b o eb => ?_, ?_, _, rfl⟩
          · rw [upd_ne (ne_of_none eb f3)]
            exact (Same.new hq) _ _ (t1 b o eb)
          · refine upd_is ?_
            congr 1
            rw [List.take_succ, hd, List.flatMap_append, List.map_append]
            rfl
        · rintro σ H' ⟨t1, g1, v, rfl⟩
          rw [List.length_map, List.take_length, ← spread_hs (signOf M)] at g1
          have hF5 := (s3.trans t1).teq hF
          walk_at "ps"
          rw [isEnd]
          refine iteD (fun he => ?_) (fun he => ?_)
          · rw [decide_eq_true he, spread_set _ _ (fun z => by rw [z] at ld; simp at ld; omega)] at kk
            walk_at "ps"
            refine fun H6 s6 => ?_
            walk_at "p"
            walk_at "p"
            refine ⟨_, _, _, 2 * ds.length - 2, rfl, rfl, s6 _ _ g1, ?_, ?_⟩
            · rw [List.length_map, List.length_map, spreadP_length]
              unfold ixN
              rw [if_neg (by decide), if_pos (by omega)]
              congr 1
              omega
            walk_at "p"
            refine kk _ p3 ?_ p3H (upd_is ?_)
            · intro b o eb
              rw [upd_ne (ne_of_none eb p3H)]
              exact s6 _ _ (t1 _ _ (s3 _ _ eb))
            · rw [List.map_set, List.map_set]
              rfl
          · rw [decide_eq_false he] at kk
            walk_at "ps"
            exact kk _ p3 (s3.trans t1) p3H g1
end
end TL
set_option Elab.async false
set_option linter.all false
set_option maxRecDepth 100000
set_option pp.maxSteps 600
set_option maxHeartbeats 4000000
namespace TL
open PySem PySem.Spec PyProof.Rows L2
/-- one question answered, where its answer is plain -/
local macro_rules | `(tactic| walk_at "p") => `(tactic| first
  | refine ⟨_, rfl, ?_⟩
  | refine ⟨_, _, rfl, rfl, ⟨by decide, by decide⟩, ?_⟩
  | refine ⟨_, _, rfl, rfl, (by show (0 : Int) < _; decide), ?_⟩
  | refine ⟨_, _, rfl, rfl, ?_⟩
  | refine ⟨rfl, ?_⟩
  | refine ⟨_, _, _, _, rfl, rfl, (by assumption), rfl, ?_⟩
  | refine .inr ⟨_, rfl, ?_⟩
  | refine .inl ⟨_, rfl, ?_⟩
  | refine iteT ?_
  | refine iteF ?_)
local macro_rules | `(tactic| walk_at "ps") => `(tactic| repeat walk_at "p")

theorem rep1 {α : Type} {g : α → V} (a : α) (n : Nat) : (List.replicate ((n : Nat) : Int).toNat [g a]).flatten = (List.replicate n a).map g := by
  rw [Int.toNat_natCast]
  induction n with
  | zero => rfl
  | succ n ih => rw [List.replicate_succ, List.flatten_cons, ih]; rfl
theorem rep2 {α : Type} {g : α → V} (xs : List α) (n : Nat) : (List.replicate ((n : Nat) : Int).toNat (xs.map g)).flatten = (List.replicate n xs).flatten.map g := by
  rw [Int.toNat_natCast]
  induction n with
  | zero => rfl
  | succ n ih => rw [List.replicate_succ, List.flatten_cons, ih, List.replicate_succ, List.flatten_cons, List.map_append]
theorem isFig (d : Du) : decide (V.str (duS d) = V.str "figure") = decide (d = .figure) := by cases d <;> decide
theorem e_le (f : Form) : f.e ≤ 1 := by unfold Form.e; split <;> omega
theorem e_int (f : Form) : (if decide (V.str (sgS f.sg) = V.str "end") = true then (1 : Int) else 0) = (f.e : Int) := by
  rw [isEnd]
  unfold Form.e
  by_cases he : f.sg = .end_
  · rw [if_pos he, decide_eq_true he]; rfl
  · rw [if_neg he, decide_eq_false he]; rfl
theorem e_rep {α : Type} (f : Form) (a : α) : (if f.sg = .end_ then [a] else []) = List.replicate f.e a := by
  unfold Form.e
  split <;> rfl
theorem width_le2 (f : Form) : f.width ≤ f.n + 2 := by
  have := halves_le f
  unfold Form.width
  split <;> omega
section
variable {P : Program} {w : World} {K : PySem.W.Frag} {mg : Str → Option Value} {base : Heap}
theorem sc_kept : FnScope ["form", "number", "halves", "k"] ["form", "number"] (defScope (top 74)) := ⟨rfl, rfl, rfl, by decide +kernel, rfl, by decide +kernel, by decide +kernel⟩
theorem d_kept (T : TX w K mg) : DefOk P w K mg base 4 76 "kept" ["form", "number"] (spKept K) := by
  refine mkDef T 67 rfl rfl sc_kept (fun _ _ _ _ _ _ us hl => match us, hl with | [_, _], _ => rfl) (fun vs H Q E h => ?_) (fun f cdv A outer s H vs Q E hr h => ?_)
  · obtain ⟨fa, f, N, rfl, hF, hn, hn2, hfit, k⟩ := h
    rfl
  · obtain ⟨fa, f, N, rfl, hF, hn, hn2, hfit, k⟩ := h
    refine ⟨_, 
        (pss_cons (ps_if (pt_not (pt_val (pe_callD (d_fits T) (hr.mono (by decide)) (by rfl) (pa_cons (pv 0) (pa_cons (pv 1) pa_nil))))) pss_never pss_nil) 
        (pss_cons (ps_set (i := 2) sc_kept.nd rfl (Or.inr rfl) (pe_callD (d_kept_halves T) (hr.mono (by decide)) (by rfl) (pa_cons (pv 0) (pa_cons (pv 1) pa_nil)))) 
        (pss_one (ps_ret (pe_callTy call_tuple_of (by rfl) T.tuple_ (by decide +kernel) (pa_cons (pe_lc (own := [("k", 3)]) (g := gName 3) (by rfl) sc_kept.nd (pi_range3 rfl T.range_ (pa_cons pe_int (pa_cons (pe_callB call_len_seq (by rfl) T.len_ (by decide +kernel) (pa_cons (pv 2) pa_nil)) (pa_cons pe_int pa_nil)))) (blkOk_by (own := [("k", 3)]) (N := ["form", "number", "halves", "k"]) (sc := defScope (top 74)) (by decide +kernel)) (fun _ _ _ _ _ => pg_name (i := 3) sc_kept.nd rfl (Or.inl rfl)) (fun _ _ _ _ _ => pts_nil) (fun _ _ _ _ _ => (pe_op op_add (pe_op op_mul pe_int (pe_ix (show IxR _ (rIxL K) from ix_list) (pv 2) (pv 3) (fun _ _ => rfl))) (pe_ix (show IxR _ (rIxL K) from ix_list) (pv 2) (pe_op op_add (pv 3) pe_int) (fun _ _ => rfl))))) pa_nil)))))), ?_⟩
    walk_at "p"
    walk_at "p"
    refine ⟨fa, f, N, rfl, hF, hn, hn2, fun H1 s1 => ?_⟩
    rw [hfit]
    walk_at "ps"
    refine ⟨fa, f, N, rfl, s1.teq hF, hn, hn2, fun H2 p2 s2 f2 e2 => ?_⟩
    have ld := digs_length f.n (keptNum f N)
    have lh := hsL_length (f := f) (ds := digs f.n (keptNum f N)) (sh := signOf N) ld
    have kk := k
    unfold keptRow at kk
    rw [rowOf_bytes ld] at kk
    clear k
    have hw := width_le2 f
    generalize hsL f (digs f.n (keptNum f N)) (signOf N) = hs at *
    walk_at "p"
    refine ⟨p2, _, rfl, .inl (SqL.of e2), ?_⟩
    rw [List.length_map]
    refine ⟨_, _, _, f.width, rfl, rg_two lh (by omega), fun D hD => ?_⟩
    have sd : Same H2 (upd H2 D (.lst [])) := Same.new hD
    refine lc_it walk_rangeC (n := f.width) (fun i H' => Same H2 H' ∧ H' D = some (.lst (((List.range i).map fun j => 16 * hs.getD (2 * j) 0 + hs.getD (2 * j + 1) 0).map nV))) ⟨sd, upd_same⟩ (fun _ _ _ _ => trivial) ?_ ?_
    · rintro i x H3 H4 hi ⟨t1, g1⟩ ⟨rfl, rfl⟩
      dsimp only
      rw [show (0 : Int) + (i : Nat) * 2 = ((2 * i : Nat) : Int) by omega]
      refine ⟨rfl, ?_⟩
      refine ⟨_, rfl, ?_⟩
      refine ⟨_, rfl, ?_⟩
      refine ⟨_, _, _, _, rfl, rfl, SqL.of (t1 _ _ e2), atD (by omega), ?_⟩
      refine ⟨_, _, rfl, rfl, .inl ⟨by decide, by decide⟩, ?_⟩
      refine ⟨_, rfl, ?_⟩
      refine ⟨_, rfl, ?_⟩
      refine ⟨_, _, rfl, rfl, ?_⟩
      refine ⟨_, _, _, _, rfl, rfl, SqL.of (t1 _ _ e2), atD (j := 2 * i + 1) (by omega), ?_⟩
      refine ⟨_, _, rfl, rfl, ?_⟩
      refine ⟨_, g1, ?_, fun b o eb => ?_, ?_⟩
      · rw [List.length_map, List.length_map, List.length_range]
        exact lt_line (by omega)
      · rw [upd_ne (ne_of_none eb hD)]
        exact t1 _ _ eb
      · refine upd_is ?_
        rw [List.range_succ, List.map_append, List.map_append]
        congr 2
    · rintro H3 ⟨t1, g1⟩
      rw [show f.width = hs.length / 2 by omega, bytes2_range] at g1
      refine ⟨_, _, rfl, .inl ⟨SqL.of g1, fun q hq => ?_⟩⟩
      have st := (s1.trans s2).trans t1
      exact kk _ q (st.trans (Same.new hq)) (st.free hq) upd_same
theorem sc_duties : FnScope ["form", "found"] ["form"] (defScope (top 76)) := ⟨rfl, rfl, rfl, by decide +kernel, rfl, by decide +kernel, by decide +kernel⟩
theorem d_duties (T : TX w K mg) : DefOk P w K mg base 2 78 "duties" ["form"] (spDuties K) := by
  refine mkDef T 69 rfl rfl sc_duties (fun _ _ _ _ _ _ us hl => match us, hl with | [_], _ => rfl) (fun vs H Q E h => ?_) (fun f cdv A outer s H vs Q E hr h => ?_)
  · obtain ⟨fa, f, rfl, hF, hn, hn2, k⟩ := h
    rfl
  · obtain ⟨fa, f, rfl, hF, hn, hn2, k⟩ := h
    refine ⟨_, 
        (pss_cons (ps_if (pt_cmpR op_eq (pe_ix ix_tup (pv 0) pe_int (fun _ _ => rfl)) pe_str (nomark _)) 
          (pss_one (ps_ret (pe_op op_cat (pe_op op_cat (pe_op op_rep (pe_lst (pa_cons pe_str pa_nil)) (pe_ix ix_tup (pe_callD (d_halves_of T) (hr.mono (by decide)) (by rfl) (pa_cons (pv 0) pa_nil)) pe_int (fun _ _ => rfl))) (pe_op op_rep (pe_lst (pa_cons pe_str pa_nil)) (pe_ix ix_tup (pv 0) pe_int (fun _ _ => rfl)))) (pe_op op_rep (pe_lst (pa_cons pe_str pa_nil)) (pe_callTy call_int1 (by rfl) T.int_ (by decide +kernel) (pa_cons (pe_cmpR op_eq (pe_ix ix_tup (pv 0) pe_int (fun _ _ => rfl)) pe_str (nomark _)) pa_nil)))))) pss_nil) 
        (pss_cons (ps_set (i := 1) sc_duties.nd rfl (Or.inl rfl) (pe_op op_rep (pe_lst (pa_cons pe_str (pa_cons pe_str pa_nil))) (pe_ix ix_tup (pv 0) pe_int (fun _ _ => rfl)))) 
        (pss_cons (ps_if (pt_cmpR op_eq (pe_ix ix_tup (pv 0) pe_int (fun _ _ => rfl)) pe_str (nomark _)) 
          (pss_one (ps_asg pe_str (pg_sub (pv 1) (pe_un un_neg pe_int) set_list))) pss_nil) 
        (pss_one (ps_ret (pv 1)))))), ?_⟩
    have ha := ahead_le f
    have he := e_le f
    walk_at "ps"
    rw [isPacked]
    refine iteB (fun hp => ?_) (fun hp => ?_)
    · rw [packed_due hp, e_rep] at k
      refine ⟨(by show 1 ≤ sizeLine; decide), fun p1 f1 => ?_⟩
      have s1 : Same H (upd H p1 (.lst [duV .ahead])) := Same.new f1
      walk_at "p"
      refine ⟨fa, f, rfl, s1.teq hF, fun H2 p2 s2 e2 => ?_⟩
      refine ⟨_, _, _, _, rfl, rfl, SqT.of e2, rfl, ?_⟩
      refine ⟨_, _, _, rfl, rfl, s2 _ _ upd_same, by omega, by omega, ?_, fun p3 f3 => ?_⟩
      · exact small_len (by simp; omega)
      rw [show (List.replicate ((f.ahead : Nat) : Int).toNat [V.str "ahead"]).flatten = _ from rep1 (g := duV) .ahead f.ahead]
      have s3 := (s1.trans s2).trans (Same.new (o := .lst ((List.replicate f.ahead Du.ahead).map duV)) f3)
      have e3 : upd H2 p3 (.lst ((List.replicate f.ahead Du.ahead).map duV)) p3 = _ := upd_same
      revert s3 e3
      generalize upd H2 p3 _ = H3
      intro s3 e3
      refine ⟨(by show 1 ≤ sizeLine; decide), fun p4 f4 => ?_⟩
      have t4 := Same.new (o := .lst [duV .figure]) f4
      have hF4 := (s3.trans t4).teq hF
      have e4 : upd H3 p4 (.lst [duV .figure]) p4 = _ := upd_same
      walk_at "p"
      refine ⟨_, _, _, _, rfl, rfl, hF4, rfl, ?_⟩
      refine ⟨_, _, _, rfl, rfl, e4, by omega, by omega, ?_, fun p5 f5 => ?_⟩
      · exact small_len (by simp; omega)
      rw [show (List.replicate ((f.n : Nat) : Int).toNat [duV .figure]).flatten = _ from rep1 (g := duV) .figure f.n]
      have t5 := t4.trans (Same.new (o := .lst ((List.replicate f.n Du.figure).map duV)) f5)
      refine ⟨_, _, _, _, rfl, rfl, t5 _ _ e3, upd_same, ?_, fun p6 f6 => ?_⟩
      · simp only [List.length_map, List.length_replicate]
        exact small_len (by omega)
      rw [← List.map_append]
      have s6 := (s3.trans t5).trans (Same.new (o := .lst ((List.replicate f.ahead Du.ahead ++ List.replicate f.n Du.figure).map duV)) f6)
      have e6 : upd (upd (upd H3 p4 (.lst [duV .figure])) p5 (.lst ((List.replicate f.n Du.figure).map duV))) p6 (.lst ((List.replicate f.ahead Du.ahead ++ List.replicate f.n Du.figure).map duV)) p6 = _ := upd_same
      refine ⟨(by show 1 ≤ sizeLine; decide), fun p7 f7 => ?_⟩
      have t7 := Same.new (o := .lst [duV .sign]) f7
      have hF7 := (s6.trans t7).teq hF
      have e7 := upd_same (H := upd (upd (upd H3 p4 (.lst [duV .figure])) p5 (.lst ((List.replicate f.n Du.figure).map duV))) p6 (.lst ((List.replicate f.ahead Du.ahead ++ List.replicate f.n Du.figure).map duV))) (a := p7) (o := .lst [duV .sign])
      walk_at "ps"
      rw [e_int]
      refine ⟨_, _, _, rfl, rfl, e7, by omega, by omega, ?_, fun p8 f8 => ?_⟩
      · exact small_len (by simp; omega)
      rw [show (List.replicate ((f.e : Nat) : Int).toNat [duV .sign]).flatten = _ from rep1 (g := duV) .sign f.e]
      have t8 := t7.trans (Same.new (o := .lst ((List.replicate f.e Du.sign).map duV)) f8)
      refine ⟨_, _, _, _, rfl, rfl, t8 _ _ e6, upd_same, ?_, fun p9 f9 => ?_⟩
      · simp only [List.length_map, List.length_append, List.length_replicate]
        exact small_len (by omega)
      rw [← List.map_append]
      have s9 := s6.trans t8
      exact k _ p9 (s9.trans (Same.new f9)) (s9.free f9) upd_same
    · have hp' : f.packed = false := hp
      have ed : dueL f = (spreadP (decide (f.sg = .end_)) 0 (List.replicate f.n 0)).map (·.2) := by
        unfold dueL dueOf pairsL
        rw [hp']
        rfl
      refine ⟨(by show 2 ≤ sizeLine; decide), fun p1 f1 => ?_⟩
      have s1 : Same H (upd H p1 (.lst [V.str "zone", V.str "figure"])) := Same.new f1
      have hF1 := s1.teq hF
      walk_at "p"
      refine ⟨_, _, _, _, rfl, rfl, hF1, rfl, ?_⟩
      refine ⟨_, _, _, rfl, rfl, upd_same, by omega, by omega, ?_, fun p3 f3 => ?_⟩
      · exact small_len (by simp; omega)
      rw [show (List.replicate ((f.n : Nat) : Int).toNat [V.str "zone", V.str "figure"]).flatten = _ from rep2 (g := duV) [Du.zone, .figure] f.n]
      have ez := spread_due 0 (List.replicate f.n 0)
      rw [List.length_replicate] at ez
      rw [← ez]
      have s3 := s1.trans (Same.new (o := .lst (((spreadP false 0 (List.replicate f.n 0)).map (·.2)).map duV)) f3)
      have e3 : upd (upd H p1 (.lst [V.str "zone", V.str "figure"])) p3 (.lst (((spreadP false 0 (List.replicate f.n 0)).map (·.2)).map duV)) p3 = _ := upd_same
      have p3H : H p3 = none := s1.free f3
      have hF3 := s3.teq hF
      revert s3 e3 hF3
      generalize upd (upd H p1 _) p3 _ = H3
      intro s3 e3 hF3
      walk_at "ps"
      rw [isEnd]
      refine iteD (fun h => ?_) (fun h => ?_)
      · rw [decide_eq_true h, spread_set _ _ (fun z => by have := congrArg List.length z; simp at this; omega), List.length_replicate] at ed
        walk_at "p"
        walk_at "p"
        refine ⟨_, _, _, 2 * f.n - 2, rfl, rfl, e3, ?_, ?_⟩
        · rw [List.length_map, List.length_map, spreadP_length, List.length_replicate]
          unfold ixN
          rw [if_neg (by decide), if_pos (by omega)]
          congr 1
          omega
        walk_at "p"
        refine k _ p3 ?_ p3H (upd_is ?_)
        · intro b o eb
          rw [upd_ne (ne_of_none eb p3H)]
          exact s3 _ _ eb
        · rw [ed, List.map_set, List.map_set]
          rfl
      · rw [decide_eq_false h] at ed
        walk_at "ps"
        exact k _ p3 s3 p3H (by rw [ed]; exact e3)
end
end TL
set_option Elab.async false
set_option linter.all false
set_option maxRecDepth 100000
set_option pp.maxSteps 600
set_option maxHeartbeats 4000000
namespace TL
open PySem PySem.Spec PyProof.Rows L2
/-- one question answered, where its answer is plain -/
local macro_rules | `(tactic| walk_at "p") => `(tactic| first
  | refine ⟨_, rfl, ?_⟩
  | refine ⟨_, _, rfl, rfl, ⟨by decide, by decide⟩, ?_⟩
  | refine ⟨_, _, rfl, rfl, (by show (0 : Int) < _; decide), ?_⟩
  | refine ⟨_, _, rfl, rfl, ?_⟩
  | refine ⟨rfl, ?_⟩
  | refine ⟨_, _, _, _, rfl, rfl, (by assumption), rfl, ?_⟩
  | refine .inr ⟨_, rfl, ?_⟩
  | refine .inl ⟨_, rfl, ?_⟩
  | refine iteT ?_
  | refine iteF ?_)
local macro_rules | `(tactic| walk_at "ps") => `(tactic| repeat walk_at "p")

theorem neg_or {c : Prop} [Decidable c] {A B : Prop} (h : ¬ c) (b : B) : if decide c = true then A else B := by rw [decide_eq_false h]; exact iteF b
theorem pos_or {c : Prop} [Decidable c] {A B : Prop} (h : c) (a : A) : if decide c = true then A else B := by rw [decide_eq_true h]; exact a
theorem Same.ofNew {H H1 : Hp} {T : Addr} {o : HO} (s : Same H H1) (h : H1 T = none) : Same H (upd H1 T o) := s.trans (Same.new h)
section
variable {P : Program} {w : World} {K : PySem.W.Frag} {mg : Str → Option Value} {base : Heap}
theorem sc_caught : FnScope ["form", "row", "due", "halves", "place", "half"] ["form", "row"] (defScope (top 78)) := ⟨rfl, rfl, rfl, by decide +kernel, rfl, by decide +kernel, by decide +kernel⟩
theorem d_caught (T : TX w K mg) : DefOk P w K mg base 3 80 "caught" ["form", "row"] (spCaught K) := by
  refine mkDef T 71 rfl rfl sc_caught (fun _ _ _ _ _ _ us hl => match us, hl with | [_, _], _ => rfl) (fun vs H Q E h => ?_) (fun f cdv A outer s H vs Q E hr h => ?_)
  · obtain ⟨fa, ra, f, ds, sh, rfl, hF, hR, hn, hn2, G, k⟩ := h
    rfl
  · obtain ⟨fa, ra, f, ds, sh, rfl, hF, hR, hn, hn2, G, k⟩ := h
    refine ⟨_, 
        (pss_cons (ps_set (i := 2) sc_caught.nd rfl (Or.inl rfl) (pe_callD (d_duties T) (hr.mono (by decide)) (by rfl) (pa_cons (pv 0) pa_nil))) 
        (pss_cons (ps_set (i := 3) sc_caught.nd rfl (Or.inl rfl) (pe_callD (d_halves_in T) (hr.mono (by decide)) (by rfl) (pa_cons (pv 1) pa_nil))) 
        (pss_cons (ps_for PassesOwn.never rfl (pi_enum (by rfl) T.enumerate_ (pa_cons (pv 3) pa_nil)) (pg_tup rfl (pgs_cons (pg_name (i := 4) sc_caught.nd rfl (Or.inl rfl)) (pgs_cons (pg_name (i := 5) sc_caught.nd rfl (Or.inl rfl)) pgs_nil))) 
          (pss_cons (ps_if (pt_cmpR op_ge (pv 4) (pe_callB call_len_seq (by rfl) T.len_ (by decide +kernel) (pa_cons (pv 2) pa_nil)) (nomark _)) 
            (pss_one (ps_ret (pe_tup (pa_cons (pv 4) (pa_cons pe_str pa_nil))))) pss_nil) 
          (pss_one (ps_if (pt_not (pt_val (pe_callD (d_half_right T) (hr.mono (by decide)) (by rfl) (pa_cons (pe_ix ix_list (pv 2) (pv 4) (fun _ _ => rfl)) (pa_cons (pv 5) pa_nil))))) 
            (pss_one (ps_ret (pe_tup (pa_cons (pv 4) (pa_cons (pe_ix ix_list (pv 2) (pv 4) (fun _ _ => rfl)) pa_nil))))) pss_nil)))) 
        (pss_cons (ps_if (pt_cmpR op_lt (pe_callB call_len_seq (by rfl) T.len_ (by decide +kernel) (pa_cons (pv 3) pa_nil)) (pe_callB call_len_seq (by rfl) T.len_ (by decide +kernel) (pa_cons (pv 2) pa_nil)) (nomark _)) 
          (pss_one (ps_ret (pe_tup (pa_cons (pe_callB call_len_seq (by rfl) T.len_ (by decide +kernel) (pa_cons (pv 3) pa_nil)) (pa_cons pe_str pa_nil))))) pss_nil) 
        (pss_one (ps_ret pe_non)))))), ?_⟩
    have hlen := hsL_length (f := f) (ds := ds) (sh := sh) G.len
    have hd := due_length (f := f) (ds := ds) (sh := sh) G.len
    have hw := width_le2 f
    have eb : split2 (rowOf f ds sh) = hsL f ds sh := by
      rw [rowOf_bytes G.len]
      exact split_bytes _ (hs_le G) (by omega)
    walk_at "p"
    refine ⟨fa, f, rfl, hF, hn, hn2, fun H1 p1 s1 f1 e1 => ?_⟩
    walk_at "p"
    refine ⟨ra, _, rfl, s1.teq hR, by rw [rowOf_length]; omega, fun H2 p2 s2 f2 e2 => ?_⟩
    rw [eb] at e2
    have e1' := s2 _ _ e1
    have s3 := s1.trans s2
    walk_at "p"
    refine ⟨p2, _, rfl, SqL.of e2, ?_⟩
    refine for_enum (K := K) (a := p2) (xs := (hsL f ds sh).map nV) (fun i σ H' => Same H2 H' ∧ ∃ v v2, σ = [some (.ref fa), some (.ref ra), some (.ref p1), some (.ref p2), v, v2]) ⟨Same.refl _, none, none, rfl⟩ (fun i σ H' _ h => SqL.of (h.1 _ _ e2)) ?_ ?_
    · rintro i x σ H' TT hx ⟨t1, v, v2, rfl⟩ hT
      rw [List.getElem?_map] at hx
      obtain ⟨hh, hd1, rfl⟩ := Option.map_eq_some_iff.mp hx
      have hil : i < (hsL f ds sh).length := (List.getElem?_eq_some_iff.mp hd1).1
      have t2 := t1.trans (Same.new (o := .tup [.int (i : Nat), nV hh]) hT)
      obtain ⟨dd, hdd, hok⟩ : ∃ dd, (dueL f)[i]? = some dd ∧ dd.ok hh = true := by
        have hp : i < (pairsL f ds sh).length := by unfold hsL at hil; rwa [List.length_map] at hil
        refine ⟨(pairsL f ds sh)[i].2, ?_, ?_⟩
        · rw [← dueOf_is (sh := sh) G.len]
          unfold dueOf
          rw [List.getElem?_map, List.getElem?_eq_getElem hp]
          rfl
        · have : hh = (pairsL f ds sh)[i].1 := by
            unfold hsL at hd1
            rw [List.getElem?_map, List.getElem?_eq_getElem hp] at hd1
            exact (Option.some.inj hd1).symm
          rw [this]
          exact pairs_ok G _ (List.getElem_mem hp)
      have hat : atI ((dueL f).map duV) ((i : Nat) : Int) = some (duV dd) := atI_nat (by rw [List.getElem?_map, hdd]; rfl)
      refine ⟨_, _, rfl, SqT.of upd_same, rfl, _, _, rfl, _, _, rfl, rfl, ?_⟩
      walk_at "p"
      walk_at "p"
      refine ⟨p1, _, rfl, .inl (SqL.of (t2 _ _ e1')), ?_⟩
      rw [List.length_map]
      walk_at "ps"
      refine neg_or (by omega) ?_
      walk_at "ps"
      refine ⟨_, _, _, _, rfl, rfl, SqL.of (t2 _ _ e1'), hat, ?_⟩
      walk_at "p"
      refine ⟨dd, hh, rfl, fun H5 s5 => ?_⟩
      rw [hok]
      walk_at "ps"
      exact ⟨t2.trans s5, _, _, rfl⟩
    · rintro σ H' ⟨t1, v, v2, rfl⟩
      walk_at "p"
      refine ⟨p2, _, rfl, .inl (SqL.of (t1 _ _ e2)), ?_⟩
      rw [List.length_map]
      walk_at "p"
      refine ⟨p1, _, rfl, .inl (SqL.of (t1 _ _ e1')), ?_⟩
      rw [List.length_map]
      walk_at "ps"
      refine neg_or (by omega) ?_
      exact k _ (s3.trans t1)
theorem sc_number_of : FnScope ["form", "row", "amiss", "due", "halves", "figures", "k", "number"] ["form", "row"] (defScope (top 79)) := ⟨rfl, rfl, rfl, by decide +kernel, rfl, by decide +kernel, by decide +kernel⟩
theorem d_number_of (T : TX w K mg) : DefOk P w K mg base 4 81 "number_of" ["form", "row"] (spNumberOf K) := by
  refine mkDef T 72 rfl rfl sc_number_of (fun _ _ _ _ _ _ us hl => match us, hl with | [_, _], _ => rfl) (fun vs H Q E h => ?_) (fun f cdv A outer s H vs Q E hr h => ?_)
  · obtain ⟨fa, ra, f, ds, sh, rfl, hF, hR, hn, hn2, G, k⟩ := h
    rfl
  · obtain ⟨fa, ra, f, ds, sh, rfl, hF, hR, hn, hn2, G, k⟩ := h
    refine ⟨_, 
        (pss_cons (ps_set (i := 2) sc_number_of.nd rfl (Or.inl rfl) (pe_callD (d_caught T) (hr.mono (by decide)) (by rfl) (pa_cons (pv 0) (pa_cons (pv 1) pa_nil)))) 
        (pss_cons (ps_if (pt_cmpR op_notN (pv 2) pe_non (nomark _)) pss_never pss_nil) 
        (pss_cons (ps_set (i := 3) sc_number_of.nd rfl (Or.inr rfl) (pe_callD (d_duties T) (hr.mono (by decide)) (by rfl) (pa_cons (pv 0) pa_nil))) 
        (pss_cons (ps_set (i := 4) sc_number_of.nd rfl (Or.inr rfl) (pe_callD (d_halves_in T) (hr.mono (by decide)) (by rfl) (pa_cons (pv 1) pa_nil))) 
        (pss_cons (ps_setLc (i := 5) (own := [("k", 6)]) (g := gName 6) (by rfl) sc_number_of.nd rfl rfl (sw_true rfl rfl rfl (by decide +kernel)) (pi_range1 rfl T.range_ (pa_cons (pe_callB call_len_seq (by rfl) T.len_ (by decide +kernel) (pa_cons (pv 3) pa_nil)) pa_nil)) (blkOk_by (own := [("k", 6)]) (N := ["form", "row", "amiss", "due", "halves", "figures", "k", "number"]) (sc := defScope (top 79)) (by decide +kernel)) (fun _ _ _ _ _ => pg_name (i := 6) sc_number_of.nd rfl (Or.inl rfl)) (fun _ _ _ _ _ => pts_one (pt_cmpR op_eq (pe_ix (show IxR _ (rIxL K) from ix_list) (pv 3) (pv 6) (fun _ _ => rfl)) pe_str (nomark _))) (fun _ _ _ _ _ => (pe_ix (show IxR _ (rIxL K) from ix_list) (pv 4) (pv 6) (fun _ _ => rfl)))) 
        (pss_cons (ps_set (i := 7) sc_number_of.nd rfl (Or.inl rfl) (pe_callD (d_number_by T) (hr.mono (by decide)) (by rfl) (pa_cons pe_int (pa_cons (pv 5) pa_nil)))) 
        (pss_cons (ps_if (PW.pt (pw_and (pt_cmpR op_eq (pe_ix ix_tup (pv 0) pe_int (fun _ _ => rfl)) pe_str (nomark _)) (pw_and1 (pt_cmpR op_in_seq (pe_ix ix_list (pv 4) (pe_bm PySem.F.plainAttrs_list PySem.F.slot_list_index PySem.F.type_list_index mt_index (pv 3) (pa_cons pe_str pa_nil)) (fun _ _ => rfl)) (pe_gRef (T.obj 64 rfl rfl)) (by rfl))))) 
          (pss_one (ps_ret (pe_un un_neg (pv 7)))) pss_nil) 
        (pss_cons (ps_if (PW.pt (pw_and (pt_cmpR op_eq (pe_ix ix_tup (pv 0) pe_int (fun _ _ => rfl)) pe_str (nomark _)) (pw_and1 (pt_cmpR op_gt (pe_ix ix_list (pv 5) pe_int (fun _ _ => rfl)) pe_int (nomark _))))) 
          (pss_one (ps_ret (pe_op op_sub (pv 7) (pe_callD (d_power T) (hr.mono (by decide)) (by rfl) (pa_cons pe_int (pa_cons (pe_ix ix_tup (pv 0) pe_int (fun _ _ => rfl)) pa_nil)))))) pss_nil) 
        (pss_one (ps_ret (pv 7))))))))))), ?_⟩
    have hlen := hsL_length (f := f) (ds := ds) (sh := sh) G.len
    have hd := due_length (f := f) (ds := ds) (sh := sh) G.len
    have hw := width_le2 f
    have eb : split2 (rowOf f ds sh) = hsL f ds sh := by
      rw [rowOf_bytes G.len]
      exact split_bytes _ (hs_le G) (by omega)
    walk_at "ps"
    refine ⟨fa, ra, f, ds, sh, rfl, hF, hR, hn, hn2, G, fun H0 s0 => ?_⟩
    walk_at "ps"
    refine ⟨fa, f, rfl, s0.teq hF, hn, hn2, fun H1 p1 s1 f1 e1 => ?_⟩
    have sa := s0.trans s1
    walk_at "p"
    refine ⟨ra, _, rfl, sa.teq hR, by rw [rowOf_length]; omega, fun H2 p2 s2 f2 e2 => ?_⟩
    rw [eb] at e2
    have e1' := s2 _ _ e1
    have s3 := sa.trans s2
    walk_at "p"
    refine ⟨p1, _, rfl, .inl (SqL.of e1'), ?_⟩
    rw [List.length_map]
    refine ⟨_, rfl, by omega, by omega, fun D hD => ?_⟩
    have sd : Same H2 (upd H2 D (.lst [])) := Same.new hD
    refine lc_it walk_range (n := (dueL f).length) (fun i H' => Same H2 H' ∧ H' D = some (.lst ((figs ((pairsL f ds sh).take i)).map nV))) ⟨sd, upd_same⟩ (fun _ _ _ _ => trivial) ?_ ?_
    · rintro i x H3 H4 hi ⟨t1, g1⟩ ⟨rfl, rfl⟩
      have hp : i < (pairsL f ds sh).length := by unfold hsL at hd; rw [List.length_map] at hd; omega
      have hdd : (dueL f)[i]? = some (pairsL f ds sh)[i].2 := by
        rw [← dueOf_is (sh := sh) G.len]
        unfold dueOf
        rw [List.getElem?_map, List.getElem?_eq_getElem hp]
        rfl
      have hhh : (hsL f ds sh)[i]? = some (pairsL f ds sh)[i].1 := by
        unfold hsL
        rw [List.getElem?_map, List.getElem?_eq_getElem hp]
        rfl
      have hat : atI ((dueL f).map duV) ((i : Nat) : Int) = some (duV (pairsL f ds sh)[i].2) := atI_nat (by rw [List.getElem?_map, hdd]; rfl)
      have hat2 : atI ((hsL f ds sh).map nV) ((i : Nat) : Int) = some (nV (pairsL f ds sh)[i].1) := atI_nat (by rw [List.getElem?_map, hhh]; rfl)
      have et : figs ((pairsL f ds sh).take (i + 1)) = figs ((pairsL f ds sh).take i) ++ (if (pairsL f ds sh)[i].2 = .figure then [(pairsL f ds sh)[i].1] else []) := by
        unfold figs
        rw [List.take_succ, List.getElem?_eq_getElem hp, List.filterMap_append]
        congr 1
        show List.filterMap _ [(pairsL f ds sh)[i]] = _
        by_cases q : (pairsL f ds sh)[i].2 = .figure
        · rw [if_pos q]; simp [q]
        · rw [if_neg q]; simp [q]
      generalize (pairsL f ds sh)[i] = pr at *
      dsimp only
      rw [Int.zero_add]
      refine ⟨rfl, ?_⟩
      refine ⟨_, rfl, ?_⟩
      refine ⟨_, rfl, ?_⟩
      refine ⟨_, _, _, _, rfl, rfl, SqL.of (t1 _ _ e1'), hat, ?_⟩
      walk_at "ps"
      rw [show decide (duV pr.2 = V.str "figure") = decide (pr.2 = .figure) from isFig pr.2]
      refine iteD (fun q => ?_) (fun q => ?_)
      · rw [if_pos q] at et
        refine ⟨_, rfl, ?_⟩
        refine ⟨_, rfl, ?_⟩
        refine ⟨_, _, _, _, rfl, rfl, SqL.of (t1 _ _ e2), hat2, ?_⟩
        refine ⟨_, g1, ?_, fun b o eb => ?_, ?_⟩
        · rw [List.length_map]
          have : (figs ((pairsL f ds sh).take i)).length ≤ i := by
            unfold figs
            refine Nat.le_trans (List.length_filterMap_le _ _) ?_
            rw [List.length_take]
            exact Nat.min_le_left _ _
          exact lt_line (by omega)
        · rw [upd_ne (ne_of_none eb hD)]
          exact t1 _ _ eb
        · refine upd_is ?_
          rw [et, List.map_append]
          rfl
      · rw [if_neg q, List.append_nil] at et
        exact ⟨t1, by rw [et]; exact g1⟩
    rintro H3 ⟨t1, g1⟩
    rw [List.take_of_length_le (by unfold hsL at hd; rw [List.length_map] at hd; omega), figs_pairs] at g1
    have e1'' := t1 _ _ e1'
    have e2' := t1 _ _ e2
    have s4 := s3.trans t1
    walk_at "p"
    refine ⟨D, ds, rfl, SqL.of g1, fun H4 s5 => ?_⟩
    have s6 := s4.trans s5
    have hF6 := s6.teq hF
    have e1a := s5 _ _ e1''
    have e2a := s5 _ _ e2'
    have g1a := s5 _ _ g1
    walk_at "ps"
    rw [isEnd]
    refine iteD (fun h => ?_) (fun h => ?_)
    · obtain ⟨i1, i2, i3⟩ := sign_at (ds := ds) (sh := sh) G.len hn h
      have kk := k _ s6
      unfold readZ at kk
      rw [h] at kk
      dsimp only at kk
      walk_at "p"
      walk_at "p"
      refine ⟨.inl ⟨rfl, _, SqL.of e1a⟩, ?_⟩
      have hsd : signAt f < (dueL f).length := by omega
      refine ⟨p1, _, _, signAt f, duV .sign, rfl, rfl, SqL.of e1a, rfl, ?_, ?_, by decide, ?_, ?_⟩
      · rw [List.all_map, List.all_eq_true]; intro z _; cases z <;> rfl
      · rw [List.getElem?_map, List.getElem?_eq_getElem hsd]
        have : (dueL f)[signAt f] = .sign := eq_of_beq (@List.findIdx_getElem _ (· == Du.sign) (dueL f) hsd)
        rw [this]; rfl
      · intro m z hm hz
        rw [List.getElem?_map] at hz
        obtain ⟨y, hy, rfl⟩ := Option.map_eq_some_iff.mp hz
        have hne : y ≠ .sign := by
          intro q
          subst q
          have := List.not_of_lt_findIdx (show m < List.findIdx (· == Du.sign) (dueL f) from hm)
          obtain ⟨hm', e⟩ := List.getElem?_eq_some_iff.mp hy
          have h2 : ((dueL f)[m] == Du.sign) = true := by rw [e]; rfl
          exact Bool.false_ne_true (this.symm.trans h2)
        revert hne
        cases y <;> intro hne <;> first | decide | exact absurd rfl hne
      refine ⟨_, _, _, _, rfl, rfl, SqL.of e2a, atD i1, ?_⟩
      rw [i2]
      refine ⟨_, _, rfl, .inr (tupAt_ok T.tups.2.2.1 _), rfl, rfl, ?_⟩
      walk_at "ps"
      have ei : inV (nV sh) [V.int 11, V.int 13] = decide (sh = 11 ∨ sh = 13) := by
        have h1 := G.s1
        have h2 := G.s2
        have : sh = 10 ∨ sh = 11 ∨ sh = 12 ∨ sh = 13 ∨ sh = 14 ∨ sh = 15 := by omega
        rcases this with h | h | h | h | h | h <;> subst h <;> decide
      rw [ei]
      refine iteD (fun q => ?_) (fun q => ?_)
      · rw [if_pos q] at kk
        walk_at "ps"
        exact kk
      · rw [if_neg q] at kk
        walk_at "ps"
        rw [isTens, h]
        walk_at "ps"
        exact kk
    · walk_at "ps"
      rw [isTens]
      refine iteD (fun h2 => ?_) (fun h2 => ?_)
      · have kk := k _ s6
        unfold readZ at kk
        rw [h2] at kk
        dsimp only at kk
        have h0 : 0 < ds.length := by have := G.len; omega
        walk_at "p"
        refine ⟨_, _, _, _, rfl, rfl, SqL.of g1a, atD h0, ?_⟩
        walk_at "ps"
        refine iteD (fun q => ?_) (fun q => ?_)
        · have q' : 4 < ds.getD 0 0 := by
            have : ((ds.getD 0 0 : Nat) : Int) > 4 := q
            omega
          clear kk
          walk_at "ps"
          refine ⟨10, f.n, rfl, by decide, by decide, by omega, fun H5 s7 => ?_⟩
          have kk := k _ (s6.trans s7)
          unfold readZ at kk
          rw [h2] at kk
          dsimp only at kk
          rw [if_pos q'] at kk
          walk_at "ps"
          exact kk
        · have q' : ¬ 4 < ds.getD 0 0 := by
            intro z
            exact q (show ((ds.getD 0 0 : Nat) : Int) > 4 by omega)
          rw [if_neg q'] at kk
          walk_at "ps"
          exact kk
      · have kk := k _ s6
        unfold readZ at kk
        have h3 : f.sg = .none := by
          revert h h2
          cases f.sg <;> simp
        rw [h3] at kk
        walk_at "ps"
        exact kk
end
end TL
set_option Elab.async false
set_option linter.all false
set_option maxRecDepth 100000
set_option pp.maxSteps 600
set_option maxHeartbeats 4000000
namespace TL
open PySem PySem.Spec PyProof.Rows L2
/-- one question answered, where its answer is plain -/
local macro_rules | `(tactic| walk_at "p") => `(tactic| first
  | refine ⟨_, rfl, ?_⟩
  | refine ⟨_, _, rfl, rfl, ⟨by decide, by decide⟩, ?_⟩
  | refine ⟨_, _, rfl, rfl, (by show (0 : Int) < _; decide), ?_⟩
  | refine ⟨_, _, rfl, rfl, ?_⟩
  | refine ⟨rfl, ?_⟩
  | refine ⟨_, _, _, _, rfl, rfl, (by assumption), rfl, ?_⟩
  | refine .inr ⟨_, rfl, ?_⟩
  | refine .inl ⟨_, rfl, ?_⟩
  | refine iteT ?_
  | refine iteF ?_)
local macro_rules | `(tactic| walk_at "ps") => `(tactic| repeat walk_at "p")

/-! ### texts of bytes -/
def hexS : Str := "0123456789ABCDEF"
def sgn (i : Nat) : Nat := hexS.cps.toList.getD i 0
def hexW (b : Nat) : Str := ⟨#[sgn (b / 16), sgn (b % 16)]⟩
def hexT (row : List Nat) : Str := Txt.join " " (row.map hexW)
def spHexed (K : PySem.W.Frag) : Sp := fun vs H Q _ => ∃ (a : Addr) (bs : List Nat), vs = [.ref a] ∧ SqT K H a (bs.map nV) ∧ bs.length ≤ 1000 ∧ (∀ b ∈ bs, b ≤ 255) ∧ ∀ H', Same H H' → Q (.str (hexT bs)) H'
def spByteTold : Sp := fun vs H Q _ => ∃ b : Nat, vs = [.str (hexW b)] ∧ b ≤ 255 ∧ ∀ H', Same H H' → Q (nV b) H'
def spUnhexed (K : PySem.W.Frag) : Sp := fun vs H Q _ => ∃ bs : List Nat, vs = [.str (hexT bs)] ∧ bs ≠ [] ∧ bs.length ≤ 1000 ∧ (∀ b ∈ bs, b ≤ 255) ∧ ∀ H' p, Same H H' → H p = none → H' p = some (.tup (bs.map nV)) → Q (.ref p) H'
theorem sgn_at {i : Nat} (h : i < 16) : atI hexS.cps.toList ((i : Nat) : Int) = some (sgn i) := by
  have : ∀ i : Fin 16, atI hexS.cps.toList ((i.val : Nat) : Int) = some (sgn i.val) := by decide +kernel
  exact this ⟨i, h⟩
theorem sgn_in {i : Nat} (h : i < 16) : sgn i ∈ hexS.cps.toList := by
  have : ∀ i : Fin 16, sgn i.val ∈ hexS.cps.toList := by decide +kernel
  exact this ⟨i, h⟩
theorem sgn_occ {i : Nat} (h : i < 16) : Builtin.Str.occurrences hexS ⟨#[sgn i]⟩ 0 hexS.length 1 = [i] := by
  have : ∀ i : Fin 16, Builtin.Str.occurrences hexS ⟨#[sgn i.val]⟩ 0 hexS.length 1 = [i.val] := by decide +kernel
  exact this ⟨i, h⟩
theorem sgn_ne {i : Nat} (h : i < 16) : sgn i ≠ 32 := by
  have : ∀ i : Fin 16, sgn i.val ≠ 32 := by decide +kernel
  exact this ⟨i, h⟩
theorem hexW_sum (bs : List Nat) : ((bs.map hexW).map (·.length)).sum = 2 * bs.length := by
  induction bs with
  | nil => rfl
  | cons b bs ih => simp only [List.map_cons, List.sum_cons, ih, List.length_cons]; show 2 + _ = _; omega
theorem hexT_len (bs : List Nat) : (hexT bs).length ≤ 3 * bs.length := by
  unfold hexT
  rw [join_eq]
  have h := StrLaws.join_length_le " " (bs.map hexW)
  have e2 : (" " : Str).length = 1 := by decide +kernel
  rw [hexW_sum, e2, List.length_map] at h
  omega
theorem hexT_split {bs : List Nat} (hne : bs ≠ []) (hb : ∀ b ∈ bs, b ≤ 255) : Txt.split (hexT bs) " " = bs.map hexW := by
  refine split_join (s := 32) (S := []) (by decide +kernel) (by decide +kernel) (fun h => hne (List.map_eq_nil_iff.mp h)) fun p hp => ?_
  obtain ⟨b, hb2, rfl⟩ := List.mem_map.mp hp
  have := hb b hb2
  show 32 ∉ [sgn (b / 16), sgn (b % 16)]
  simp only [List.mem_cons, List.not_mem_nil, or_false, not_or]
  exact ⟨fun h => sgn_ne (by omega) h.symm, fun h => sgn_ne (by omega) h.symm⟩
theorem hexT_ne {bs : List Nat} (hne : bs ≠ []) (hb : ∀ b ∈ bs, b ≤ 255) : hexT bs ≠ "" := by
  intro h
  have e := hexT_split hne hb
  rw [h, show Txt.split "" " " = [("" : Str)] by decide +kernel] at e
  cases bs with
  | nil => exact hne rfl
  | cons b bs =>
    have e1 := (List.cons.inj e).1
    have e2 := congrArg Str.length e1
    have e3 : ("" : Str).length = 0 := by decide +kernel
    rw [e3] at e2
    exact absurd e2 (by show ¬ 0 = 2; decide)
section
variable {P : Program} {w : World} {K : PySem.W.Frag} {mg : Str → Option Value} {base : Heap}
theorem sc_hexed : FnScope ["row", "byte"] ["row"] (defScope (top 99)) := ⟨rfl, rfl, rfl, by decide +kernel, rfl, by decide +kernel, by decide +kernel⟩
theorem d_hexed (T : TX w K mg) : DefOk P w K mg base 1 98 "hexed" ["row"] (spHexed K) := by
  refine mkDef T 89 rfl rfl sc_hexed (fun _ _ _ _ _ _ us hl => match us, hl with | [_], _ => rfl) (fun vs H Q E h => ?_) (fun f cdv A outer s H vs Q E hr h => ?_)
  · obtain ⟨a, bs, rfl, hL, hl, hb, k⟩ := h
    rfl
  · obtain ⟨a, bs, rfl, hL, hl, hb, k⟩ := h
    refine ⟨_, 
        (pss_one (ps_ret (pe_join pe_str (pe_lc (own := [("byte", 1)]) (g := gName 1) (by rfl) sc_hexed.nd (pi_tup (pv 0)) (blkOk_by (own := [("byte", 1)]) (N := ["row", "byte"]) (sc := defScope (top 99)) (by decide +kernel)) (fun _ _ _ _ _ => pg_name (i := 1) sc_hexed.nd rfl (Or.inl rfl)) (fun _ _ _ _ _ => pts_nil) (fun _ _ _ _ _ => (pe_op op_add_str (pe_ix ix_str (pe_gStr (T.str 82)) (pe_op op_fdiv (pv 1) pe_int) (fun _ _ => rfl)) (pe_ix ix_str (pe_gStr (T.str 82)) (pe_op op_mod (pv 1) pe_int) (fun _ _ => rfl)))))))), ?_⟩
    refine ⟨⟨_, rfl⟩, ?_⟩
    walk_at "p"
    refine ⟨_, rfl, ⟨_, hL⟩, fun D hD => ?_⟩
    have sd : Same H (upd H D (.lst [])) := Same.new hD
    refine lc_it (walk_tup (K := K) (a := a) (xs := bs.map nV)) (fun i H' => Same H H' ∧ H' D = some (.lst (((bs.take i).map hexW).map V.str))) ⟨sd, upd_same⟩ (fun i H' _ h => h.1.teq hL) ?_ ?_
    · rintro i x H3 H4 hi ⟨t1, g1⟩ ⟨rfl, hx⟩
      rw [List.getElem?_map] at hx
      obtain ⟨d, hd, rfl⟩ := Option.map_eq_some_iff.mp hx
      have hil : i < bs.length := (List.getElem?_eq_some_iff.mp hd).1
      have h255 := hb d (List.mem_of_getElem? hd)
      refine ⟨rfl, ?_⟩
      refine ⟨_, rfl, ?_⟩
      refine ⟨_, _, rfl, rfl, ⟨by decide, by decide⟩, ?_⟩
      refine ⟨hexS, _, sgn (d / 16), rfl, rfl, (by decide +kernel), ?_, ?_⟩
      · rw [show ((d : Int) / 16) = ((d / 16 : Nat) : Int) by omega]
        exact sgn_at (by omega)
      refine ⟨_, rfl, ?_⟩
      refine ⟨_, _, rfl, rfl, (by show (0 : Int) < _; decide), ?_⟩
      refine ⟨hexS, _, sgn (d % 16), rfl, rfl, (by decide +kernel), ?_, ?_⟩
      · rw [show ((d : Int) % 16) = ((d % 16 : Nat) : Int) by omega]
        exact sgn_at (by omega)
      refine ⟨_, _, rfl, rfl, (by show 2 ≤ sizeLine; decide), ?_⟩
      refine ⟨_, g1, ?_, fun b o eb => ?_, ?_⟩
      · rw [List.length_map, List.length_map, List.length_take]
        exact lt_line (by omega)
      · rw [upd_ne (ne_of_none eb hD)]
        exact t1 _ _ eb
      · refine upd_is ?_
        rw [List.take_succ, hd, List.map_append, List.map_append]
        rfl
    · rintro H3 ⟨t1, g1⟩
      rw [List.length_map, List.take_length] at g1
      refine ⟨_, D, _, rfl, rfl, .inl (SqL.of g1), ?_, ?_⟩
      · have e2 : (" " : Str).length = 1 := by decide +kernel
        rw [hexW_sum, e2, List.length_map]
        omega
      exact k _ t1
theorem sc_byte_told : FnScope ["word", "sign"] ["word"] (defScope (top 100)) := ⟨rfl, rfl, rfl, by decide +kernel, rfl, by decide +kernel, by decide +kernel⟩
theorem d_byte_told (T : TX w K mg) : DefOk P w K mg base 1 99 "byte_told" ["word"] (spByteTold) := by
  refine mkDef T 90 rfl rfl sc_byte_told (fun _ _ _ _ _ _ us hl => match us, hl with | [_], _ => rfl) (fun vs H Q E h => ?_) (fun f cdv A outer s H vs Q E hr h => ?_)
  · obtain ⟨b, rfl, hb, k⟩ := h
    rfl
  · obtain ⟨b, rfl, hb, k⟩ := h
    refine ⟨_, 
        (pss_cons (ps_if (PW.pt (pw_or (pt_cmpR op_ne (pe_callB call_len_str (by rfl) T.len_ (by decide +kernel) (pa_cons (pv 0) pa_nil)) pe_int (nomark _)) (pw_or1 (pt_not (pt_val (pe_callB (cr_all rfl) (by rfl) T.all_ (by decide +kernel) (pa_cons (pe_lc (own := [("sign", 1)]) (g := gName 1) (by rfl) sc_byte_told.nd (pi_str (pv 0)) (blkOk_by (own := [("sign", 1)]) (N := ["word", "sign"]) (sc := defScope (top 100)) (by decide +kernel)) (fun _ _ _ _ _ => pg_name (i := 1) sc_byte_told.nd rfl (Or.inl rfl)) (fun _ _ _ _ _ => pts_nil) (fun _ _ _ _ _ => (pe_cmpR op_in_sign (pv 1) (pe_gStr (T.str 82)) (by rfl)))) pa_nil))))))) pss_never pss_nil) 
        (pss_one (ps_ret (pe_op op_add (pe_op op_mul pe_int (pe_bm PySem.F.plainAttrs_str PySem.F.slot_str_index PySem.F.type_str_index mt_sindex (pe_gStr (T.str 82)) (pa_cons (pe_ix ix_str (pv 0) pe_int (fun _ _ => rfl)) pa_nil))) (pe_bm PySem.F.plainAttrs_str PySem.F.slot_str_index PySem.F.type_str_index mt_sindex (pe_gStr (T.str 82)) (pa_cons (pe_ix ix_str (pv 0) pe_int (fun _ _ => rfl)) pa_nil)))))), ?_⟩
    have h1 : b / 16 < 16 := by omega
    have h2 : b % 16 < 16 := by omega
    walk_at "p"
    refine ⟨_, rfl, (by show 2 ≤ sizeLine; decide), ?_⟩
    walk_at "ps"
    refine fun D hD => ?_
    have sd : Same H (upd H D (.lst [])) := Same.new hD
    refine lc_it walk_str (fun i H' => Same H H' ∧ H' D = some (.lst ((List.replicate i true).map V.bl))) ⟨sd, upd_same⟩ (fun _ _ _ _ => trivial) ?_ ?_
    · rintro i x H3 H4 hi ⟨t1, g1⟩ ⟨rfl, c, hc, rfl⟩
      have hin : c ∈ hexS.cps.toList := by
        have hm : c ∈ (hexW b).cps.toList := by
          rw [← Array.getElem?_toList] at hc
          exact List.mem_of_getElem? hc
        have : c = sgn (b / 16) ∨ c = sgn (b % 16) := by simpa [hexW] using hm
        rcases this with h | h
        · rw [h]; exact sgn_in h1
        · rw [h]; exact sgn_in h2
      have hi2 : i < 2 := hi
      refine ⟨rfl, ?_⟩
      refine ⟨_, rfl, ?_⟩
      refine ⟨c, hexS, rfl, rfl, ?_⟩
      rw [decide_eq_true hin]
      refine ⟨_, g1, ?_, fun b o eb => ?_, ?_⟩
      · rw [List.length_map, List.length_replicate]
        exact lt_line (by omega)
      · rw [upd_ne (ne_of_none eb hD)]
        exact t1 _ _ eb
      · refine upd_is ?_
        rw [List.replicate_succ', List.map_append]
        rfl
    · rintro H3 ⟨t1, g1⟩
      refine ⟨D, _, rfl, SqL.of g1, ?_⟩
      have hall : (List.replicate (hexW b).cps.size true).all id = true := by
        rw [List.all_eq_true]
        intro x hx
        rw [List.eq_of_mem_replicate hx]
        rfl
      rw [hall]
      walk_at "ps"
      refine ⟨_, _, sgn (b / 16), rfl, rfl, (by show 2 ≤ sizeLine; decide), rfl, ?_⟩
      refine ⟨_, _, _, _, rfl, rfl, sgn_occ h1, ?_⟩
      refine ⟨_, _, rfl, rfl, .inl ⟨by decide, by decide⟩, ?_⟩
      walk_at "ps"
      refine ⟨_, _, sgn (b % 16), rfl, rfl, (by show 2 ≤ sizeLine; decide), rfl, ?_⟩
      refine ⟨_, _, _, _, rfl, rfl, sgn_occ h2, ?_⟩
      walk_at "ps"
      refine qi ?_ (k _ t1)
      show (16 : Int) * ((b / 16 : Nat) : Int) + ((b % 16 : Nat) : Int) = (b : Int)
      omega
theorem sc_unhexed : FnScope ["text", "word"] ["text"] (defScope (top 101)) := ⟨rfl, rfl, rfl, by decide +kernel, rfl, by decide +kernel, by decide +kernel⟩
theorem d_unhexed (T : TX w K mg) : DefOk P w K mg base 2 100 "unhexed" ["text"] (spUnhexed K) := by
  refine mkDef T 91 rfl rfl sc_unhexed (fun _ _ _ _ _ _ us hl => match us, hl with | [_], _ => rfl) (fun vs H Q E h => ?_) (fun f cdv A outer s H vs Q E hr h => ?_)
  · obtain ⟨bs, rfl, hne, hl, hb, k⟩ := h
    rfl
  · obtain ⟨bs, rfl, hne, hl, hb, k⟩ := h
    refine ⟨_, 
        (pss_cons (ps_if (pt_cmpR op_eq (pv 0) pe_str (nomark _)) 
          (pss_one (ps_ret (pe_tup pa_nil))) pss_nil) 
        (pss_one (ps_ret (pe_callTy call_tuple_of (by rfl) T.tuple_ (by decide +kernel) (pa_cons (pe_lc (own := [("word", 1)]) (g := gName 1) (by rfl) sc_unhexed.nd (pi_list (pe_split (pv 0) pe_str)) (blkOk_by (own := [("word", 1)]) (N := ["text", "word"]) (sc := defScope (top 101)) (by decide +kernel)) (fun _ _ _ _ _ => pg_name (i := 1) sc_unhexed.nd rfl (Or.inl rfl)) (fun _ _ _ _ _ => pts_nil) (fun _ _ _ _ _ => (pe_callD (d_byte_told T) (hr.mono (by decide)) (by rfl) (pa_cons (pv 1) pa_nil)))) pa_nil))))), ?_⟩
    walk_at "ps"
    refine neg_or ?_ ?_
    · intro h
      injection h with h
      exact hexT_ne hne hb h
    walk_at "p"
    refine ⟨⟨_, rfl⟩, ?_⟩
    have hlen := hexT_len bs
    refine ⟨_, _, rfl, rfl, (by decide +kernel), small_len (by omega), fun p1 f1 => ?_⟩
    rw [hexT_split hne hb]
    have s1 : Same H (upd H p1 (.lst ((bs.map hexW).map V.str))) := Same.new f1
    have e1 : upd H p1 (.lst ((bs.map hexW).map V.str)) p1 = _ := upd_same
    revert s1 e1
    generalize upd H p1 _ = H1
    intro s1 e1
    refine ⟨_, rfl, ⟨_, SqL.of e1⟩, fun D hD => ?_⟩
    have sd : Same H1 (upd H1 D (.lst [])) := Same.new hD
    refine lc_it (walk_list (K := K) (a := p1) (xs := (bs.map hexW).map V.str)) (fun i H' => Same H1 H' ∧ H' D = some (.lst ((bs.take i).map nV))) ⟨sd, upd_same⟩ (fun i H' _ h => SqL.of (h.1 _ _ e1)) ?_ ?_
    · rintro i x H3 H4 hi ⟨t1, g1⟩ ⟨rfl, hx⟩
      rw [List.getElem?_map, List.getElem?_map] at hx
      obtain ⟨y, hy, rfl⟩ := Option.map_eq_some_iff.mp hx
      obtain ⟨d, hd, rfl⟩ := Option.map_eq_some_iff.mp hy
      have hil : i < bs.length := (List.getElem?_eq_some_iff.mp hd).1
      refine ⟨rfl, ?_⟩
      refine ⟨_, rfl, ?_⟩
      refine ⟨d, rfl, hb d (List.mem_of_getElem? hd), fun H5 s5 => ?_⟩
      refine ⟨_, s5 _ _ g1, ?_, fun b o eb => ?_, ?_⟩
      · rw [List.length_map, List.length_take]
        exact lt_line (by omega)
      · rw [upd_ne (ne_of_none eb hD)]
        exact s5 _ _ (t1 _ _ eb)
      · refine upd_is ?_
        rw [List.take_succ, hd, List.map_append]
        rfl
    · rintro H3 ⟨t1, g1⟩
      rw [List.length_map, List.length_map, List.take_length] at g1
      refine ⟨_, _, rfl, .inl ⟨SqL.of g1, fun q hq => ?_⟩⟩
      have st := s1.trans t1
      exact k _ q (st.trans (Same.new hq)) (st.free hq) upd_same
end
end TL
set_option Elab.async false
set_option linter.all false
set_option maxRecDepth 100000
set_option pp.maxSteps 600
set_option maxHeartbeats 4000000
namespace TL
open PySem PySem.Spec PyProof.Rows L2
/-- one question answered, where its answer is plain -/
local macro_rules | `(tactic| walk_at "p") => `(tactic| first
  | refine ⟨_, rfl, ?_⟩
  | refine ⟨_, _, rfl, rfl, ⟨by decide, by decide⟩, ?_⟩
  | refine ⟨_, _, rfl, rfl, (by show (0 : Int) < _; decide), ?_⟩
  | refine ⟨_, _, rfl, rfl, ?_⟩
  | refine ⟨rfl, ?_⟩
  | refine ⟨_, _, _, _, rfl, rfl, (by assumption), rfl, ?_⟩
  | refine .inr ⟨_, rfl, ?_⟩
  | refine .inl ⟨_, rfl, ?_⟩
  | refine iteT ?_
  | refine iteF ?_)
local macro_rules | `(tactic| walk_at "ps") => `(tactic| repeat walk_at "p")

/-! ### the desk's readers -/
def toS (i : Int) : Str := toString i
def nameOk (x : Str) : Bool := decide (0 < x.length) && decide (x.length ≤ 12) && x.cps.toList.all fun c => decide (c ∈ (("abcdefghijklmnopqrstuvwxyz" : Str)).cps.toList)
def digS : Str := "0123456789"
theorem whole_facts : ∀ n : Fin 25, 0 < (toS (n.val : Nat)).length ∧ (toS (n.val : Nat)).length ≤ 640 ∧ ((toS (n.val : Nat)).cps.toList.all fun c => decide (c ∈ (("0123456789" : Str)).cps.toList)) = true ∧ PySem.intText? (toS (n.val : Nat)) = some ((n.val : Nat) : Int) ∧
    ∃ c, atI (toS (n.val : Nat)).cps.toList 0 = some c ∧ ((⟨#[c]⟩ : Str) = "0" → toS (n.val : Nat) = "0") := by
  intro n
  refine ⟨?_, ?_, ?_, ?_, ?_⟩
  · revert n; decide +kernel
  · revert n; decide +kernel
  · revert n; decide +kernel
  · revert n; decide +kernel
  · refine ⟨(toS (n.val : Nat)).cps.toList.headD 0, ?_, ?_⟩
    · revert n; decide +kernel
    · revert n; decide +kernel
theorem by_facts : ∀ n : Fin 25, ((toS ((n.val : Int) - 12)).length ≤ 100) ∧ (n.val < 12 → cutS (toS ((n.val : Int) - 12)) none (some 1) = "-" ∧ cutS (toS ((n.val : Int) - 12)) (some 1) none = toS ((12 - n.val : Nat) : Int)) ∧ (12 ≤ n.val → cutS (toS ((n.val : Int) - 12)) none (some 1) ≠ "-") ∧ toS ((n.val : Int) - 12) ≠ "-0" := by
  decide +kernel
def spReadName : Sp := fun vs H Q _ => ∃ x : Str, vs = [.str x] ∧ nameOk x = true ∧ ∀ H', Same H H' → Q (.str x) H'
def spReadWhole : Sp := fun vs H Q _ => ∃ n : Nat, vs = [.str (toS (n : Nat))] ∧ n < 25 ∧ ∀ H', Same H H' → Q (nV n) H'
def spReadBy : Sp := fun vs H Q _ => ∃ i : Int, vs = [.str (toS i)] ∧ -12 ≤ i ∧ i ≤ 12 ∧ ∀ H', Same H H' → Q (.int i) H'
def spReadRule : Sp := fun vs H Q _ => ∃ r : Rule, vs = [.str (ruleS r)] ∧ ∀ H', Same H H' → Q (.str (ruleS r)) H'
def spReadShape (K : PySem.W.Frag) : Sp := fun vs H Q _ => ∃ (a : Addr) (f : Form), vs = [.ref a] ∧ SqL K H a [.str (kindS f.packed), .str (toS (f.n : Nat)), .str (sgS f.sg), .str (toS (f.pt : Nat))] ∧ f.n < 25 ∧ f.pt < 25 ∧ ∀ H' p, Same H H' → H p = none → H' p = some (.tup f.vs) → Q (.ref p) H'
def spShape (K : PySem.W.Frag) : Sp := fun vs H Q _ => ∃ f : Form, vs = f.vs ∧ 0 < f.n ∧ f.n ≤ 12 ∧ f.pt ≤ f.n ∧ ∀ H' p, Same H H' → H p = none → H' p = some (.tup f.vs) → Q (.ref p) H'
def spAnswerKept (K : PySem.W.Frag) : Sp := fun vs H Q _ => ∃ (fa : Addr) (f : Form) (N : Int), vs = [.ref fa, .int N] ∧ SqT K H fa f.vs ∧ 0 < f.n ∧ f.n ≤ 100 ∧ ∀ H' p q, Same H H' → H' p = some (.tup [.ref fa, .ref q]) → H' q = some (.tup ((keptRow f (foldedZ f N)).map nV)) → Q (.ref p) H'
theorem _root_.L2.Same.leq {H H' : Hp} {a : Addr} {xs : List V} {K : PySem.W.Frag} (e : Same H H') (h : SqL K H a xs) : SqL K H' a xs := by
  rcases h with (h | ⟨o, h⟩) | h
  · exact .inl (.inl (e _ _ h))
  · exact .inl (.inr ⟨o, e _ _ h⟩)
  · exact .inr h
theorem folded_fits {f : Form} {N : Int} (hn : 0 < f.n) : fitsZ f (foldedZ f N) = true := by
  unfold fitsZ
  refine decide_eq_true ?_
  have hp := pow_pos10 f.n
  have e10 : (10 : Int) ^ f.n = 10 * 10 ^ (f.n - 1) := by
    conv => lhs; rw [show f.n = (f.n - 1) + 1 by omega, Int.pow_succ]
    omega
  unfold foldedZ leastZ mostZ
  cases h : f.sg with
  | none =>
    dsimp only
    have h1 := Int.emod_nonneg N (Int.ne_of_gt hp)
    have h2 := Int.emod_lt_of_pos N hp
    omega
  | end_ =>
    dsimp only
    split
    · have h1 := Int.emod_nonneg (-N) (Int.ne_of_gt hp)
      have h2 := Int.emod_lt_of_pos (-N) hp
      omega
    · have h1 := Int.emod_nonneg N (Int.ne_of_gt hp)
      have h2 := Int.emod_lt_of_pos N hp
      omega
  | tens =>
    dsimp only
    have h1 := Int.emod_nonneg (N - (-5 * 10 ^ (f.n - 1))) (Int.ne_of_gt hp)
    have h2 := Int.emod_lt_of_pos (N - (-5 * 10 ^ (f.n - 1))) hp
    omega
section
variable {P : Program} {w : World} {K : PySem.W.Frag} {mg : Str → Option Value} {base : Heap}
theorem sc_read_name : FnScope ["word", "sign"] ["word"] (defScope (top 118)) := ⟨rfl, rfl, rfl, by decide +kernel, rfl, by decide +kernel, by decide +kernel⟩
theorem d_read_name (T : TX w K mg) : DefOk P w K mg base 1 115 "read_name" ["word"] (spReadName) := by
  refine mkDef T 106 rfl rfl sc_read_name (fun _ _ _ _ _ _ us hl => match us, hl with | [_], _ => rfl) (fun vs H Q E h => ?_) (fun f cdv A outer s H vs Q E hr h => ?_)
  · obtain ⟨x, rfl, hx, k⟩ := h
    rfl
  · obtain ⟨x, rfl, hx, k⟩ := h
    refine ⟨_, 
        (pss_cons (ps_if (PW.pt (pw_or (pt_not (pt_chain op_lt op_le pe_int (pe_callB call_len_str (by rfl) T.len_ (by decide +kernel) (pa_cons (pv 0) pa_nil)) (pe_gInt (T.int 100)))) (pw_or1 (pt_not (pt_val (pe_callB (cr_all rfl) (by rfl) T.all_ (by decide +kernel) (pa_cons (pe_lc (own := [("sign", 1)]) (g := gName 1) (by rfl) sc_read_name.nd (pi_str (pv 0)) (blkOk_by (own := [("sign", 1)]) (N := ["word", "sign"]) (sc := defScope (top 118)) (by decide +kernel)) (fun _ _ _ _ _ => pg_name (i := 1) sc_read_name.nd rfl (Or.inl rfl)) (fun _ _ _ _ _ => pts_nil) (fun _ _ _ _ _ => (pe_cmpR op_in_sign (pv 1) (pe_gStr (T.str 98)) (by rfl)))) pa_nil))))))) pss_never pss_nil) 
        (pss_one (ps_ret (pv 0)))), ?_⟩
    obtain ⟨hx1, hx2⟩ := He.ba hx
    obtain ⟨hx0, hx12⟩ := He.ba hx1
    have hx0 := of_decide_eq_true hx0
    have hx12 := of_decide_eq_true hx12
    refine ⟨_, rfl, ?_⟩
    refine ⟨_, rfl, small_len (by omega), ?_⟩
    refine ⟨_, _, rfl, rfl, ?_⟩
    refine ⟨_, rfl, ?_⟩
    refine pos_or (by omega) ?_
    refine ⟨_, _, rfl, rfl, ?_⟩
    refine ⟨_, rfl, ?_⟩
    rw [show decide ((x.length : Int) ≤ 12) = true from decide_eq_true (by omega)]
    refine ⟨_, rfl, ?_⟩
    refine ⟨_, rfl, ?_⟩
    refine fun D hD => ?_
    have sd : Same H (upd H D (.lst [])) := Same.new hD
    refine lc_it walk_str (fun i H' => Same H H' ∧ H' D = some (.lst ((List.replicate i true).map V.bl))) ⟨sd, upd_same⟩ (fun _ _ _ _ => trivial) ?_ ?_
    · rintro i y H3 H4 hi ⟨t1, g1⟩ ⟨rfl, c, hc, rfl⟩
      have hm : c ∈ x.cps.toList := by
        rw [← Array.getElem?_toList] at hc
        exact List.mem_of_getElem? hc
      have hin := of_decide_eq_true (List.all_eq_true.mp hx2 c hm)
      have hi2 : i < x.length := hi
      refine ⟨rfl, ?_⟩
      refine ⟨_, rfl, ?_⟩
      refine ⟨c, _, rfl, rfl, ?_⟩
      rw [decide_eq_true hin]
      refine ⟨_, g1, ?_, fun b o eb => ?_, ?_⟩
      · rw [List.length_map, List.length_replicate]
        exact lt_line (by omega)
      · rw [upd_ne (ne_of_none eb hD)]
        exact t1 _ _ eb
      · refine upd_is ?_
        rw [List.replicate_succ', List.map_append]
        rfl
    rintro H3 ⟨t1, g1⟩
    refine ⟨D, _, rfl, SqL.of g1, ?_⟩
    have hall : (List.replicate x.cps.size true).all id = true := by
      rw [List.all_eq_true]
      intro x hx
      rw [List.eq_of_mem_replicate hx]
      rfl
    rw [hall]
    refine ⟨_, rfl, ?_⟩
    refine ⟨_, rfl, ?_⟩
    exact k _ t1
theorem sc_read_whole : FnScope ["word", "sign"] ["word"] (defScope (top 119)) := ⟨rfl, rfl, rfl, by decide +kernel, rfl, by decide +kernel, by decide +kernel⟩
theorem d_read_whole (T : TX w K mg) : DefOk P w K mg base 1 116 "read_whole" ["word"] (spReadWhole) := by
  refine mkDef T 107 rfl rfl sc_read_whole (fun _ _ _ _ _ _ us hl => match us, hl with | [_], _ => rfl) (fun vs H Q E h => ?_) (fun f cdv A outer s H vs Q E hr h => ?_)
  · obtain ⟨n, rfl, hn, k⟩ := h
    rfl
  · obtain ⟨n, rfl, hn, k⟩ := h
    refine ⟨_, 
        (pss_cons (ps_if (PW.pt (pw_or (pt_cmpR op_eq (pe_callB call_len_str (by rfl) T.len_ (by decide +kernel) (pa_cons (pv 0) pa_nil)) pe_int (nomark _)) (pw_or (pt_not (pt_val (pe_callB (cr_all rfl) (by rfl) T.all_ (by decide +kernel) (pa_cons (pe_lc (own := [("sign", 1)]) (g := gName 1) (by rfl) sc_read_whole.nd (pi_str (pv 0)) (blkOk_by (own := [("sign", 1)]) (N := ["word", "sign"]) (sc := defScope (top 119)) (by decide +kernel)) (fun _ _ _ _ _ => pg_name (i := 1) sc_read_whole.nd rfl (Or.inl rfl)) (fun _ _ _ _ _ => pts_nil) (fun _ _ _ _ _ => (pe_cmpR op_in_sign (pv 1) (pe_gStr (T.str 99)) (by rfl)))) pa_nil)))) (pw_or1 (PW.pt (pw_and (pt_cmpR op_eq (pe_ix ix_str (pv 0) pe_int (fun _ _ => rfl)) pe_str (nomark _)) (pw_and1 (pt_cmpR op_ne (pv 0) pe_str (nomark _))))))))) pss_never pss_nil) 
        (pss_one (ps_ret (pe_callTy call_int_str (by rfl) T.int_ (by decide +kernel) (pa_cons (pv 0) pa_nil))))), ?_⟩
    obtain ⟨w1, w2, w3, w4, c0, w5, w6⟩ := whole_facts ⟨n, hn⟩
    dsimp only at w1 w2 w3 w4 w5 w6
    generalize toS (n : Nat) = x at *
    refine ⟨_, rfl, ?_⟩
    refine ⟨_, rfl, small_len (by omega), ?_⟩
    refine ⟨rfl, ?_⟩
    refine ⟨_, rfl, ?_⟩
    rw [show decide (V.int (x.length : Int) = V.int 0) = false from decide_eq_false (fun h => by injection h with h; omega)]
    refine ⟨_, rfl, ?_⟩
    refine ⟨_, rfl, ?_⟩
    refine fun D hD => ?_
    have sd : Same H (upd H D (.lst [])) := Same.new hD
    refine lc_it walk_str (fun i H' => Same H H' ∧ H' D = some (.lst ((List.replicate i true).map V.bl))) ⟨sd, upd_same⟩ (fun _ _ _ _ => trivial) ?_ ?_
    · rintro i y H3 H4 hi ⟨t1, g1⟩ ⟨rfl, c, hc, rfl⟩
      have hm : c ∈ x.cps.toList := by
        rw [← Array.getElem?_toList] at hc
        exact List.mem_of_getElem? hc
      have hin := of_decide_eq_true (List.all_eq_true.mp w3 c hm)
      have hi2 : i < x.length := hi
      refine ⟨rfl, ?_⟩
      refine ⟨_, rfl, ?_⟩
      refine ⟨c, _, rfl, rfl, ?_⟩
      rw [decide_eq_true hin]
      refine ⟨_, g1, ?_, fun b o eb => ?_, ?_⟩
      · rw [List.length_map, List.length_replicate]
        exact lt_line (by omega)
      · rw [upd_ne (ne_of_none eb hD)]
        exact t1 _ _ eb
      · refine upd_is ?_
        rw [List.replicate_succ', List.map_append]
        rfl
    rintro H3 ⟨t1, g1⟩
    refine ⟨D, _, rfl, SqL.of g1, ?_⟩
    have hall : (List.replicate x.cps.size true).all id = true := by
      rw [List.all_eq_true]
      intro x hx
      rw [List.eq_of_mem_replicate hx]
      rfl
    rw [hall]
    refine ⟨_, rfl, ?_⟩
    refine ⟨_, rfl, ?_⟩
    refine ⟨_, _, c0, rfl, rfl, small_len (by omega), w5, ?_⟩
    refine ⟨rfl, ?_⟩
    refine ⟨_, rfl, ?_⟩
    refine iteD (fun h => ?_) (fun h => ?_)
    · have hx : x = "0" := w6 (by injection h)
      refine ⟨_, rfl, ?_⟩
      refine ⟨rfl, ?_⟩
      refine ⟨_, rfl, ?_⟩
      rw [show decide (V.str x = V.str "0") = true from decide_eq_true (by rw [hx])]
      refine ⟨_, rfl, ?_⟩
      refine ⟨_, _, rfl, w4, w2, ?_⟩
      exact k _ t1
    · walk_at "ps"
      refine ⟨_, _, rfl, w4, w2, ?_⟩
      exact k _ t1
theorem sc_read_rule : FnScope ["word"] ["word"] (defScope (top 122)) := ⟨rfl, rfl, rfl, by decide +kernel, rfl, by decide +kernel, by decide +kernel⟩
theorem d_read_rule (T : TX w K mg) : DefOk P w K mg base 1 119 "read_rule" ["word"] (spReadRule) := by
  refine mkDef T 110 rfl rfl sc_read_rule (fun _ _ _ _ _ _ us hl => match us, hl with | [_], _ => rfl) (fun vs H Q E h => ?_) (fun f cdv A outer s H vs Q E hr h => ?_)
  · obtain ⟨r, rfl, k⟩ := h
    rfl
  · obtain ⟨r, rfl, k⟩ := h
    refine ⟨_, 
        (pss_cons (ps_if (pt_cmpR op_notIn_seq (pv 0) (pe_gRef (T.obj 73 rfl rfl)) (by rfl)) pss_never pss_nil) 
        (pss_one (ps_ret (pv 0)))), ?_⟩
    refine ⟨_, rfl, ?_⟩
    refine ⟨_, _, rfl, .inr (tupAt_ok T.tups.2.2.2 _), rfl, rfl, ?_⟩
    refine ⟨_, rfl, ?_⟩
    have e : inV (V.str (ruleS r)) [V.str "cut", V.str "up", V.str "half", V.str "even", V.str "floor", V.str "ceil"] = true := by cases r <;> decide
    rw [e]
    refine ⟨_, rfl, ?_⟩
    exact k _ (Same.refl _)
theorem sc_shape : FnScope ["kind", "figures", "sign", "point"] ["kind", "figures", "sign", "point"] (defScope (top 62)) := ⟨rfl, rfl, rfl, by decide +kernel, rfl, by decide +kernel, by decide +kernel⟩
theorem d_shape (T : TX w K mg) : DefOk P w K mg base 1 65 "shape" ["kind", "figures", "sign", "point"] (spShape K) := by
  refine mkDef T 56 rfl rfl sc_shape (fun _ _ _ _ _ _ us hl => match us, hl with | [_, _, _, _], _ => rfl) (fun vs H Q E h => ?_) (fun f cdv A outer s H vs Q E hr h => ?_)
  · obtain ⟨f, rfl, h1, h2, h3, k⟩ := h
    rfl
  · obtain ⟨f, rfl, h1, h2, h3, k⟩ := h
    refine ⟨_, 
        (pss_cons (ps_if (pt_cmpR op_notIn_seq (pv 0) (pe_gRef (T.obj 53 rfl rfl)) (by rfl)) pss_never pss_nil) 
        (pss_cons (ps_if (pt_not (pt_chain op_lt op_le pe_int (pv 1) (pe_gInt (T.int 55)))) pss_never pss_nil) 
        (pss_cons (ps_if (pt_cmpR op_notIn_seq (pv 2) (pe_gRef (T.obj 54 rfl rfl)) (by rfl)) pss_never pss_nil) 
        (pss_cons (ps_if (pt_not (pt_chain op_le op_le pe_int (pv 3) (pv 1))) pss_never pss_nil) 
        (pss_one (ps_ret (pe_tup (pa_cons (pv 0) (pa_cons (pv 1) (pa_cons (pv 2) (pa_cons (pv 3) pa_nil))))))))))), ?_⟩
    refine ⟨_, rfl, ?_⟩
    refine ⟨_, _, rfl, .inr (tupAt_ok T.tups.1 _), rfl, rfl, ?_⟩
    refine ⟨_, rfl, ?_⟩
    have e : inV (V.str (kindS f.packed)) [V.str "packed", V.str "spread"] = true := by cases f.packed <;> decide
    rw [e]
    refine ⟨_, rfl, ?_⟩
    refine ⟨_, _, rfl, rfl, ?_⟩
    refine ⟨_, rfl, ?_⟩
    refine pos_or (by omega) ?_
    refine ⟨_, _, rfl, rfl, ?_⟩
    refine ⟨_, rfl, ?_⟩
    rw [show decide ((f.n : Int) ≤ 12) = true from decide_eq_true (by omega)]
    refine ⟨_, rfl, ?_⟩
    refine ⟨_, _, rfl, .inr (tupAt_ok T.tups.2.1 _), rfl, rfl, ?_⟩
    refine ⟨_, rfl, ?_⟩
    have e2 : inV (V.str (sgS f.sg)) [V.str "none", V.str "end", V.str "tens"] = true := by cases f.sg <;> decide
    rw [e2]
    refine ⟨_, rfl, ?_⟩
    refine ⟨_, _, rfl, rfl, ?_⟩
    refine ⟨_, rfl, ?_⟩
    refine ⟨_, rfl, ?_⟩
    refine ⟨_, _, rfl, rfl, ?_⟩
    refine ⟨_, rfl, ?_⟩
    rw [show decide ((f.pt : Int) ≤ (f.n : Int)) = true from decide_eq_true (by omega)]
    refine ⟨_, rfl, ?_⟩
    refine ⟨_, rfl, ?_⟩
    refine ⟨_, rfl, ?_⟩
    refine ⟨_, rfl, ?_⟩
    refine ⟨(by show 4 ≤ sizeLine; decide), fun p hp => ?_⟩
    exact k _ p (Same.new hp) hp upd_same
theorem sc_read_by : FnScope ["word", "by"] ["word"] (defScope (top 120)) := ⟨rfl, rfl, rfl, by decide +kernel, rfl, by decide +kernel, by decide +kernel⟩
theorem d_read_by (T : TX w K mg) : DefOk P w K mg base 2 117 "read_by" ["word"] (spReadBy) := by
  refine mkDef T 108 rfl rfl sc_read_by (fun _ _ _ _ _ _ us hl => match us, hl with | [_], _ => rfl) (fun vs H Q E h => ?_) (fun f cdv A outer s H vs Q E hr h => ?_)
  · obtain ⟨i, rfl, h1, h2, k⟩ := h
    rfl
  · obtain ⟨i, rfl, h1, h2, k⟩ := h
    refine ⟨_, 
        (pss_cons (ps_set (i := 1) sc_read_by.nd rfl (Or.inl rfl) (pe_ifExp (pt_cmpR op_eq (pe_slice sl_str (pv 0) po_none (po_some pe_int)) pe_str (nomark _)) (pe_callD (d_read_whole T) (hr.mono (by decide)) (by rfl) (pa_cons (pe_slice sl_str (pv 0) (po_some pe_int) po_none) pa_nil)) (pe_callD (d_read_whole T) (hr.mono (by decide)) (by rfl) (pa_cons (pv 0) pa_nil)))) 
        (pss_cons (ps_if (PW.pt (pw_or (pt_cmpR op_gt (pv 1) (pe_gInt (T.int 104)) (nomark _)) (pw_or1 (pt_cmpR op_eq (pv 0) pe_str (nomark _))))) pss_never pss_nil) 
        (pss_one (ps_ret (pe_ifExp (pt_cmpR op_eq (pe_slice sl_str (pv 0) po_none (po_some pe_int)) pe_str (nomark _)) (pe_op op_sub pe_int (pv 1)) (pv 1)))))), ?_⟩
    obtain ⟨n, hn, rfl⟩ : ∃ n : Nat, n < 25 ∧ i = (n : Int) - 12 := ⟨(i + 12).toNat, by omega, by omega⟩
    obtain ⟨b0, b1, b2, b3⟩ := by_facts ⟨n, hn⟩
    dsimp only at b0 b1 b2 b3
    have ei : ∀ c : Bool, (c = true ↔ n < 12) → ∀ m : Nat, (n < 12 → m = 12 - n) → (¬ n < 12 → (m : Int) = (n : Int) - 12) → True := fun _ _ _ _ _ => trivial
    by_cases hc : n < 12
    · obtain ⟨c1, c2⟩ := b1 hc
      refine ⟨_, rfl, ?_⟩
      refine ⟨_, rfl, ?_⟩
      refine ⟨_, rfl, ?_⟩
      refine ⟨small_len (by omega), ?_⟩
      rw [c1]
      refine ⟨rfl, ?_⟩
      refine ⟨_, rfl, ?_⟩
      refine ⟨_, rfl, ?_⟩
      refine ⟨_, rfl, ?_⟩
      refine ⟨_, rfl, ?_⟩
      refine ⟨small_len (by omega), ?_⟩
      rw [c2]
      refine ⟨_, rfl, ?_⟩
      refine ⟨by omega, fun H1 s1 => ?_⟩
      refine ⟨_, rfl, ?_⟩
      refine ⟨_, _, rfl, rfl, ?_⟩
      refine ⟨_, rfl, ?_⟩
      refine neg_or (by omega) ?_
      refine ⟨_, rfl, ?_⟩
      refine ⟨rfl, ?_⟩
      refine ⟨_, rfl, ?_⟩
      rw [show decide (V.str (toS ((n : Int) - 12)) = V.str "-0") = false from decide_eq_false (fun h => by injection h with h; exact b3 h)]
      refine ⟨_, rfl, ?_⟩
      refine ⟨_, rfl, ?_⟩
      refine ⟨_, rfl, ?_⟩
      refine ⟨small_len (by omega), ?_⟩
      rw [c1]
      refine ⟨rfl, ?_⟩
      refine ⟨_, rfl, ?_⟩
      refine ⟨_, rfl, ?_⟩
      refine ⟨_, _, rfl, rfl, ?_⟩
      exact qi (by show (0 : Int) - ((12 - n : Nat) : Int) = (n : Int) - 12; omega) (k _ s1)
    · have c1 := b2 (by omega)
      obtain ⟨m, hm⟩ : ∃ m : Nat, (n : Int) - 12 = (m : Int) := ⟨n - 12, by omega⟩
      rw [hm] at k b0 b3 c1
      rw [hm]
      refine ⟨_, rfl, ?_⟩
      refine ⟨_, rfl, ?_⟩
      refine ⟨_, rfl, ?_⟩
      refine ⟨small_len (by omega), ?_⟩
      have cf : decide (V.str (cutS (toS (m : Int)) none (some 1)) = V.str "-") = false := decide_eq_false (fun h => by injection h with h; exact c1 h)
      refine ⟨rfl, ?_⟩
      refine ⟨_, rfl, ?_⟩
      rw [cf]
      refine ⟨_, rfl, ?_⟩
      refine ⟨_, rfl, ?_⟩
      refine ⟨by omega, fun H1 s1 => ?_⟩
      refine ⟨_, rfl, ?_⟩
      refine ⟨_, _, rfl, rfl, ?_⟩
      refine ⟨_, rfl, ?_⟩
      refine neg_or (by omega) ?_
      refine ⟨_, rfl, ?_⟩
      refine ⟨rfl, ?_⟩
      refine ⟨_, rfl, ?_⟩
      rw [show decide (V.str (toS (m : Int)) = V.str "-0") = false from decide_eq_false (fun h => by injection h with h; exact b3 h)]
      refine ⟨_, rfl, ?_⟩
      refine ⟨_, rfl, ?_⟩
      refine ⟨_, rfl, ?_⟩
      refine ⟨small_len (by omega), ?_⟩
      refine ⟨rfl, ?_⟩
      refine ⟨_, rfl, ?_⟩
      rw [cf]
      refine ⟨_, rfl, ?_⟩
      exact k _ s1
theorem sc_read_shape : FnScope ["words"] ["words"] (defScope (top 123)) := ⟨rfl, rfl, rfl, by decide +kernel, rfl, by decide +kernel, by decide +kernel⟩
theorem d_read_shape (T : TX w K mg) : DefOk P w K mg base 2 120 "read_shape" ["words"] (spReadShape K) := by
  refine mkDef T 111 rfl rfl sc_read_shape (fun _ _ _ _ _ _ us hl => match us, hl with | [_], _ => rfl) (fun vs H Q E h => ?_) (fun f cdv A outer s H vs Q E hr h => ?_)
  · obtain ⟨a, f, rfl, hL, hn, hp, k⟩ := h
    rfl
  · obtain ⟨a, f, rfl, hL, hn, hp, k⟩ := h
    refine ⟨_, 
        (pss_cons (ps_if (PW.pt (pw_or (pt_cmpR op_notIn_seq (pe_ix ix_list (pv 0) pe_int (fun _ _ => rfl)) (pe_gRef (T.obj 53 rfl rfl)) (by rfl)) (pw_or1 (pt_cmpR op_notIn_seq (pe_ix ix_list (pv 0) pe_int (fun _ _ => rfl)) (pe_gRef (T.obj 54 rfl rfl)) (by rfl))))) pss_never pss_nil) 
        (pss_one (ps_ret (pe_tup (pa_cons (pe_ix ix_list (pv 0) pe_int (fun _ _ => rfl)) (pa_cons (pe_callD (d_read_whole T) (hr.mono (by decide)) (by rfl) (pa_cons (pe_ix ix_list (pv 0) pe_int (fun _ _ => rfl)) pa_nil)) (pa_cons (pe_ix ix_list (pv 0) pe_int (fun _ _ => rfl)) (pa_cons (pe_callD (d_read_whole T) (hr.mono (by decide)) (by rfl) (pa_cons (pe_ix ix_list (pv 0) pe_int (fun _ _ => rfl)) pa_nil)) pa_nil)))))))), ?_⟩
    refine ⟨_, rfl, ?_⟩
    refine ⟨_, _, _, _, rfl, rfl, (by assumption), rfl, ?_⟩
    refine ⟨_, _, rfl, .inr (tupAt_ok T.tups.1 _), rfl, rfl, ?_⟩
    refine ⟨_, rfl, ?_⟩
    have e : inV (V.str (kindS f.packed)) [V.str "packed", V.str "spread"] = true := by cases f.packed <;> decide
    rw [e]
    refine ⟨_, rfl, ?_⟩
    refine ⟨_, _, _, _, rfl, rfl, (by assumption), rfl, ?_⟩
    refine ⟨_, _, rfl, .inr (tupAt_ok T.tups.2.1 _), rfl, rfl, ?_⟩
    refine ⟨_, rfl, ?_⟩
    have e2 : inV (V.str (sgS f.sg)) [V.str "none", V.str "end", V.str "tens"] = true := by cases f.sg <;> decide
    rw [e2]
    refine ⟨_, rfl, ?_⟩
    refine ⟨_, _, _, _, rfl, rfl, (by assumption), rfl, ?_⟩
    refine ⟨_, rfl, ?_⟩
    refine ⟨_, _, _, _, rfl, rfl, (by assumption), rfl, ?_⟩
    refine ⟨_, rfl, ?_⟩
    refine ⟨hn, fun H1 s1 => ?_⟩
    have hL1 : SqL K H1 a [.str (kindS f.packed), .str (toS (f.n : Nat)), .str (sgS f.sg), .str (toS (f.pt : Nat))] := s1.leq hL
    refine ⟨_, rfl, ?_⟩
    refine ⟨_, _, _, _, rfl, rfl, (by assumption), rfl, ?_⟩
    refine ⟨_, rfl, ?_⟩
    refine ⟨_, _, _, _, rfl, rfl, (by assumption), rfl, ?_⟩
    refine ⟨_, rfl, ?_⟩
    refine ⟨hp, fun H2 s2 => ?_⟩
    refine ⟨(by show 4 ≤ sizeLine; decide), fun p hp => ?_⟩
    have st := s1.trans s2
    exact k _ p (st.trans (Same.new hp)) (st.free hp) upd_same
theorem sc_answer_kept : FnScope ["form", "number"] ["form", "number"] (defScope (top 130)) := ⟨rfl, rfl, rfl, by decide +kernel, rfl, by decide +kernel, by decide +kernel⟩
theorem d_answer_kept (T : TX w K mg) : DefOk P w K mg base 5 126 "answer_kept" ["form", "number"] (spAnswerKept K) := by
  refine mkDef T 117 rfl rfl sc_answer_kept (fun _ _ _ _ _ _ us hl => match us, hl with | [_, _], _ => rfl) (fun vs H Q E h => ?_) (fun f cdv A outer s H vs Q E hr h => ?_)
  · obtain ⟨fa, f, N, rfl, hF, hn, hn2, k⟩ := h
    rfl
  · obtain ⟨fa, f, N, rfl, hF, hn, hn2, k⟩ := h
    refine ⟨_, 
        (pss_one (ps_ret (pe_tup (pa_cons (pv 0) (pa_cons (pe_callD (d_kept T) (hr.mono (by decide)) (by rfl) (pa_cons (pv 0) (pa_cons (pe_callD (d_folded T) (hr.mono (by decide)) (by rfl) (pa_cons (pv 0) (pa_cons (pv 1) pa_nil))) pa_nil))) pa_nil))))), ?_⟩
    refine ⟨_, rfl, ?_⟩
    refine ⟨_, rfl, ?_⟩
    refine ⟨_, rfl, ?_⟩
    refine ⟨_, rfl, ?_⟩
    refine ⟨fa, f, N, rfl, hF, hn, hn2, fun H1 s1 => ?_⟩
    refine ⟨fa, f, _, rfl, s1.teq hF, hn, hn2, folded_fits hn, fun H2 p2 s2 f2 e2 => ?_⟩
    refine ⟨(by show 2 ≤ sizeLine; decide), fun p hp => ?_⟩
    exact k _ p p2 ((s1.trans s2).trans (Same.new hp)) upd_same ((Same.new hp) _ _ e2)
end
end TL
set_option Elab.async false
set_option linter.all false
set_option maxRecDepth 100000
set_option pp.maxSteps 600
set_option maxHeartbeats 4000000
namespace TL
open PySem PySem.Spec PyProof.Rows L2
/-- one question answered, where its answer is plain -/
local macro_rules | `(tactic| walk_at "p") => `(tactic| first
  | refine ⟨_, rfl, ?_⟩
  | refine ⟨_, _, rfl, rfl, ⟨by decide, by decide⟩, ?_⟩
  | refine ⟨_, _, rfl, rfl, (by show (0 : Int) < _; decide), ?_⟩
  | refine ⟨_, _, rfl, rfl, ?_⟩
  | refine ⟨rfl, ?_⟩
  | refine ⟨_, _, _, _, rfl, rfl, (by assumption), rfl, ?_⟩
  | refine .inr ⟨_, rfl, ?_⟩
  | refine .inl ⟨_, rfl, ?_⟩
  | refine iteT ?_
  | refine iteF ?_)
local macro_rules | `(tactic| walk_at "ps") => `(tactic| repeat walk_at "p")

/-! ### lines -/
inductive Pt where
  | name (x : Str) | one (x : Str) | by_ (i : Int) | rule (r : Rule) | shape (f : Form) | bytes (bs : List Nat)
def Pt.kind : Pt → Str
  | .name _ => "name" | .one _ => "one" | .by_ _ => "by" | .rule _ => "rule" | .shape _ => "shape" | .bytes _ => "bytes"
def Pt.ws : Pt → List Str
  | .name x => [x] | .one x => [x] | .by_ i => [toS i] | .rule r => [ruleS r]
  | .shape f => [kindS f.packed, toS (f.n : Nat), sgS f.sg, toS (f.pt : Nat)]
  | .bytes bs => bs.map hexW
def Pt.ok : Pt → Prop
  | .name x => nameOk x = true | .one x => nameOk x = true | .by_ i => -12 ≤ i ∧ i ≤ 12 | .rule _ => True
  | .shape f => f.n < 25 ∧ f.pt < 25
  | .bytes bs => bs ≠ [] ∧ bs.length ≤ 1000 ∧ ∀ b ∈ bs, b ≤ 255
def Pt.v : Pt → Addr → V
  | .name x, _ => .str x | .one x, _ => .str x | .by_ i, _ => .int i | .rule r, _ => .str (ruleS r) | .shape _, a => .ref a | .bytes bs, _ => .str (hexT bs)
def Pt.at_ (H : Hp) : Pt → Addr → Prop
  | .shape f, a => H a = some (.tup f.vs)
  | _, _ => True
theorem Pt.at_same {H H' : Hp} (s : Same H H') {pt : Pt} {a : Addr} (h : pt.at_ H a) : pt.at_ H' a := by
  cases pt <;> first | exact s _ _ h | trivial
/-- bytes stand last -/
def BytesLast : List Pt → Prop
  | [] => True
  | [_] => True
  | .bytes _ :: _ :: _ => False
  | _ :: p :: ps => BytesLast (p :: ps)
def rix : Pt → Nat
  | .by_ _ => 117 | .rule _ => 119 | _ => 115
def rsp : Pt → Sp
  | .by_ _ => spReadBy | .rule _ => spReadRule | _ => spReadName
def PtAt (H : Hp) (a : Addr) (pt : Pt) : Prop := ∃ b, H a = some (.tup [.str pt.kind, pt.v b]) ∧ pt.at_ H b
def spReadPart (K : PySem.W.Frag) : Sp := fun vs H Q _ => ∃ (pt : Pt) (p : Addr), vs = [.str pt.kind, .ref p] ∧ SqL K H p (pt.ws.map V.str) ∧ pt.ok ∧ ∀ H' a, Same H H' → pt.at_ H' a → Q (pt.v a) H'
def spOnly (K : PySem.W.Frag) : Sp := fun vs H Q _ => ∃ (a : Addr) (kd : Str) (ps : List Addr) (kvs : List (Str × V)), vs = [.ref a, .str kd] ∧ SqL K H a (ps.map .ref) ∧ All2 (fun p kv => H p = some (.tup [.str kv.1, kv.2])) ps kvs ∧ kvs.length ≤ 100 ∧
  ∀ H' p, Same H H' → H p = none → H' p = some (.lst ((kvs.filter fun kv => decide (kv.1 = kd)).map (·.2))) → Q (.ref p) H'
section
variable {P : Program} {w : World} {K : PySem.W.Frag} {mg : Str → Option Value} {base : Heap}
theorem TX.kdF (T : TX w K mg) : ∃ es n, KDict K w (adr K 114) es n := by
  have h := congrArg (fun z : AlQ => z.2.2.2.2.2[0]?) T.says
  exact He.dicW_ok (Option.some.inj h)
theorem TX.kdR (T : TX w K mg) : ∃ es n, KDict K w (adr K 121) es n := by
  have h := congrArg (fun z : AlQ => z.2.2.2.2.2[1]?) T.says
  exact He.dicW_ok (Option.some.inj h)
theorem kThere_ok {d : Addr} {k : Str} (h : kThere K d k = true) : PySem.W.nsIn K d k = some (some (.ref (kAt K d k))) := He.eqO_ok h
theorem TX.formAt (T : TX w K mg) {q : Str × List Str} (hq : q ∈ formVals) : PySem.W.nsIn K (adr K 114) q.1 = some (some (.ref (kAt K (adr K 114) q.1))) ∧ tupAt K (kAt K (adr K 114) q.1) (q.2.map V.str) = true ∧ KDct K w (adr K 114) q.1 (.ref (kAt K (adr K 114) q.1)) := by
  have h : exB K = true := T.ex
  have h0 := (He.ba (He.ba (He.ba (He.ba (He.ba (He.ba h).2).2).2).2).2).1
  obtain ⟨h1, h2⟩ := He.ba (List.all_eq_true.mp h0 q hq)
  obtain ⟨es, n, D⟩ := T.kdF
  exact ⟨kThere_ok h1, h2, es, n, _, D.at_, D.lit, kThere_ok h1, rfl⟩
theorem TX.readerAt (T : TX w K mg) {q : Str × Nat} (hq : q ∈ readerVals) : KDct K w (adr K 121) q.1 (.ref (adr K q.2)) := by
  have h : exB K = true := T.ex
  have h0 := (He.ba (He.ba (He.ba (He.ba (He.ba (He.ba (He.ba h).2).2).2).2).2).2).1
  obtain ⟨h1, h2⟩ := He.ba (List.all_eq_true.mp h0 q hq)
  obtain ⟨es, n, D⟩ := T.kdR
  have h2 := of_decide_eq_true h2
  rw [← h2]
  exact ⟨es, n, _, D.at_, D.lit, kThere_ok h1, rfl⟩
theorem TX.heldR (T : TX w K mg) (pt : Pt) (f : Addr) (sp : Sp) (h : (fun a => if a = adr K (rix pt) then some (rsp pt) else none) f = some sp) : Held P w K mg base 2 f sp := by
  have h' : (if f = adr K (rix pt) then some (rsp pt) else none) = some sp := h
  by_cases e : f = adr K (rix pt)
  · rw [if_pos e] at h'
    rw [e, ← Option.some.inj h']
    cases pt
    · exact ((d_read_name T).mono (by decide)).held
    · exact ((d_read_name T).mono (by decide)).held
    · exact ((d_read_by T).mono (by decide)).held
    · exact ((d_read_rule T).mono (by decide)).held
    · exact ((d_read_name T).mono (by decide)).held
    · exact ((d_read_name T).mono (by decide)).held
  · rw [if_neg e] at h'; cases h'
theorem sc_read_part : FnScope ["part", "words", "reader"] ["part", "words"] (defScope (top 125)) := ⟨rfl, rfl, rfl, by decide +kernel, rfl, by decide +kernel, by decide +kernel⟩
theorem d_read_part (T : TX w K mg) : DefOk P w K mg base 4 122 "read_part" ["part", "words"] (spReadPart K) := by
  refine mkDef T 113 rfl rfl sc_read_part (fun _ _ _ _ _ _ us hl => match us, hl with | [_, _], _ => rfl) (fun vs H Q E h => ?_) (fun f cdv A outer s H vs Q E hr h => ?_)
  · obtain ⟨pt, p, rfl, hL, hok, k⟩ := h
    rfl
  · obtain ⟨pt, p, rfl, hL, hok, k⟩ := h
    refine ⟨_, 
        (pss_cons (ps_if (pt_cmpR op_eq (pv 0) pe_str (nomark _)) 
          (pss_one (ps_ret (pe_callD (d_read_shape T) (hr.mono (by decide)) (by rfl) (pa_cons (pv 1) pa_nil)))) pss_nil) 
        (pss_cons (ps_if (pt_cmpR op_eq (pv 0) pe_str (nomark _)) 
          (pss_one (ps_ret (pe_join pe_str (pv 1)))) pss_nil) 
        (pss_cons (ps_if (pt_cmpR op_eq (pv 0) pe_str (nomark _)) 
          (pss_one (ps_ret (pe_ix ix_list (pv 1) pe_int (fun _ _ => rfl)))) pss_nil) 
        (pss_cons (ps_set (i := 2) sc_read_part.nd rfl (Or.inl rfl) (pe_ix (show IxR _ (rIxD K w) from ix_kdict) (pe_gRef (T.obj 112 rfl rfl)) (pv 0) (fun _ _ => rfl))) 
        (pss_one (ps_ret (pe_callA (i := 2) (S := fun a => if a = adr K (rix pt) then some (rsp pt) else none) (T.heldR pt) (hr.mono (by decide)) rfl (by first | exact Or.inl rfl | exact Or.inr (Or.inl rfl) | exact Or.inr (Or.inr rfl)) (pa_cons (pe_ix ix_list (pv 1) pe_int (fun _ _ => rfl)) pa_nil)))))))), ?_⟩
    cases pt with
    | shape f =>
      walk_at "ps"
      refine ⟨p, f, rfl, hL, hok.1, hok.2, fun H1 p1 s1 f1 e1 => ?_⟩
      exact k _ p1 s1 e1
    | bytes bs =>
      walk_at "ps"
      refine ⟨⟨_, rfl⟩, ?_⟩
      walk_at "p"
      refine ⟨_, p, _, rfl, rfl, .inl hL, ?_, ?_⟩
      · have e2 : (" " : Str).length = 1 := by decide +kernel
        obtain ⟨_, h2, _⟩ := hok
        show ((bs.map hexW).map (·.length)).sum + (bs.map hexW).length * _ ≤ _
        rw [hexW_sum, e2, List.length_map]
        omega
      exact k _ 0 (Same.refl _) trivial
    | name x =>
      walk_at "ps"
      refine ⟨_, _, _, rfl, rfl, T.readerAt (q := ("name", 115)) (by simp [readerVals]), ?_⟩
      refine ⟨_, _, rfl, if_pos rfl, ?_⟩
      walk_at "p"
      refine ⟨_, _, _, _, rfl, rfl, hL, rfl, ?_⟩
      refine ⟨x, rfl, hok, fun H1 s1 => ?_⟩
      exact k _ 0 s1 trivial
    | one x =>
      walk_at "ps"
      refine ⟨_, _, _, rfl, rfl, T.readerAt (q := ("one", 115)) (by simp [readerVals]), ?_⟩
      refine ⟨_, _, rfl, if_pos rfl, ?_⟩
      walk_at "p"
      refine ⟨_, _, _, _, rfl, rfl, hL, rfl, ?_⟩
      refine ⟨x, rfl, hok, fun H1 s1 => ?_⟩
      exact k _ 0 s1 trivial
    | by_ i =>
      walk_at "ps"
      refine ⟨_, _, _, rfl, rfl, T.readerAt (q := ("by", 117)) (by simp [readerVals]), ?_⟩
      refine ⟨_, _, rfl, if_pos rfl, ?_⟩
      walk_at "p"
      refine ⟨_, _, _, _, rfl, rfl, hL, rfl, ?_⟩
      refine ⟨i, rfl, hok.1, hok.2, fun H1 s1 => ?_⟩
      exact k _ 0 s1 trivial
    | rule r =>
      walk_at "ps"
      refine ⟨_, _, _, rfl, rfl, T.readerAt (q := ("rule", 119)) (by simp [readerVals]), ?_⟩
      refine ⟨_, _, rfl, if_pos rfl, ?_⟩
      walk_at "p"
      refine ⟨_, _, _, _, rfl, rfl, hL, rfl, ?_⟩
      refine ⟨r, rfl, fun H1 s1 => ?_⟩
      exact k _ 0 s1 trivial
theorem sc_only : FnScope ["parts", "kind", "part", "thing"] ["parts", "kind"] (defScope (top 128)) := ⟨rfl, rfl, rfl, by decide +kernel, rfl, by decide +kernel, by decide +kernel⟩
theorem d_only (T : TX w K mg) : DefOk P w K mg base 1 124 "only" ["parts", "kind"] (spOnly K) := by
  refine mkDef T 115 rfl rfl sc_only (fun _ _ _ _ _ _ us hl => match us, hl with | [_, _], _ => rfl) (fun vs H Q E h => ?_) (fun f cdv A outer s H vs Q E hr h => ?_)
  · obtain ⟨a, kd, ps, kvs, rfl, hL, hA, hlen, k⟩ := h
    rfl
  · obtain ⟨a, kd, ps, kvs, rfl, hL, hA, hlen, k⟩ := h
    refine ⟨_, 
        (pss_one (ps_ret (pe_lc (own := [("part", 2), ("thing", 3)]) (g := (gTup K 2 (gCons (gName 2) (gCons (gName 3) gNil)))) (by rfl) sc_only.nd (pi_list (pv 0)) (blkOk_by (own := [("part", 2), ("thing", 3)]) (N := ["parts", "kind", "part", "thing"]) (sc := defScope (top 128)) (by decide +kernel)) (fun _ _ _ _ _ => (pg_tup rfl (pgs_cons (pg_name (i := 2) sc_only.nd rfl (Or.inl rfl)) (pgs_cons (pg_name (i := 3) sc_only.nd rfl (Or.inl rfl)) pgs_nil)))) (fun _ _ _ _ _ => pts_one (pt_cmpR op_eq (pv 2) (pv 1) (nomark _))) (fun _ _ _ _ _ => (pv 3))))), ?_⟩
    have hl := hA.length
    walk_at "p"
    refine ⟨_, rfl, ⟨_, hL⟩, fun D hD => ?_⟩
    have sd : Same H (upd H D (.lst [])) := Same.new hD
    refine lc_it (walk_list (K := K) (a := a) (xs := ps.map .ref)) (fun i H' => Same H H' ∧ H' D = some (.lst (((kvs.take i).filter fun kv => decide (kv.1 = kd)).map (·.2)))) ⟨sd, upd_same⟩ (fun i H' _ h => h.1.leq hL) ?_ ?_
    · rintro i x H3 H4 hi ⟨t1, g1⟩ ⟨rfl, hx⟩
      rw [List.length_map] at hi
      have hik : i < kvs.length := by omega
      obtain ⟨p, hp, hpt⟩ := hA.get (List.getElem?_eq_getElem hik)
      rw [List.getElem?_map, hp] at hx
      obtain rfl := Option.some.inj hx
      have et : (kvs.take (i + 1)).filter (fun kv => decide (kv.1 = kd)) = (kvs.take i).filter (fun kv => decide (kv.1 = kd)) ++ (if kvs[i].1 = kd then [kvs[i]] else []) := by
        rw [List.take_succ, List.getElem?_eq_getElem hik, List.filter_append]
        congr 1
        by_cases q : kvs[i].1 = kd
        · rw [if_pos q]; simp [q]
        · rw [if_neg q]; simp [q]
      generalize kvs[i] = kv at *
      refine ⟨_, _, rfl, SqT.of (t1 _ _ hpt), rfl, _, _, rfl, _, _, rfl, rfl, ?_⟩
      refine ⟨rfl, ?_⟩
      walk_at "p"
      walk_at "p"
      walk_at "p"
      refine ⟨_, rfl, ?_⟩
      have ed : decide (V.str kv.1 = V.str kd) = decide (kv.1 = kd) := by
        rw [decide_eq_decide]
        exact ⟨fun h => by injection h, fun h => by rw [h]⟩
      rw [ed]
      refine iteD (fun q => ?_) (fun q => ?_)
      · rw [if_pos q] at et
        walk_at "p"
        refine ⟨_, g1, ?_, fun b o eb => ?_, ?_⟩
        · rw [List.length_map]
          have := List.length_filter_le (fun kv : Str × V => decide (kv.1 = kd)) (kvs.take i)
          rw [List.length_take] at this
          exact lt_line (by omega)
        · rw [upd_ne (ne_of_none eb hD)]
          exact t1 _ _ eb
        · refine upd_is ?_
          rw [et, List.map_append]
          rfl
      · rw [if_neg q, List.append_nil] at et
        exact ⟨t1, by rw [et]; exact g1⟩
    · rintro H3 ⟨t1, g1⟩
      rw [List.length_map, hl, List.take_length] at g1
      exact k _ D t1 hD g1
end
end TL
set_option Elab.async false
set_option linter.all false
set_option maxRecDepth 100000
set_option pp.maxSteps 600
set_option maxHeartbeats 4000000
namespace TL
open PySem PySem.Spec PyProof.Rows L2
/-- one question answered, where its answer is plain -/
local macro_rules | `(tactic| walk_at "p") => `(tactic| first
  | refine ⟨_, rfl, ?_⟩
  | refine ⟨_, _, rfl, rfl, ⟨by decide, by decide⟩, ?_⟩
  | refine ⟨_, _, rfl, rfl, (by show (0 : Int) < _; decide), ?_⟩
  | refine ⟨_, _, rfl, rfl, ?_⟩
  | refine ⟨rfl, ?_⟩
  | refine ⟨_, _, _, _, rfl, rfl, (by assumption), rfl, ?_⟩
  | refine .inr ⟨_, rfl, ?_⟩
  | refine .inl ⟨_, rfl, ?_⟩
  | refine iteT ?_
  | refine iteF ?_)
local macro_rules | `(tactic| walk_at "ps") => `(tactic| repeat walk_at "p")

def lineW (wd : Str) (pts : List Pt) : List Str := wd :: pts.flatMap Pt.ws
def lineS (wd : Str) (pts : List Pt) : Str := Txt.join " " (lineW wd pts)
def spParts (K : PySem.W.Frag) : Sp := fun vs H Q _ => ∃ (wd : Str) (pts : List Pt), vs = [.str (lineS wd pts)] ∧ (wd, pts.map Pt.kind) ∈ formVals ∧ (∀ pt ∈ pts, pt.ok) ∧ BytesLast pts ∧ (∀ x ∈ lineW wd pts, x ≠ "" ∧ 32 ∉ tl x) ∧ (lineS wd pts).length ≤ 90000 ∧ (lineW wd pts).length ≤ 2000 ∧
  ∀ H' q p ps, Same H H' → H' q = some (.tup [.str wd, .ref p]) → H' p = some (.lst (ps.map .ref)) → All2 (PtAt H') ps pts → Q (.ref q) H'
def spHoldLike (K : PySem.W.Frag) : Sp := fun vs H Q _ => ∃ (wd : Str) (fa ga : Addr) (f : Form), vs = [.str wd, .ref fa, .ref ga] ∧ wd ∈ (["sum", "less", "times", "order"] : List Str) ∧ SqT K H fa f.vs ∧ SqT K H ga f.vs ∧ (wd = "times" → f.n + f.n ≤ 12) ∧ ∀ H', Same H H' → Q .non H'
theorem PtAt.same {H H' : Hp} (s : Same H H') {a : Addr} {pt : Pt} (h : PtAt H a pt) : PtAt H' a pt := by
  obtain ⟨b, h1, h2⟩ := h
  exact ⟨b, s _ _ h1, Pt.at_same s h2⟩
theorem dpForm {K : PySem.W.Frag} {H : Hp} {a : Addr} {f : Form} (h : SqT K H a f.vs) : Dp K H (.ref a) (.tuple [.str (kindS f.packed), .int (f.n : Nat), .str (sgS f.sg), .int (f.pt : Nat)]) :=
  .tup h (.cons (.str _) (.cons (.int _) (.cons (.str _) (.cons (.int _) .nil))))
theorem in_str (x : Str) : ∀ ys : List Str, inV (V.str x) (ys.map V.str) = decide (x ∈ ys)
  | [] => rfl
  | y :: ys => by
    have ih := in_str x ys
    unfold inV at ih ⊢
    rw [List.map_cons, List.any_cons, ih]
    have : eqV (V.str y) (V.str x) = decide (x = y) := by
      show (y == x) = _
      by_cases e : x = y
      · subst e; simp
      · rw [decide_eq_false e, beq_eq_false_iff_ne]; exact fun z => e z.symm
    rw [this]
    by_cases e : x = y
    · simp [e]
    · simp [e]
theorem cut_mid {α : Type} (g : α → V) (A B C : List α) : cutV ((A ++ B ++ C).map g) (some (A.length : Int)) (some ((A.length : Int) + (B.length : Int))) = B.map g := by
  unfold cutV
  simp only [HT.sIx, List.length_map, List.length_append]
  rw [if_neg (by omega), if_neg (by omega)]
  rw [show ((A.length : Int) + (B.length : Int)).toNat = A.length + B.length by omega, Int.toNat_natCast]
  rw [Nat.min_eq_left (by omega), Nat.min_eq_left (by omega), Nat.add_sub_cancel_left, List.append_assoc, List.map_append, List.drop_append_of_le_length (by rw [List.length_map]; exact Nat.le_refl _)]
  rw [List.drop_of_length_le (by rw [List.length_map]; exact Nat.le_refl _), List.nil_append, List.map_append, List.take_append_of_le_length (by rw [List.length_map]; exact Nat.le_refl _), List.take_of_length_le (by rw [List.length_map]; exact Nat.le_refl _)]
theorem PtAt.lst {H : Hp} {p a : Addr} {xs : List V} {o : HO} (e : H p = some (.lst xs)) {pt : Pt} (h : PtAt H a pt) : PtAt (upd H p o) a pt := by
  obtain ⟨b, h1, h2⟩ := h
  refine ⟨b, by rw [upd_ne (ne_kind h1 e (by intro z; cases z))]; exact h1, ?_⟩
  cases pt <;> first | trivial | (show upd H p o b = _; rw [upd_ne (ne_kind h2 e (by intro z; cases z))]; exact h2)
theorem bytesLast_end : ∀ {pts : List Pt} {i : Nat} {bs : List Nat}, BytesLast pts → pts[i]? = some (.bytes bs) → pts.length = i + 1
  | [], _, _, _, h => by simp at h
  | [p], 0, _, _, _ => rfl
  | [p], i + 1, _, _, h => by simp at h
  | .bytes _ :: _ :: _, _, _, h, _ => h.elim
  | .name _ :: q :: r, 0, _, _, h => by simp at h
  | .one _ :: q :: r, 0, _, _, h => by simp at h
  | .by_ _ :: q :: r, 0, _, _, h => by simp at h
  | .rule _ :: q :: r, 0, _, _, h => by simp at h
  | .shape _ :: q :: r, 0, _, _, h => by simp at h
  | .name _ :: q :: r, i + 1, _, hb, h => by
    have hb' : BytesLast (q :: r) := hb
    have := bytesLast_end hb' (i := i) (by simpa using h)
    simp at this ⊢; omega
  | .one _ :: q :: r, i + 1, _, hb, h => by
    have hb' : BytesLast (q :: r) := hb
    have := bytesLast_end hb' (i := i) (by simpa using h)
    simp at this ⊢; omega
  | .by_ _ :: q :: r, i + 1, _, hb, h => by
    have hb' : BytesLast (q :: r) := hb
    have := bytesLast_end hb' (i := i) (by simpa using h)
    simp at this ⊢; omega
  | .rule _ :: q :: r, i + 1, _, hb, h => by
    have hb' : BytesLast (q :: r) := hb
    have := bytesLast_end hb' (i := i) (by simpa using h)
    simp at this ⊢; omega
  | .shape _ :: q :: r, i + 1, _, hb, h => by
    have hb' : BytesLast (q :: r) := hb
    have := bytesLast_end hb' (i := i) (by simpa using h)
    simp at this ⊢; omega
section
variable {P : Program} {w : World} {K : PySem.W.Frag} {mg : Str → Option Value} {base : Heap}
theorem sc_hold_like : FnScope ["word", "first", "second"] ["word", "first", "second"] (defScope (top 131)) := ⟨rfl, rfl, rfl, by decide +kernel, rfl, by decide +kernel, by decide +kernel⟩
theorem d_hold_like (T : TX w K mg) : DefOk P w K mg base 1 127 "hold_like" ["word", "first", "second"] (spHoldLike K) := by
  refine mkDef T 118 rfl rfl sc_hold_like (fun _ _ _ _ _ _ us hl => match us, hl with | [_, _, _], _ => rfl) (fun vs H Q E h => ?_) (fun f cdv A outer s H vs Q E hr h => ?_)
  · obtain ⟨wd, fa, ga, f, rfl, hw, hF, hG, ht, k⟩ := h
    rfl
  · obtain ⟨wd, fa, ga, f, rfl, hw, hF, hG, ht, k⟩ := h
    refine ⟨_, 
        (pss_cons (ps_if (PW.pt (pw_and (pt_cmpR op_in_seq (pv 0) (pe_tup (pa_cons pe_str (pa_cons pe_str (pa_cons pe_str pa_nil)))) (by rfl)) (pw_and1 (pt_cmpR (op_neD hr.units) (pv 1) (pv 2) (nomark _))))) pss_never pss_nil) 
        (pss_cons (ps_if (PW.pt (pw_and (pt_cmpR op_in_seq (pv 0) (pe_tup (pa_cons pe_str (pa_cons pe_str pa_nil))) (by rfl)) (pw_and1 (pt_cmpR (op_neD hr.units) (pe_tup (pa_cons (pe_ix ix_tup (pv 1) pe_int (fun _ _ => rfl)) (pa_cons (pe_ix ix_tup (pv 1) pe_int (fun _ _ => rfl)) pa_nil))) (pe_tup (pa_cons (pe_ix ix_tup (pv 2) pe_int (fun _ _ => rfl)) (pa_cons (pe_ix ix_tup (pv 2) pe_int (fun _ _ => rfl)) pa_nil))) (nomark _))))) pss_never pss_nil) 
        (pss_cons (ps_if (PW.pt (pw_and (pt_cmpR op_eq (pv 0) pe_str (nomark _)) (pw_and1 (pt_cmpR op_gt (pe_op op_add (pe_ix ix_tup (pv 1) pe_int (fun _ _ => rfl)) (pe_ix ix_tup (pv 2) pe_int (fun _ _ => rfl))) (pe_gInt (T.int 101)) (nomark _))))) pss_never pss_nil) 
        (pss_cons (ps_if (PW.pt (pw_and (pt_cmpR op_eq (pv 0) pe_str (nomark _)) (pw_and1 (pt_cmpR op_gt (pe_ix ix_tup (pv 1) pe_int (fun _ _ => rfl)) (pe_gInt (T.int 102)) (nomark _))))) pss_never pss_nil) 
        (pss_one (ps_if (PW.pt (pw_and (pt_cmpR op_eq (pv 0) pe_str (nomark _)) (pw_and1 (pt_cmpR op_gt (pe_ix ix_tup (pv 2) pe_int (fun _ _ => rfl)) (pe_gInt (T.int 103)) (nomark _))))) pss_never pss_nil)))))), ?_⟩
    have dF := dpForm hF
    have dG := dpForm hG
    have es : ∀ f : Form, SeqAt.shaped (.tuple [.str (kindS f.packed), .int (f.n : Nat), .str (sgS f.sg), .int (f.pt : Nat)]) = true := fun f => by
      simp [SeqAt.shaped, PyData.canLay0, PyData.canLayAll0, PyData.depth, PyData.depthAll]
      exact ⟨by cases f.packed <;> decide +kernel, by cases f.sg <;> decide +kernel⟩
    have ee : ∀ f : Form, PyData.eqv (.tuple [.str (kindS f.packed), .int (f.n : Nat), .str (sgS f.sg), .int (f.pt : Nat)]) (.tuple [.str (kindS f.packed), .int (f.n : Nat), .str (sgS f.sg), .int (f.pt : Nat)]) = true := fun f => by
      simp [PyData.eqv, PyData.eqvAll]
    have es2 : ∀ f : Form, SeqAt.shaped (.tuple [.str (kindS f.packed), .str (sgS f.sg)]) = true := fun f => by
      simp [SeqAt.shaped, PyData.canLay0, PyData.canLayAll0, PyData.depth, PyData.depthAll]
      exact ⟨by cases f.packed <;> decide +kernel, by cases f.sg <;> decide +kernel⟩
    have ee2 : ∀ f : Form, PyData.eqv (.tuple [.str (kindS f.packed), .str (sgS f.sg)]) (.tuple [.str (kindS f.packed), .str (sgS f.sg)]) = true := fun f => by
      simp [PyData.eqv, PyData.eqvAll]
    simp only [List.mem_cons, List.not_mem_nil, or_false] at hw
    have like : (wd = "sum" ∨ wd = "less" ∨ wd = "order") ∨ wd = "times" := by
      rcases hw with h | h | h | h
      · exact .inl (.inl h)
      · exact .inl (.inr (.inl h))
      · exact .inr h
      · exact .inl (.inr (.inr h))
    clear hw
    rcases like with h | rfl
    · walk_at "p"
      refine ⟨(by show 3 ≤ sizeLine; decide), fun p1 f1 => ?_⟩
      have s1 := Same.new (o := .tup [V.str "sum", V.str "less", V.str "order"]) f1
      refine ⟨_, _, rfl, .inr (SqT.of upd_same), rfl, rfl, ?_⟩
      refine ⟨_, rfl, ?_⟩
      have e1 : inV (V.str wd) [V.str "sum", V.str "less", V.str "order"] = true := by rcases h with rfl | rfl | rfl <;> decide
      rw [e1]
      refine ⟨_, rfl, ?_⟩
      refine ⟨_, rfl, ?_⟩
      refine ⟨_, _, dpForm (s1.teq hF), dpForm (s1.teq hG), es f, es f, ?_⟩
      rw [ee]
      refine ⟨_, rfl, ?_⟩
      refine ⟨_, rfl, ?_⟩
      refine ⟨(by show 2 ≤ sizeLine; decide), fun p2 f2 => ?_⟩
      have s2 := s1.trans (Same.new (o := .tup [V.str "times", V.str "over"]) f2)
      refine ⟨_, _, rfl, .inr (SqT.of upd_same), rfl, rfl, ?_⟩
      refine ⟨_, rfl, ?_⟩
      have e2 : inV (V.str wd) [V.str "times", V.str "over"] = false := by rcases h with rfl | rfl | rfl <;> decide
      rw [e2]
      rcases h with rfl | rfl | rfl
      · walk_at "ps"
        exact k _ s2
      · walk_at "ps"
        exact k _ s2
      · walk_at "ps"
        exact k _ s2
    · walk_at "p"
      refine ⟨(by show 3 ≤ sizeLine; decide), fun p1 f1 => ?_⟩
      have s1 := Same.new (o := .tup [V.str "sum", V.str "less", V.str "order"]) f1
      refine ⟨_, _, rfl, .inr (SqT.of upd_same), rfl, rfl, ?_⟩
      refine ⟨_, rfl, ?_⟩
      rw [show inV (V.str "times") [V.str "sum", V.str "less", V.str "order"] = false by decide]
      refine ⟨_, rfl, ?_⟩
      refine ⟨(by show 2 ≤ sizeLine; decide), fun p2 f2 => ?_⟩
      have s2 := s1.trans (Same.new (o := .tup [V.str "times", V.str "over"]) f2)
      refine ⟨_, _, rfl, .inr (SqT.of upd_same), rfl, rfl, ?_⟩
      refine ⟨_, rfl, ?_⟩
      rw [show inV (V.str "times") [V.str "times", V.str "over"] = true by decide]
      have hF2 := s2.teq hF
      refine ⟨_, rfl, ?_⟩
      refine ⟨_, _, _, _, rfl, rfl, (by assumption), rfl, ?_⟩
      refine ⟨_, rfl, ?_⟩
      refine ⟨_, _, _, _, rfl, rfl, (by assumption), rfl, ?_⟩
      refine ⟨(by show 2 ≤ sizeLine; decide), fun p3 f3 => ?_⟩
      have s3 := s2.trans (Same.new (o := .tup [V.str (kindS f.packed), V.str (sgS f.sg)]) f3)
      have hG3 := s3.teq hG
      refine ⟨_, rfl, ?_⟩
      refine ⟨_, _, _, _, rfl, rfl, (by assumption), rfl, ?_⟩
      refine ⟨_, rfl, ?_⟩
      refine ⟨_, _, _, _, rfl, rfl, (by assumption), rfl, ?_⟩
      refine ⟨(by show 2 ≤ sizeLine; decide), fun p4 f4 => ?_⟩
      have s4' := Same.new (o := .tup [V.str (kindS f.packed), V.str (sgS f.sg)]) f4
      have s4 := s3.trans s4'
      refine ⟨_, _, .tup (SqT.of (s4' _ _ upd_same)) (.cons (.str _) (.cons (.str _) .nil)), .tup (SqT.of upd_same) (.cons (.str _) (.cons (.str _) .nil)), es2 f, es2 f, ?_⟩
      rw [ee2]
      have hF4 := s4.teq hF
      have hG4 := s4.teq hG
      refine ⟨_, rfl, ?_⟩
      refine ⟨_, rfl, ?_⟩
      refine ⟨rfl, ?_⟩
      refine ⟨_, rfl, ?_⟩
      refine ⟨_, rfl, ?_⟩
      refine ⟨_, _, _, _, rfl, rfl, (by assumption), rfl, ?_⟩
      refine ⟨_, rfl, ?_⟩
      refine ⟨_, _, _, _, rfl, rfl, (by assumption), rfl, ?_⟩
      refine ⟨_, _, rfl, rfl, ?_⟩
      refine ⟨_, _, rfl, rfl, ?_⟩
      refine ⟨_, rfl, ?_⟩
      refine neg_or (by have := ht rfl; omega) ?_
      refine ⟨_, rfl, ?_⟩
      refine ⟨rfl, ?_⟩
      refine ⟨_, rfl, ?_⟩
      refine ⟨_, rfl, ?_⟩
      refine ⟨rfl, ?_⟩
      refine ⟨_, rfl, ?_⟩
      refine iteF ?_
      refine iteF ?_
      exact k _ s4
theorem sc_parts_of_desk : FnScope ["line", "words", "parts", "at", "part", "many"] ["line"] (defScope (top 126)) := ⟨rfl, rfl, rfl, by decide +kernel, rfl, by decide +kernel, by decide +kernel⟩
theorem d_parts_of_desk (T : TX w K mg) : DefOk P w K mg base 5 123 "parts_of_desk" ["line"] (spParts K) := by
  refine mkDef T 114 rfl rfl sc_parts_of_desk (fun _ _ _ _ _ _ us hl => match us, hl with | [_], _ => rfl) (fun vs H Q E h => ?_) (fun f cdv A outer s H vs Q E hr h => ?_)
  · obtain ⟨wd, pts, rfl, hfm, hok, hbl, hwd, hlen, hlen2, k⟩ := h
    rfl
  · obtain ⟨wd, pts, rfl, hfm, hok, hbl, hwd, hlen, hlen2, k⟩ := h
    refine ⟨_, 
        (pss_cons (ps_set (i := 1) sc_parts_of_desk.nd rfl (Or.inl rfl) (pe_split (pv 0) pe_str)) 
        (pss_cons (ps_if (PW.pt (pw_or (pt_cmpR op_in_seq pe_str (pv 1) (by rfl)) (pw_or1 (pt_cmpR (op_notIn_kd T.kdF.choose_spec.choose_spec) (pe_ix ix_list (pv 1) pe_int (fun _ _ => rfl)) (pe_gRef (T.obj 105 rfl rfl)) (by rfl))))) pss_never pss_nil) 
        (pss_cons (ps_set (i := 2) sc_parts_of_desk.nd rfl (Or.inl rfl) (pe_lst pa_nil)) 
        (pss_cons (ps_set (i := 3) sc_parts_of_desk.nd rfl (Or.inl rfl) pe_int) 
        (pss_cons (ps_for PassesOwn.never rfl (pi_tup (pe_ix (show IxR _ (rIxD K w) from ix_kdict) (pe_gRef (T.obj 105 rfl rfl)) (pe_ix ix_list (pv 1) pe_int (fun _ _ => rfl)) (fun _ _ => rfl))) (pg_name (i := 4) sc_parts_of_desk.nd rfl (Or.inl rfl)) 
          (pss_cons (ps_set (i := 5) sc_parts_of_desk.nd rfl (Or.inl rfl) pe_int) 
          (pss_cons (ps_if (pt_cmpR op_eq (pv 4) pe_str (nomark _)) 
            (pss_one (ps_set (i := 5) sc_parts_of_desk.nd rfl (Or.inl rfl) pe_int)) 
            (pss_one (ps_if (pt_cmpR op_eq (pv 4) pe_str (nomark _)) 
              (pss_one (ps_set (i := 5) sc_parts_of_desk.nd rfl (Or.inl rfl) (pe_callB (call_max2 rfl) (by rfl) T.max_ (by decide +kernel) (pa_cons pe_int (pa_cons (pe_op op_sub (pe_callB call_len_seq (by rfl) T.len_ (by decide +kernel) (pa_cons (pv 1) pa_nil)) (pv 3)) pa_nil))))) pss_nil))) 
          (pss_cons (ps_if (pt_cmpR op_gt (pe_op op_add (pv 3) (pv 5)) (pe_callB call_len_seq (by rfl) T.len_ (by decide +kernel) (pa_cons (pv 1) pa_nil)) (nomark _)) pss_never pss_nil) 
          (pss_cons (ps_expr (pe_bm PySem.F.plainAttrs_list PySem.F.slot_list_append PySem.F.type_list_append mt_append (pv 2) (pa_cons (pe_tup (pa_cons (pv 4) (pa_cons (pe_callD (d_read_part T) (hr.mono (by decide)) (by rfl) (pa_cons (pv 4) (pa_cons (pe_slice sl_list (pv 1) (po_some (pv 3)) (po_some (pe_op op_add (pv 3) (pv 5)))) pa_nil))) pa_nil))) pa_nil))) 
          (pss_one (ps_aug (i := 3) sc_parts_of_desk.nd rfl (Or.inl rfl) (pv 5) ip_add))))))) 
        (pss_cons (ps_if (pt_cmpR op_lt (pv 3) (pe_callB call_len_seq (by rfl) T.len_ (by decide +kernel) (pa_cons (pv 1) pa_nil)) (nomark _)) pss_never pss_nil) 
        (pss_one (ps_ret (pe_tup (pa_cons (pe_ix ix_list (pv 1) pe_int (fun _ _ => rfl)) (pa_cons (pv 2) pa_nil))))))))))), ?_⟩
    obtain ⟨g1, g2, g3⟩ := T.formAt hfm
    dsimp only at g1 g2 g3
    have hsp : Txt.split (lineS wd pts) " " = lineW wd pts := split_join (s := 32) (S := []) (by decide +kernel) (by decide +kernel) (List.cons_ne_nil _ _) (fun p hp => (hwd p hp).2)
    refine ⟨_, rfl, ?_⟩
    refine ⟨⟨_, rfl⟩, ?_⟩
    refine ⟨_, _, rfl, rfl, (by decide +kernel), small_len (by omega), fun p1 f1 => ?_⟩
    rw [hsp]
    have s1 : Same H (upd H p1 (.lst ((lineW wd pts).map V.str))) := Same.new f1
    have e1 : upd H p1 (.lst ((lineW wd pts).map V.str)) p1 = _ := upd_same
    revert s1 e1
    generalize upd H p1 _ = H1
    intro s1 e1
    refine ⟨_, rfl, ?_⟩
    refine ⟨_, _, rfl, .inl (SqL.of e1), rfl, ?_, ?_⟩
    · rw [List.all_map, List.all_eq_true]; intro z _; rfl
    refine ⟨_, rfl, ?_⟩
    rw [show inV (V.str "") ((lineW wd pts).map V.str) = false by rw [in_str]; exact decide_eq_false (fun h => (hwd _ h).1 rfl)]
    refine ⟨_, rfl, ?_⟩
    refine ⟨_, _, _, V.str wd, rfl, rfl, SqL.of e1, atI_nat (j := 0) rfl, ?_⟩
    refine ⟨wd, _, rfl, rfl, g1, ?_⟩
    refine ⟨_, rfl, ?_⟩
    refine iteF ?_
    refine ⟨by decide, fun pp hpp => ?_⟩
    have s2 := s1.trans (Same.new (o := .lst []) hpp)
    have ppH : H pp = none := s1.free hpp
    have n1p : p1 ≠ pp := fun z => by rw [← z, e1] at hpp; cases hpp
    have e2 := (Same.new (o := .lst []) hpp) _ _ e1
    have ep : upd H1 pp (.lst []) pp = some (.lst []) := upd_same
    revert s2 e2 ep
    generalize upd H1 pp _ = H2
    intro s2 e2 ep
    refine ⟨_, rfl, ?_⟩
    refine ⟨_, _, _, V.str wd, rfl, rfl, SqL.of e2, atI_nat (j := 0) rfl, ?_⟩
    refine ⟨_, wd, _, rfl, rfl, g3, ?_⟩
    refine ⟨_, rfl, ⟨_, tupAt_ok g2 _⟩, ?_⟩
    refine for_tup (K := K) (a := kAt K (adr K 114) wd) (xs := (pts.map Pt.kind).map V.str) (fun i σ H' => Same H H' ∧ H' p1 = some (.lst ((lineW wd pts).map V.str)) ∧ (∃ ps : List Addr, H' pp = some (.lst (ps.map .ref)) ∧ All2 (PtAt H') ps (pts.take i)) ∧ ∃ v v2, σ = [some (.str (lineS wd pts)), some (.ref p1), some (.ref pp), some (nV (1 + ((pts.take i).flatMap Pt.ws).length)), v, v2]) ⟨s2, e2, ⟨[], ep, trivial⟩, none, none, rfl⟩ (fun i σ H' _ _ => tupAt_ok g2 _) ?_ ?_
    · clear s2 e2 ep s1 e1
      rintro i x σ H3 hx ⟨s3, e3, ⟨ps, ep, hA⟩, v, v2, rfl⟩
      rw [List.getElem?_map, List.getElem?_map] at hx
      obtain ⟨kd, hkd, rfl⟩ := Option.map_eq_some_iff.mp hx
      obtain ⟨pt, hpt, rfl⟩ := Option.map_eq_some_iff.mp hkd
      have hil : i < pts.length := (List.getElem?_eq_some_iff.mp hpt).1
      have hmem : pt ∈ pts := List.mem_of_getElem? hpt
      have hokp := hok pt hmem
      have htk : pts.take (i + 1) = pts.take i ++ [pt] := by rw [List.take_succ, hpt]; rfl
      have hsplit : pts = pts.take i ++ pt :: pts.drop (i + 1) := by
        have h1 := (List.getElem?_eq_some_iff.mp hpt).2
        rw [← h1, ← List.drop_eq_getElem_cons hil, List.take_append_drop]
      have hln : lineW wd pts = (wd :: (pts.take i).flatMap Pt.ws) ++ pt.ws ++ (pts.drop (i + 1)).flatMap Pt.ws := by
        unfold lineW
        conv => lhs; rw [hsplit]
        rw [List.flatMap_append, List.flatMap_cons]
        simp
      have hA1 : (wd :: (pts.take i).flatMap Pt.ws).length = 1 + ((pts.take i).flatMap Pt.ws).length := by rw [List.length_cons]; omega
      have hL2 : (lineW wd pts).length = 1 + ((pts.take i).flatMap Pt.ws).length + pt.ws.length + ((pts.drop (i + 1)).flatMap Pt.ws).length := by
        rw [hln, List.length_append, List.length_append, hA1]
      have hcut : cutV ((lineW wd pts).map V.str) (some ((1 + ((pts.take i).flatMap Pt.ws).length : Nat) : Int)) (some (((1 + ((pts.take i).flatMap Pt.ws).length : Nat) : Int) + (pt.ws.length : Int))) = pt.ws.map V.str := by
        rw [hln, ← hA1]
        exact cut_mid V.str _ _ _
      have hat : 1 + ((pts.take (i + 1)).flatMap Pt.ws).length = 1 + ((pts.take i).flatMap Pt.ws).length + pt.ws.length := by
        rw [htk, List.flatMap_append, List.length_append]
        simp
        omega
      rw [hat, htk]
      have hend : ∀ bs, pt = .bytes bs → ((pts.drop (i + 1)).flatMap Pt.ws).length = 0 := fun bs e => by
        have := bytesLast_end hbl (e ▸ hpt)
        rw [List.drop_of_length_le (by omega)]
        rfl
      have hwl : 1 ≤ pt.ws.length := by
        cases pt <;> try exact Nat.le_refl _
        · show 1 ≤ 4; omega
        · rename_i bs
          have : bs ≠ [] := hokp.1
          show 1 ≤ (bs.map hexW).length
          rw [List.length_map]
          exact List.length_pos_iff.mpr this
      have hps := hA.length
      have hpl : pts.length ≤ 2000 := by
        have : ∀ l : List Pt, (∀ pt ∈ l, 1 ≤ pt.ws.length) → l.length ≤ (l.flatMap Pt.ws).length := fun l => by
          induction l with
          | nil => intro _; exact Nat.le_refl _
          | cons p l ih =>
            intro h
            rw [List.flatMap_cons, List.length_append, List.length_cons]
            have := ih (fun q hq => h q (by simp [hq]))
            have := h p (by simp)
            omega
        have h2 := this pts (fun q hq => by
          cases q <;> try exact Nat.le_refl _
          · show 1 ≤ 4; omega
          · rename_i bs
            have : bs ≠ [] := (hok _ hq).1
            show 1 ≤ (bs.map hexW).length
            rw [List.length_map]
            exact List.length_pos_iff.mpr this)
        unfold lineW at hlen2
        rw [List.length_cons] at hlen2
        omega
      have hpsl : ps.length < sizeLine := by rw [hps, List.length_take]; exact lt_line (by omega)
      generalize hCq : ((pts.drop (i + 1)).flatMap Pt.ws).length = Cq at *
      generalize 1 + ((pts.take i).flatMap Pt.ws).length = aq at *
      clear hln hsplit hA1 hat htk
      rcases pt with x | x | y | r | f | bs
      · have hcut : cutV ((lineW wd pts).map V.str) (some ((aq : Nat) : Int)) (some (((aq : Nat) : Int) + 1)) = [V.str x] := hcut
        have hL2 : (lineW wd pts).length = aq + 1 + Cq := hL2
        refine ⟨_, rfl, ?_⟩
        refine ⟨rfl, ?_⟩
        refine ⟨_, rfl, ?_⟩
        refine ⟨_, rfl, ?_⟩
        refine ⟨rfl, ?_⟩
        refine ⟨_, rfl, ?_⟩
        refine ⟨_, rfl, ?_⟩
        refine ⟨_, rfl, ?_⟩
        refine ⟨_, _, rfl, rfl, ?_⟩
        refine ⟨_, rfl, ?_⟩
        refine ⟨p1, _, rfl, .inl (SqL.of e3), ?_⟩
        rw [List.length_map]
        refine ⟨_, _, rfl, rfl, ?_⟩
        refine ⟨_, rfl, ?_⟩
        refine neg_or (by rw [hL2]; omega) ?_
        refine ⟨_, rfl, ?_⟩
        refine ⟨.inl ⟨rfl, _, SqL.of ep⟩, ?_⟩
        refine ⟨_, rfl, ?_⟩
        refine ⟨_, rfl, ?_⟩
        refine ⟨_, rfl, ?_⟩
        refine ⟨_, rfl, ?_⟩
        refine ⟨_, rfl, ?_⟩
        refine ⟨_, rfl, ?_⟩
        refine ⟨_, rfl, ?_⟩
        refine ⟨_, _, rfl, rfl, ?_⟩
        refine ⟨_, rfl, ?_⟩
        refine ⟨_, _, rfl, SqL.of e3, fun p3 f3 => ?_⟩
        rw [hcut]
        refine ⟨Pt.name x, p3, rfl, SqL.of upd_same, hokp, fun H5 b s5 hb => ?_⟩
        refine ⟨(by show 2 ≤ sizeLine; decide), fun p4 f4 => ?_⟩
        have sX := ((Same.new (o := .lst ([V.str x])) f3).trans s5).trans (Same.new (o := .tup [V.str (Pt.kind (Pt.name x)), Pt.v (Pt.name x) b]) f4)
        refine ⟨_, _, _, rfl, rfl, sX _ _ ep, by rw [List.length_map]; exact hpsl, ?_⟩
        refine ⟨_, rfl, ?_⟩
        refine ⟨_, rfl, ?_⟩
        refine ⟨_, _, rfl, rfl, ?_⟩
        refine ⟨?_, ?_, ⟨ps ++ [p4], ?_, ?_⟩, _, _, rfl⟩
        · intro a o ea
          rw [upd_ne (ne_of_none ea ppH)]
          exact sX _ _ (s3 _ _ ea)
        · rw [upd_ne n1p]
          exact sX _ _ e3
        · refine upd_is ?_
          rw [List.map_append]; rfl
        · refine All2.snoc (hA.imp fun a q _ h => (h.same sX).lst (sX _ _ ep)) ?_
          exact PtAt.lst (sX _ _ ep) ⟨b, upd_same, Pt.at_same (Same.new f4) hb⟩
      · have hcut : cutV ((lineW wd pts).map V.str) (some ((aq : Nat) : Int)) (some (((aq : Nat) : Int) + 1)) = [V.str x] := hcut
        have hL2 : (lineW wd pts).length = aq + 1 + Cq := hL2
        refine ⟨_, rfl, ?_⟩
        refine ⟨rfl, ?_⟩
        refine ⟨_, rfl, ?_⟩
        refine ⟨_, rfl, ?_⟩
        refine ⟨rfl, ?_⟩
        refine ⟨_, rfl, ?_⟩
        refine ⟨_, rfl, ?_⟩
        refine ⟨_, rfl, ?_⟩
        refine ⟨_, _, rfl, rfl, ?_⟩
        refine ⟨_, rfl, ?_⟩
        refine ⟨p1, _, rfl, .inl (SqL.of e3), ?_⟩
        rw [List.length_map]
        refine ⟨_, _, rfl, rfl, ?_⟩
        refine ⟨_, rfl, ?_⟩
        refine neg_or (by rw [hL2]; omega) ?_
        refine ⟨_, rfl, ?_⟩
        refine ⟨.inl ⟨rfl, _, SqL.of ep⟩, ?_⟩
        refine ⟨_, rfl, ?_⟩
        refine ⟨_, rfl, ?_⟩
        refine ⟨_, rfl, ?_⟩
        refine ⟨_, rfl, ?_⟩
        refine ⟨_, rfl, ?_⟩
        refine ⟨_, rfl, ?_⟩
        refine ⟨_, rfl, ?_⟩
        refine ⟨_, _, rfl, rfl, ?_⟩
        refine ⟨_, rfl, ?_⟩
        refine ⟨_, _, rfl, SqL.of e3, fun p3 f3 => ?_⟩
        rw [hcut]
        refine ⟨Pt.one x, p3, rfl, SqL.of upd_same, hokp, fun H5 b s5 hb => ?_⟩
        refine ⟨(by show 2 ≤ sizeLine; decide), fun p4 f4 => ?_⟩
        have sX := ((Same.new (o := .lst ([V.str x])) f3).trans s5).trans (Same.new (o := .tup [V.str (Pt.kind (Pt.one x)), Pt.v (Pt.one x) b]) f4)
        refine ⟨_, _, _, rfl, rfl, sX _ _ ep, by rw [List.length_map]; exact hpsl, ?_⟩
        refine ⟨_, rfl, ?_⟩
        refine ⟨_, rfl, ?_⟩
        refine ⟨_, _, rfl, rfl, ?_⟩
        refine ⟨?_, ?_, ⟨ps ++ [p4], ?_, ?_⟩, _, _, rfl⟩
        · intro a o ea
          rw [upd_ne (ne_of_none ea ppH)]
          exact sX _ _ (s3 _ _ ea)
        · rw [upd_ne n1p]
          exact sX _ _ e3
        · refine upd_is ?_
          rw [List.map_append]; rfl
        · refine All2.snoc (hA.imp fun a q _ h => (h.same sX).lst (sX _ _ ep)) ?_
          exact PtAt.lst (sX _ _ ep) ⟨b, upd_same, Pt.at_same (Same.new f4) hb⟩
      · have hcut : cutV ((lineW wd pts).map V.str) (some ((aq : Nat) : Int)) (some (((aq : Nat) : Int) + 1)) = [V.str (toS y)] := hcut
        have hL2 : (lineW wd pts).length = aq + 1 + Cq := hL2
        refine ⟨_, rfl, ?_⟩
        refine ⟨rfl, ?_⟩
        refine ⟨_, rfl, ?_⟩
        refine ⟨_, rfl, ?_⟩
        refine ⟨rfl, ?_⟩
        refine ⟨_, rfl, ?_⟩
        refine ⟨_, rfl, ?_⟩
        refine ⟨_, rfl, ?_⟩
        refine ⟨_, _, rfl, rfl, ?_⟩
        refine ⟨_, rfl, ?_⟩
        refine ⟨p1, _, rfl, .inl (SqL.of e3), ?_⟩
        rw [List.length_map]
        refine ⟨_, _, rfl, rfl, ?_⟩
        refine ⟨_, rfl, ?_⟩
        refine neg_or (by rw [hL2]; omega) ?_
        refine ⟨_, rfl, ?_⟩
        refine ⟨.inl ⟨rfl, _, SqL.of ep⟩, ?_⟩
        refine ⟨_, rfl, ?_⟩
        refine ⟨_, rfl, ?_⟩
        refine ⟨_, rfl, ?_⟩
        refine ⟨_, rfl, ?_⟩
        refine ⟨_, rfl, ?_⟩
        refine ⟨_, rfl, ?_⟩
        refine ⟨_, rfl, ?_⟩
        refine ⟨_, _, rfl, rfl, ?_⟩
        refine ⟨_, rfl, ?_⟩
        refine ⟨_, _, rfl, SqL.of e3, fun p3 f3 => ?_⟩
        rw [hcut]
        refine ⟨Pt.by_ y, p3, rfl, SqL.of upd_same, hokp, fun H5 b s5 hb => ?_⟩
        refine ⟨(by show 2 ≤ sizeLine; decide), fun p4 f4 => ?_⟩
        have sX := ((Same.new (o := .lst ([V.str (toS y)])) f3).trans s5).trans (Same.new (o := .tup [V.str (Pt.kind (Pt.by_ y)), Pt.v (Pt.by_ y) b]) f4)
        refine ⟨_, _, _, rfl, rfl, sX _ _ ep, by rw [List.length_map]; exact hpsl, ?_⟩
        refine ⟨_, rfl, ?_⟩
        refine ⟨_, rfl, ?_⟩
        refine ⟨_, _, rfl, rfl, ?_⟩
        refine ⟨?_, ?_, ⟨ps ++ [p4], ?_, ?_⟩, _, _, rfl⟩
        · intro a o ea
          rw [upd_ne (ne_of_none ea ppH)]
          exact sX _ _ (s3 _ _ ea)
        · rw [upd_ne n1p]
          exact sX _ _ e3
        · refine upd_is ?_
          rw [List.map_append]; rfl
        · refine All2.snoc (hA.imp fun a q _ h => (h.same sX).lst (sX _ _ ep)) ?_
          exact PtAt.lst (sX _ _ ep) ⟨b, upd_same, Pt.at_same (Same.new f4) hb⟩
      · have hcut : cutV ((lineW wd pts).map V.str) (some ((aq : Nat) : Int)) (some (((aq : Nat) : Int) + 1)) = [V.str (ruleS r)] := hcut
        have hL2 : (lineW wd pts).length = aq + 1 + Cq := hL2
        refine ⟨_, rfl, ?_⟩
        refine ⟨rfl, ?_⟩
        refine ⟨_, rfl, ?_⟩
        refine ⟨_, rfl, ?_⟩
        refine ⟨rfl, ?_⟩
        refine ⟨_, rfl, ?_⟩
        refine ⟨_, rfl, ?_⟩
        refine ⟨_, rfl, ?_⟩
        refine ⟨_, _, rfl, rfl, ?_⟩
        refine ⟨_, rfl, ?_⟩
        refine ⟨p1, _, rfl, .inl (SqL.of e3), ?_⟩
        rw [List.length_map]
        refine ⟨_, _, rfl, rfl, ?_⟩
        refine ⟨_, rfl, ?_⟩
        refine neg_or (by rw [hL2]; omega) ?_
        refine ⟨_, rfl, ?_⟩
        refine ⟨.inl ⟨rfl, _, SqL.of ep⟩, ?_⟩
        refine ⟨_, rfl, ?_⟩
        refine ⟨_, rfl, ?_⟩
        refine ⟨_, rfl, ?_⟩
        refine ⟨_, rfl, ?_⟩
        refine ⟨_, rfl, ?_⟩
        refine ⟨_, rfl, ?_⟩
        refine ⟨_, rfl, ?_⟩
        refine ⟨_, _, rfl, rfl, ?_⟩
        refine ⟨_, rfl, ?_⟩
        refine ⟨_, _, rfl, SqL.of e3, fun p3 f3 => ?_⟩
        rw [hcut]
        refine ⟨Pt.rule r, p3, rfl, SqL.of upd_same, hokp, fun H5 b s5 hb => ?_⟩
        refine ⟨(by show 2 ≤ sizeLine; decide), fun p4 f4 => ?_⟩
        have sX := ((Same.new (o := .lst ([V.str (ruleS r)])) f3).trans s5).trans (Same.new (o := .tup [V.str (Pt.kind (Pt.rule r)), Pt.v (Pt.rule r) b]) f4)
        refine ⟨_, _, _, rfl, rfl, sX _ _ ep, by rw [List.length_map]; exact hpsl, ?_⟩
        refine ⟨_, rfl, ?_⟩
        refine ⟨_, rfl, ?_⟩
        refine ⟨_, _, rfl, rfl, ?_⟩
        refine ⟨?_, ?_, ⟨ps ++ [p4], ?_, ?_⟩, _, _, rfl⟩
        · intro a o ea
          rw [upd_ne (ne_of_none ea ppH)]
          exact sX _ _ (s3 _ _ ea)
        · rw [upd_ne n1p]
          exact sX _ _ e3
        · refine upd_is ?_
          rw [List.map_append]; rfl
        · refine All2.snoc (hA.imp fun a q _ h => (h.same sX).lst (sX _ _ ep)) ?_
          exact PtAt.lst (sX _ _ ep) ⟨b, upd_same, Pt.at_same (Same.new f4) hb⟩
      · have hcut : cutV ((lineW wd pts).map V.str) (some ((aq : Nat) : Int)) (some (((aq : Nat) : Int) + 4)) = [V.str (kindS f.packed), V.str (toS (f.n : Nat)), V.str (sgS f.sg), V.str (toS (f.pt : Nat))] := hcut
        have hL2 : (lineW wd pts).length = aq + 4 + Cq := hL2
        refine ⟨_, rfl, ?_⟩
        refine ⟨rfl, ?_⟩
        refine ⟨_, rfl, ?_⟩
        refine ⟨_, rfl, ?_⟩
        refine ⟨_, rfl, ?_⟩
        refine ⟨_, _, rfl, rfl, ?_⟩
        refine ⟨_, rfl, ?_⟩
        refine ⟨p1, _, rfl, .inl (SqL.of e3), ?_⟩
        rw [List.length_map]
        refine ⟨_, _, rfl, rfl, ?_⟩
        refine ⟨_, rfl, ?_⟩
        refine neg_or (by rw [hL2]; omega) ?_
        refine ⟨_, rfl, ?_⟩
        refine ⟨.inl ⟨rfl, _, SqL.of ep⟩, ?_⟩
        refine ⟨_, rfl, ?_⟩
        refine ⟨_, rfl, ?_⟩
        refine ⟨_, rfl, ?_⟩
        refine ⟨_, rfl, ?_⟩
        refine ⟨_, rfl, ?_⟩
        refine ⟨_, rfl, ?_⟩
        refine ⟨_, rfl, ?_⟩
        refine ⟨_, _, rfl, rfl, ?_⟩
        refine ⟨_, rfl, ?_⟩
        refine ⟨_, _, rfl, SqL.of e3, fun p3 f3 => ?_⟩
        rw [hcut]
        refine ⟨Pt.shape f, p3, rfl, SqL.of upd_same, hokp, fun H5 b s5 hb => ?_⟩
        refine ⟨(by show 2 ≤ sizeLine; decide), fun p4 f4 => ?_⟩
        have sX := ((Same.new (o := .lst ([V.str (kindS f.packed), V.str (toS (f.n : Nat)), V.str (sgS f.sg), V.str (toS (f.pt : Nat))])) f3).trans s5).trans (Same.new (o := .tup [V.str (Pt.kind (Pt.shape f)), Pt.v (Pt.shape f) b]) f4)
        refine ⟨_, _, _, rfl, rfl, sX _ _ ep, by rw [List.length_map]; exact hpsl, ?_⟩
        refine ⟨_, rfl, ?_⟩
        refine ⟨_, rfl, ?_⟩
        refine ⟨_, _, rfl, rfl, ?_⟩
        refine ⟨?_, ?_, ⟨ps ++ [p4], ?_, ?_⟩, _, _, rfl⟩
        · intro a o ea
          rw [upd_ne (ne_of_none ea ppH)]
          exact sX _ _ (s3 _ _ ea)
        · rw [upd_ne n1p]
          exact sX _ _ e3
        · refine upd_is ?_
          rw [List.map_append]; rfl
        · refine All2.snoc (hA.imp fun a q _ h => (h.same sX).lst (sX _ _ ep)) ?_
          exact PtAt.lst (sX _ _ ep) ⟨b, upd_same, Pt.at_same (Same.new f4) hb⟩
      · have hcut : cutV ((lineW wd pts).map V.str) (some ((aq : Nat) : Int)) (some (((aq : Nat) : Int) + (bs.length : Int))) = (bs.map hexW).map V.str := by
          rw [show (Pt.bytes bs).ws.length = bs.length from List.length_map ..] at hcut
          exact hcut
        have hL2 : (lineW wd pts).length = aq + bs.length + Cq := by
          rw [show (Pt.bytes bs).ws.length = bs.length from List.length_map ..] at hL2
          exact hL2
        refine ⟨_, rfl, ?_⟩
        refine ⟨rfl, ?_⟩
        refine ⟨_, rfl, ?_⟩
        refine ⟨_, rfl, ?_⟩
        refine ⟨rfl, ?_⟩
        refine ⟨_, rfl, ?_⟩
        refine ⟨_, rfl, ?_⟩
        refine ⟨p1, _, rfl, .inl (SqL.of e3), ?_⟩
        rw [List.length_map]
        refine ⟨_, rfl, ?_⟩
        refine ⟨_, _, rfl, rfl, ?_⟩
        have hz := hend bs rfl
        have hm : (if ((lineW wd pts).length : Int) - ((aq : Nat) : Int) > 1 then ((lineW wd pts).length : Int) - ((aq : Nat) : Int) else 1) = (bs.length : Int) := by
          have h1 : 1 ≤ (bs.map hexW).length := hwl
          rw [List.length_map] at h1
          split <;> omega
        refine ⟨_, _, rfl, ?_⟩
        rw [hm]
        refine ⟨_, rfl, ?_⟩
        refine ⟨_, rfl, ?_⟩
        refine ⟨_, _, rfl, rfl, ?_⟩
        refine ⟨_, rfl, ?_⟩
        refine ⟨p1, _, rfl, .inl (SqL.of e3), ?_⟩
        rw [List.length_map]
        refine ⟨_, _, rfl, rfl, ?_⟩
        refine ⟨_, rfl, ?_⟩
        refine neg_or (by rw [hL2]; omega) ?_
        refine ⟨_, rfl, ?_⟩
        refine ⟨.inl ⟨rfl, _, SqL.of ep⟩, ?_⟩
        refine ⟨_, rfl, ?_⟩
        refine ⟨_, rfl, ?_⟩
        refine ⟨_, rfl, ?_⟩
        refine ⟨_, rfl, ?_⟩
        refine ⟨_, rfl, ?_⟩
        refine ⟨_, rfl, ?_⟩
        refine ⟨_, rfl, ?_⟩
        refine ⟨_, _, rfl, rfl, ?_⟩
        refine ⟨_, rfl, ?_⟩
        refine ⟨_, _, rfl, SqL.of e3, fun p3 f3 => ?_⟩
        rw [hcut]
        refine ⟨Pt.bytes bs, p3, rfl, SqL.of upd_same, hokp, fun H5 b s5 hb => ?_⟩
        refine ⟨(by show 2 ≤ sizeLine; decide), fun p4 f4 => ?_⟩
        have sX := ((Same.new (o := .lst ((bs.map hexW).map V.str)) f3).trans s5).trans (Same.new (o := .tup [V.str (Pt.kind (Pt.bytes bs)), Pt.v (Pt.bytes bs) b]) f4)
        refine ⟨_, _, _, rfl, rfl, sX _ _ ep, by rw [List.length_map]; exact hpsl, ?_⟩
        refine ⟨_, rfl, ?_⟩
        refine ⟨_, rfl, ?_⟩
        refine ⟨_, _, rfl, rfl, ?_⟩
        refine ⟨?_, ?_, ⟨ps ++ [p4], ?_, ?_⟩, _, _, by rw [show (Pt.bytes bs).ws.length = bs.length from List.length_map ..]; rfl⟩
        · intro a o ea
          rw [upd_ne (ne_of_none ea ppH)]
          exact sX _ _ (s3 _ _ ea)
        · rw [upd_ne n1p]
          exact sX _ _ e3
        · refine upd_is ?_
          rw [List.map_append]; rfl
        · refine All2.snoc (hA.imp fun a q _ h => (h.same sX).lst (sX _ _ ep)) ?_
          exact PtAt.lst (sX _ _ ep) ⟨b, upd_same, Pt.at_same (Same.new f4) hb⟩
    · rintro σ H3 ⟨s3, e3, ⟨ps, ep, hA⟩, v, v2, rfl⟩
      rw [List.length_map, List.length_map, List.take_length] at *
      refine ⟨_, rfl, ?_⟩
      refine ⟨_, rfl, ?_⟩
      refine ⟨p1, _, rfl, .inl (SqL.of e3), ?_⟩
      rw [List.length_map]
      refine ⟨_, _, rfl, rfl, ?_⟩
      refine ⟨_, rfl, ?_⟩
      refine neg_or (by unfold lineW; rw [List.length_cons]; omega) ?_
      refine ⟨_, rfl, ?_⟩
      refine ⟨_, _, _, V.str wd, rfl, rfl, SqL.of e3, atI_nat (j := 0) rfl, ?_⟩
      refine ⟨_, rfl, ?_⟩
      refine ⟨(by show 2 ≤ sizeLine; decide), fun q hq => ?_⟩
      have sn := Same.new (o := .tup [V.str wd, V.ref pp]) hq
      exact k _ q pp ps (s3.trans sn) upd_same (sn _ _ ep) (hA.imp fun a b _ h => h.same sn)
end
end TL
set_option Elab.async false
set_option linter.all false
set_option maxRecDepth 100000
set_option pp.maxSteps 600
set_option maxHeartbeats 4000000
namespace TL
open PySem PySem.Spec PyProof.Rows L2
/-- one question answered, where its answer is plain -/
local macro_rules | `(tactic| walk_at "p") => `(tactic| first
  | refine ⟨_, rfl, ?_⟩
  | refine ⟨_, _, rfl, rfl, ⟨by decide, by decide⟩, ?_⟩
  | refine ⟨_, _, rfl, rfl, (by show (0 : Int) < _; decide), ?_⟩
  | refine ⟨_, _, rfl, rfl, ?_⟩
  | refine ⟨rfl, ?_⟩
  | refine ⟨_, _, _, _, rfl, rfl, (by assumption), rfl, ?_⟩
  | refine .inr ⟨_, rfl, ?_⟩
  | refine .inl ⟨_, rfl, ?_⟩
  | refine iteT ?_
  | refine iteF ?_)
local macro_rules | `(tactic| walk_at "ps") => `(tactic| repeat walk_at "p")

/-! ### the desk in the heap -/
structure Dk where
  (d dx pl : Addr)
abbrev Ent := Str × Addr × Form × List Nat × Nat
def kvsE (E : List Ent) : List (Key × V) := E.map fun e => (.inr e.1, .ref e.2.1)
def ThingAt (K : PySem.W.Frag) (H : Hp) (a : Addr) (f : Form) (ds : List Nat) (sh : Nat) : Prop := ∃ fa ra, H a = some (.tup [.ref fa, .ref ra]) ∧ SqT K H fa f.vs ∧ SqT K H ra ((rowOf f ds sh).map nV)
structure EntOk (f : Form) (ds : List Nat) (sh : Nat) : Prop where
  n0 : 0 < f.n
  n12 : f.n ≤ 12
  good : Good f ds sh
structure DAt (K : PySem.W.Frag) (H : Hp) (D : Dk) (E : List Ent) : Prop where
  obj : ∃ nd ul, H D.d = some (.ins (cD K) D.dx [("names", .ref nd), ("past", .ref D.pl), ("undone", .ref ul)]) ∧ H nd = some (.dK (kvsE E))
  past : ∃ xs, H D.pl = some (.lst xs) ∧ xs.length ≤ E.length
  things : ∀ e ∈ E, ThingAt K H e.2.1 e.2.2.1 e.2.2.2.1 e.2.2.2.2 ∧ EntOk e.2.2.1 e.2.2.2.1 e.2.2.2.2
  few : E.length ≤ 50
def Dx (D : Dk) (H H' : Hp) : Prop := ∀ a o, a ≠ D.d → a ≠ D.pl → H a = some o → H' a = some o
theorem Dx.of {D : Dk} {H H' : Hp} (s : Same H H') : Dx D H H' := fun a o _ _ e => s a o e
theorem Dx.refl (D : Dk) (H : Hp) : Dx D H H := fun _ _ _ _ e => e
theorem Dx.trans {D : Dk} {H H1 H2 : Hp} (h : Dx D H H1) (k : Dx D H1 H2) : Dx D H H2 := fun a o n m e => k a o n m (h a o n m e)
section
variable {K : PySem.W.Frag} {H H' : Hp} {D : Dk} {E : List Ent}
theorem DAt.tup (h : DAt K H D E) (x : Dx D H H') {a : Addr} {xs : List V} (e : H a = some (.tup xs)) : H' a = some (.tup xs) := by
  obtain ⟨nd, ul, h1, _⟩ := h.obj
  obtain ⟨ys, h2, _⟩ := h.past
  exact x a _ (ne_kind e h1 (by intro z; cases z)) (ne_kind e h2 (by intro z; cases z)) e
theorem DAt.sq (h : DAt K H D E) (x : Dx D H H') {a : Addr} {xs : List V} (e : SqT K H a xs) : SqT K H' a xs := by
  rcases e with (e | ⟨o, e⟩) | e
  · exact .inl (.inl (h.tup x e))
  · refine .inl (.inr ⟨o, x _ _ ?_ ?_ e⟩)
    · obtain ⟨nd, ul, h1, _⟩ := h.obj
      exact ne_kind e h1 (by intro z; cases z)
    · obtain ⟨ys, h2, _⟩ := h.past
      exact ne_kind e h2 (by intro z; cases z)
  · exact .inr e
theorem DAt.thing (h : DAt K H D E) (x : Dx D H H') {a : Addr} {f : Form} {ds : List Nat} {sh : Nat} (e : ThingAt K H a f ds sh) : ThingAt K H' a f ds sh := by
  obtain ⟨fa, ra, h1, h2, h3⟩ := e
  exact ⟨fa, ra, h.tup x h1, h.sq x h2, h.sq x h3⟩
theorem DAt.same (h : DAt K H D E) (s : Same H H') : DAt K H' D E := by
  obtain ⟨nd, ul, h1, h2⟩ := h.obj
  obtain ⟨ys, h3, h4⟩ := h.past
  exact ⟨⟨nd, ul, s _ _ h1, s _ _ h2⟩, ⟨ys, s _ _ h3, h4⟩, fun e he => ⟨h.thing (Dx.of s) (h.things e he).1, (h.things e he).2⟩, h.few⟩
theorem putE {E : List Ent} {x : Str} (hx : ∀ e ∈ E, e.1 ≠ x) (a : Addr) (f : Form) (ds : List Nat) (sh : Nat) : putK (kvsE E) (.inr x) (.ref a) = kvsE (E ++ [(x, a, f, ds, sh)]) := by
  have h : ¬ ((kvsE E).any fun kv => decide (kv.1 = .inr x)) = true := by
    rw [List.any_eq_true]
    rintro ⟨kv, hkv, hd⟩
    obtain ⟨e, he, rfl⟩ := List.mem_map.mp hkv
    have := of_decide_eq_true hd
    injection this with this
    exact hx e he this
  unfold putK
  rw [if_neg h]
  unfold kvsE
  rw [List.map_append]
  rfl
theorem valE {x : Str} {e : Ent} : ∀ {E : List Ent}, E.find? (fun e => decide (e.1 = x)) = some e → valV (kvsE E) (.inr x) = some (.ref e.2.1)
  | [], h => by simp at h
  | e' :: E, h => by
    unfold valV kvsE
    rw [List.map_cons, List.find?_cons]
    rw [List.find?_cons] at h
    have ed : decide ((Sum.inr e'.1 : Key) = .inr x) = decide (e'.1 = x) := by
      rw [decide_eq_decide]
      exact ⟨fun q => by injection q, fun q => by rw [q]⟩
    rw [ed]
    cases q : decide (e'.1 = x) with
    | true =>
      rw [q] at h
      obtain rfl := Option.some.inj h
      rfl
    | false =>
      rw [q] at h
      exact valE h
theorem num_bound {f : Form} {ds : List Nat} {sh : Nat} (G : Good f ds sh) : -(10 ^ f.n) ≤ readZ f ds sh ∧ readZ f ds sh < 10 ^ f.n := by
  have h := num_lt G.dg
  rw [G.len] at h
  have h2 : (num ds : Int) < 10 ^ f.n := by
    rw [powZ]
    exact Int.ofNat_lt.mpr h
  unfold readZ
  split
  · omega
  · split <;> omega
  · split <;> omega
theorem num64 {f : Form} {ds : List Nat} {sh : Nat} (G : Good f ds sh) (hn : f.n ≤ 12) : -(2 ^ 64) < readZ f ds sh ∧ readZ f ds sh < 2 ^ 64 := by
  obtain ⟨h1, h2⟩ := num_bound G
  have : (10 : Int) ^ f.n ≤ 10 ^ 12 := by
    rw [powZ, powZ]
    exact Int.ofNat_le.mpr (Nat.pow_le_pow_right (by decide) hn)
  have h3 : (10 : Int) ^ 12 = 1000000000000 := by decide
  omega
theorem kept_good (f : Form) (M : Int) : Good f (digs f.n (keptNum f M)) (signOf M) := ⟨digs_length _ _, digs_dg _ _, by unfold signOf; split <;> omega, by unfold signOf; split <;> omega⟩
end
def spMakeD (K : PySem.W.Frag) : Sp := fun vs H Q _ => ∃ d dx, vs = [.ref d] ∧ H d = some (.ins (cD K) dx []) ∧ ∀ H' D, D.d = d → (∀ a o, a ≠ d → H a = some o → H' a = some o) → (H D.pl = none) → DAt K H' D [] → Q .non H'
def spDone (K : PySem.W.Frag) : Sp := fun vs H Q _ => ∃ (D : Dk) (E : List Ent) (rl ta : Addr) (x : Str) (a : Addr) (ans : Str) (f : Form) (ds : List Nat) (sh : Nat), vs = [.ref D.d, .ref rl, .str ans] ∧ DAt K H D E ∧ H rl = some (.lst [.ref ta]) ∧ rl ≠ D.pl ∧ H ta = some (.tup [.str x, .ref a]) ∧ (∀ e ∈ E, e.1 ≠ x) ∧ ThingAt K H a f ds sh ∧ EntOk f ds sh ∧ E.length < 50 ∧
  ∀ H', Dx D H H' → DAt K H' D (E ++ [(x, a, f, ds, sh)]) → Q (.str ans) H'
section
variable {P : Program} {w : World} {K : PySem.W.Frag} {mg : Str → Option Value} {base : Heap}
theorem sc_Desk_done : FnScope ["self", "rows", "answer", "names", "name", "thing"] ["self", "rows", "answer"] (defScope (inClass (top 133) 2)) := ⟨rfl, rfl, rfl, by decide +kernel, rfl, by decide +kernel, by decide +kernel⟩
theorem n_done (T : TX w K mg) : MethOk P w K mg base 1 (cD K) "done" ["self", "rows", "answer"] (spDone K) := by
  refine mkMeth T 12 (q := "Desk.done") (a := 133) (j := 2) rfl rfl T.clsD sc_Desk_done (fun _ _ _ _ _ _ us hl => match us, hl with | [_, _, _], _ => rfl) (fun vs H Q E h => ?_) (fun f cdv A outer s H vs Q E hr h => ?_)
  · obtain ⟨D, E, rl, ta, x, a, ans, f, ds, sh, rfl, hD, hrl, nrl, hta, hx, ht, hok, hfew, k⟩ := h
    rfl
  · obtain ⟨D, E, rl, ta, x, a, ans, f, ds, sh, rfl, hD, hrl, nrl, hta, hx, ht, hok, hfew, k⟩ := h
    refine ⟨_, 
        (pss_cons (ps_set (i := 3) sc_Desk_done.nd rfl (Or.inl rfl) (pe_callTy call_dictD (by rfl) T.dict_ (by decide +kernel) (pa_cons (pe_fld (pv 0) rfl) pa_nil))) 
        (pss_cons (ps_for PassesOwn.never rfl (pi_list (pv 1)) (pg_tup rfl (pgs_cons (pg_name (i := 4) sc_Desk_done.nd rfl (Or.inl rfl)) (pgs_cons (pg_name (i := 5) sc_Desk_done.nd rfl (Or.inl rfl)) pgs_nil))) 
          (pss_one (ps_if (pt_cmpR op_isN (pv 5) pe_non (nomark _)) pss_never 
            (pss_one (ps_dput (hu_of hr) (pv 3) (pv 4) (pv 5) rfl))))) 
        (pss_cons (ps_expr (pe_bm PySem.F.plainAttrs_list PySem.F.slot_list_append PySem.F.type_list_append mt_append (pe_fld (pv 0) rfl) (pa_cons (pe_fld (pv 0) rfl) pa_nil))) 
        (pss_cons (ps_fld (pv 0) (pe_lst pa_nil) rfl) 
        (pss_cons (ps_fld (pv 0) (pv 3) rfl) 
        (pss_one (ps_ret (pv 2)))))))), ?_⟩
    obtain ⟨nd, ul, hd, hn⟩ := hD.obj
    obtain ⟨ps, hp, hpl⟩ := hD.past
    walk_at "p"
    refine ⟨_, _, _, _, _, rfl, hd, T.clsD, T.noD (by decide), rfl, ?_⟩
    refine ⟨nd, _, rfl, .inl hn, fun p1 f1 => ?_⟩
    have s1 := Same.new (o := .dK (kvsE E)) f1
    have e1 : upd H p1 (.dK (kvsE E)) p1 = _ := upd_same
    revert s1 e1
    generalize upd H p1 _ = H1
    intro s1 e1
    have n1d : p1 ≠ D.d := fun z => by rw [z, hd] at f1; cases f1
    have n1p : p1 ≠ D.pl := fun z => by rw [z, hp] at f1; cases f1
    have n1t : ta ≠ p1 := fun z => by rw [← z, hta] at f1; cases f1
    have n1r : rl ≠ p1 := fun z => by rw [← z, hrl] at f1; cases f1
    walk_at "p"
    refine ⟨_, rfl, ⟨_, SqL.of (s1 _ _ hrl)⟩, for_list (K := K) (a := rl) (xs := [.ref ta]) (fun i σ H' => (i = 0 ∧ H' = H1 ∧ σ = [some (.ref D.d), some (.ref rl), some (.str ans), some (.ref p1), none, none]) ∨ (i = 1 ∧ H' = upd H1 p1 (.dK (kvsE (E ++ [(x, a, f, ds, sh)]))) ∧ σ = [some (.ref D.d), some (.ref rl), some (.str ans), some (.ref p1), some (.str x), some (.ref a)])) (.inl ⟨rfl, rfl, rfl⟩) ?_ ?_ ?_⟩
    · rintro i σ H' _ (⟨_, rfl, _⟩ | ⟨_, rfl, _⟩)
      · exact SqL.of (s1 _ _ hrl)
      · exact SqL.of ((upd_ne n1r).trans (s1 _ _ hrl))
    · rintro i y σ H' hy (⟨rfl, rfl, rfl⟩ | ⟨rfl, _, _⟩)
      · obtain rfl := Option.some.inj hy
        refine ⟨_, _, rfl, SqT.of (s1 _ _ hta), rfl, _, _, rfl, _, _, rfl, rfl, ?_⟩
        walk_at "ps"
        refine ⟨p1, _, rfl, .inl ⟨kvsE E, .inr x, e1, rfl, ?_, rfl⟩, ?_⟩
        · unfold kvsE
          rw [List.length_map]
          exact lt_line (by omega)
        rw [putE hx a f ds sh]
        exact .inr ⟨rfl, rfl, rfl⟩
      · cases hy
    · rintro σ H' (⟨h, _, _⟩ | ⟨_, rfl, rfl⟩)
      · cases h
      have k1 : ∀ b o, b ≠ p1 → H1 b = some o → upd H1 p1 (.dK (kvsE (E ++ [(x, a, f, ds, sh)]))) b = some o := fun b o nb e => (upd_ne nb).trans e
      have e2 : upd H1 p1 (.dK (kvsE (E ++ [(x, a, f, ds, sh)]))) p1 = _ := upd_same
      revert k1 e2
      generalize upd H1 p1 _ = H2
      intro k1 e2
      have hd2 := k1 _ _ n1d.symm (s1 _ _ hd)
      have hp2 := k1 _ _ n1p.symm (s1 _ _ hp)
      walk_at "p"
      refine ⟨_, _, _, _, _, rfl, hd2, T.clsD, T.noD (by decide), rfl, ?_⟩
      refine ⟨.inl ⟨rfl, _, SqL.of hp2⟩, ?_⟩
      walk_at "p"
      refine ⟨_, _, _, _, _, rfl, hd2, T.clsD, T.noD (by decide), rfl, ?_⟩
      refine ⟨_, _, _, rfl, rfl, hp2, lt_line (by omega), ?_⟩
      have npd : D.pl ≠ D.d := ne_kind hp hd (by intro z; cases z)
      have hd3 : upd H2 D.pl (.lst (ps ++ [.ref nd])) D.d = _ := (upd_ne npd.symm).trans hd2
      have k3 : ∀ b o, b ≠ D.pl → H2 b = some o → upd H2 D.pl (.lst (ps ++ [.ref nd])) b = some o := fun b o nb e => (upd_ne nb).trans e
      have hp3 : upd H2 D.pl (.lst (ps ++ [.ref nd])) D.pl = _ := upd_same
      revert hd3 k3 hp3
      generalize upd H2 D.pl _ = H3
      intro hd3 k3 hp3
      refine ⟨by decide, fun p4 f4 => ?_⟩
      have s4 := Same.new (o := .lst []) f4
      walk_at "p"
      refine ⟨_, _, _, _, rfl, s4 _ _ hd3, T.clsD, T.noD (by decide), Nat.le_of_ble_eq_true rfl, ?_⟩
      have n4d : p4 ≠ D.d := fun z => by rw [z, hd3] at f4; cases f4
      walk_at "p"
      walk_at "p"
      refine ⟨_, _, _, _, rfl, upd_same, T.clsD, T.noD (by decide), Nat.le_of_ble_eq_true rfl, ?_⟩
      rw [upd_upd]
      walk_at "p"
      have k5 : ∀ b o, b ≠ D.d → upd H3 p4 (.lst []) b = some o → upd (upd H3 p4 (.lst [])) D.d (.ins (cD K) D.dx (putF "names" (.ref p1) (putF "undone" (.ref p4) [("names", .ref nd), ("past", .ref D.pl), ("undone", .ref ul)]))) b = some o := fun b o nb e => (upd_ne nb).trans e
      have hd5 : upd (upd H3 p4 (.lst [])) D.d (.ins (cD K) D.dx (putF "names" (.ref p1) (putF "undone" (.ref p4) [("names", .ref nd), ("past", .ref D.pl), ("undone", .ref ul)]))) D.d = _ := upd_same
      have xx : Dx D H (upd (upd H3 p4 (.lst [])) D.d (.ins (cD K) D.dx (putF "names" (.ref p1) (putF "undone" (.ref p4) [("names", .ref nd), ("past", .ref D.pl), ("undone", .ref ul)])))) := fun b o n1 n2 e =>
        k5 _ _ n1 (s4 _ _ (k3 _ _ n2 (k1 _ _ (ne_of_none e f1) (s1 _ _ e))))
      refine k _ xx ⟨⟨p1, p4, hd5, k5 _ _ n1d (s4 _ _ (k3 _ _ n1p e2))⟩, ⟨_, k5 _ _ npd (s4 _ _ hp3), ?_⟩, ?_, ?_⟩
      · rw [List.length_append, List.length_append]
        simp; omega
      · intro e he
        rcases List.mem_append.mp he with he | he
        · exact ⟨hD.thing xx (hD.things e he).1, (hD.things e he).2⟩
        · have he := List.mem_singleton.mp he
          subst he
          exact ⟨hD.thing xx ht, hok⟩
      · rw [List.length_append]; simp; omega
end
end TL
set_option Elab.async false
set_option linter.all false
set_option maxRecDepth 100000
set_option pp.maxSteps 600
set_option maxHeartbeats 4000000
namespace TL
open PySem PySem.Spec PyProof.Rows L2
/-- one question answered, where its answer is plain -/
local macro_rules | `(tactic| walk_at "p") => `(tactic| first
  | refine ⟨_, rfl, ?_⟩
  | refine ⟨_, _, rfl, rfl, ⟨by decide, by decide⟩, ?_⟩
  | refine ⟨_, _, rfl, rfl, (by show (0 : Int) < _; decide), ?_⟩
  | refine ⟨_, _, rfl, rfl, ?_⟩
  | refine ⟨rfl, ?_⟩
  | refine ⟨_, _, _, _, rfl, rfl, (by assumption), rfl, ?_⟩
  | refine .inr ⟨_, rfl, ?_⟩
  | refine .inl ⟨_, rfl, ?_⟩
  | refine iteT ?_
  | refine iteF ?_)
local macro_rules | `(tactic| walk_at "ps") => `(tactic| repeat walk_at "p")

theorem row_facts {f : Form} {ds : List Nat} {sh : Nat} (h : EntOk f ds sh) : rowOf f ds sh ≠ [] ∧ (rowOf f ds sh).length ≤ 14 ∧ ∀ b ∈ rowOf f ds sh, b ≤ 255 := by
  have hl : (rowOf f ds sh).length = f.width := rowOf_length _ _ _
  have hw := width_pos h.n0
  have hw2 := width_le2 f
  have hn := h.n12
  refine ⟨fun z => by rw [z] at hl; simp at hl; omega, by omega, ?_⟩
  rw [rowOf_bytes h.good.len]
  exact bytes2_le _ (hs_le h.good)
def spLaid (K : PySem.W.Frag) : Sp := fun vs H Q _ => ∃ (D : Dk) (E : List Ent) (x : Str) (fa : Addr) (f : Form) (ds : List Nat) (sh : Nat), vs = [.ref D.d, .str "lay", .str x, .ref fa, .str (hexT (rowOf f ds sh))] ∧ DAt K H D E ∧ SqT K H fa f.vs ∧ EntOk f ds sh ∧ (∀ e ∈ E, e.1 ≠ x) ∧ E.length < 50 ∧
  ∀ H' a, Dx D H H' → DAt K H' D (E ++ [(x, a, f, ds, sh)]) → Q (.str "done") H'
def twoS : Nat → Str
  | 0 => "sum" | 1 => "less" | _ => "times"
def twoF (op : Nat) (f : Form) : Form := if op = 2 then ⟨f.packed, f.n + f.n, f.sg, f.pt + f.pt⟩ else f
def twoN (op : Nat) (x y : Int) : Int := if op = 0 then x + y else if op = 1 then x - y else x * y
def markS (f : Form) (N : Int) : Str := if fitsZ f N then "0" else "1"
/-- the entry that a deed leaves -/
def madeE (x : Str) (a : Addr) (f : Form) (N : Int) : Ent := (x, a, f, digs f.n (keptNum f (foldedZ f N)), signOf (foldedZ f N))
def spOfTwo (K : PySem.W.Frag) : Sp := fun vs H Q _ => ∃ (D : Dk) (E : List Ent) (op : Nat) (x : Str) (fl sl ta tb : Addr) (f : Form) (ds : List Nat) (sh : Nat) (es : List Nat) (th : Nat), vs = [.ref D.d, .str (twoS op), .ref fl, .ref sl] ∧ op < 3 ∧ DAt K H D E ∧ SqL K H fl [.str x] ∧ SqL K H sl [.ref ta, .ref tb] ∧
  ThingAt K H ta f ds sh ∧ ThingAt K H tb f es th ∧ EntOk f ds sh ∧ EntOk f es th ∧ (op = 2 → f.n ≤ 6) ∧ f.pt ≤ f.n ∧ (∀ e ∈ E, e.1 ≠ x) ∧ E.length < 50 ∧
  ∀ H' a, Dx D H H' → DAt K H' D (E ++ [madeE x a (twoF op f) (twoN op (readZ f ds sh) (readZ f es th))]) → Q (.str (markS (twoF op f) (twoN op (readZ f ds sh) (readZ f es th)))) H'
theorem thing_of {K : PySem.W.Frag} {H : Hp} {a fa q : Addr} {f : Form} {N : Int} (h : H a = some (.tup [.ref fa, .ref q])) (hF : SqT K H fa f.vs) (hq : H q = some (.tup ((keptRow f (foldedZ f N)).map nV))) : ThingAt K H a f (digs f.n (keptNum f (foldedZ f N))) (signOf (foldedZ f N)) := ⟨fa, q, h, hF, SqT.of hq⟩
theorem made_ok {f : Form} (N : Int) (h1 : 0 < f.n) (h2 : f.n ≤ 12) : EntOk f (digs f.n (keptNum f (foldedZ f N))) (signOf (foldedZ f N)) := ⟨h1, h2, kept_good f _⟩
theorem ThingAt.same {K : PySem.W.Frag} {H H' : Hp} {a : Addr} {f : Form} {ds : List Nat} {sh : Nat} (s : Same H H') (h : ThingAt K H a f ds sh) : ThingAt K H' a f ds sh := by
  obtain ⟨fa, ra, h1, h2, h3⟩ := h
  exact ⟨fa, ra, s _ _ h1, s.teq h2, s.teq h3⟩
section
variable {P : Program} {w : World} {K : PySem.W.Frag} {mg : Str → Option Value} {base : Heap}
theorem sc_Desk___init__ : FnScope ["self"] ["self"] (defScope (inClass (top 133) 0)) := ⟨rfl, rfl, rfl, by decide +kernel, rfl, by decide +kernel, by decide +kernel⟩
theorem n___init__ (T : TX w K mg) : MethOk P w K mg base 1 (cD K) "__init__" ["self"] (spMakeD K) := by
  refine mkMeth T 10 (q := "Desk.__init__") (a := 133) (j := 0) rfl rfl T.clsD sc_Desk___init__ (fun _ _ _ _ _ _ us hl => match us, hl with | [_], _ => rfl) (fun vs H Q E h => ?_) (fun f cdv A outer s H vs Q E hr h => ?_)
  · obtain ⟨b, dx, rfl, hb, k⟩ := h
    rfl
  · obtain ⟨b, dx, rfl, hb, k⟩ := h
    refine ⟨_, 
        (pss_cons (ps_fld (pv 0) pe_dnewK rfl) 
        (pss_cons (ps_fld (pv 0) (pe_lst pa_nil) rfl) 
        (pss_one (ps_fld (pv 0) (pe_lst pa_nil) rfl)))), ?_⟩
    try dsimp only [L2.start, List.map, List.length_cons, List.length_nil, Nat.reduceAdd, Nat.reduceSub, List.replicate, List.cons_append, List.nil_append, List.append, List.set_cons_succ, List.set_cons_zero]
    refine fun p1 h1 => ?_
    refine ⟨_, rfl, ?_⟩
    have n1 : p1 ≠ b := fun z => by rw [z, hb] at h1; cases h1
    refine ⟨_, _, _, _, rfl, (upd_ne n1.symm).trans hb, T.clsD, T.noD (by decide), Nat.le_of_ble_eq_true rfl, ?_⟩
    have b1 : upd (upd H p1 (.dK [])) b (.ins (cD K) dx (putF "names" (V.ref p1) [])) b = _ := upd_same
    have q1 : upd (upd H p1 (.dK [])) b (.ins (cD K) dx (putF "names" (V.ref p1) [])) p1 = some (.dK []) := (upd_ne n1).trans upd_same
    have k1 : ∀ a o, a ≠ b → H a = some o → upd (upd H p1 (.dK [])) b (.ins (cD K) dx (putF "names" (V.ref p1) [])) a = some o := fun a o na e => by rw [upd_ne na, upd_ne (ne_of_none e h1)]; exact e
    revert b1 q1 k1
    generalize upd (upd H p1 (HO.dK [])) b _ = H1
    intro b1 q1 k1
    refine ⟨by decide, fun p2 h2 => ?_⟩
    refine ⟨_, rfl, ?_⟩
    have n2 : p2 ≠ b := fun z => by rw [z, b1] at h2; cases h2
    refine ⟨_, _, _, _, rfl, (upd_ne n2.symm).trans b1, T.clsD, T.noD (by decide), Nat.le_of_ble_eq_true rfl, ?_⟩
    obtain ⟨_, b2, q2, k2⟩ := ini_step (fs' := putF "past" (V.ref p2) (putF "names" (V.ref p1) [])) b1 h2
    revert b2 q2 k2
    generalize upd (upd H1 p2 (HO.lst [])) b _ = H2
    intro b2 q2 k2
    refine ⟨by decide, fun p3 h3 => ?_⟩
    refine ⟨_, rfl, ?_⟩
    have n3 : p3 ≠ b := fun z => by rw [z, b2] at h3; cases h3
    refine ⟨_, _, _, _, rfl, (upd_ne n3.symm).trans b2, T.clsD, T.noD (by decide), Nat.le_of_ble_eq_true rfl, ?_⟩
    obtain ⟨_, b3, q3, k3⟩ := ini_step (fs' := putF "undone" (V.ref p3) (putF "past" (V.ref p2) (putF "names" (V.ref p1) []))) b2 h3
    revert b3 q3 k3
    generalize upd (upd H2 p3 (HO.lst [])) b _ = H3
    intro b3 q3 k3
    refine k _ ⟨b, dx, p2⟩ rfl (fun a o na e => k3 _ _ na (k2 _ _ na (k1 _ _ na e))) ?_ ⟨⟨p1, p3, b3, k3 _ _ n1 (k2 _ _ n1 q1)⟩, ⟨[], k3 _ _ n2 q2, Nat.le_refl _⟩, fun e he => (nomatch he), by decide⟩
    show H p2 = none
    cases e : H p2 with
    | none => rfl
    | some o => rw [k1 _ _ n2 e] at h2; cases h2
theorem sc_Desk_laid : FnScope ["self", "word", "name", "form", "text", "row"] ["self", "word", "name", "form", "text"] (defScope (inClass (top 133) 4)) := ⟨rfl, rfl, rfl, by decide +kernel, rfl, by decide +kernel, by decide +kernel⟩
theorem n_laid (T : TX w K mg) : MethOk P w K mg base 5 (cD K) "laid" ["self", "word", "name", "form", "text"] (spLaid K) := by
  refine mkMeth T 13 (q := "Desk.laid") (a := 133) (j := 4) rfl rfl T.clsD sc_Desk_laid (fun _ _ _ _ _ _ us hl => match us, hl with | [_, _, _, _, _], _ => rfl) (fun vs H Q E h => ?_) (fun f cdv A outer s H vs Q E hr h => ?_)
  · obtain ⟨D, E, x, fa, f, ds, sh, rfl, hD, hF, hok, hx, hfew, k⟩ := h
    rfl
  · obtain ⟨D, E, x, fa, f, ds, sh, rfl, hD, hF, hok, hx, hfew, k⟩ := h
    refine ⟨_, 
        (pss_cons (ps_if (pt_cmpR op_eq (pv 1) pe_str (nomark _)) pss_never pss_nil) 
        (pss_cons (ps_set (i := 5) sc_Desk_laid.nd rfl (Or.inl rfl) (pe_callD (d_unhexed T) (hr.mono (by decide)) (by rfl) (pa_cons (pv 4) pa_nil))) 
        (pss_cons (ps_expr (pe_callD (d_number_of T) (hr.mono (by decide)) (by rfl) (pa_cons (pv 3) (pa_cons (pv 5) pa_nil)))) 
        (pss_one (ps_ret (pe_methD (T.methD (by decide)) (n_done T) (hr.mono (by decide)) (pv 0) (pa_cons (pe_lst (pa_cons (pe_tup (pa_cons (pv 2) (pa_cons (pe_tup (pa_cons (pv 3) (pa_cons (pv 5) pa_nil))) pa_nil))) pa_nil)) (pa_cons pe_str pa_nil)))))))), ?_⟩
    try dsimp only [L2.start, List.map, List.length_cons, List.length_nil, Nat.reduceAdd, Nat.reduceSub, List.replicate, List.cons_append, List.nil_append, List.append, List.set_cons_succ, List.set_cons_zero]
    obtain ⟨r1, r2, r3⟩ := row_facts hok
    obtain ⟨ps, hp, _⟩ := hD.past
    obtain ⟨nd, ul, hd, _⟩ := hD.obj
    refine ⟨_, rfl, ?_⟩
    refine ⟨rfl, ?_⟩
    refine ⟨_, rfl, ?_⟩
    refine ⟨_, rfl, ?_⟩
    refine ⟨_, rfl, ?_⟩
    refine ⟨r1, by omega, r3, fun H1 p1 s1 f1 e1 => ?_⟩
    have hF1 := s1.teq hF
    refine ⟨_, rfl, ?_⟩
    refine ⟨_, rfl, ?_⟩
    refine ⟨fa, p1, f, ds, sh, rfl, hF1, SqT.of e1, hok.n0, by have := hok.n12; omega, hok.good, fun H2 s2 => ?_⟩
    have s3 := s1.trans s2
    have e2 := s2 _ _ e1
    refine ⟨_, rfl, ?_⟩
    refine ⟨_, _, _, rfl, (s3 _ _ hd), rfl, ?_⟩
    refine ⟨_, rfl, ?_⟩
    refine ⟨_, rfl, ?_⟩
    refine ⟨_, rfl, ?_⟩
    refine ⟨(by show 2 ≤ sizeLine; decide), fun p3 f3 => ?_⟩
    have t3 := Same.new (o := .tup [.ref fa, .ref p1]) f3
    refine ⟨(by show 2 ≤ sizeLine; decide), fun p4 f4 => ?_⟩
    have t4 := Same.new (o := .tup [.str x, .ref p3]) f4
    refine ⟨(by show 1 ≤ sizeLine; decide), fun p5 f5 => ?_⟩
    have t5 := Same.new (o := .lst [.ref p4]) f5
    have sZ := ((s3.trans t3).trans t4).trans t5
    have n5 : p5 ≠ D.pl := fun z => by
      have := t4 _ _ (t3 _ _ (s3 _ _ hp))
      rw [← z, f5] at this; cases this
    refine ⟨D, E, p5, p4, x, p3, _, f, ds, sh, rfl, hD.same sZ, upd_same, n5, t5 _ _ upd_same, hx, ⟨fa, p1, t5 _ _ (t4 _ _ upd_same), sZ.teq hF, SqT.of (t5 _ _ (t4 _ _ (t3 _ _ e2)))⟩, hok, hfew, fun H6 x6 d6 => ?_⟩
    exact k _ p3 ((Dx.of sZ).trans x6) d6
theorem sc_Desk_of_two : FnScope ["self", "word", "fresh", "standing", "form", "row", "other_form", "other_row", "one", "other", "number", "rest", "rows"] ["self", "word", "fresh", "standing"] (defScope (inClass (top 133) 5)) := ⟨rfl, rfl, rfl, by decide +kernel, rfl, by decide +kernel, by decide +kernel⟩
theorem n_of_two (T : TX w K mg) : MethOk P w K mg base 6 (cD K) "of_two" ["self", "word", "fresh", "standing"] (spOfTwo K) := by
  refine mkMeth T 14 (q := "Desk.of_two") (a := 133) (j := 5) rfl rfl T.clsD sc_Desk_of_two (fun _ _ _ _ _ _ us hl => match us, hl with | [_, _, _, _], _ => rfl) (fun vs H Q E h => ?_) (fun f cdv A outer s H vs Q E hr h => ?_)
  · obtain ⟨D, E, op, x, fl, sl, ta, tb, f, ds, sh, es, th, rfl, hop, hD, hfl, hsl, hA, hB, okA, okB, h6, hpt, hx, hfew, k⟩ := h
    rfl
  · obtain ⟨D, E, op, x, fl, sl, ta, tb, f, ds, sh, es, th, rfl, hop, hD, hfl, hsl, hA, hB, okA, okB, h6, hpt, hx, hfew, k⟩ := h
    refine ⟨_, 
        (pss_cons (ps_asg (pv 3) (pg_unl rfl (pgs_cons (pg_tup rfl (pgs_cons (pg_name (i := 4) sc_Desk_of_two.nd rfl (Or.inl rfl)) (pgs_cons (pg_name (i := 5) sc_Desk_of_two.nd rfl (Or.inl rfl)) pgs_nil))) (pgs_cons (pg_tup rfl (pgs_cons (pg_name (i := 6) sc_Desk_of_two.nd rfl (Or.inl rfl)) (pgs_cons (pg_name (i := 7) sc_Desk_of_two.nd rfl (Or.inl rfl)) pgs_nil))) pgs_nil)))) 
        (pss_cons (ps_expr (pe_callD (d_hold_like T) (hr.mono (by decide)) (by rfl) (pa_cons (pv 1) (pa_cons (pv 4) (pa_cons (pv 6) pa_nil))))) 
        (pss_cons (ps_set (i := 8) sc_Desk_of_two.nd rfl (Or.inl rfl) (pe_callD (d_number_of T) (hr.mono (by decide)) (by rfl) (pa_cons (pv 4) (pa_cons (pv 5) pa_nil)))) 
        (pss_cons (ps_set (i := 9) sc_Desk_of_two.nd rfl (Or.inl rfl) (pe_callD (d_number_of T) (hr.mono (by decide)) (by rfl) (pa_cons (pv 6) (pa_cons (pv 7) pa_nil)))) 
        (pss_cons (ps_if (pt_cmpR op_eq (pv 1) pe_str (nomark _)) pss_never pss_nil) 
        (pss_cons (ps_set (i := 10) sc_Desk_of_two.nd rfl (Or.inl rfl) (pe_op op_add (pv 8) (pv 9))) 
        (pss_cons (ps_if (pt_cmpR op_eq (pv 1) pe_str (nomark _)) 
          (pss_one (ps_set (i := 10) sc_Desk_of_two.nd rfl (Or.inl rfl) (pe_op op_sub (pv 8) (pv 9)))) pss_nil) 
        (pss_cons (ps_if (pt_cmpR op_eq (pv 1) pe_str (nomark _)) 
          (pss_cons (ps_set (i := 10) sc_Desk_of_two.nd rfl (Or.inl rfl) (pe_op op_mul (pv 8) (pv 9))) 
          (pss_one (ps_set (i := 4) sc_Desk_of_two.nd rfl (Or.inl rfl) (pe_callD (d_shape T) (hr.mono (by decide)) (by rfl) (pa_cons (pe_ix ix_tup (pv 4) pe_int (fun _ _ => rfl)) (pa_cons (pe_op op_add (pe_ix ix_tup (pv 4) pe_int (fun _ _ => rfl)) (pe_ix ix_tup (pv 6) pe_int (fun _ _ => rfl))) (pa_cons (pe_ix ix_tup (pv 4) pe_int (fun _ _ => rfl)) (pa_cons (pe_op op_add (pe_ix ix_tup (pv 4) pe_int (fun _ _ => rfl)) (pe_ix ix_tup (pv 6) pe_int (fun _ _ => rfl))) pa_nil)))))))) pss_nil) 
        (pss_one (ps_ret (pe_methD (T.methD (by decide)) (n_done T) (hr.mono (by decide)) (pv 0) (pa_cons (pe_lst (pa_cons (pe_tup (pa_cons (pe_ix ix_list (pv 2) pe_int (fun _ _ => rfl)) (pa_cons (pe_callD (d_answer_kept T) (hr.mono (by decide)) (by rfl) (pa_cons (pv 4) (pa_cons (pv 10) pa_nil))) pa_nil))) pa_nil)) (pa_cons (pe_callD (d_mark_of T) (hr.mono (by decide)) (by rfl) (pa_cons (pv 4) (pa_cons (pv 10) pa_nil))) pa_nil))))))))))))), ?_⟩
    try dsimp only [L2.start, List.map, List.length_cons, List.length_nil, Nat.reduceAdd, Nat.reduceSub, List.replicate, List.cons_append, List.nil_append, List.append, List.set_cons_succ, List.set_cons_zero]
    obtain ⟨fa, ra, a1, a2, a3⟩ := hA
    obtain ⟨fb, rb, b1, b2, b3⟩ := hB
    obtain ⟨ps, hp, _⟩ := hD.past
    obtain ⟨nd, ul, hd, _⟩ := hD.obj
    have hn := okA.n0
    have hn12 := okA.n12
    refine ⟨_, rfl, ?_⟩
    refine ⟨sl, _, rfl, hsl, rfl, _, _, rfl, ?_⟩
    refine ⟨_, _, rfl, SqT.of a1, rfl, _, _, rfl, _, _, rfl, rfl, ?_⟩
    try dsimp only [L2.start, List.map, List.length_cons, List.length_nil, Nat.reduceAdd, Nat.reduceSub, List.replicate, List.cons_append, List.nil_append, List.append, List.set_cons_succ, List.set_cons_zero]
    refine ⟨_, _, rfl, ?_⟩
    refine ⟨_, _, rfl, SqT.of b1, rfl, _, _, rfl, _, _, rfl, rfl, ?_⟩
    try dsimp only [L2.start, List.map, List.length_cons, List.length_nil, Nat.reduceAdd, Nat.reduceSub, List.replicate, List.cons_append, List.nil_append, List.append, List.set_cons_succ, List.set_cons_zero]
    refine ⟨rfl, ?_⟩
    have hw4 : twoS op ∈ (["sum", "less", "times", "order"] : List Str) := by
      have : op = 0 ∨ op = 1 ∨ op = 2 := by omega
      rcases this with rfl | rfl | rfl <;> decide
    refine ⟨_, rfl, ?_⟩
    refine ⟨_, rfl, ?_⟩
    refine ⟨_, rfl, ?_⟩
    refine ⟨twoS op, fa, fb, f, rfl, hw4, a2, b2, fun h => ?_, fun H1 s1 => ?_⟩
    · have : op = 2 := by
        have : op = 0 ∨ op = 1 ∨ op = 2 := by omega
        rcases this with rfl | rfl | rfl
        · exact absurd h (by decide)
        · exact absurd h (by decide)
        · rfl
      have := h6 this
      omega
    refine ⟨_, rfl, ?_⟩
    refine ⟨_, rfl, ?_⟩
    refine ⟨fa, ra, f, ds, sh, rfl, s1.teq a2, s1.teq a3, hn, by omega, okA.good, fun H2 s2 => ?_⟩
    have s3 := s1.trans s2
    refine ⟨_, rfl, ?_⟩
    refine ⟨_, rfl, ?_⟩
    refine ⟨fb, rb, f, es, th, rfl, s3.teq b2, s3.teq b3, hn, by omega, okB.good, fun H3 s4 => ?_⟩
    have s5 := s3.trans s4
    have nA := num64 okA.good hn12
    have nB := num64 okB.good hn12
    generalize readZ f ds sh = X at *
    generalize readZ f es th = Y at *
    have hops : op = 0 ∨ op = 1 ∨ op = 2 := by omega
    rcases hops with rfl | rfl | rfl
    · walk_at "ps"
      refine ⟨_, _, _, rfl, (s5 _ _ hd), rfl, ?_⟩
      refine ⟨_, rfl, ?_⟩
      refine ⟨_, _, _, V.str x, rfl, rfl, s5.leq hfl, rfl, ?_⟩
      refine ⟨_, rfl, ?_⟩
      refine ⟨_, rfl, ?_⟩
      refine ⟨fa, f, X + Y, rfl, s5.teq a2, hn, by omega, fun H4 p4 q4 s6 e4 e5 => ?_⟩
      refine ⟨(by show 2 ≤ sizeLine; decide), fun p5 f5 => ?_⟩
      have t5 := Same.new (o := .tup [.str x, .ref p4]) f5
      refine ⟨(by show 1 ≤ sizeLine; decide), fun p6 f6 => ?_⟩
      have t6 := Same.new (o := .lst [.ref p5]) f6
      have s7 := ((s5.trans s6).trans t5).trans t6
      have hF7 := ((s6.trans t5).trans t6).teq (s5.teq a2)
      have n6 : p6 ≠ D.pl := fun z => by
        have := t5 _ _ (s6 _ _ (s5 _ _ hp))
        rw [← z, f6] at this; cases this
      have hth : ThingAt K (upd (upd H4 p5 (.tup [.str x, .ref p4])) p6 (.lst [.ref p5])) p4 (f) (digs (f).n (keptNum (f) (foldedZ (f) (X + Y)))) (signOf (foldedZ (f) (X + Y))) := thing_of (t6 _ _ (t5 _ _ e4)) hF7 (t6 _ _ (t5 _ _ e5))
      have eL : upd (upd H4 p5 (.tup [.str x, .ref p4])) p6 (.lst [.ref p5]) p6 = some (.lst [.ref p5]) := upd_same
      have eT : upd (upd H4 p5 (.tup [.str x, .ref p4])) p6 (.lst [.ref p5]) p5 = some (.tup [.str x, .ref p4]) := t6 _ _ upd_same
      refine ⟨_, rfl, ?_⟩
      refine ⟨_, rfl, ?_⟩
      refine ⟨fa, f, X + Y, rfl, hF7, hn, by omega, fun H8 s8 => ?_⟩
      refine ⟨D, E, p6, p5, x, p4, _, f, _, _, rfl, hD.same (s7.trans s8), s8 _ _ eL, n6, s8 _ _ eT, hx, hth.same s8, made_ok _ (hn) (hn12), hfew, fun H9 x9 d9 => ?_⟩
      exact k _ p4 ((Dx.of (s7.trans s8)).trans x9) d9
    · walk_at "ps"
      refine ⟨_, _, _, rfl, (s5 _ _ hd), rfl, ?_⟩
      refine ⟨_, rfl, ?_⟩
      refine ⟨_, _, _, V.str x, rfl, rfl, s5.leq hfl, rfl, ?_⟩
      refine ⟨_, rfl, ?_⟩
      refine ⟨_, rfl, ?_⟩
      refine ⟨fa, f, X - Y, rfl, s5.teq a2, hn, by omega, fun H4 p4 q4 s6 e4 e5 => ?_⟩
      refine ⟨(by show 2 ≤ sizeLine; decide), fun p5 f5 => ?_⟩
      have t5 := Same.new (o := .tup [.str x, .ref p4]) f5
      refine ⟨(by show 1 ≤ sizeLine; decide), fun p6 f6 => ?_⟩
      have t6 := Same.new (o := .lst [.ref p5]) f6
      have s7 := ((s5.trans s6).trans t5).trans t6
      have hF7 := ((s6.trans t5).trans t6).teq (s5.teq a2)
      have n6 : p6 ≠ D.pl := fun z => by
        have := t5 _ _ (s6 _ _ (s5 _ _ hp))
        rw [← z, f6] at this; cases this
      have hth : ThingAt K (upd (upd H4 p5 (.tup [.str x, .ref p4])) p6 (.lst [.ref p5])) p4 (f) (digs (f).n (keptNum (f) (foldedZ (f) (X - Y)))) (signOf (foldedZ (f) (X - Y))) := thing_of (t6 _ _ (t5 _ _ e4)) hF7 (t6 _ _ (t5 _ _ e5))
      have eL : upd (upd H4 p5 (.tup [.str x, .ref p4])) p6 (.lst [.ref p5]) p6 = some (.lst [.ref p5]) := upd_same
      have eT : upd (upd H4 p5 (.tup [.str x, .ref p4])) p6 (.lst [.ref p5]) p5 = some (.tup [.str x, .ref p4]) := t6 _ _ upd_same
      refine ⟨_, rfl, ?_⟩
      refine ⟨_, rfl, ?_⟩
      refine ⟨fa, f, X - Y, rfl, hF7, hn, by omega, fun H8 s8 => ?_⟩
      refine ⟨D, E, p6, p5, x, p4, _, f, _, _, rfl, hD.same (s7.trans s8), s8 _ _ eL, n6, s8 _ _ eT, hx, hth.same s8, made_ok _ (hn) (hn12), hfew, fun H9 x9 d9 => ?_⟩
      exact k _ p4 ((Dx.of (s7.trans s8)).trans x9) d9
    · have hf5 := s5.teq a2
      have hg5 := s5.teq b2
      refine ⟨_, rfl, ?_⟩
      refine ⟨rfl, ?_⟩
      refine ⟨_, rfl, ?_⟩
      refine ⟨_, rfl, ?_⟩
      refine ⟨_, rfl, ?_⟩
      refine ⟨_, _, rfl, rfl, ?_⟩
      refine ⟨_, rfl, ?_⟩
      refine ⟨rfl, ?_⟩
      refine ⟨_, rfl, ?_⟩
      refine ⟨_, rfl, ?_⟩
      refine ⟨rfl, ?_⟩
      refine ⟨_, rfl, ?_⟩
      refine ⟨_, rfl, ?_⟩
      refine ⟨_, rfl, ?_⟩
      refine ⟨_, _, rfl, rfl, ?_⟩
      refine ⟨.inl ⟨nA.1, nA.2⟩, ?_⟩
      refine ⟨_, rfl, ?_⟩
      refine ⟨_, _, _, _, rfl, rfl, (by assumption), rfl, ?_⟩
      refine ⟨_, rfl, ?_⟩
      refine ⟨_, _, _, _, rfl, rfl, (by assumption), rfl, ?_⟩
      refine ⟨_, rfl, ?_⟩
      refine ⟨_, _, _, _, rfl, rfl, (by assumption), rfl, ?_⟩
      refine ⟨_, _, rfl, rfl, ?_⟩
      refine ⟨_, rfl, ?_⟩
      refine ⟨_, _, _, _, rfl, rfl, (by assumption), rfl, ?_⟩
      refine ⟨_, rfl, ?_⟩
      refine ⟨_, _, _, _, rfl, rfl, (by assumption), rfl, ?_⟩
      refine ⟨_, rfl, ?_⟩
      refine ⟨_, _, _, _, rfl, rfl, (by assumption), rfl, ?_⟩
      refine ⟨_, _, rfl, rfl, ?_⟩
      have h6' := h6 rfl
      refine ⟨⟨f.packed, f.n + f.n, f.sg, f.pt + f.pt⟩, ?_, (by show 0 < f.n + f.n; omega), (by show f.n + f.n ≤ 12; omega), (by show f.pt + f.pt ≤ f.n + f.n; omega), fun Hg pg sg fg eg => ?_⟩
      · show [V.str (kindS f.packed), V.int ((f.n : Int) + (f.n : Int)), V.str (sgS f.sg), V.int ((f.pt : Int) + (f.pt : Int))] = [V.str (kindS f.packed), V.int ((f.n + f.n : Nat) : Int), V.str (sgS f.sg), V.int ((f.pt + f.pt : Nat) : Int)]
        rw [Int.natCast_add, Int.natCast_add]
      have s5g := s5.trans sg
      refine ⟨_, rfl, ?_⟩
      refine ⟨_, _, _, rfl, (s5g _ _ hd), rfl, ?_⟩
      refine ⟨_, rfl, ?_⟩
      refine ⟨_, _, _, V.str x, rfl, rfl, s5g.leq hfl, rfl, ?_⟩
      refine ⟨_, rfl, ?_⟩
      refine ⟨_, rfl, ?_⟩
      refine ⟨pg, (⟨f.packed, f.n + f.n, f.sg, f.pt + f.pt⟩ : Form), X * Y, rfl, SqT.of (K := K) eg, (by show 0 < f.n + f.n; omega), (by show f.n + f.n ≤ 100; omega), fun H4 p4 q4 s6 e4 e5 => ?_⟩
      refine ⟨(by show 2 ≤ sizeLine; decide), fun p5 f5 => ?_⟩
      have t5 := Same.new (o := .tup [.str x, .ref p4]) f5
      refine ⟨(by show 1 ≤ sizeLine; decide), fun p6 f6 => ?_⟩
      have t6 := Same.new (o := .lst [.ref p5]) f6
      have s7 := ((s5g.trans s6).trans t5).trans t6
      have hF7 := ((s6.trans t5).trans t6).teq (SqT.of (K := K) eg)
      have n6 : p6 ≠ D.pl := fun z => by
        have := t5 _ _ (s6 _ _ (s5g _ _ hp))
        rw [← z, f6] at this; cases this
      have hth : ThingAt K (upd (upd H4 p5 (.tup [.str x, .ref p4])) p6 (.lst [.ref p5])) p4 ((⟨f.packed, f.n + f.n, f.sg, f.pt + f.pt⟩ : Form)) (digs ((⟨f.packed, f.n + f.n, f.sg, f.pt + f.pt⟩ : Form)).n (keptNum ((⟨f.packed, f.n + f.n, f.sg, f.pt + f.pt⟩ : Form)) (foldedZ ((⟨f.packed, f.n + f.n, f.sg, f.pt + f.pt⟩ : Form)) (X * Y)))) (signOf (foldedZ ((⟨f.packed, f.n + f.n, f.sg, f.pt + f.pt⟩ : Form)) (X * Y))) := thing_of (t6 _ _ (t5 _ _ e4)) hF7 (t6 _ _ (t5 _ _ e5))
      have eL : upd (upd H4 p5 (.tup [.str x, .ref p4])) p6 (.lst [.ref p5]) p6 = some (.lst [.ref p5]) := upd_same
      have eT : upd (upd H4 p5 (.tup [.str x, .ref p4])) p6 (.lst [.ref p5]) p5 = some (.tup [.str x, .ref p4]) := t6 _ _ upd_same
      refine ⟨_, rfl, ?_⟩
      refine ⟨_, rfl, ?_⟩
      refine ⟨pg, (⟨f.packed, f.n + f.n, f.sg, f.pt + f.pt⟩ : Form), X * Y, rfl, hF7, (by show 0 < f.n + f.n; omega), (by show f.n + f.n ≤ 100; omega), fun H8 s8 => ?_⟩
      refine ⟨D, E, p6, p5, x, p4, _, (⟨f.packed, f.n + f.n, f.sg, f.pt + f.pt⟩ : Form), _, _, rfl, hD.same (s7.trans s8), s8 _ _ eL, n6, s8 _ _ eT, hx, hth.same s8, made_ok _ ((by show 0 < f.n + f.n; omega)) ((by show f.n + f.n ≤ 12; omega)), hfew, fun H9 x9 d9 => ?_⟩
      exact k _ p4 ((Dx.of (s7.trans s8)).trans x9) d9
end
end TL
set_option Elab.async false
set_option linter.all false
set_option maxRecDepth 100000
set_option pp.maxSteps 600
set_option maxHeartbeats 4000000
namespace TL
open PySem PySem.Spec PyProof.Rows L2
/-- one question answered, where its answer is plain -/
local macro_rules | `(tactic| walk_at "p") => `(tactic| first
  | refine ⟨_, rfl, ?_⟩
  | refine ⟨_, _, rfl, rfl, ⟨by decide, by decide⟩, ?_⟩
  | refine ⟨_, _, rfl, rfl, (by show (0 : Int) < _; decide), ?_⟩
  | refine ⟨_, _, rfl, rfl, ?_⟩
  | refine ⟨rfl, ?_⟩
  | refine ⟨_, _, _, _, rfl, rfl, (by assumption), rfl, ?_⟩
  | refine .inr ⟨_, rfl, ?_⟩
  | refine .inl ⟨_, rfl, ?_⟩
  | refine iteT ?_
  | refine iteF ?_)
local macro_rules | `(tactic| walk_at "ps") => `(tactic| repeat walk_at "p")

def spOfMove (K : PySem.W.Frag) : Sp := fun vs H Q _ => ∃ (D : Dk) (E : List Ent) (x : Str) (ta pl : Addr) (ps : List Addr) (y : Str) (by_ : Int) (r : Rule) (f : Form) (ds : List Nat) (sh : Nat), vs = [.ref D.d, .str x, .ref ta, .ref pl] ∧ DAt K H D E ∧ ThingAt K H ta f ds sh ∧ EntOk f ds sh ∧
  H pl = some (.lst (ps.map .ref)) ∧ All2 (PtAt H) ps [.name x, .one y, .by_ by_, .rule r] ∧ by_.natAbs ≤ f.n ∧ -8 ≤ by_ ∧ by_ ≤ 100 ∧ (∀ e ∈ E, e.1 ≠ x) ∧ E.length < 50 ∧
  ∀ H' a, Dx D H H' → DAt K H' D (E ++ [madeE x a f (roundedZ (readZ f ds sh) by_ r)]) → Q (.str (markS f (roundedZ (readZ f ds sh) by_ r))) H'
def spAsked (K : PySem.W.Frag) : Sp := fun vs H Q _ => ∃ (d p1 p2 sl : Addr) (wd : Str), vs = [.ref d, .str wd, .ref p1, .ref p2, .ref sl] ∧
  ((wd = "bytes" ∧ ∃ (ta : Addr) (f : Form) (ds : List Nat) (sh : Nat), SqL K H sl [.ref ta] ∧ ThingAt K H ta f ds sh ∧ EntOk f ds sh ∧ ∀ H', Same H H' → Q (.str (hexT (rowOf f ds sh))) H') ∨
  (wd = "order" ∧ ∃ (ta tb : Addr) (f : Form) (ds : List Nat) (sh : Nat) (es : List Nat) (th : Nat), SqL K H sl [.ref ta, .ref tb] ∧ ThingAt K H ta f ds sh ∧ ThingAt K H tb f es th ∧ EntOk f ds sh ∧ EntOk f es th ∧
  ∀ H', Same H H' → Q (.str (if readZ f ds sh < readZ f es th then "less" else if readZ f ds sh = readZ f es th then "alike" else "greater")) H'))
def kvP (b : Addr) (pt : Pt) : Str × V := (pt.kind, pt.v b)
theorem parts_kv {H : Hp} : ∀ {ps : List Addr} {pts : List Pt}, All2 (PtAt H) ps pts → ∃ bs : List Addr, bs.length = pts.length ∧ All2 (fun p (kv : Str × V) => H p = some (.tup [.str kv.1, kv.2])) ps (bs.zipWith kvP pts) ∧ All2 (fun b pt => pt.at_ H b) bs pts
  | [], [], _ => ⟨[], rfl, trivial, trivial⟩
  | p :: ps, pt :: pts, h => by
    obtain ⟨b, h1, h2⟩ := h.1
    obtain ⟨bs, k1, k2, k3⟩ := parts_kv h.2
    exact ⟨b :: bs, by simp [k1], ⟨h1, k2⟩, ⟨h2, k3⟩⟩
  | [], _ :: _, h => h.elim
  | _ :: _, [], h => h.elim
section
variable {P : Program} {w : World} {K : PySem.W.Frag} {mg : Str → Option Value} {base : Heap}
theorem sc_Desk_asked : FnScope ["self", "word", "parts", "shapes", "standing", "found", "form", "row", "number", "many"] ["self", "word", "parts", "shapes", "standing"] (defScope (inClass (top 133) 7)) := ⟨rfl, rfl, rfl, by decide +kernel, rfl, by decide +kernel, by decide +kernel⟩
theorem n_asked (T : TX w K mg) : MethOk P w K mg base 5 (cD K) "asked" ["self", "word", "parts", "shapes", "standing"] (spAsked K) := by
  refine mkMeth T 16 (q := "Desk.asked") (a := 133) (j := 7) rfl rfl T.clsD sc_Desk_asked (fun _ _ _ _ _ _ us hl => match us, hl with | [_, _, _, _, _], _ => rfl) (fun vs H Q E h => ?_) (fun f cdv A outer s H vs Q E hr h => ?_)
  · obtain ⟨d, p1, p2, sl, wd, rfl, h0⟩ := h
    rfl
  · obtain ⟨d, p1, p2, sl, wd, rfl, h0⟩ := h
    refine ⟨_, 
        (pss_cons (ps_if (pt_cmpR op_eq (pv 1) pe_str (nomark _)) pss_never pss_nil) 
        (pss_cons (ps_if (pt_cmpR op_eq (pv 1) pe_str (nomark _)) pss_never pss_nil) 
        (pss_cons (ps_asg (pe_ix ix_list (pv 4) pe_int (fun _ _ => rfl)) (pg_tup rfl (pgs_cons (pg_name (i := 6) sc_Desk_asked.nd rfl (Or.inl rfl)) (pgs_cons (pg_name (i := 7) sc_Desk_asked.nd rfl (Or.inl rfl)) pgs_nil)))) 
        (pss_cons (ps_if (pt_cmpR op_eq (pv 1) pe_str (nomark _)) 
          (pss_one (ps_ret (pe_callD (d_hexed T) (hr.mono (by decide)) (by rfl) (pa_cons (pv 7) pa_nil)))) pss_nil) 
        (pss_cons (ps_if (pt_cmpR op_eq (pv 1) pe_str (nomark _)) pss_never pss_nil) 
        (pss_cons (ps_set (i := 8) sc_Desk_asked.nd rfl (Or.inl rfl) (pe_callD (d_number_of T) (hr.mono (by decide)) (by rfl) (pa_cons (pv 6) (pa_cons (pv 7) pa_nil)))) 
        (pss_cons (ps_if (pt_cmpR op_eq (pv 1) pe_str (nomark _)) pss_never pss_nil) 
        (pss_cons (ps_if (pt_cmpR op_eq (pv 1) pe_str (nomark _)) pss_never pss_nil) 
        (pss_cons (ps_expr (pe_callD (d_hold_like T) (hr.mono (by decide)) (by rfl) (pa_cons (pv 1) (pa_cons (pv 6) (pa_cons (pe_ix ix_tup (pe_ix ix_list (pv 4) pe_int (fun _ _ => rfl)) pe_int (fun _ _ => rfl)) pa_nil))))) 
        (pss_one (ps_ret (pe_callD (d_order_word T) (hr.mono (by decide)) (by rfl) (pa_cons (pv 8) (pa_cons (pe_callD (d_number_of T) (hr.mono (by decide)) (by rfl) (pa_cons (pe_ix ix_tup (pe_ix ix_list (pv 4) pe_int (fun _ _ => rfl)) pe_int (fun _ _ => rfl)) (pa_cons (pe_ix ix_tup (pe_ix ix_list (pv 4) pe_int (fun _ _ => rfl)) pe_int (fun _ _ => rfl)) pa_nil))) pa_nil)))))))))))))), ?_⟩
    rcases h0 with ⟨rfl, ta, f, ds, sh, hsl, hA, okA, k⟩ | ⟨rfl, ta, tb, f, ds, sh, es, th, hsl, hA, hB, okA, okB, k⟩
    · obtain ⟨fa, ra, a1, a2, a3⟩ := hA
      obtain ⟨r1, r2, r3⟩ := row_facts okA
      walk_at "ps"
      refine ⟨_, _, rfl, SqT.of a1, rfl, _, _, rfl, _, _, rfl, rfl, ?_⟩
      walk_at "ps"
      refine ⟨ra, _, rfl, a3, by omega, r3, fun H1 s1 => ?_⟩
      exact k _ s1
    · obtain ⟨fa, ra, a1, a2, a3⟩ := hA
      obtain ⟨fb, rb, b1, b2, b3⟩ := hB
      have hn := okA.n0
      have hn12 := okA.n12
      walk_at "ps"
      refine ⟨_, _, rfl, SqT.of a1, rfl, _, _, rfl, _, _, rfl, rfl, ?_⟩
      walk_at "ps"
      refine ⟨fa, ra, f, ds, sh, rfl, a2, a3, hn, by omega, okA.good, fun H1 s1 => ?_⟩
      walk_at "ps"
      refine ⟨_, _, _, _, rfl, rfl, s1.leq hsl, rfl, ?_⟩
      walk_at "ps"
      refine ⟨_, _, _, _, rfl, rfl, s1.teq (SqT.of b1), rfl, ?_⟩
      refine ⟨"order", fa, fb, f, rfl, by decide, s1.teq a2, s1.teq b2, fun h => absurd h (by decide), fun H2 s2 => ?_⟩
      have s3 := s1.trans s2
      walk_at "ps"
      refine ⟨_, _, _, _, rfl, rfl, s3.leq hsl, rfl, ?_⟩
      refine ⟨_, _, _, _, rfl, rfl, s3.teq (SqT.of b1), rfl, ?_⟩
      walk_at "ps"
      refine ⟨_, _, _, _, rfl, rfl, s3.leq hsl, rfl, ?_⟩
      refine ⟨_, _, _, _, rfl, rfl, s3.teq (SqT.of b1), rfl, ?_⟩
      refine ⟨fb, rb, f, es, th, rfl, s3.teq b2, s3.teq b3, hn, by omega, okB.good, fun H3 s4 => ?_⟩
      refine ⟨_, _, rfl, fun H4 s5 => ?_⟩
      exact k _ ((s3.trans s4).trans s5)
theorem sc_Desk_of_move : FnScope ["self", "name", "standing", "parts", "form", "row", "by", "number"] ["self", "name", "standing", "parts"] (defScope (inClass (top 133) 6)) := ⟨rfl, rfl, rfl, by decide +kernel, rfl, by decide +kernel, by decide +kernel⟩
theorem n_of_move (T : TX w K mg) : MethOk P w K mg base 6 (cD K) "of_move" ["self", "name", "standing", "parts"] (spOfMove K) := by
  refine mkMeth T 15 (q := "Desk.of_move") (a := 133) (j := 6) rfl rfl T.clsD sc_Desk_of_move (fun _ _ _ _ _ _ us hl => match us, hl with | [_, _, _, _], _ => rfl) (fun vs H Q E h => ?_) (fun f cdv A outer s H vs Q E hr h => ?_)
  · obtain ⟨D, E, x, ta, pl, ps, y, by_, r, f, ds, sh, rfl, hD, hA, okA, hpl, hps, hb1, hb2, hb3, hx, hfew, k⟩ := h
    rfl
  · obtain ⟨D, E, x, ta, pl, ps, y, by_, r, f, ds, sh, rfl, hD, hA, okA, hpl, hps, hb1, hb2, hb3, hx, hfew, k⟩ := h
    refine ⟨_, 
        (pss_cons (ps_asg (pv 2) (pg_tup rfl (pgs_cons (pg_name (i := 4) sc_Desk_of_move.nd rfl (Or.inl rfl)) (pgs_cons (pg_name (i := 5) sc_Desk_of_move.nd rfl (Or.inl rfl)) pgs_nil)))) 
        (pss_cons (ps_set (i := 6) sc_Desk_of_move.nd rfl (Or.inl rfl) (pe_ix ix_list (pe_callD (d_only T) (hr.mono (by decide)) (by rfl) (pa_cons (pv 3) (pa_cons pe_str pa_nil))) pe_int (fun _ _ => rfl))) 
        (pss_cons (ps_if (pt_cmpR op_gt (pe_callB call_abs (by rfl) T.abs_ (by decide +kernel) (pa_cons (pv 6) pa_nil)) (pe_ix ix_tup (pv 4) pe_int (fun _ _ => rfl)) (nomark _)) pss_never pss_nil) 
        (pss_cons (ps_set (i := 7) sc_Desk_of_move.nd rfl (Or.inl rfl) (pe_callD (d_rounded T) (hr.mono (by decide)) (by rfl) (pa_cons (pe_callD (d_number_of T) (hr.mono (by decide)) (by rfl) (pa_cons (pv 4) (pa_cons (pv 5) pa_nil))) (pa_cons (pv 6) (pa_cons (pe_ix ix_list (pe_callD (d_only T) (hr.mono (by decide)) (by rfl) (pa_cons (pv 3) (pa_cons pe_str pa_nil))) pe_int (fun _ _ => rfl)) pa_nil))))) 
        (pss_one (ps_ret (pe_methD (T.methD (by decide)) (n_done T) (hr.mono (by decide)) (pv 0) (pa_cons (pe_lst (pa_cons (pe_tup (pa_cons (pv 1) (pa_cons (pe_callD (d_answer_kept T) (hr.mono (by decide)) (by rfl) (pa_cons (pv 4) (pa_cons (pv 7) pa_nil))) pa_nil))) pa_nil)) (pa_cons (pe_callD (d_mark_of T) (hr.mono (by decide)) (by rfl) (pa_cons (pv 4) (pa_cons (pv 7) pa_nil))) pa_nil))))))))), ?_⟩
    obtain ⟨fa, ra, a1, a2, a3⟩ := hA
    obtain ⟨xs, hp, _⟩ := hD.past
    obtain ⟨nd, ul, hd, _⟩ := hD.obj
    have hn := okA.n0
    have hn12 := okA.n12
    obtain ⟨bs, l1, l2, l3⟩ := parts_kv hps
    obtain ⟨q1, q2, q3, q4, rfl⟩ : ∃ q1 q2 q3 q4, bs = [q1, q2, q3, q4] := by
      match bs, l1 with
      | [q1, q2, q3, q4], _ => exact ⟨_, _, _, _, rfl⟩
    walk_at "p"
    refine ⟨_, _, rfl, SqT.of a1, rfl, _, _, rfl, _, _, rfl, rfl, ?_⟩
    walk_at "ps"
    refine ⟨pl, _, ps, _, rfl, SqL.of hpl, l2, by show 4 ≤ 100; omega, fun H1 p1 s1 f1 e1 => ?_⟩
    have e1' : H1 p1 = some (.lst [.int by_]) := e1
    refine ⟨_, _, _, V.int by_, rfl, rfl, SqL.of e1', rfl, ?_⟩
    have hf1 := s1.teq a2
    walk_at "ps"
    have ea : (if by_ < 0 then -by_ else by_) = (by_.natAbs : Int) := by split <;> omega
    refine iteD (fun h => ?_) (fun _ => ?_)
    · exact absurd (show (if by_ < 0 then -by_ else by_) > (f.n : Int) from h) (by rw [ea]; omega)
    walk_at "ps"
    refine ⟨fa, ra, f, ds, sh, rfl, s1.teq a2, s1.teq a3, hn, by omega, okA.good, fun H2 s2 => ?_⟩
    have s3 := s1.trans s2
    have nA := num64 okA.good hn12
    walk_at "ps"
    refine ⟨pl, _, ps, _, rfl, SqL.of (s3 _ _ hpl), l2.imp fun a b _ h => s3 _ _ h, by show 4 ≤ 100; omega, fun H3 p3 s4 f3 e3 => ?_⟩
    have e3' : H3 p3 = some (.lst [.str (ruleS r)]) := e3
    refine ⟨_, _, _, V.str (ruleS r), rfl, rfl, SqL.of e3', rfl, ?_⟩
    refine ⟨_, by_, r, rfl, nA.1, nA.2, hb2, hb3, fun H4' s5' => ?_⟩
    have s5 := (s3.trans s4).trans s5'
    generalize roundedZ (readZ f ds sh) by_ r = X at *
    walk_at "p"
    refine ⟨_, _, _, rfl, (s5 _ _ hd), rfl, ?_⟩
    walk_at "ps"
    refine ⟨fa, f, X, rfl, s5.teq a2, hn, by omega, fun H4 p4 q4 s6 e4 e5 => ?_⟩
    refine ⟨(by show 2 ≤ sizeLine; decide), fun p5 f5 => ?_⟩
    have t5 := Same.new (o := .tup [.str x, .ref p4]) f5
    refine ⟨(by show 1 ≤ sizeLine; decide), fun p6 f6 => ?_⟩
    have t6 := Same.new (o := .lst [.ref p5]) f6
    have s7 := ((s5.trans s6).trans t5).trans t6
    have hF7 := ((s6.trans t5).trans t6).teq (s5.teq a2)
    have n6 : p6 ≠ D.pl := fun z => by
      have := t5 _ _ (s6 _ _ (s5 _ _ hp))
      rw [← z, f6] at this; cases this
    have hth : ThingAt K (upd (upd H4 p5 (.tup [.str x, .ref p4])) p6 (.lst [.ref p5])) p4 (f) (digs (f).n (keptNum (f) (foldedZ (f) (X)))) (signOf (foldedZ (f) (X))) := thing_of (t6 _ _ (t5 _ _ e4)) hF7 (t6 _ _ (t5 _ _ e5))
    have eL : upd (upd H4 p5 (.tup [.str x, .ref p4])) p6 (.lst [.ref p5]) p6 = some (.lst [.ref p5]) := upd_same
    have eT : upd (upd H4 p5 (.tup [.str x, .ref p4])) p6 (.lst [.ref p5]) p5 = some (.tup [.str x, .ref p4]) := t6 _ _ upd_same
    walk_at "ps"
    refine ⟨fa, f, X, rfl, hF7, hn, by omega, fun H8 s8 => ?_⟩
    refine ⟨D, E, p6, p5, x, p4, _, f, _, _, rfl, hD.same (s7.trans s8), s8 _ _ eL, n6, s8 _ _ eT, hx, hth.same s8, made_ok _ (hn) (hn12), hfew, fun H9 x9 d9 => ?_⟩
    exact k _ p4 ((Dx.of (s7.trans s8)).trans x9) d9
end
end TL
set_option Elab.async false
set_option linter.all false
set_option maxRecDepth 100000
set_option pp.maxSteps 600
set_option maxHeartbeats 4000000
namespace TL
open PySem PySem.Spec PyProof.Rows L2
/-- one question answered, where its answer is plain -/
local macro_rules | `(tactic| walk_at "p") => `(tactic| first
  | refine ⟨_, rfl, ?_⟩
  | refine ⟨_, _, rfl, rfl, ⟨by decide, by decide⟩, ?_⟩
  | refine ⟨_, _, rfl, rfl, (by show (0 : Int) < _; decide), ?_⟩
  | refine ⟨_, _, rfl, rfl, ?_⟩
  | refine ⟨rfl, ?_⟩
  | refine ⟨_, _, _, _, rfl, rfl, (by assumption), rfl, ?_⟩
  | refine .inr ⟨_, rfl, ?_⟩
  | refine .inl ⟨_, rfl, ?_⟩
  | refine iteT ?_
  | refine iteF ?_)
local macro_rules | `(tactic| walk_at "ps") => `(tactic| repeat walk_at "p")

def namesOf (pts : List Pt) : List Str := pts.filterMap fun | .name x => some x | _ => none
def onesOf (pts : List Pt) : List Str := pts.filterMap fun | .one x => some x | _ => none
def shapesOf (pts : List Pt) : List Form := pts.filterMap fun | .shape f => some f | _ => none
def shapeAds : List Addr → List Pt → List Addr
  | b :: bs, .shape _ :: pts => b :: shapeAds bs pts
  | _ :: bs, _ :: pts => shapeAds bs pts
  | _, _ => []
theorem filter_name : ∀ {bs : List Addr} {pts : List Pt}, bs.length = pts.length → ((bs.zipWith kvP pts).filter fun kv => decide (kv.1 = ("name" : Str))).map (·.2) = (namesOf pts).map V.str
  | [], [], _ => rfl
  | b :: bs, pt :: pts, h => by
    have ih := filter_name (bs := bs) (pts := pts) (by simpa using h)
    unfold namesOf at ih ⊢
    rw [List.zipWith_cons_cons]
    cases pt with
    | name x => rw [List.filter_cons_of_pos (by show decide (("name" : Str) = ("name" : Str)) = true; decide), List.map_cons, ih]; rfl
    | one x => rw [List.filter_cons_of_neg (by show ¬ decide (("one" : Str) = ("name" : Str)) = true; decide), ih]; rfl
    | by_ x => rw [List.filter_cons_of_neg (by show ¬ decide (("by" : Str) = ("name" : Str)) = true; decide), ih]; rfl
    | rule x => rw [List.filter_cons_of_neg (by show ¬ decide (("rule" : Str) = ("name" : Str)) = true; decide), ih]; rfl
    | shape x => rw [List.filter_cons_of_neg (by show ¬ decide (("shape" : Str) = ("name" : Str)) = true; decide), ih]; rfl
    | bytes x => rw [List.filter_cons_of_neg (by show ¬ decide (("bytes" : Str) = ("name" : Str)) = true; decide), ih]; rfl
  | [], _ :: _, h => by simp at h
  | _ :: _, [], h => by simp at h
theorem filter_one : ∀ {bs : List Addr} {pts : List Pt}, bs.length = pts.length → ((bs.zipWith kvP pts).filter fun kv => decide (kv.1 = ("one" : Str))).map (·.2) = (onesOf pts).map V.str
  | [], [], _ => rfl
  | b :: bs, pt :: pts, h => by
    have ih := filter_one (bs := bs) (pts := pts) (by simpa using h)
    unfold onesOf at ih ⊢
    rw [List.zipWith_cons_cons]
    cases pt with
    | one x => rw [List.filter_cons_of_pos (by show decide (("one" : Str) = ("one" : Str)) = true; decide), List.map_cons, ih]; rfl
    | name x => rw [List.filter_cons_of_neg (by show ¬ decide (("name" : Str) = ("one" : Str)) = true; decide), ih]; rfl
    | by_ x => rw [List.filter_cons_of_neg (by show ¬ decide (("by" : Str) = ("one" : Str)) = true; decide), ih]; rfl
    | rule x => rw [List.filter_cons_of_neg (by show ¬ decide (("rule" : Str) = ("one" : Str)) = true; decide), ih]; rfl
    | shape x => rw [List.filter_cons_of_neg (by show ¬ decide (("shape" : Str) = ("one" : Str)) = true; decide), ih]; rfl
    | bytes x => rw [List.filter_cons_of_neg (by show ¬ decide (("bytes" : Str) = ("one" : Str)) = true; decide), ih]; rfl
  | [], _ :: _, h => by simp at h
  | _ :: _, [], h => by simp at h
theorem filter_shape {H : Hp} : ∀ {bs : List Addr} {pts : List Pt}, All2 (fun b pt => Pt.at_ H pt b) bs pts → ((bs.zipWith kvP pts).filter fun kv => decide (kv.1 = ("shape" : Str))).map (·.2) = (shapeAds bs pts).map V.ref ∧ All2 (fun a (f : Form) => H a = some (.tup f.vs)) (shapeAds bs pts) (shapesOf pts)
  | [], [], _ => ⟨rfl, trivial⟩
  | b :: bs, pt :: pts, h => by
    obtain ⟨i1, i2⟩ := filter_shape h.2
    have h1 := h.1
    unfold shapesOf at i2 ⊢
    rw [List.zipWith_cons_cons]
    cases pt with
    | shape x => rw [List.filter_cons_of_pos (by show decide (("shape" : Str) = ("shape" : Str)) = true; decide), List.map_cons, i1]; exact ⟨rfl, h1, i2⟩
    | one x => rw [List.filter_cons_of_neg (by show ¬ decide (("one" : Str) = ("shape" : Str)) = true; decide), i1]; exact ⟨rfl, i2⟩
    | name x => rw [List.filter_cons_of_neg (by show ¬ decide (("name" : Str) = ("shape" : Str)) = true; decide), i1]; exact ⟨rfl, i2⟩
    | by_ x => rw [List.filter_cons_of_neg (by show ¬ decide (("by" : Str) = ("shape" : Str)) = true; decide), i1]; exact ⟨rfl, i2⟩
    | rule x => rw [List.filter_cons_of_neg (by show ¬ decide (("rule" : Str) = ("shape" : Str)) = true; decide), i1]; exact ⟨rfl, i2⟩
    | bytes x => rw [List.filter_cons_of_neg (by show ¬ decide (("bytes" : Str) = ("shape" : Str)) = true; decide), i1]; exact ⟨rfl, i2⟩
  | [], _ :: _, h => h.elim
  | _ :: _, [], h => h.elim
inductive Cmd where
  | lay (x : Str) (f : Form) (ds : List Nat) (sh : Nat)
  | bytes (y : Str) (e : Ent)
  | two (op : Nat) (x y z : Str) (e e2 : Ent)
  | order (y z : Str) (e e2 : Ent)
  | move (x y : Str) (i : Int) (r : Rule) (e : Ent)
  | turn (x y : Str) (g : Form) (e : Ent)
def Cmd.wd : Cmd → Str
  | .lay .. => "lay" | .bytes .. => "bytes" | .two op .. => twoS op | .order .. => "order" | .move .. => "move" | .turn .. => "turn"
def Cmd.pts : Cmd → List Pt
  | .lay x f ds sh => [.name x, .shape f, .bytes (rowOf f ds sh)]
  | .bytes y _ => [.one y]
  | .two _ x y z _ _ => [.name x, .one y, .one z]
  | .order y z _ _ => [.one y, .one z]
  | .move x y i r _ => [.name x, .one y, .by_ i, .rule r]
  | .turn x y g _ => [.name x, .one y, .shape g]
def Cmd.es : Cmd → List Ent
  | .lay .. => [] | .bytes _ e => [e] | .two _ _ _ _ e e2 => [e, e2] | .order _ _ e e2 => [e, e2] | .move _ _ _ _ e => [e] | .turn _ _ _ e => [e]
def Ent.Z (e : Ent) : Int := readZ e.2.2.1 e.2.2.2.1 e.2.2.2.2
def Look (E : List Ent) (y : Str) (e : Ent) : Prop := E.find? (fun e => decide (e.1 = y)) = some e
def Cmd.ok (E : List Ent) : Cmd → Prop
  | .lay x f ds sh => EntOk f ds sh ∧ f.pt ≤ f.n ∧ ∀ e ∈ E, e.1 ≠ x
  | .bytes _ _ => True
  | .two op x _ _ e e2 => op < 3 ∧ e.2.2.1 = e2.2.2.1 ∧ (op = 2 → e.2.2.1.n ≤ 6) ∧ e.2.2.1.pt ≤ e.2.2.1.n ∧ ∀ e ∈ E, e.1 ≠ x
  | .order _ _ e e2 => e.2.2.1 = e2.2.2.1
  | .move x _ i _ e => i.natAbs ≤ e.2.2.1.n ∧ -8 ≤ i ∧ i ≤ 100 ∧ ∀ e ∈ E, e.1 ≠ x
  | .turn x _ g _ => 0 < g.n ∧ g.n ≤ 12 ∧ g.pt ≤ g.n ∧ ∀ e ∈ E, e.1 ≠ x
def Cmd.ans : Cmd → Str
  | .lay .. => "done"
  | .bytes _ e => hexT (rowOf e.2.2.1 e.2.2.2.1 e.2.2.2.2)
  | .two op _ _ _ e e2 => markS (twoF op e.2.2.1) (twoN op e.Z e2.Z)
  | .order _ _ e e2 => if e.Z < e2.Z then "less" else if e.Z = e2.Z then "alike" else "greater"
  | .move _ _ i r e => markS e.2.2.1 (roundedZ e.Z i r)
  | .turn _ _ g e => markS g e.Z
def Cmd.new : Cmd → Option (Addr → Ent)
  | .lay x f ds sh => some fun a => (x, a, f, ds, sh)
  | .bytes .. => none
  | .two op x _ _ e e2 => some fun a => madeE x a (twoF op e.2.2.1) (twoN op e.Z e2.Z)
  | .order .. => none
  | .move x _ i r e => some fun a => madeE x a e.2.2.1 (roundedZ e.Z i r)
  | .turn x _ g e => some fun a => madeE x a g e.Z
def After (K : PySem.W.Frag) (H' : Hp) (D : Dk) (E : List Ent) : Option (Addr → Ent) → Prop
  | none => DAt K H' D E
  | some g => ∃ a, DAt K H' D (E ++ [g a])
def spTell (K : PySem.W.Frag) : Sp := fun vs H Q _ => ∃ (D : Dk) (E : List Ent) (c : Cmd), vs = [.ref D.d, .str (lineS c.wd c.pts)] ∧ DAt K H D E ∧ E.length < 50 ∧ (∀ pt ∈ c.pts, pt.ok) ∧ (∀ x ∈ lineW c.wd c.pts, x ≠ "" ∧ 32 ∉ tl x) ∧ (lineS c.wd c.pts).length ≤ 90000 ∧ c.ok E ∧ All2 (Look E) (onesOf c.pts) c.es ∧
  ∀ H', Dx D H H' → After K H' D E c.new → Q (.str c.ans) H'
theorem cmd_facts (c : Cmd) {E : List Ent} (h : c.ok E) : (c.wd, c.pts.map Pt.kind) ∈ formVals ∧ BytesLast c.pts ∧ (namesOf c.pts).length ≤ 1 ∧ c.pts.length ≤ 4 ∧ (lineW c.wd c.pts).length ≤ 2000 ∧ ∀ f ∈ shapesOf c.pts, 0 < f.n ∧ f.n ≤ 12 ∧ f.pt ≤ f.n := by
  cases c with
  | lay x f ds sh =>
    have hw := (row_facts h.1).2.1
    refine ⟨by simp [Cmd.wd, Cmd.pts, Pt.kind, formVals], trivial, Nat.le_refl _, by show 3 ≤ 4; omega, ?_, ?_⟩
    · show (_ :: ([x] ++ ([_, _, _, _] ++ ((rowOf f ds sh).map hexW ++ [])))).length ≤ 2000
      simp
      omega
    · intro g hg
      have : g = f := by simpa [shapesOf, Cmd.pts] using hg
      subst this
      exact ⟨h.1.n0, h.1.n12, h.2.1⟩
  | bytes y e => exact ⟨by simp [Cmd.wd, Cmd.pts, Pt.kind, formVals], trivial, Nat.zero_le _, by show 1 ≤ 4; omega, by show 2 ≤ 2000; omega, fun g hg => by simp [shapesOf, Cmd.pts] at hg⟩
  | two op x y z e e2 =>
    have hop := h.1
    have : op = 0 ∨ op = 1 ∨ op = 2 := by omega
    refine ⟨?_, trivial, Nat.le_refl _, by show 3 ≤ 4; omega, by show 4 ≤ 2000; omega, fun g hg => by simp [shapesOf, Cmd.pts] at hg⟩
    rcases this with rfl | rfl | rfl <;> simp [Cmd.wd, Cmd.pts, Pt.kind, formVals, twoS]
  | order y z e e2 => exact ⟨by simp [Cmd.wd, Cmd.pts, Pt.kind, formVals], trivial, Nat.zero_le _, by show 2 ≤ 4; omega, by show 3 ≤ 2000; omega, fun g hg => by simp [shapesOf, Cmd.pts] at hg⟩
  | move x y i r e => exact ⟨by simp [Cmd.wd, Cmd.pts, Pt.kind, formVals], trivial, Nat.le_refl _, by show 4 ≤ 4; omega, by show 5 ≤ 2000; omega, fun g hg => by simp [shapesOf, Cmd.pts] at hg⟩
  | turn x y g e =>
    refine ⟨by simp [Cmd.wd, Cmd.pts, Pt.kind, formVals], trivial, Nat.le_refl _, by show 3 ≤ 4; omega, by show 7 ≤ 2000; omega, fun f hf => ?_⟩
    have : f = g := by simpa [shapesOf, Cmd.pts] using hf
    subst this
    exact ⟨h.1, h.2.1, h.2.2.1⟩
section
variable {P : Program} {w : World} {K : PySem.W.Frag} {mg : Str → Option Value} {base : Heap}
theorem sc_Desk_tell : FnScope ["self", "line", "word", "parts", "fresh", "name", "shapes", "form", "standing", "number"] ["self", "line"] (defScope (inClass (top 133) 1)) := ⟨rfl, rfl, rfl, by decide +kernel, rfl, by decide +kernel, by decide +kernel⟩
theorem n_tell (T : TX w K mg) : MethOk P w K mg base 7 (cD K) "tell" ["self", "line"] (spTell K) := by
  refine mkMeth T 11 (q := "Desk.tell") (a := 133) (j := 1) rfl rfl T.clsD sc_Desk_tell (fun _ _ _ _ _ _ us hl => match us, hl with | [_, _], _ => rfl) (fun vs H Q E h => ?_) (fun f cdv A outer s H vs Q E hr h => ?_)
  · obtain ⟨D, E, c, rfl, hD, hfew, hok, hw, hl, hc, hlk, k⟩ := h
    rfl
  · obtain ⟨D, E, c, rfl, hD, hfew, hok, hw, hl, hc, hlk, k⟩ := h
    refine ⟨_, 
        (pss_cons (ps_asg (pe_callD (d_parts_of_desk T) (hr.mono (by decide)) (by rfl) (pa_cons (pv 1) pa_nil)) (pg_tup rfl (pgs_cons (pg_name (i := 2) sc_Desk_tell.nd rfl (Or.inl rfl)) (pgs_cons (pg_name (i := 3) sc_Desk_tell.nd rfl (Or.inl rfl)) pgs_nil)))) 
        (pss_cons (ps_set (i := 4) sc_Desk_tell.nd rfl (Or.inl rfl) (pe_callD (d_only T) (hr.mono (by decide)) (by rfl) (pa_cons (pv 3) (pa_cons pe_str pa_nil)))) 
        (pss_cons (ps_if (pt_cmpR op_lt (pe_lenSet rfl (by rfl) T.len_ (by rfl) T.set_ (pv 4)) (pe_callB call_len_seq (by rfl) T.len_ (by decide +kernel) (pa_cons (pv 4) pa_nil)) (nomark _)) pss_never pss_nil) 
        (pss_cons (ps_for PassesOwn.never rfl (pi_list (pe_callD (d_only T) (hr.mono (by decide)) (by rfl) (pa_cons (pv 3) (pa_cons pe_str pa_nil)))) (pg_name (i := 5) sc_Desk_tell.nd rfl (Or.inl rfl)) 
          (pss_one (ps_if (pt_cmp (pc_dnotin (hu_of hr) (pv 5) (pe_fld (pv 0) rfl))) pss_never pss_nil))) 
        (pss_cons (ps_setLc (i := 6) (own := [("form", 7)]) (g := gName 7) (by rfl) sc_Desk_tell.nd rfl rfl (sw_true rfl rfl rfl (by decide +kernel)) (pi_list (pe_callD (d_only T) (hr.mono (by decide)) (by rfl) (pa_cons (pv 3) (pa_cons pe_str pa_nil)))) (blkOk_by (own := [("form", 7)]) (N := ["self", "line", "word", "parts", "fresh", "name", "shapes", "form", "standing", "number"]) (sc := defScope (inClass (top 133) 1)) (by decide +kernel)) (fun _ _ _ _ _ => pg_name (i := 7) sc_Desk_tell.nd rfl (Or.inl rfl)) (fun _ _ _ _ _ => pts_nil) (fun _ _ _ _ _ => (pe_callD (d_shape T) (hr.mono (by decide)) (by rfl) (pa_cons (pe_ix (show IxR _ (rIxT K) from ix_tup) (pv 7) pe_int (fun _ _ => rfl)) (pa_cons (pe_ix (show IxR _ (rIxT K) from ix_tup) (pv 7) pe_int (fun _ _ => rfl)) (pa_cons (pe_ix (show IxR _ (rIxT K) from ix_tup) (pv 7) pe_int (fun _ _ => rfl)) (pa_cons (pe_ix (show IxR _ (rIxT K) from ix_tup) (pv 7) pe_int (fun _ _ => rfl)) pa_nil))))))) 
        (pss_cons (ps_setLc (i := 8) (own := [("name", 5)]) (g := gName 5) (by rfl) sc_Desk_tell.nd rfl rfl (sw_true rfl rfl rfl (by decide +kernel)) (pi_list (pe_callD (d_only T) (hr.mono (by decide)) (by rfl) (pa_cons (pv 3) (pa_cons pe_str pa_nil)))) (blkOk_by (own := [("name", 5)]) (N := ["self", "line", "word", "parts", "fresh", "name", "shapes", "form", "standing", "number"]) (sc := defScope (inClass (top 133) 1)) (by decide +kernel)) (fun _ _ _ _ _ => pg_name (i := 5) sc_Desk_tell.nd rfl (Or.inl rfl)) (fun _ _ _ _ _ => pts_nil) (fun _ _ _ _ _ => (pe_dget (hu_of hr) (show PE _ _ (tFld K (tVar 0) "names") from (pe_fld (pv 0) rfl)) (pv 5) (fun _ _ => rfl)))) 
        (pss_cons (ps_if (pt_cmpR op_in_seq (pv 2) (pe_tup (pa_cons pe_str (pa_cons pe_str pa_nil))) (by rfl)) pss_never pss_nil) 
        (pss_cons (ps_if (pt_cmpR op_in_seq (pv 2) (pe_tup (pa_cons pe_str (pa_cons pe_str pa_nil))) (by rfl)) 
          (pss_one (ps_ret (pe_methD (T.methD (by decide)) (n_laid T) (hr.mono (by decide)) (pv 0) (pa_cons (pv 2) (pa_cons (pe_ix ix_list (pv 4) pe_int (fun _ _ => rfl)) (pa_cons (pe_ix ix_list (pv 6) pe_int (fun _ _ => rfl)) (pa_cons (pe_ix ix_tup (pe_ix ix_list (pv 3) (pe_un un_neg pe_int) (fun _ _ => rfl)) pe_int (fun _ _ => rfl)) pa_nil))))))) pss_nil) 
        (pss_cons (ps_if (pt_cmpR op_in_seq (pv 2) (pe_tup (pa_cons pe_str (pa_cons pe_str (pa_cons pe_str (pa_cons pe_str pa_nil))))) (by rfl)) 
          (pss_one (ps_ret (pe_methD (T.methD (by decide)) (n_of_two T) (hr.mono (by decide)) (pv 0) (pa_cons (pv 2) (pa_cons (pv 4) (pa_cons (pv 8) pa_nil)))))) pss_nil) 
        (pss_cons (ps_if (pt_cmpR op_eq (pv 2) pe_str (nomark _)) 
          (pss_one (ps_ret (pe_methD (T.methD (by decide)) (n_of_move T) (hr.mono (by decide)) (pv 0) (pa_cons (pe_ix ix_list (pv 4) pe_int (fun _ _ => rfl)) (pa_cons (pe_ix ix_list (pv 8) pe_int (fun _ _ => rfl)) (pa_cons (pv 3) pa_nil)))))) pss_nil) 
        (pss_cons (ps_if (pt_cmpR op_eq (pv 2) pe_str (nomark _)) 
          (pss_cons (ps_set (i := 9) sc_Desk_tell.nd rfl (Or.inl rfl) (pe_callD (d_number_of T) (hr.mono (by decide)) (by rfl) (pa_cons (pe_ix ix_tup (pe_ix ix_list (pv 8) pe_int (fun _ _ => rfl)) pe_int (fun _ _ => rfl)) (pa_cons (pe_ix ix_tup (pe_ix ix_list (pv 8) pe_int (fun _ _ => rfl)) pe_int (fun _ _ => rfl)) pa_nil)))) 
          (pss_one (ps_ret (pe_methD (T.methD (by decide)) (n_done T) (hr.mono (by decide)) (pv 0) (pa_cons (pe_lst (pa_cons (pe_tup (pa_cons (pe_ix ix_list (pv 4) pe_int (fun _ _ => rfl)) (pa_cons (pe_callD (d_answer_kept T) (hr.mono (by decide)) (by rfl) (pa_cons (pe_ix ix_list (pv 6) pe_int (fun _ _ => rfl)) (pa_cons (pv 9) pa_nil))) pa_nil))) pa_nil)) (pa_cons (pe_callD (d_mark_of T) (hr.mono (by decide)) (by rfl) (pa_cons (pe_ix ix_list (pv 6) pe_int (fun _ _ => rfl)) (pa_cons (pv 9) pa_nil))) pa_nil)))))) pss_nil) 
        (pss_cons (ps_if (pt_cmpR op_eq (pv 2) pe_str (nomark _)) pss_never pss_nil) 
        (pss_one (ps_ret (pe_methD (T.methD (by decide)) (n_asked T) (hr.mono (by decide)) (pv 0) (pa_cons (pv 2) (pa_cons (pv 3) (pa_cons (pv 6) (pa_cons (pv 8) pa_nil))))))))))))))))))), ?_⟩
    obtain ⟨c1, c2, c3, c4, c5, c6⟩ := cmd_facts c hc
    obtain ⟨nd, ul, hd, hn⟩ := hD.obj
    refine ⟨_, rfl, ?_⟩
    refine ⟨c.wd, c.pts, rfl, c1, hok, c2, hw, hl, c5, fun H1 q p ps s1 e1 e2 hA => ?_⟩
    refine ⟨_, _, rfl, SqT.of e1, rfl, _, _, rfl, _, _, rfl, rfl, ?_⟩
    obtain ⟨bs, l1, l2, l3⟩ := parts_kv hA
    have lz : (bs.zipWith kvP c.pts).length ≤ 100 := by rw [List.length_zipWith]; omega
    refine ⟨_, rfl, ?_⟩
    refine ⟨p, "name", ps, _, rfl, SqL.of e2, l2, lz, fun H2 p2 s2 f2 e3 => ?_⟩
    rw [filter_name l1] at e3
    refine ⟨_, rfl, ?_⟩
    refine ⟨p2, namesOf c.pts, rfl, .inl (SqL.of e3), c3, ?_⟩
    refine ⟨_, rfl, ?_⟩
    refine ⟨p2, _, rfl, .inl (SqL.of e3), ?_⟩
    rw [List.length_map]
    refine ⟨_, _, rfl, rfl, ?_⟩
    refine ⟨_, rfl, ?_⟩
    refine neg_or (by omega) ?_
    refine ⟨_, rfl, ?_⟩
    refine ⟨p, "one", ps, _, rfl, SqL.of (s2 _ _ e2), l2.imp fun _ _ _ h => s2 _ _ h, lz, fun H3 p3 s3 f3 e4 => ?_⟩
    rw [filter_one l1] at e4
    have sA := (s1.trans s2).trans s3
    have look : ∀ i y, (onesOf c.pts)[i]? = some y → ∃ e, c.es[i]? = some e ∧ Look E y e := fun i y h => by
      have hl2 := hlk.length
      have hi := (List.getElem?_eq_some_iff.mp h).1
      have h2 := hlk.get (i := i) (b := c.es[i]'(by omega)) (List.getElem?_eq_getElem (by omega))
      obtain ⟨y', hy, hL⟩ := h2
      rw [h] at hy
      obtain rfl := Option.some.inj hy
      exact ⟨_, List.getElem?_eq_getElem (by omega), hL⟩
    refine ⟨p3, rfl, ⟨_, SqL.of e4⟩, for_list (K := K) (a := p3) (xs := (onesOf c.pts).map V.str) (fun i σ H' => H' = H3 ∧ ∃ v, σ = [some (.ref D.d), some (.str (lineS c.wd c.pts)), some (.str c.wd), some (.ref p), some (.ref p2), v, none, none, none, none]) ⟨rfl, none, rfl⟩ (fun i σ H' _ h => by rw [h.1]; exact SqL.of e4) ?_ ?_⟩
    · rintro i x σ H' hx ⟨rfl, v, rfl⟩
      rw [List.getElem?_map] at hx
      obtain ⟨y, hy, rfl⟩ := Option.map_eq_some_iff.mp hx
      obtain ⟨e, _, hL⟩ := look i y hy
      refine ⟨_, rfl, ?_⟩
      refine ⟨_, rfl, ?_⟩
      refine ⟨_, _, _, _, _, rfl, (sA _ _ hd), T.clsD, T.noD (by decide), rfl, ?_⟩
      refine ⟨nd, _, rfl, .inl ⟨_, .inr y, .inl (sA _ _ hn), rfl, (valE hL).symm⟩, ?_⟩
      refine ⟨_, rfl, ?_⟩
      refine ⟨rfl, ?_⟩
      exact ⟨_, rfl⟩
    rintro σ H' ⟨rfl, v, rfl⟩
    refine ⟨_, rfl, ?_⟩
    refine ⟨p, "shape", ps, _, rfl, SqL.of (s3 _ _ (s2 _ _ e2)), l2.imp fun _ _ _ h => s3 _ _ (s2 _ _ h), lz, fun H4 p4 s4 f4 e5 => ?_⟩
    obtain ⟨fs1, fs2⟩ := filter_shape l3
    rw [fs1] at e5
    have fs3 := fs2.imp fun _ _ _ h => s4 _ _ (s3 _ _ (s2 _ _ h))
    have lsh : (shapesOf c.pts).length ≤ 4 := Nat.le_trans (List.length_filterMap_le _ _) c4
    have sB := sA.trans s4
    refine ⟨p4, rfl, ⟨_, SqL.of e5⟩, fun D0 hD0 => ?_⟩
    have sd : Same H4 (upd H4 D0 (.lst [])) := Same.new hD0
    refine lc_it (walk_list (K := K) (a := p4) (xs := (shapeAds bs c.pts).map V.ref)) (fun i H' => Same H4 H' ∧ ∃ sa : List Addr, H' D0 = some (.lst (sa.map .ref)) ∧ All2 (fun a (f : Form) => H' a = some (.tup f.vs)) sa ((shapesOf c.pts).take i)) ⟨sd, [], upd_same, trivial⟩ (fun i H' _ h => SqL.of (h.1 _ _ e5)) ?_ ?_
    · rintro i x H5 H6 hi ⟨t1, sa, g1, g2⟩ ⟨rfl, hx⟩
      rw [List.length_map] at hi
      have hls := fs3.length
      obtain ⟨ad, had, hsh⟩ := fs3.get (i := i) (b := (shapesOf c.pts)[i]'(by omega)) (List.getElem?_eq_getElem (by omega))
      rw [List.getElem?_map, had] at hx
      obtain rfl := Option.some.inj hx
      have hfm : (shapesOf c.pts)[i]'(by omega) ∈ shapesOf c.pts := List.getElem_mem _
      have htk : (shapesOf c.pts).take (i + 1) = (shapesOf c.pts).take i ++ [(shapesOf c.pts)[i]'(by omega)] := by rw [List.take_succ, List.getElem?_eq_getElem (by omega)]; rfl
      rw [htk]
      generalize (shapesOf c.pts)[i]'(by omega) = g at *
      obtain ⟨g3, g4, g5⟩ := c6 g hfm
      have hg := SqT.of (K := K) (t1 _ _ hsh)
      have hln := g2.length
      refine ⟨rfl, ?_⟩
      refine ⟨_, rfl, ?_⟩
      refine ⟨_, _, _, _, rfl, rfl, hg, rfl, ?_⟩
      refine ⟨_, rfl, ?_⟩
      refine ⟨_, _, _, _, rfl, rfl, hg, rfl, ?_⟩
      refine ⟨_, rfl, ?_⟩
      refine ⟨_, _, _, _, rfl, rfl, hg, rfl, ?_⟩
      refine ⟨_, rfl, ?_⟩
      refine ⟨_, _, _, _, rfl, rfl, hg, rfl, ?_⟩
      refine ⟨g, rfl, g3, g4, g5, fun H7 p7 s7 f7 e7 => ?_⟩
      refine ⟨_, s7 _ _ g1, ?_, fun b o eb => ?_, sa ++ [p7], ?_, ?_⟩
      · rw [List.length_map, hln, List.length_take]
        exact lt_line (by omega)
      · rw [upd_ne (ne_of_none eb hD0)]
        exact s7 _ _ (t1 _ _ eb)
      · refine upd_is ?_
        rw [List.map_append]; rfl
      · have kt : ∀ a xs, H7 a = some (.tup xs) → upd H7 D0 (.lst (sa.map .ref ++ [.ref p7])) a = some (.tup xs) := fun a xs z => by
          rw [upd_ne (ne_kind z (s7 _ _ g1) (by intro z; cases z))]; exact z
        exact (g2.imp fun a f _ h => kt _ _ (s7 _ _ h)).snoc (kt _ _ e7)
    rintro H5 ⟨t1, sa, g1, g2⟩
    rw [List.length_map, fs3.length, List.take_length] at g2
    have sC := sB.trans t1
    refine ⟨_, rfl, ?_⟩
    refine ⟨p, "one", ps, _, rfl, SqL.of (t1 _ _ (s4 _ _ (s3 _ _ (s2 _ _ e2)))), l2.imp fun _ _ _ h => t1 _ _ (s4 _ _ (s3 _ _ (s2 _ _ h))), lz, fun H6 p6 s6 f6 e6 => ?_⟩
    rw [filter_one l1] at e6
    have sD := sC.trans s6
    have hlk2 := hlk.length
    have lon : (onesOf c.pts).length ≤ 4 := Nat.le_trans (List.length_filterMap_le _ _) c4
    refine ⟨p6, rfl, ⟨_, SqL.of e6⟩, fun D1 hD1 => ?_⟩
    have sd1 : Same H6 (upd H6 D1 (.lst [])) := Same.new hD1
    refine lc_it (walk_list (K := K) (a := p6) (xs := (onesOf c.pts).map V.str)) (fun i H' => Same H6 H' ∧ H' D1 = some (.lst ((c.es.take i).map fun e => V.ref e.2.1))) ⟨sd1, upd_same⟩ (fun i H' _ h => SqL.of (h.1 _ _ e6)) ?_ ?_
    · rintro i x H7 H8 hi ⟨t2, g3⟩ ⟨rfl, hx⟩
      rw [List.getElem?_map] at hx
      obtain ⟨y, hy, rfl⟩ := Option.map_eq_some_iff.mp hx
      obtain ⟨e, he, hL⟩ := look i y hy
      refine ⟨rfl, ?_⟩
      refine ⟨_, rfl, ?_⟩
      refine ⟨_, _, _, _, _, rfl, (t2 _ _ (sD _ _ hd)), T.clsD, T.noD (by decide), rfl, ?_⟩
      refine ⟨_, rfl, ?_⟩
      refine ⟨nd, _, rfl, .inl ⟨_, .inr y, .inl (t2 _ _ (sD _ _ hn)), rfl, (valE hL).symm⟩, ?_⟩
      refine ⟨_, g3, ?_, fun b o eb => ?_, ?_⟩
      · rw [List.length_map, List.length_take]
        exact lt_line (by omega)
      · rw [upd_ne (ne_of_none eb hD1)]
        exact t2 _ _ eb
      · refine upd_is ?_
        rw [List.take_succ, he, List.map_append]
        rfl
    rintro H7 ⟨t2, g3⟩
    rw [List.length_map, hlk2, List.take_length] at g3
    have sE := sD.trans t2
    have hd7 := sE _ _ hd
    have hfr : H7 p2 = some (.lst ((namesOf c.pts).map V.str)) := t2 _ _ (s6 _ _ (t1 _ _ (s4 _ _ (s3 _ _ e3))))
    have hsa : H7 D0 = some (.lst (sa.map .ref)) := t2 _ _ (s6 _ _ g1)
    have hsf := g2.imp fun _ _ _ h => t2 _ _ (s6 _ _ h)
    have hpt : H7 p = some (.lst (ps.map .ref)) := t2 _ _ (s6 _ _ (t1 _ _ (s4 _ _ (s3 _ _ (s2 _ _ e2)))))
    have hA7 := hA.imp fun a b _ h => PtAt.same t2 (PtAt.same s6 (PtAt.same t1 (PtAt.same s4 (PtAt.same s3 (PtAt.same s2 h)))))
    have hD7 := hD.same sE
    have hent : ∀ (i : Nat) (y : Str) (e : Ent), (onesOf c.pts)[i]? = some y → c.es[i]? = some e → ThingAt K H7 e.2.1 e.2.2.1 e.2.2.2.1 e.2.2.2.2 ∧ EntOk e.2.2.1 e.2.2.2.1 e.2.2.2.2 := fun i y e h1 h2 => by
      obtain ⟨e', h3, hL⟩ := look i y h1
      rw [h2] at h3
      obtain rfl := Option.some.inj h3
      exact hD7.things e (List.mem_of_find?_eq_some hL)
    clear look fs3 fs2 fs1 l2 l3 e1 e2 e3 e4 e5 e6 g1 g2 hn hlk lz
    cases c with
    | lay x f ds sh =>
      obtain ⟨okf, hpf, hx⟩ := hc
      have hfr' : H7 p2 = some (.lst [.str x]) := hfr
      obtain ⟨a1, rfl⟩ : ∃ a1, sa = [a1] := by
        match sa, hsf with
        | [a1], _ => exact ⟨a1, rfl⟩
      obtain ⟨b1, b2, b3, rfl⟩ : ∃ b1 b2 b3, ps = [b1, b2, b3] := by
        match ps, hA7 with
        | [b1, b2, b3], _ => exact ⟨b1, b2, b3, rfl⟩
      have hf1 : H7 a1 = some (.tup f.vs) := hsf.1
      obtain ⟨bb, hb3, _⟩ := hA7.2.2.1
      refine ⟨_, rfl, ?_⟩
      refine ⟨(by show 2 ≤ sizeLine; decide), fun r1 hr1 => ?_⟩
      have u1 := (Same.new (o := .tup [V.str "undo", V.str "again"]) hr1)
      refine ⟨_, _, rfl, .inr (SqT.of upd_same), rfl, rfl, ?_⟩
      refine ⟨_, rfl, ?_⟩
      rw [show inV (V.str _) [V.str "undo", V.str "again"] = false from (fun z (h : z = ("lay" : Str)) => by subst h; decide : ∀ z : Str, z = ("lay" : Str) → inV (V.str z) [V.str "undo", V.str "again"] = false) _ (by rfl)]
      refine ⟨_, rfl, ?_⟩
      refine ⟨(by show 2 ≤ sizeLine; decide), fun r2 hr2 => ?_⟩
      have u2 := u1.trans (Same.new (o := .tup [V.str "keep", V.str "lay"]) hr2)
      refine ⟨_, _, rfl, .inr (SqT.of upd_same), rfl, rfl, ?_⟩
      refine ⟨_, rfl, ?_⟩
      rw [show inV (V.str _) [V.str "keep", V.str "lay"] = true from (fun z (h : z = ("lay" : Str)) => by subst h; decide : ∀ z : Str, z = ("lay" : Str) → inV (V.str z) [V.str "keep", V.str "lay"] = true) _ (by rfl)]
      refine ⟨_, rfl, ?_⟩
      refine ⟨_, _, _, rfl, (u2 _ _ hd7), rfl, ?_⟩
      refine ⟨_, rfl, ?_⟩
      refine ⟨_, rfl, ?_⟩
      refine ⟨_, _, _, _, rfl, rfl, SqL.of (u2 _ _ hfr'), rfl, ?_⟩
      refine ⟨_, rfl, ?_⟩
      refine ⟨_, _, _, _, rfl, rfl, SqL.of (u2 _ _ hsa), rfl, ?_⟩
      refine ⟨_, rfl, ?_⟩
      refine ⟨_, rfl, ?_⟩
      refine ⟨_, _, _, _, rfl, rfl, SqL.of (u2 _ _ hpt), rfl, ?_⟩
      skip
      refine ⟨_, _, _, _, rfl, rfl, SqT.of (u2 _ _ hb3), rfl, ?_⟩
      refine ⟨D, E, x, a1, f, ds, sh, rfl, hD7.same u2, SqT.of (u2 _ _ hf1), okf, hx, hfew, fun H8 a x8 d8 => ?_⟩
      exact k _ ((Dx.of (sE.trans u2)).trans x8) ⟨a, d8⟩

    | bytes y e =>
      obtain ⟨th, oe⟩ := hent 0 y e rfl rfl
      have hst : H7 D1 = some (.lst [.ref e.2.1]) := g3
      refine ⟨_, rfl, ?_⟩
      refine ⟨(by show 2 ≤ sizeLine; decide), fun r1 hr1 => ?_⟩
      have u1 := (Same.new (o := .tup [V.str "undo", V.str "again"]) hr1)
      refine ⟨_, _, rfl, .inr (SqT.of upd_same), rfl, rfl, ?_⟩
      refine ⟨_, rfl, ?_⟩
      rw [show inV (V.str _) [V.str "undo", V.str "again"] = false from (fun z (h : z = ("bytes" : Str)) => by subst h; decide : ∀ z : Str, z = ("bytes" : Str) → inV (V.str z) [V.str "undo", V.str "again"] = false) _ (by rfl)]
      refine ⟨_, rfl, ?_⟩
      refine ⟨(by show 2 ≤ sizeLine; decide), fun r2 hr2 => ?_⟩
      have u2 := u1.trans (Same.new (o := .tup [V.str "keep", V.str "lay"]) hr2)
      refine ⟨_, _, rfl, .inr (SqT.of upd_same), rfl, rfl, ?_⟩
      refine ⟨_, rfl, ?_⟩
      rw [show inV (V.str _) [V.str "keep", V.str "lay"] = false from (fun z (h : z = ("bytes" : Str)) => by subst h; decide : ∀ z : Str, z = ("bytes" : Str) → inV (V.str z) [V.str "keep", V.str "lay"] = false) _ (by rfl)]
      refine ⟨_, rfl, ?_⟩
      refine ⟨(by show 4 ≤ sizeLine; decide), fun r3 hr3 => ?_⟩
      have u3 := u2.trans (Same.new (o := .tup [V.str "sum", V.str "less", V.str "times", V.str "over"]) hr3)
      refine ⟨_, _, rfl, .inr (SqT.of upd_same), rfl, rfl, ?_⟩
      refine ⟨_, rfl, ?_⟩
      rw [show inV (V.str _) [V.str "sum", V.str "less", V.str "times", V.str "over"] = false from (fun z (h : z = ("bytes" : Str)) => by subst h; decide : ∀ z : Str, z = ("bytes" : Str) → inV (V.str z) [V.str "sum", V.str "less", V.str "times", V.str "over"] = false) _ (by rfl)]
      refine ⟨_, rfl, ?_⟩
      refine ⟨rfl, ?_⟩
      refine ⟨_, rfl, ?_⟩
      refine ⟨_, rfl, ?_⟩
      refine ⟨rfl, ?_⟩
      refine ⟨_, rfl, ?_⟩
      refine ⟨_, rfl, ?_⟩
      refine ⟨rfl, ?_⟩
      refine ⟨_, rfl, ?_⟩
      refine ⟨_, rfl, ?_⟩
      refine ⟨_, _, _, rfl, (u3 _ _ hd7), rfl, ?_⟩
      refine ⟨_, rfl, ?_⟩
      refine ⟨_, rfl, ?_⟩
      refine ⟨_, rfl, ?_⟩
      refine ⟨_, rfl, ?_⟩
      refine ⟨_, p, D0, D1, "bytes", rfl, .inl ⟨rfl, e.2.1, e.2.2.1, e.2.2.2.1, e.2.2.2.2, SqL.of (u3 _ _ hst), th.same u3, oe, fun H8 s8 => ?_⟩⟩
      exact k _ (Dx.of ((sE.trans u3).trans s8)) (hD7.same (u3.trans s8))

    | two op x y z e e2 =>
      obtain ⟨hop, hff, h6, hpf, hx⟩ := hc
      obtain ⟨th, oe⟩ := hent 0 y e rfl rfl
      obtain ⟨th2, oe2⟩ := hent 1 z e2 rfl rfl
      have hst : H7 D1 = some (.lst [.ref e.2.1, .ref e2.2.1]) := g3
      have hfr' : H7 p2 = some (.lst [.str x]) := hfr
      rw [← hff] at th2 oe2
      have hZ2 : e2.Z = readZ e.2.2.1 e2.2.2.2.1 e2.2.2.2.2 := by unfold Ent.Z; rw [hff]
      have hops : op = 0 ∨ op = 1 ∨ op = 2 := by omega
      rcases hops with rfl | rfl | rfl
      · walk_at "ps"
        refine ⟨(by show 2 ≤ sizeLine; decide), fun r1 hr1 => ?_⟩
        have u1 := (Same.new (o := .tup [V.str "undo", V.str "again"]) hr1)
        refine ⟨_, _, rfl, .inr (SqT.of upd_same), rfl, rfl, ?_⟩
        refine ⟨_, rfl, ?_⟩
        rw [show inV (V.str _) [V.str "undo", V.str "again"] = false from (fun z (h : z = ("sum" : Str)) => by subst h; decide : ∀ z : Str, z = ("sum" : Str) → inV (V.str z) [V.str "undo", V.str "again"] = false) _ (by rfl)]
        refine ⟨_, rfl, ?_⟩
        refine ⟨(by show 2 ≤ sizeLine; decide), fun r2 hr2 => ?_⟩
        have u2 := u1.trans (Same.new (o := .tup [V.str "keep", V.str "lay"]) hr2)
        refine ⟨_, _, rfl, .inr (SqT.of upd_same), rfl, rfl, ?_⟩
        refine ⟨_, rfl, ?_⟩
        rw [show inV (V.str _) [V.str "keep", V.str "lay"] = false from (fun z (h : z = ("sum" : Str)) => by subst h; decide : ∀ z : Str, z = ("sum" : Str) → inV (V.str z) [V.str "keep", V.str "lay"] = false) _ (by rfl)]
        refine ⟨_, rfl, ?_⟩
        refine ⟨(by show 4 ≤ sizeLine; decide), fun r3 hr3 => ?_⟩
        have u3 := u2.trans (Same.new (o := .tup [V.str "sum", V.str "less", V.str "times", V.str "over"]) hr3)
        refine ⟨_, _, rfl, .inr (SqT.of upd_same), rfl, rfl, ?_⟩
        refine ⟨_, rfl, ?_⟩
        rw [show inV (V.str _) [V.str "sum", V.str "less", V.str "times", V.str "over"] = true from (fun z (h : z = ("sum" : Str)) => by subst h; decide : ∀ z : Str, z = ("sum" : Str) → inV (V.str z) [V.str "sum", V.str "less", V.str "times", V.str "over"] = true) _ (by rfl)]
        refine ⟨_, rfl, ?_⟩
        refine ⟨_, _, _, rfl, (u3 _ _ hd7), rfl, ?_⟩
        refine ⟨_, rfl, ?_⟩
        refine ⟨_, rfl, ?_⟩
        refine ⟨_, rfl, ?_⟩
        refine ⟨D, E, 0, x, p2, D1, e.2.1, e2.2.1, e.2.2.1, e.2.2.2.1, e.2.2.2.2, e2.2.2.2.1, e2.2.2.2.2, rfl, by decide, hD7.same u3, SqL.of (u3 _ _ hfr'), SqL.of (u3 _ _ hst), th.same u3, th2.same u3, oe, oe2, h6, hpf, hx, hfew, fun H8 a x8 d8 => ?_⟩
        have kk := k _ ((Dx.of (sE.trans u3)).trans x8) ⟨a, by rw [hZ2]; exact d8⟩
        dsimp only [Cmd.ans] at kk
        rw [hZ2] at kk
        exact kk
      · walk_at "ps"
        refine ⟨(by show 2 ≤ sizeLine; decide), fun r1 hr1 => ?_⟩
        have u1 := (Same.new (o := .tup [V.str "undo", V.str "again"]) hr1)
        refine ⟨_, _, rfl, .inr (SqT.of upd_same), rfl, rfl, ?_⟩
        refine ⟨_, rfl, ?_⟩
        rw [show inV (V.str _) [V.str "undo", V.str "again"] = false from (fun z (h : z = ("less" : Str)) => by subst h; decide : ∀ z : Str, z = ("less" : Str) → inV (V.str z) [V.str "undo", V.str "again"] = false) _ (by rfl)]
        refine ⟨_, rfl, ?_⟩
        refine ⟨(by show 2 ≤ sizeLine; decide), fun r2 hr2 => ?_⟩
        have u2 := u1.trans (Same.new (o := .tup [V.str "keep", V.str "lay"]) hr2)
        refine ⟨_, _, rfl, .inr (SqT.of upd_same), rfl, rfl, ?_⟩
        refine ⟨_, rfl, ?_⟩
        rw [show inV (V.str _) [V.str "keep", V.str "lay"] = false from (fun z (h : z = ("less" : Str)) => by subst h; decide : ∀ z : Str, z = ("less" : Str) → inV (V.str z) [V.str "keep", V.str "lay"] = false) _ (by rfl)]
        refine ⟨_, rfl, ?_⟩
        refine ⟨(by show 4 ≤ sizeLine; decide), fun r3 hr3 => ?_⟩
        have u3 := u2.trans (Same.new (o := .tup [V.str "sum", V.str "less", V.str "times", V.str "over"]) hr3)
        refine ⟨_, _, rfl, .inr (SqT.of upd_same), rfl, rfl, ?_⟩
        refine ⟨_, rfl, ?_⟩
        rw [show inV (V.str _) [V.str "sum", V.str "less", V.str "times", V.str "over"] = true from (fun z (h : z = ("less" : Str)) => by subst h; decide : ∀ z : Str, z = ("less" : Str) → inV (V.str z) [V.str "sum", V.str "less", V.str "times", V.str "over"] = true) _ (by rfl)]
        refine ⟨_, rfl, ?_⟩
        refine ⟨_, _, _, rfl, (u3 _ _ hd7), rfl, ?_⟩
        refine ⟨_, rfl, ?_⟩
        refine ⟨_, rfl, ?_⟩
        refine ⟨_, rfl, ?_⟩
        refine ⟨D, E, 1, x, p2, D1, e.2.1, e2.2.1, e.2.2.1, e.2.2.2.1, e.2.2.2.2, e2.2.2.2.1, e2.2.2.2.2, rfl, by decide, hD7.same u3, SqL.of (u3 _ _ hfr'), SqL.of (u3 _ _ hst), th.same u3, th2.same u3, oe, oe2, h6, hpf, hx, hfew, fun H8 a x8 d8 => ?_⟩
        have kk := k _ ((Dx.of (sE.trans u3)).trans x8) ⟨a, by rw [hZ2]; exact d8⟩
        dsimp only [Cmd.ans] at kk
        rw [hZ2] at kk
        exact kk
      · walk_at "ps"
        refine ⟨(by show 2 ≤ sizeLine; decide), fun r1 hr1 => ?_⟩
        have u1 := (Same.new (o := .tup [V.str "undo", V.str "again"]) hr1)
        refine ⟨_, _, rfl, .inr (SqT.of upd_same), rfl, rfl, ?_⟩
        refine ⟨_, rfl, ?_⟩
        rw [show inV (V.str _) [V.str "undo", V.str "again"] = false from (fun z (h : z = ("times" : Str)) => by subst h; decide : ∀ z : Str, z = ("times" : Str) → inV (V.str z) [V.str "undo", V.str "again"] = false) _ (by rfl)]
        refine ⟨_, rfl, ?_⟩
        refine ⟨(by show 2 ≤ sizeLine; decide), fun r2 hr2 => ?_⟩
        have u2 := u1.trans (Same.new (o := .tup [V.str "keep", V.str "lay"]) hr2)
        refine ⟨_, _, rfl, .inr (SqT.of upd_same), rfl, rfl, ?_⟩
        refine ⟨_, rfl, ?_⟩
        rw [show inV (V.str _) [V.str "keep", V.str "lay"] = false from (fun z (h : z = ("times" : Str)) => by subst h; decide : ∀ z : Str, z = ("times" : Str) → inV (V.str z) [V.str "keep", V.str "lay"] = false) _ (by rfl)]
        refine ⟨_, rfl, ?_⟩
        refine ⟨(by show 4 ≤ sizeLine; decide), fun r3 hr3 => ?_⟩
        have u3 := u2.trans (Same.new (o := .tup [V.str "sum", V.str "less", V.str "times", V.str "over"]) hr3)
        refine ⟨_, _, rfl, .inr (SqT.of upd_same), rfl, rfl, ?_⟩
        refine ⟨_, rfl, ?_⟩
        rw [show inV (V.str _) [V.str "sum", V.str "less", V.str "times", V.str "over"] = true from (fun z (h : z = ("times" : Str)) => by subst h; decide : ∀ z : Str, z = ("times" : Str) → inV (V.str z) [V.str "sum", V.str "less", V.str "times", V.str "over"] = true) _ (by rfl)]
        refine ⟨_, rfl, ?_⟩
        refine ⟨_, _, _, rfl, (u3 _ _ hd7), rfl, ?_⟩
        refine ⟨_, rfl, ?_⟩
        refine ⟨_, rfl, ?_⟩
        refine ⟨_, rfl, ?_⟩
        refine ⟨D, E, 2, x, p2, D1, e.2.1, e2.2.1, e.2.2.1, e.2.2.2.1, e.2.2.2.2, e2.2.2.2.1, e2.2.2.2.2, rfl, by decide, hD7.same u3, SqL.of (u3 _ _ hfr'), SqL.of (u3 _ _ hst), th.same u3, th2.same u3, oe, oe2, h6, hpf, hx, hfew, fun H8 a x8 d8 => ?_⟩
        have kk := k _ ((Dx.of (sE.trans u3)).trans x8) ⟨a, by rw [hZ2]; exact d8⟩
        dsimp only [Cmd.ans] at kk
        rw [hZ2] at kk
        exact kk

    | order y z e e2 =>
      obtain ⟨th, oe⟩ := hent 0 y e rfl rfl
      obtain ⟨th2, oe2⟩ := hent 1 z e2 rfl rfl
      have hst : H7 D1 = some (.lst [.ref e.2.1, .ref e2.2.1]) := g3
      have hff : e.2.2.1 = e2.2.2.1 := hc
      rw [← hff] at th2 oe2
      have hZ2 : e2.Z = readZ e.2.2.1 e2.2.2.2.1 e2.2.2.2.2 := by unfold Ent.Z; rw [hff]
      refine ⟨_, rfl, ?_⟩
      refine ⟨(by show 2 ≤ sizeLine; decide), fun r1 hr1 => ?_⟩
      have u1 := (Same.new (o := .tup [V.str "undo", V.str "again"]) hr1)
      refine ⟨_, _, rfl, .inr (SqT.of upd_same), rfl, rfl, ?_⟩
      refine ⟨_, rfl, ?_⟩
      rw [show inV (V.str _) [V.str "undo", V.str "again"] = false from (fun z (h : z = ("order" : Str)) => by subst h; decide : ∀ z : Str, z = ("order" : Str) → inV (V.str z) [V.str "undo", V.str "again"] = false) _ (by rfl)]
      refine ⟨_, rfl, ?_⟩
      refine ⟨(by show 2 ≤ sizeLine; decide), fun r2 hr2 => ?_⟩
      have u2 := u1.trans (Same.new (o := .tup [V.str "keep", V.str "lay"]) hr2)
      refine ⟨_, _, rfl, .inr (SqT.of upd_same), rfl, rfl, ?_⟩
      refine ⟨_, rfl, ?_⟩
      rw [show inV (V.str _) [V.str "keep", V.str "lay"] = false from (fun z (h : z = ("order" : Str)) => by subst h; decide : ∀ z : Str, z = ("order" : Str) → inV (V.str z) [V.str "keep", V.str "lay"] = false) _ (by rfl)]
      refine ⟨_, rfl, ?_⟩
      refine ⟨(by show 4 ≤ sizeLine; decide), fun r3 hr3 => ?_⟩
      have u3 := u2.trans (Same.new (o := .tup [V.str "sum", V.str "less", V.str "times", V.str "over"]) hr3)
      refine ⟨_, _, rfl, .inr (SqT.of upd_same), rfl, rfl, ?_⟩
      refine ⟨_, rfl, ?_⟩
      rw [show inV (V.str _) [V.str "sum", V.str "less", V.str "times", V.str "over"] = false from (fun z (h : z = ("order" : Str)) => by subst h; decide : ∀ z : Str, z = ("order" : Str) → inV (V.str z) [V.str "sum", V.str "less", V.str "times", V.str "over"] = false) _ (by rfl)]
      refine ⟨_, rfl, ?_⟩
      refine ⟨rfl, ?_⟩
      refine ⟨_, rfl, ?_⟩
      refine ⟨_, rfl, ?_⟩
      refine ⟨rfl, ?_⟩
      refine ⟨_, rfl, ?_⟩
      refine ⟨_, rfl, ?_⟩
      refine ⟨rfl, ?_⟩
      refine ⟨_, rfl, ?_⟩
      refine ⟨_, rfl, ?_⟩
      refine ⟨_, _, _, rfl, (u3 _ _ hd7), rfl, ?_⟩
      refine ⟨_, rfl, ?_⟩
      refine ⟨_, rfl, ?_⟩
      refine ⟨_, rfl, ?_⟩
      refine ⟨_, rfl, ?_⟩
      refine ⟨_, p, D0, D1, "order", rfl, .inr ⟨rfl, e.2.1, e2.2.1, e.2.2.1, e.2.2.2.1, e.2.2.2.2, e2.2.2.2.1, e2.2.2.2.2, SqL.of (u3 _ _ hst), th.same u3, th2.same u3, oe, oe2, fun H8 s8 => ?_⟩⟩
      have kk := k _ (Dx.of ((sE.trans u3).trans s8)) (hD7.same (u3.trans s8))
      dsimp only [Cmd.ans] at kk
      rw [hZ2] at kk
      exact kk

    | move x y i r e =>
      obtain ⟨hi1, hi2, hi3, hx⟩ := hc
      obtain ⟨th, oe⟩ := hent 0 y e rfl rfl
      have hst : H7 D1 = some (.lst [.ref e.2.1]) := g3
      have hfr' : H7 p2 = some (.lst [.str x]) := hfr
      refine ⟨_, rfl, ?_⟩
      refine ⟨(by show 2 ≤ sizeLine; decide), fun r1 hr1 => ?_⟩
      have u1 := (Same.new (o := .tup [V.str "undo", V.str "again"]) hr1)
      refine ⟨_, _, rfl, .inr (SqT.of upd_same), rfl, rfl, ?_⟩
      refine ⟨_, rfl, ?_⟩
      rw [show inV (V.str _) [V.str "undo", V.str "again"] = false from (fun z (h : z = ("move" : Str)) => by subst h; decide : ∀ z : Str, z = ("move" : Str) → inV (V.str z) [V.str "undo", V.str "again"] = false) _ (by rfl)]
      refine ⟨_, rfl, ?_⟩
      refine ⟨(by show 2 ≤ sizeLine; decide), fun r2 hr2 => ?_⟩
      have u2 := u1.trans (Same.new (o := .tup [V.str "keep", V.str "lay"]) hr2)
      refine ⟨_, _, rfl, .inr (SqT.of upd_same), rfl, rfl, ?_⟩
      refine ⟨_, rfl, ?_⟩
      rw [show inV (V.str _) [V.str "keep", V.str "lay"] = false from (fun z (h : z = ("move" : Str)) => by subst h; decide : ∀ z : Str, z = ("move" : Str) → inV (V.str z) [V.str "keep", V.str "lay"] = false) _ (by rfl)]
      refine ⟨_, rfl, ?_⟩
      refine ⟨(by show 4 ≤ sizeLine; decide), fun r3 hr3 => ?_⟩
      have u3 := u2.trans (Same.new (o := .tup [V.str "sum", V.str "less", V.str "times", V.str "over"]) hr3)
      refine ⟨_, _, rfl, .inr (SqT.of upd_same), rfl, rfl, ?_⟩
      refine ⟨_, rfl, ?_⟩
      rw [show inV (V.str _) [V.str "sum", V.str "less", V.str "times", V.str "over"] = false from (fun z (h : z = ("move" : Str)) => by subst h; decide : ∀ z : Str, z = ("move" : Str) → inV (V.str z) [V.str "sum", V.str "less", V.str "times", V.str "over"] = false) _ (by rfl)]
      refine ⟨_, rfl, ?_⟩
      refine ⟨rfl, ?_⟩
      refine ⟨_, rfl, ?_⟩
      refine ⟨_, rfl, ?_⟩
      refine ⟨_, _, _, rfl, (u3 _ _ hd7), rfl, ?_⟩
      refine ⟨_, rfl, ?_⟩
      refine ⟨_, _, _, _, rfl, rfl, SqL.of (u3 _ _ hfr'), rfl, ?_⟩
      refine ⟨_, rfl, ?_⟩
      refine ⟨_, _, _, _, rfl, rfl, SqL.of (u3 _ _ hst), rfl, ?_⟩
      refine ⟨_, rfl, ?_⟩
      refine ⟨D, E, x, e.2.1, p, ps, y, i, r, e.2.2.1, e.2.2.2.1, e.2.2.2.2, rfl, hD7.same u3, th.same u3, oe, u3 _ _ hpt, hA7.imp fun _ _ _ h => PtAt.same u3 h, hi1, hi2, hi3, hx, hfew, fun H8 a x8 d8 => ?_⟩
      exact k _ ((Dx.of (sE.trans u3)).trans x8) ⟨a, d8⟩

    | turn x y g e =>
      obtain ⟨hg0, hg12, hgp, hx⟩ := hc
      obtain ⟨th, oe⟩ := hent 0 y e rfl rfl
      have hst : H7 D1 = some (.lst [.ref e.2.1]) := g3
      have hfr' : H7 p2 = some (.lst [.str x]) := hfr
      obtain ⟨a1, rfl⟩ : ∃ a1, sa = [a1] := by
        match sa, hsf with
        | [a1], _ => exact ⟨a1, rfl⟩
      have hf1 : H7 a1 = some (.tup g.vs) := hsf.1
      obtain ⟨fa, ra, th1, th2, th3⟩ := th
      obtain ⟨xs, hp, _⟩ := hD7.past
      refine ⟨_, rfl, ?_⟩
      refine ⟨(by show 2 ≤ sizeLine; decide), fun r1 hr1 => ?_⟩
      have u1 := (Same.new (o := .tup [V.str "undo", V.str "again"]) hr1)
      refine ⟨_, _, rfl, .inr (SqT.of upd_same), rfl, rfl, ?_⟩
      refine ⟨_, rfl, ?_⟩
      rw [show inV (V.str _) [V.str "undo", V.str "again"] = false from (fun z (h : z = ("turn" : Str)) => by subst h; decide : ∀ z : Str, z = ("turn" : Str) → inV (V.str z) [V.str "undo", V.str "again"] = false) _ (by rfl)]
      refine ⟨_, rfl, ?_⟩
      refine ⟨(by show 2 ≤ sizeLine; decide), fun r2 hr2 => ?_⟩
      have u2 := u1.trans (Same.new (o := .tup [V.str "keep", V.str "lay"]) hr2)
      refine ⟨_, _, rfl, .inr (SqT.of upd_same), rfl, rfl, ?_⟩
      refine ⟨_, rfl, ?_⟩
      rw [show inV (V.str _) [V.str "keep", V.str "lay"] = false from (fun z (h : z = ("turn" : Str)) => by subst h; decide : ∀ z : Str, z = ("turn" : Str) → inV (V.str z) [V.str "keep", V.str "lay"] = false) _ (by rfl)]
      refine ⟨_, rfl, ?_⟩
      refine ⟨(by show 4 ≤ sizeLine; decide), fun r3 hr3 => ?_⟩
      have u3 := u2.trans (Same.new (o := .tup [V.str "sum", V.str "less", V.str "times", V.str "over"]) hr3)
      refine ⟨_, _, rfl, .inr (SqT.of upd_same), rfl, rfl, ?_⟩
      refine ⟨_, rfl, ?_⟩
      rw [show inV (V.str _) [V.str "sum", V.str "less", V.str "times", V.str "over"] = false from (fun z (h : z = ("turn" : Str)) => by subst h; decide : ∀ z : Str, z = ("turn" : Str) → inV (V.str z) [V.str "sum", V.str "less", V.str "times", V.str "over"] = false) _ (by rfl)]
      refine ⟨_, rfl, ?_⟩
      refine ⟨rfl, ?_⟩
      refine ⟨_, rfl, ?_⟩
      refine ⟨_, rfl, ?_⟩
      refine ⟨rfl, ?_⟩
      refine ⟨_, rfl, ?_⟩
      refine ⟨_, rfl, ?_⟩
      refine ⟨_, _, _, _, rfl, rfl, SqL.of (u3 _ _ hst), rfl, ?_⟩
      skip
      refine ⟨_, _, _, _, rfl, rfl, SqT.of (u3 _ _ th1), rfl, ?_⟩
      refine ⟨_, rfl, ?_⟩
      refine ⟨_, _, _, _, rfl, rfl, SqL.of (u3 _ _ hst), rfl, ?_⟩
      skip
      refine ⟨_, _, _, _, rfl, rfl, SqT.of (u3 _ _ th1), rfl, ?_⟩
      refine ⟨fa, ra, e.2.2.1, e.2.2.2.1, e.2.2.2.2, rfl, u3.teq th2, u3.teq th3, oe.n0, by have := oe.n12; omega, oe.good, fun H8 s8 => ?_⟩
      have s5 := u3.trans s8
      refine ⟨_, rfl, ?_⟩
      refine ⟨_, _, _, rfl, (s5 _ _ hd7), rfl, ?_⟩
      refine ⟨_, rfl, ?_⟩
      refine ⟨_, _, _, V.str x, rfl, rfl, SqL.of (s5 _ _ hfr'), rfl, ?_⟩
      refine ⟨_, rfl, ?_⟩
      refine ⟨_, _, _, _, rfl, rfl, SqL.of (s5 _ _ hsa), rfl, ?_⟩
      refine ⟨_, rfl, ?_⟩
      refine ⟨a1, g, readZ e.2.2.1 e.2.2.2.1 e.2.2.2.2, rfl, SqT.of (s5 _ _ hf1), hg0, by omega, fun H9 p4' q4 s6' e4' e5' => ?_⟩
      refine ⟨(by show 2 ≤ sizeLine; decide), fun p5 f5 => ?_⟩
      have t5 := Same.new (o := .tup [.str x, .ref p4']) f5
      refine ⟨(by show 1 ≤ sizeLine; decide), fun p6' f6' => ?_⟩
      have t6 := Same.new (o := .lst [.ref p5]) f6'
      have s7 := ((s5.trans s6').trans t5).trans t6
      have n6 : p6' ≠ D.pl := fun z => by
        have := t5 _ _ (s6' _ _ (s5 _ _ hp))
        rw [← z, f6'] at this; cases this
      have hF7 : SqT K (upd (upd H9 p5 (.tup [.str x, .ref p4'])) p6' (.lst [.ref p5])) a1 g.vs := SqT.of (s7 _ _ hf1)
      have hth : ThingAt K (upd (upd H9 p5 (.tup [.str x, .ref p4'])) p6' (.lst [.ref p5])) p4' g (digs g.n (keptNum g (foldedZ g (readZ e.2.2.1 e.2.2.2.1 e.2.2.2.2)))) (signOf (foldedZ g (readZ e.2.2.1 e.2.2.2.1 e.2.2.2.2))) := thing_of (t6 _ _ (t5 _ _ e4')) hF7 (t6 _ _ (t5 _ _ e5'))
      have eL : upd (upd H9 p5 (.tup [.str x, .ref p4'])) p6' (.lst [.ref p5]) p6' = some (.lst [.ref p5]) := upd_same
      have eT : upd (upd H9 p5 (.tup [.str x, .ref p4'])) p6' (.lst [.ref p5]) p5 = some (.tup [.str x, .ref p4']) := t6 _ _ upd_same
      refine ⟨_, rfl, ?_⟩
      refine ⟨_, _, _, _, rfl, rfl, SqL.of (s7 _ _ hsa), rfl, ?_⟩
      refine ⟨_, rfl, ?_⟩
      refine ⟨a1, g, readZ e.2.2.1 e.2.2.2.1 e.2.2.2.2, rfl, hF7, hg0, by omega, fun Ha sa' => ?_⟩
      refine ⟨D, E, p6', p5, x, p4', _, g, _, _, rfl, hD7.same (s7.trans sa'), sa' _ _ eL, n6, sa' _ _ eT, hx, hth.same sa', made_ok _ hg0 hg12, hfew, fun Hb xb db => ?_⟩
      exact k _ ((Dx.of (sE.trans (s7.trans sa'))).trans xb) ⟨p4', db⟩

end
end TL
set_option Elab.async false
set_option linter.all false
set_option maxRecDepth 100000
set_option pp.maxSteps 600
set_option maxHeartbeats 4000000
namespace TL
open PySem PySem.Spec PyProof.Rows L2
/-- one question answered, where its answer is plain -/
local macro_rules | `(tactic| walk_at "p") => `(tactic| first
  | refine ⟨_, rfl, ?_⟩
  | refine ⟨_, _, rfl, rfl, ⟨by decide, by decide⟩, ?_⟩
  | refine ⟨_, _, rfl, rfl, (by show (0 : Int) < _; decide), ?_⟩
  | refine ⟨_, _, rfl, rfl, ?_⟩
  | refine ⟨rfl, ?_⟩
  | refine ⟨_, _, _, _, rfl, rfl, (by assumption), rfl, ?_⟩
  | refine .inr ⟨_, rfl, ?_⟩
  | refine .inl ⟨_, rfl, ?_⟩
  | refine iteT ?_
  | refine iteF ?_)
local macro_rules | `(tactic| walk_at "ps") => `(tactic| repeat walk_at "p")

/-! ### the law's own defs -/
def spLCell (K : PySem.W.Frag) : Sp := fun vs H Q _ => ∃ (a : Addr) (zs : List Int) (k : Nat), vs = [.ref a, .int (k : Int)] ∧ SqL K H a (zs.map V.int) ∧ k ≤ 1000 ∧ ∀ H' (c : Int), Same H H' → Q (.int c) H'
def spMixed : Sp := fun vs H Q _ => ∃ (c : Int) (k : Nat) (salt : Int), vs = [.int c, .int (k : Int), .int salt] ∧ ∀ H' (x : Int), Same H H' → Q (.int x) H'
def spDraws (K : PySem.W.Frag) : Sp := fun vs H Q _ => ∃ (c salt : Int) (a : Addr) (ws : List Nat), vs = [.int c, .int salt, .ref a] ∧ SqL K H a (ws.map nV) ∧ (∀ x ∈ ws, 0 < x ∧ x < 2 ^ 60) ∧ ws.length ≤ 20 ∧ ∀ H' p ds, Same H H' → H p = none → H' p = some (.lst (ds.map nV)) → All2 (fun d x => d < x) ds ws → Q (.ref p) H'
def spLForm : Sp := fun vs H Q _ => ∃ (k m s : Nat), vs = [nV k, nV m, nV s] ∧ k < 2 ∧ s < 3 ∧ m ≤ 20 ∧ ∀ H' p (f : Form), Same H H' → H p = none → f.n = m + 1 → H' p = some (.tup f.vs) → Q (.ref p) H'
section
variable {P : Program} {w : World} {K : PySem.W.Frag} {mg : Str → Option Value} {base : Heap}
theorem sc_law_cell : FnScope ["_law_script", "_law_k"] ["_law_script", "_law_k"] (defScope (top 149)) := ⟨rfl, rfl, rfl, by decide +kernel, rfl, by decide +kernel, by decide +kernel⟩
theorem d_law_cell (T : TX w K mg) : DefOk P w K mg base 1 140 "_law_cell" ["_law_script", "_law_k"] (spLCell K) := by
  refine mkDef T 131 rfl rfl sc_law_cell (fun _ _ _ _ _ _ us hl => match us, hl with | [_, _], _ => rfl) (fun vs H Q E h => ?_) (fun f cdv A outer s H vs Q E hr h => ?_)
  · obtain ⟨a, zs, k0, rfl, hL, hk, k⟩ := h
    rfl
  · obtain ⟨a, zs, k0, rfl, hL, hk, k⟩ := h
    refine ⟨_, 
        (pss_cons (ps_if (pt_cmpR op_lt (pv 1) (pe_callB call_len_seq (by rfl) T.len_ (by decide +kernel) (pa_cons (pv 0) pa_nil)) (nomark _)) 
          (pss_one (ps_ret (pe_ix ix_list (pv 0) (pv 1) (fun _ _ => rfl)))) pss_nil) 
        (pss_cons (ps_if (pt_cmpR op_eq (pe_callB call_len_seq (by rfl) T.len_ (by decide +kernel) (pa_cons (pv 0) pa_nil)) pe_int (nomark _)) 
          (pss_one (ps_ret (pe_op op_mul pe_int (pe_op op_add (pv 1) pe_int)))) pss_nil) 
        (pss_one (ps_ret (pe_op op_add (pe_ix ix_list (pv 0) (pe_op op_mod (pv 1) (pe_callB call_len_seq (by rfl) T.len_ (by decide +kernel) (pa_cons (pv 0) pa_nil))) (fun _ _ => rfl)) (pe_op op_mul pe_int (pv 1))))))), ?_⟩
    walk_at "ps"
    refine ⟨a, _, rfl, .inl hL, ?_⟩
    rw [List.length_map]
    walk_at "ps"
    refine iteD (fun h => ?_) (fun h => ?_)
    · have hj : k0 < zs.length := by omega
      walk_at "p"
      walk_at "p"
      refine ⟨_, _, _, _, rfl, rfl, hL, atI_nat (by rw [List.getElem?_map, List.getElem?_eq_getElem hj]; rfl), ?_⟩
      exact k _ _ (Same.refl _)
    · walk_at "ps"
      refine ⟨a, _, rfl, .inl hL, ?_⟩
      rw [List.length_map]
      walk_at "ps"
      refine iteD (fun h0 => ?_) (fun h0 => ?_)
      · walk_at "ps"
        refine ⟨.inl ⟨by decide, by decide⟩, ?_⟩
        exact k _ _ (Same.refl _)
      · have hz : 0 < zs.length := by
          rcases Nat.eq_zero_or_pos zs.length with q | q
          · exact absurd (show V.int (zs.length : Int) = V.int 0 by rw [q]; rfl) h0
          · exact q
        walk_at "ps"
        refine ⟨a, _, rfl, .inl hL, ?_⟩
        rw [List.length_map]
        refine ⟨_, _, rfl, rfl, (by show (0 : Int) < (zs.length : Int); omega), ?_⟩
        have hj : k0 % zs.length < zs.length := Nat.mod_lt _ hz
        refine ⟨_, _, _, V.int zs[k0 % zs.length], rfl, rfl, hL, ?_, ?_⟩
        · rw [← Int.natCast_emod]
          exact atI_nat (by rw [List.getElem?_map, List.getElem?_eq_getElem hj]; rfl)
        walk_at "ps"
        refine ⟨.inl ⟨by decide, by decide⟩, ?_⟩
        walk_at "ps"
        exact k _ _ (Same.refl _)
theorem sc_law_mixed : FnScope ["_law_cell_here", "_law_k", "_law_salt", "_law_primes", "_law_one", "_law_two"] ["_law_cell_here", "_law_k", "_law_salt"] (defScope (top 150)) := ⟨rfl, rfl, rfl, by decide +kernel, rfl, by decide +kernel, by decide +kernel⟩
theorem d_law_mixed (T : TX w K mg) : DefOk P w K mg base 1 141 "_law_mixed" ["_law_cell_here", "_law_k", "_law_salt"] (spMixed) := by
  refine mkDef T 132 rfl rfl sc_law_mixed (fun _ _ _ _ _ _ us hl => match us, hl with | [_, _, _], _ => rfl) (fun vs H Q E h => ?_) (fun f cdv A outer s H vs Q E hr h => ?_)
  · obtain ⟨c, k0, salt, rfl, k⟩ := h
    rfl
  · obtain ⟨c, k0, salt, rfl, k⟩ := h
    refine ⟨_, 
        (pss_cons (ps_set (i := 3) sc_law_mixed.nd rfl (Or.inl rfl) (pe_lst (pa_cons pe_int (pa_cons pe_int (pa_cons pe_int (pa_cons pe_int (pa_cons pe_int (pa_cons pe_int (pa_cons pe_int (pa_cons pe_int pa_nil)))))))))) 
        (pss_cons (ps_set (i := 4) sc_law_mixed.nd rfl (Or.inl rfl) (pe_op op_mod (pe_op op_add (pe_op op_add (pe_op op_add (pv 0) (pe_op op_mul pe_int (pv 2))) (pe_op op_mul pe_int (pv 1))) pe_int) pe_int)) 
        (pss_cons (ps_set (i := 4) sc_law_mixed.nd rfl (Or.inl rfl) (pe_op op_mod (pe_op op_pow (pv 4) pe_int) (pe_ix ix_list (pv 3) (pe_op op_mod (pv 1) pe_int) (fun _ _ => rfl)))) 
        (pss_cons (ps_set (i := 5) sc_law_mixed.nd rfl (Or.inl rfl) (pe_op op_mod (pe_op op_add (pe_op op_add (pv 4) (pe_op op_mul pe_int (pv 2))) (pv 1)) pe_int)) 
        (pss_one (ps_ret (pe_op op_add (pe_op op_mul (pe_op op_mod (pe_op op_pow (pv 5) pe_int) pe_int) pe_int) (pv 4)))))))), ?_⟩
    refine ⟨(by show 8 ≤ sizeLine; decide), fun p hp => ?_⟩
    have s1 := Same.new (o := .lst [V.int 2147483629, V.int 2147483587, V.int 2147483579, V.int 2147483563, V.int 2147483549, V.int 2147483543, V.int 2147483497, V.int 2147483489]) hp
    have hpr : ∃ q : Int, 0 < q ∧ q < 2147483648 ∧ atI [V.int 2147483629, V.int 2147483587, V.int 2147483579, V.int 2147483563, V.int 2147483549, V.int 2147483543, V.int 2147483497, V.int 2147483489] ((k0 : Int) % 8) = some (V.int q) := by
      have : (k0 : Int) % 8 = 0 ∨ (k0 : Int) % 8 = 1 ∨ (k0 : Int) % 8 = 2 ∨ (k0 : Int) % 8 = 3 ∨ (k0 : Int) % 8 = 4 ∨ (k0 : Int) % 8 = 5 ∨ (k0 : Int) % 8 = 6 ∨ (k0 : Int) % 8 = 7 := by omega
      rcases this with h | h | h | h | h | h | h | h <;> rw [h] <;> exact ⟨_, by decide, by decide, rfl⟩
    obtain ⟨q, q0, q1, hq⟩ := hpr
    walk_at "ps"
    refine ⟨.inl ⟨by decide, by decide⟩, ?_⟩
    walk_at "ps"
    refine ⟨.inl ⟨by decide, by decide⟩, ?_⟩
    walk_at "ps"
    refine ⟨⟨by decide, by decide, by omega⟩, ?_⟩
    walk_at "ps"
    refine ⟨_, _, _, _, rfl, rfl, SqL.of upd_same, hq, ?_⟩
    walk_at "ps"
    refine ⟨q0, ?_⟩
    generalize ((c + 7919 * salt + 104729 * (k0 : Int) + 13) % 2147483647) ^ 5 % q = o
    walk_at "ps"
    refine ⟨.inl ⟨by decide, by decide⟩, ?_⟩
    walk_at "ps"
    refine ⟨⟨by decide, by decide, by omega⟩, ?_⟩
    walk_at "ps"
    refine ⟨.inr ⟨by decide, by decide⟩, ?_⟩
    walk_at "ps"
    exact k _ _ s1
theorem sc_law_form : FnScope ["_law_kind", "_law_many", "_law_sign", "_law_point"] ["_law_kind", "_law_many", "_law_sign"] (defScope (top 153)) := ⟨rfl, rfl, rfl, by decide +kernel, rfl, by decide +kernel, by decide +kernel⟩
theorem d_law_form (T : TX w K mg) : DefOk P w K mg base 1 144 "_law_form" ["_law_kind", "_law_many", "_law_sign"] (spLForm) := by
  refine mkDef T 135 rfl rfl sc_law_form (fun _ _ _ _ _ _ us hl => match us, hl with | [_, _, _], _ => rfl) (fun vs H Q E h => ?_) (fun f cdv A outer s H vs Q E hr h => ?_)
  · obtain ⟨k0, m, s0, rfl, h1, h2, h3, k⟩ := h
    rfl
  · obtain ⟨k0, m, s0, rfl, h1, h2, h3, k⟩ := h
    refine ⟨_, 
        (pss_cons (ps_set (i := 3) sc_law_form.nd rfl (Or.inl rfl) (pe_op op_mod (pe_op op_add (pe_op op_add (pe_op op_mul pe_int (pv 1)) (pe_op op_mul pe_int (pv 0))) (pv 2)) (pe_op op_add (pv 1) pe_int))) 
        (pss_one (ps_ret (pe_tup (pa_cons (pe_ix ix_list (pe_lst (pa_cons pe_str (pa_cons pe_str pa_nil))) (pv 0) (fun _ _ => rfl)) (pa_cons (pe_op op_add pe_int (pv 1)) (pa_cons (pe_ix ix_list (pe_lst (pa_cons pe_str (pa_cons pe_str (pa_cons pe_str pa_nil)))) (pv 2) (fun _ _ => rfl)) (pa_cons (pv 3) pa_nil)))))))), ?_⟩
    walk_at "ps"
    refine ⟨.inl ⟨by decide, by decide⟩, ?_⟩
    walk_at "ps"
    refine ⟨.inl ⟨by decide, by decide⟩, ?_⟩
    walk_at "ps"
    refine ⟨by omega, ?_⟩
    walk_at "ps"
    refine ⟨(by show 2 ≤ sizeLine; decide), fun p1 f1 => ?_⟩
    have s1 := Same.new (o := .lst [V.str "packed", V.str "spread"]) f1
    walk_at "ps"
    refine ⟨_, _, _, V.str (kindS (decide (k0 = 0))), rfl, rfl, SqL.of upd_same, ?_, ?_⟩
    · have : k0 = 0 ∨ k0 = 1 := by omega
      rcases this with h | h <;> subst h <;> rfl
    walk_at "ps"
    refine ⟨(by show 3 ≤ sizeLine; decide), fun p2 f2 => ?_⟩
    have s2 := s1.trans (Same.new (o := .lst [V.str "none", V.str "end", V.str "tens"]) f2)
    walk_at "ps"
    obtain ⟨sg, hsg⟩ : ∃ sg : Sg, atI [V.str "none", V.str "end", V.str "tens"] (s0 : Int) = some (V.str (sgS sg)) := by
      have : s0 = 0 ∨ s0 = 1 ∨ s0 = 2 := by omega
      rcases this with h | h | h <;> subst h
      · exact ⟨.none, rfl⟩
      · exact ⟨.end_, rfl⟩
      · exact ⟨.tens, rfl⟩
    refine ⟨_, _, _, V.str (sgS sg), rfl, rfl, SqL.of upd_same, hsg, ?_⟩
    walk_at "ps"
    refine ⟨(by show 4 ≤ sizeLine; decide), fun p3 f3 => ?_⟩
    refine k _ p3 ⟨decide (k0 = 0), m + 1, sg, (7 * m + 3 * k0 + s0) % (m + 2)⟩ (s2.trans (Same.new f3)) (s2.free f3) rfl (upd_is ?_)
    show HO.tup [V.str (kindS (decide (k0 = 0))), V.int (1 + (m : Int)), V.str (sgS sg), V.int ((7 * (m : Int) + 3 * (k0 : Int) + (s0 : Int)) % ((m : Int) + 2))] = HO.tup [V.str (kindS (decide (k0 = 0))), V.int ((m + 1 : Nat) : Int), V.str (sgS sg), V.int (((7 * m + 3 * k0 + s0) % (m + 2) : Nat) : Int)]
    rw [show (1 + (m : Int)) = ((m + 1 : Nat) : Int) by omega, show ((7 * (m : Int) + 3 * (k0 : Int) + (s0 : Int)) % ((m : Int) + 2)) = (((7 * m + 3 * k0 + s0) % (m + 2) : Nat) : Int) by rw [Int.natCast_emod]; simp]
theorem sc_law_draws : FnScope ["_law_cell_here", "_law_salt", "_law_widths", "_law_found", "_law_left", "_law_k"] ["_law_cell_here", "_law_salt", "_law_widths"] (defScope (top 151)) := ⟨rfl, rfl, rfl, by decide +kernel, rfl, by decide +kernel, by decide +kernel⟩
theorem d_law_draws (T : TX w K mg) : DefOk P w K mg base 2 142 "_law_draws" ["_law_cell_here", "_law_salt", "_law_widths"] (spDraws K) := by
  refine mkDef T 133 rfl rfl sc_law_draws (fun _ _ _ _ _ _ us hl => match us, hl with | [_, _, _], _ => rfl) (fun vs H Q E h => ?_) (fun f cdv A outer s H vs Q E hr h => ?_)
  · obtain ⟨c, salt, a, ws, rfl, hL, hws, hlen, k⟩ := h
    rfl
  · obtain ⟨c, salt, a, ws, rfl, hL, hws, hlen, k⟩ := h
    refine ⟨_, 
        (pss_cons (ps_set (i := 3) sc_law_draws.nd rfl (Or.inl rfl) (pe_lst pa_nil)) 
        (pss_cons (ps_set (i := 4) sc_law_draws.nd rfl (Or.inl rfl) pe_int) 
        (pss_cons (ps_if (pt_cmpR op_ge (pe_callB call_abs (by rfl) T.abs_ (by decide +kernel) (pa_cons (pv 0) pa_nil)) (pe_op op_pow pe_int pe_int) (nomark _)) 
          (pss_one (ps_set (i := 4) sc_law_draws.nd rfl (Or.inl rfl) (pe_callB call_abs (by rfl) T.abs_ (by decide +kernel) (pa_cons (pv 0) pa_nil)))) pss_nil) 
        (pss_cons (ps_for PassesOwn.never rfl (pi_range1 rfl T.range_ (pa_cons (pe_callB call_len_seq (by rfl) T.len_ (by decide +kernel) (pa_cons (pv 2) pa_nil)) pa_nil)) (pg_name (i := 5) sc_law_draws.nd rfl (Or.inl rfl)) 
          (pss_one (ps_if (pt_cmpR op_gt (pv 4) pe_int (nomark _)) 
            (pss_cons (ps_expr (pe_bm PySem.F.plainAttrs_list PySem.F.slot_list_append PySem.F.type_list_append mt_append (pv 3) (pa_cons (pe_op op_mod (pv 4) (pe_ix ix_list (pv 2) (pv 5) (fun _ _ => rfl))) pa_nil))) 
            (pss_one (ps_set (i := 4) sc_law_draws.nd rfl (Or.inl rfl) (pe_op op_fdivW (pv 4) (pe_ix ix_list (pv 2) (pv 5) (fun _ _ => rfl)))))) 
            (pss_one (ps_expr (pe_bm PySem.F.plainAttrs_list PySem.F.slot_list_append PySem.F.type_list_append mt_append (pv 3) (pa_cons (pe_op op_mod (pe_callD (d_law_mixed T) (hr.mono (by decide)) (by rfl) (pa_cons (pv 0) (pa_cons (pv 5) (pa_cons (pv 1) pa_nil)))) (pe_ix ix_list (pv 2) (pv 5) (fun _ _ => rfl))) pa_nil))))))) 
        (pss_one (ps_ret (pv 3))))))), ?_⟩
    refine ⟨by decide, fun p hp => ?_⟩
    have s0 := Same.new (o := .lst []) hp
    have e0 : upd H p (.lst []) p = some (.lst []) := upd_same
    revert s0 e0
    generalize upd H p _ = H0
    intro s0 e0
    have hL0 := s0.leq hL
    have loop : ∀ (left : Int), 0 ≤ left → True := fun _ _ => trivial
    walk_at "ps"
    refine iteD (fun h => ?_) (fun h => ?_)
    rotate_left
    obtain ⟨left, hleft, el⟩ : ∃ left : Int, 0 ≤ left ∧ left = 0 := ⟨0, by decide, rfl⟩
    rotate_left
    walk_at "ps"
    obtain ⟨left, hleft, el⟩ : ∃ left : Int, 0 ≤ left ∧ left = (if c < 0 then -c else c) := ⟨_, by split <;> omega, rfl⟩
    all_goals
      walk_at "ps"
      refine ⟨a, _, rfl, .inl hL0, ?_⟩
      rw [List.length_map]
      refine ⟨_, rfl, by omega, by omega, for_range (lo := 0) (n := ws.length) (fun i σ H' => Same H H' ∧ ∃ (ds : List Nat) (left : Int), 0 ≤ left ∧ H' p = some (.lst (ds.map nV)) ∧ All2 (fun d x => d < x) ds (ws.take i) ∧ ∃ v, σ = [some (.int c), some (.int salt), some (.ref a), some (.ref p), some (.int left), v]) ⟨s0, [], left, hleft, e0, trivial, none, by rw [el]; rfl⟩ ?_ ?_⟩
      · rintro i σ H' hi ⟨s1, ds, left, hl0, e1, hA, v, rfl⟩
        have hw1 := hws ws[i] (List.getElem_mem hi)
        have hLi := s1.leq hL
        have hat : atI (ws.map nV) ((i : Nat) : Int) = some (nV ws[i]) := atC hi
        have htk : ws.take (i + 1) = ws.take i ++ [ws[i]] := by rw [List.take_succ, List.getElem?_eq_getElem hi]; rfl
        have hdl := hA.length
        rw [htk]
        generalize ws[i] = x at *
        have hlt : (ds.map nV).length < sizeLine := by rw [List.length_map, hdl, List.length_take]; exact lt_line (by omega)
        have su : ∀ (H2 : Hp) (o : HO), Same H' H2 → Same H (upd H2 p o) := fun H2 o t b u eb => by
          rw [upd_ne (ne_of_none eb hp)]
          exact t _ _ (s1 _ _ eb)
        have cdv : CDivW left (x : Int) := ⟨by omega, Nat.lt_of_lt_of_le ((Nat.log2_lt (by omega)).mpr (show ((x : Nat) : Int).natAbs < 2 ^ 60 by omega)) (by decide)⟩
        have md : ∀ y : Int, ∃ d : Nat, d < x ∧ y % (x : Int) = (d : Int) := fun y => ⟨(y % (x : Int)).toNat, by have := Int.emod_lt_of_pos y (show (0 : Int) < x by omega); have := Int.emod_nonneg y (show (x : Int) ≠ 0 by omega); omega, by have := Int.emod_nonneg y (show (x : Int) ≠ 0 by omega); omega⟩
        walk_at "ps"
        refine iteD (fun h => ?_) (fun h => ?_)
        · walk_at "p"
          refine ⟨.inl ⟨rfl, _, SqL.of e1⟩, ?_⟩
          obtain ⟨d, hd, ed⟩ := md left
          walk_at "p"
          walk_at "p"
          walk_at "p"
          rw [Int.zero_add]
          refine ⟨_, _, _, _, rfl, rfl, hLi, hat, ?_⟩
          refine ⟨_, _, rfl, rfl, (by show (0 : Int) < (x : Int); omega), ?_⟩
          refine ⟨_, _, _, rfl, rfl, e1, hlt, ?_⟩
          dsimp only
          rw [ed]
          walk_at "p"
          walk_at "p"
          walk_at "p"
          refine ⟨_, _, _, _, rfl, rfl, (su H' _ (Same.refl _)).leq hL, hat, ?_⟩
          refine ⟨_, _, rfl, rfl, cdv, ?_⟩
          refine ⟨su _ _ (Same.refl _), ds ++ [d], left / (x : Int), Int.ediv_nonneg hl0 (by omega), upd_is (by rw [List.map_append]; rfl), hA.snoc hd, _, rfl⟩
        · walk_at "p"
          refine ⟨.inl ⟨rfl, _, SqL.of e1⟩, ?_⟩
          walk_at "p"
          walk_at "p"
          walk_at "p"
          rw [Int.zero_add]
          refine ⟨c, i, salt, rfl, fun H2 y s2 => ?_⟩
          obtain ⟨d, hd, ed⟩ := md y
          walk_at "p"
          walk_at "p"
          refine ⟨_, _, _, _, rfl, rfl, s2.leq hLi, hat, ?_⟩
          refine ⟨_, _, rfl, rfl, (by show (0 : Int) < (x : Int); omega), ?_⟩
          dsimp only
          rw [ed]
          refine ⟨_, _, _, rfl, rfl, s2 _ _ e1, hlt, ?_⟩
          refine ⟨su _ _ s2, ds ++ [d], left, hl0, upd_is (by rw [List.map_append]; rfl), hA.snoc hd, _, rfl⟩
      · rintro σ H' ⟨s1, ds, left, hl0, e1, hA, v, rfl⟩
        rw [List.take_length] at hA
        walk_at "p"
        exact k _ p ds s1 hp e1 hA
end
end TL
set_option Elab.async false
set_option linter.all false
set_option maxRecDepth 100000
set_option pp.maxSteps 600
set_option maxHeartbeats 4000000
namespace TL
open PySem PySem.Spec PyProof.Rows L2
/-- one question answered, where its answer is plain -/
local macro_rules | `(tactic| walk_at "p") => `(tactic| first
  | refine ⟨_, rfl, ?_⟩
  | refine ⟨_, _, rfl, rfl, ⟨by decide, by decide⟩, ?_⟩
  | refine ⟨_, _, rfl, rfl, (by show (0 : Int) < _; decide), ?_⟩
  | refine ⟨_, _, rfl, rfl, ?_⟩
  | refine ⟨rfl, ?_⟩
  | refine ⟨_, _, _, _, rfl, rfl, (by assumption), rfl, ?_⟩
  | refine .inr ⟨_, rfl, ?_⟩
  | refine .inl ⟨_, rfl, ?_⟩
  | refine iteT ?_
  | refine iteF ?_)
local macro_rules | `(tactic| walk_at "ps") => `(tactic| repeat walk_at "p")

def spEnds (K : PySem.W.Frag) : Sp := fun vs H Q _ => ∃ (a : Addr) (f : Form), vs = [.ref a] ∧ SqT K H a f.vs ∧ 0 < f.n ∧ f.n ≤ 100 ∧ ∀ H' p (lo hi : Int), Same H H' → H' p = some (.tup [.int lo, .int hi]) → lo ≤ hi → Q (.ref p) H'
def spLFigures (K : PySem.W.Frag) : Sp := fun vs H Q _ => ∃ (a : Addr) (f : Form) (N : Int), vs = [.ref a, .int N] ∧ SqT K H a f.vs ∧ 0 < f.n ∧ f.n ≤ 100 ∧ ∀ H' p (x : Nat), Same H H' → H p = none → H' p = some (.lst ((digs f.n x).map nV)) → Q (.ref p) H'
def spByHalves (K : PySem.W.Frag) : Sp := fun vs H Q _ => ∃ (a : Addr) (hs : List Nat), vs = [.ref a] ∧ SqL K H a (hs.map nV) ∧ hs.length % 2 = 0 ∧ hs.length ≤ 900 ∧ ∀ H' p, Same H H' → H p = none → H' p = some (.tup ((bytes2 hs).map nV)) → Q (.ref p) H'
def spRowWith (K : PySem.W.Frag) : Sp := fun vs H Q _ => ∃ (a : Addr) (f : Form) (N : Int) (sh : Nat), vs = [.ref a, .int N, nV sh] ∧ SqT K H a f.vs ∧ 0 < f.n ∧ f.n ≤ 100 ∧ 9 < sh ∧ sh ≤ 15 ∧ ∀ H' p ds, Same H H' → H p = none → Good f ds sh → H' p = some (.tup ((rowOf f ds sh).map nV)) → Q (.ref p) H'
def spDressed (K : PySem.W.Frag) : Sp := fun vs H Q _ => ∃ (a : Addr) (f : Form) (N : Int) (d : Nat), vs = [.ref a, .int N, nV d] ∧ SqT K H a f.vs ∧ 0 < f.n ∧ f.n ≤ 100 ∧ ∀ H' p ds sh, Same H H' → H p = none → Good f ds sh → H' p = some (.tup ((rowOf f ds sh).map nV)) → Q (.ref p) H'
section
variable {P : Program} {w : World} {K : PySem.W.Frag} {mg : Str → Option Value} {base : Heap}
theorem sc_law_power : FnScope ["_law_base", "_law_many", "_law_found", "_law_k"] ["_law_base", "_law_many"] (defScope (top 152)) := ⟨rfl, rfl, rfl, by decide +kernel, rfl, by decide +kernel, by decide +kernel⟩
theorem d_law_power (T : TX w K mg) : DefOk P w K mg base 1 143 "_law_power" ["_law_base", "_law_many"] (spPower) := by
  refine mkDef T 134 rfl rfl sc_law_power (fun _ _ _ _ _ _ us hl => match us, hl with | [_, _], _ => rfl) (fun vs H Q E h => ?_) (fun f cdv A outer s H vs Q E hr h => ?_)
  · obtain ⟨b, n, rfl, h1, h2, hn, k⟩ := h
    rfl
  · obtain ⟨b, n, rfl, h1, h2, hn, k⟩ := h
    refine ⟨_, 
        (pss_cons (ps_set (i := 2) sc_law_power.nd rfl (Or.inl rfl) pe_int) 
        (pss_cons (ps_for PassesOwn.never rfl (pi_range1 rfl T.range_ (pa_cons (pv 1) pa_nil)) (pg_name (i := 3) sc_law_power.nd rfl (Or.inl rfl)) 
          (pss_one (ps_set (i := 2) sc_law_power.nd rfl (Or.inl rfl) (pe_op op_mul (pv 2) (pv 0))))) 
        (pss_one (ps_ret (pv 2))))), ?_⟩
    walk_at "p"
    refine ⟨_, rfl, by omega, by omega, for_range (lo := 0) (n := n) (fun i σ H' => H' = H ∧ ∃ v, σ = [some (.int b), some (.int (n : Int)), some (.int (b ^ i)), v]) ⟨rfl, none, by rw [Int.pow_zero]; rfl⟩ ?_ ?_⟩
    · rintro i σ H' hi ⟨rfl, v, rfl⟩
      walk_at "p"
      walk_at "p"
      refine ⟨_, _, rfl, rfl, .inr ⟨h1, h2⟩, ?_⟩
      exact ⟨rfl, some (.int (0 + (i : Int))), by rw [Int.pow_succ]; rfl⟩
    · rintro σ H' ⟨rfl, v, rfl⟩
      walk_at "p"
      exact k _ (Same.refl _)
theorem sc_law_room : FnScope ["_law_form_here"] ["_law_form_here"] (defScope (top 154)) := ⟨rfl, rfl, rfl, by decide +kernel, rfl, by decide +kernel, by decide +kernel⟩
theorem d_law_room (T : TX w K mg) : DefOk P w K mg base 1 145 "_law_room" ["_law_form_here"] (spFormInt K fun f => (f.width : Int)) := by
  refine mkDef T 136 rfl rfl sc_law_room (fun _ _ _ _ _ _ us hl => match us, hl with | [_], _ => rfl) (fun vs H Q E h => ?_) (fun f cdv A outer s H vs Q E hr h => ?_)
  · obtain ⟨a, f, rfl, hF, _, _, k⟩ := h
    rfl
  · obtain ⟨a, f, rfl, hF, _, _, k⟩ := h
    refine ⟨_, 
        (pss_cons (ps_if (pt_cmpR op_eq (pe_ix ix_tup (pv 0) pe_int (fun _ _ => rfl)) pe_str (nomark _)) 
          (pss_one (ps_ret (pe_ix ix_tup (pv 0) pe_int (fun _ _ => rfl)))) pss_nil) 
        (pss_one (ps_ret (pe_op op_fdiv (pe_op op_add (pe_op op_add (pe_ix ix_tup (pv 0) pe_int (fun _ _ => rfl)) (pe_callTy call_int1 (by rfl) T.int_ (by decide +kernel) (pa_cons (pe_cmpR op_eq (pe_ix ix_tup (pv 0) pe_int (fun _ _ => rfl)) pe_str (nomark _)) pa_nil))) pe_int) pe_int)))), ?_⟩
    walk_at "ps"
    rw [isSpread]
    refine iteB (fun h => ?_) (fun h => ?_)
    · have hp : f.packed = false := by simpa using h
      walk_at "ps"
      refine qi ?_ (k _ (Same.refl _))
      show (f.n : Int) = (f.width : Int)
      rw [width_spread hp]
    · have hp : f.packed = true := by simpa using h
      walk_at "ps"
      refine qi ?_ (k _ (Same.refl _))
      show ((f.n : Int) + (if decide (V.str (sgS f.sg) = V.str "end") = true then (1 : Int) else 0) + 1) / 2 = (f.width : Int)
      rw [e_int, width_packed hp]
      unfold Form.halves
      omega
theorem sc_law_ends : FnScope ["_law_form_here", "_law_ten"] ["_law_form_here"] (defScope (top 155)) := ⟨rfl, rfl, rfl, by decide +kernel, rfl, by decide +kernel, by decide +kernel⟩
theorem d_law_ends (T : TX w K mg) : DefOk P w K mg base 2 146 "_law_ends" ["_law_form_here"] (spEnds K) := by
  refine mkDef T 137 rfl rfl sc_law_ends (fun _ _ _ _ _ _ us hl => match us, hl with | [_], _ => rfl) (fun vs H Q E h => ?_) (fun f cdv A outer s H vs Q E hr h => ?_)
  · obtain ⟨a, f, rfl, hF, hn, hn2, k⟩ := h
    rfl
  · obtain ⟨a, f, rfl, hF, hn, hn2, k⟩ := h
    refine ⟨_, 
        (pss_cons (ps_set (i := 1) sc_law_ends.nd rfl (Or.inl rfl) (pe_callD (d_law_power T) (hr.mono (by decide)) (by rfl) (pa_cons pe_int (pa_cons (pe_ix ix_tup (pv 0) pe_int (fun _ _ => rfl)) pa_nil)))) 
        (pss_cons (ps_if (pt_cmpR op_eq (pe_ix ix_tup (pv 0) pe_int (fun _ _ => rfl)) pe_str (nomark _)) 
          (pss_one (ps_ret (pe_tup (pa_cons pe_int (pa_cons (pe_op op_sub (pv 1) pe_int) pa_nil))))) pss_nil) 
        (pss_cons (ps_if (pt_cmpR op_eq (pe_ix ix_tup (pv 0) pe_int (fun _ _ => rfl)) pe_str (nomark _)) 
          (pss_one (ps_ret (pe_tup (pa_cons (pe_op op_sub pe_int (pv 1)) (pa_cons (pe_op op_sub (pv 1) pe_int) pa_nil))))) pss_nil) 
        (pss_one (ps_ret (pe_tup (pa_cons (pe_op op_sub pe_int (pe_op op_fdiv (pv 1) pe_int)) (pa_cons (pe_op op_sub (pe_op op_fdiv (pv 1) pe_int) pe_int) pa_nil)))))))), ?_⟩
    walk_at "ps"
    refine ⟨10, f.n, rfl, by decide, by decide, by omega, fun H1 s1 => ?_⟩
    have hF1 := s1.teq hF
    have hp := pow_pos10 f.n
    have hp2 : (2 : Int) ≤ 10 ^ f.n := by
      have : (10 : Int) ^ f.n = 10 * 10 ^ (f.n - 1) := by
        conv => lhs; rw [show f.n = (f.n - 1) + 1 by omega, Int.pow_succ]
        omega
      have := pow_pos10 (f.n - 1)
      omega
    generalize (10 : Int) ^ f.n = ten at *
    walk_at "ps"
    rw [isNone]
    refine iteD (fun h => ?_) (fun h => ?_)
    · walk_at "ps"
      refine ⟨(by show 2 ≤ sizeLine; decide), fun q hq => ?_⟩
      exact k _ q 0 (ten - 1) (s1.trans (Same.new hq)) upd_same (by omega)
    · walk_at "ps"
      rw [isEnd]
      refine iteD (fun h => ?_) (fun h => ?_)
      · walk_at "ps"
        refine ⟨(by show 2 ≤ sizeLine; decide), fun q hq => ?_⟩
        exact k _ q (1 - ten) (ten - 1) (s1.trans (Same.new hq)) upd_same (by omega)
      · walk_at "ps"
        refine ⟨(by show 2 ≤ sizeLine; decide), fun q hq => ?_⟩
        exact k _ q (0 - ten / 2) (ten / 2 - 1) (s1.trans (Same.new hq)) upd_same (by omega)
theorem sc_law_figures : FnScope ["_law_form_here", "_law_number_here", "_law_size", "_law_found", "_law_k"] ["_law_form_here", "_law_number_here"] (defScope (top 156)) := ⟨rfl, rfl, rfl, by decide +kernel, rfl, by decide +kernel, by decide +kernel⟩
theorem d_law_figures (T : TX w K mg) : DefOk P w K mg base 2 147 "_law_figures" ["_law_form_here", "_law_number_here"] (spLFigures K) := by
  refine mkDef T 138 rfl rfl sc_law_figures (fun _ _ _ _ _ _ us hl => match us, hl with | [_, _], _ => rfl) (fun vs H Q E h => ?_) (fun f cdv A outer s H vs Q E hr h => ?_)
  · obtain ⟨a, f, N, rfl, hF, hn, hn2, k⟩ := h
    rfl
  · obtain ⟨a, f, N, rfl, hF, hn, hn2, k⟩ := h
    refine ⟨_, 
        (pss_cons (ps_set (i := 2) sc_law_figures.nd rfl (Or.inl rfl) (pe_callB call_abs (by rfl) T.abs_ (by decide +kernel) (pa_cons (pv 1) pa_nil))) 
        (pss_cons (ps_if (pt_cmpR op_eq (pe_ix ix_tup (pv 0) pe_int (fun _ _ => rfl)) pe_str (nomark _)) 
          (pss_one (ps_set (i := 2) sc_law_figures.nd rfl (Or.inl rfl) (pe_op op_mod (pv 1) (pe_callD (d_law_power T) (hr.mono (by decide)) (by rfl) (pa_cons pe_int (pa_cons (pe_ix ix_tup (pv 0) pe_int (fun _ _ => rfl)) pa_nil)))))) pss_nil) 
        (pss_cons (ps_set (i := 3) sc_law_figures.nd rfl (Or.inl rfl) (pe_lst pa_nil)) 
        (pss_cons (ps_for PassesOwn.never rfl (pi_range1 rfl T.range_ (pa_cons (pe_ix ix_tup (pv 0) pe_int (fun _ _ => rfl)) pa_nil)) (pg_name (i := 4) sc_law_figures.nd rfl (Or.inl rfl)) 
          (pss_cons (ps_expr (pe_bm PySem.F.plainAttrs_list PySem.F.slot_list_append PySem.F.type_list_append mt_append (pv 3) (pa_cons (pe_op op_mod (pv 2) pe_int) pa_nil))) 
          (pss_one (ps_set (i := 2) sc_law_figures.nd rfl (Or.inl rfl) (pe_op op_fdiv (pv 2) pe_int))))) 
        (pss_one (ps_ret (pe_revL (pv 3)))))))), ?_⟩
    walk_at "ps"
    rw [isTens]
    refine iteD (fun h => ?_) (fun h => ?_)
    rotate_left
    have s1 := Same.refl H
    have hF1 := hF
    obtain ⟨x, ex⟩ : ∃ x : Nat, (if N < 0 then -N else N) = (x : Int) := ⟨N.natAbs, by split <;> omega⟩
    rotate_left
    walk_at "ps"
    refine ⟨10, f.n, rfl, by decide, by decide, by omega, fun H1 s1 => ?_⟩
    have hF1 := s1.teq hF
    walk_at "ps"
    refine ⟨pow_pos10 f.n, ?_⟩
    obtain ⟨x, ex⟩ : ∃ x : Nat, N % 10 ^ f.n = (x : Int) := ⟨(N % 10 ^ f.n).toNat, by have := Int.emod_nonneg N (Int.ne_of_gt (pow_pos10 f.n)); omega⟩
    all_goals
      refine ⟨by decide, fun p hp => ?_⟩
      have sp := s1.trans (Same.new (o := .lst []) hp)
      have hpH : H p = none := s1.free hp
      have hF2 := sp.teq hF
      walk_at "p"
      walk_at "p"
      refine ⟨_, rfl, by omega, by omega, for_range (lo := 0) (n := f.n) (fun i σ H' => Same H H' ∧ H' p = some (.lst ((digs i x).reverse.map nV)) ∧ ∃ v, σ = [some (.ref a), some (.int N), some (.int ((x / 10 ^ i : Nat) : Int)), some (.ref p), v]) ⟨sp, upd_same, none, ?_⟩ ?_ ?_⟩
      · rw [Nat.pow_zero, Nat.div_one, ← ex]
        rfl
      · rintro i σ H' hi ⟨s2, e1, v, rfl⟩
        walk_at "p"
        refine ⟨.inl ⟨rfl, _, SqL.of e1⟩, ?_⟩
        walk_at "ps"
        refine ⟨p, _, _, rfl, rfl, e1, ?_, ?_⟩
        · rw [List.length_map, List.length_reverse, digs_length]
          exact small1000 (by omega)
        walk_at "ps"
        refine ⟨fun b o eb => ?_, ?_, some (.int (0 + (i : Int))), ?_⟩
        · rw [upd_ne (ne_of_none eb hpH)]
          exact s2 b o eb
        · have e : (digs (i + 1) x).reverse = (digs i x).reverse ++ [x / 10 ^ i % 10] := by
            rw [digs_front, List.reverse_cons]
          rw [upd_same, e, List.map_append]
          rfl
        · have e : x / 10 ^ (i + 1) = x / 10 ^ i / 10 := by rw [Nat.pow_succ, Nat.div_div_eq_div_mul]
          rw [e]
          rfl
      · rintro σ H' ⟨s2, e1, v, rfl⟩
        walk_at "p"
        refine ⟨_, _, rfl, SqL.of e1, fun q hq => k _ q x (s2.trans (Same.new hq)) (s2.free hq) (upd_is ?_)⟩
        rw [← List.map_reverse, List.reverse_reverse]
theorem sc_law_by_halves : FnScope ["_law_halves", "_law_k"] ["_law_halves"] (defScope (top 157)) := ⟨rfl, rfl, rfl, by decide +kernel, rfl, by decide +kernel, by decide +kernel⟩
theorem d_law_by_halves (T : TX w K mg) : DefOk P w K mg base 1 148 "_law_by_halves" ["_law_halves"] (spByHalves K) := by
  refine mkDef T 139 rfl rfl sc_law_by_halves (fun _ _ _ _ _ _ us hl => match us, hl with | [_], _ => rfl) (fun vs H Q E h => ?_) (fun f cdv A outer s H vs Q E hr h => ?_)
  · obtain ⟨a, hs, rfl, hL, he, hl, k⟩ := h
    rfl
  · obtain ⟨a, hs, rfl, hL, he, hl, k⟩ := h
    refine ⟨_, 
        (pss_one (ps_ret (pe_callTy call_tuple_of (by rfl) T.tuple_ (by decide +kernel) (pa_cons (pe_lc (own := [("_law_k", 1)]) (g := gName 1) (by rfl) sc_law_by_halves.nd (pi_range3 rfl T.range_ (pa_cons pe_int (pa_cons (pe_callB call_len_seq (by rfl) T.len_ (by decide +kernel) (pa_cons (pv 0) pa_nil)) (pa_cons pe_int pa_nil)))) (blkOk_by (own := [("_law_k", 1)]) (N := ["_law_halves", "_law_k"]) (sc := defScope (top 157)) (by decide +kernel)) (fun _ _ _ _ _ => pg_name (i := 1) sc_law_by_halves.nd rfl (Or.inl rfl)) (fun _ _ _ _ _ => pts_nil) (fun _ _ _ _ _ => (pe_op op_add (pe_op op_mul pe_int (pe_ix (show IxR _ (rIxL K) from ix_list) (pv 0) (pv 1) (fun _ _ => rfl))) (pe_ix (show IxR _ (rIxL K) from ix_list) (pv 0) (pe_op op_add (pv 1) pe_int) (fun _ _ => rfl))))) pa_nil)))), ?_⟩
    walk_at "p"
    refine ⟨a, _, rfl, .inl hL, ?_⟩
    rw [List.length_map]
    refine ⟨_, _, _, hs.length / 2, rfl, rg_two (by omega) (by omega), fun D hD => ?_⟩
    have sd : Same H (upd H D (.lst [])) := Same.new hD
    refine lc_it walk_rangeC (n := hs.length / 2) (fun i H' => Same H H' ∧ H' D = some (.lst (((List.range i).map fun j => 16 * hs.getD (2 * j) 0 + hs.getD (2 * j + 1) 0).map nV))) ⟨sd, upd_same⟩ (fun _ _ _ _ => trivial) ?_ ?_
    · rintro i x H3 H4 hi ⟨t1, g1⟩ ⟨rfl, rfl⟩
      dsimp only
      rw [show (0 : Int) + (i : Nat) * 2 = ((2 * i : Nat) : Int) by omega]
      refine ⟨rfl, ?_⟩
      refine ⟨_, rfl, ?_⟩
      refine ⟨_, rfl, ?_⟩
      refine ⟨_, _, _, _, rfl, rfl, t1.leq hL, atD (by omega), ?_⟩
      refine ⟨_, _, rfl, rfl, .inl ⟨by decide, by decide⟩, ?_⟩
      refine ⟨_, rfl, ?_⟩
      refine ⟨_, rfl, ?_⟩
      refine ⟨_, _, rfl, rfl, ?_⟩
      refine ⟨_, _, _, _, rfl, rfl, t1.leq hL, atD (j := 2 * i + 1) (by omega), ?_⟩
      refine ⟨_, _, rfl, rfl, ?_⟩
      refine ⟨_, g1, ?_, fun b o eb => ?_, ?_⟩
      · rw [List.length_map, List.length_map, List.length_range]
        exact lt_line (by omega)
      · rw [upd_ne (ne_of_none eb hD)]
        exact t1 _ _ eb
      · refine upd_is ?_
        rw [List.range_succ, List.map_append, List.map_append]
        congr 2
    · rintro H3 ⟨t1, g1⟩
      rw [bytes2_range] at g1
      refine ⟨_, _, rfl, .inl ⟨SqL.of g1, fun q hq => ?_⟩⟩
      exact k _ q (t1.trans (Same.new hq)) (t1.free hq) upd_same
theorem sc_law_row_with : FnScope ["_law_form_here", "_law_number_here", "_law_half", "_law_halves", "_law_zones", "_law_zone", "_law_figure"] ["_law_form_here", "_law_number_here", "_law_half"] (defScope (top 158)) := ⟨rfl, rfl, rfl, by decide +kernel, rfl, by decide +kernel, by decide +kernel⟩
theorem d_law_row_with (T : TX w K mg) : DefOk P w K mg base 3 149 "_law_row_with" ["_law_form_here", "_law_number_here", "_law_half"] (spRowWith K) := by
  refine mkDef T 140 rfl rfl sc_law_row_with (fun _ _ _ _ _ _ us hl => match us, hl with | [_, _, _], _ => rfl) (fun vs H Q E h => ?_) (fun f cdv A outer s H vs Q E hr h => ?_)
  · obtain ⟨a, f, N, sh, rfl, hF, hn, hn2, h9, h15, k⟩ := h
    rfl
  · obtain ⟨a, f, N, sh, rfl, hF, hn, hn2, h9, h15, k⟩ := h
    refine ⟨_, 
        (pss_cons (ps_set (i := 3) sc_law_row_with.nd rfl (Or.inl rfl) (pe_callD (d_law_figures T) (hr.mono (by decide)) (by rfl) (pa_cons (pv 0) (pa_cons (pv 1) pa_nil)))) 
        (pss_cons (ps_if (pt_cmpR op_eq (pe_ix ix_tup (pv 0) pe_int (fun _ _ => rfl)) pe_str (nomark _)) 
          (pss_cons (ps_if (pt_cmpR op_eq (pe_ix ix_tup (pv 0) pe_int (fun _ _ => rfl)) pe_str (nomark _)) 
            (pss_one (ps_set (i := 3) sc_law_row_with.nd rfl (Or.inl rfl) (pe_op op_cat (pv 3) (pe_lst (pa_cons (pv 2) pa_nil))))) pss_nil) 
          (pss_one (ps_ret (pe_callD (d_law_by_halves T) (hr.mono (by decide)) (by rfl) (pa_cons (pe_op op_cat (pe_op op_rep (pe_lst (pa_cons pe_int pa_nil)) (pe_op op_mod (pe_callB call_len_seq (by rfl) T.len_ (by decide +kernel) (pa_cons (pv 3) pa_nil)) pe_int)) (pv 3)) pa_nil))))) pss_nil) 
        (pss_cons (ps_set (i := 4) sc_law_row_with.nd rfl (Or.inl rfl) (pe_op op_rep (pe_lst (pa_cons pe_int pa_nil)) (pe_ix ix_tup (pv 0) pe_int (fun _ _ => rfl)))) 
        (pss_cons (ps_if (pt_cmpR op_eq (pe_ix ix_tup (pv 0) pe_int (fun _ _ => rfl)) pe_str (nomark _)) 
          (pss_one (ps_asg (pv 2) (pg_sub (pv 4) (pe_un un_neg pe_int) set_list))) pss_nil) 
        (pss_one (ps_ret (pe_callTy call_tuple_of (by rfl) T.tuple_ (by decide +kernel) (pa_cons (pe_lc (own := [("_law_zone", 5), ("_law_figure", 6)]) (g := (gTup K 2 (gCons (gName 5) (gCons (gName 6) gNil)))) (by rfl) sc_law_row_with.nd (pi_zip (by rfl) T.zip_ (pa_cons (pv 4) (pa_cons (pv 3) pa_nil))) (blkOk_by (own := [("_law_zone", 5), ("_law_figure", 6)]) (N := ["_law_form_here", "_law_number_here", "_law_half", "_law_halves", "_law_zones", "_law_zone", "_law_figure"]) (sc := defScope (top 158)) (by decide +kernel)) (fun _ _ _ _ _ => (pg_tup rfl (pgs_cons (pg_name (i := 5) sc_law_row_with.nd rfl (Or.inl rfl)) (pgs_cons (pg_name (i := 6) sc_law_row_with.nd rfl (Or.inl rfl)) pgs_nil)))) (fun _ _ _ _ _ => pts_nil) (fun _ _ _ _ _ => (pe_op op_add (pe_op op_mul pe_int (pv 5)) (pv 6)))) pa_nil)))))))), ?_⟩
    walk_at "ps"
    refine ⟨a, f, N, rfl, hF, hn, hn2, fun H1 p1 x s1 f1 e1 => ?_⟩
    have hF1 := s1.teq hF
    have ld := digs_length f.n x
    have G : Good f (digs f.n x) sh := ⟨ld, digs_dg _ _, h9, h15⟩
    generalize digs f.n x = ds at *
    have rb := rowOf_bytes (f := f) (ds := ds) (sh := sh) ld
    walk_at "ps"
    rw [isPacked]
    refine iteB (fun hp => ?_) (fun hp => ?_)
    · rw [hsL_packed hp] at rb
      have lpk := packH_length (f := f) (ds := ds) (sh := sh) ld
      have hev := halves_even f
      have hle := halves_le f
      unfold packH at rb lpk
      walk_at "ps"
      rw [isEnd]
      refine iteD (fun h => ?_) (fun h => ?_)
      rotate_left
      rw [if_neg h, List.append_nil] at rb lpk
      have sA := s1
      have eA := e1
      have lL : ds.length = f.n + f.e := by unfold Form.e; rw [if_neg h]; omega
      have rb' := rb
      generalize hLL : ds = L at eA rb' lL lpk
      obtain ⟨pp, hpp⟩ : ∃ pp, pp = p1 := ⟨_, rfl⟩
      rw [← hpp] at eA ⊢
      rotate_left
      rw [if_pos h] at rb lpk
      walk_at "ps"
      refine ⟨(by show 1 ≤ sizeLine; decide), fun p2 f2 => ?_⟩
      have t2 := Same.new (o := .lst [nV sh]) f2
      refine ⟨_, _, _, _, rfl, rfl, t2 _ _ e1, upd_same, ?_, fun pp f3 => ?_⟩
      · rw [List.length_map]
        exact small_len (by show ds.length + 1 ≤ 100000; omega)
      have sA := (s1.trans t2).trans (Same.new (o := .lst (ds.map nV ++ [nV sh])) f3)
      have eA : upd (upd H1 p2 (.lst [nV sh])) pp (.lst (ds.map nV ++ [nV sh])) pp = some (.lst ((ds ++ [sh]).map nV)) := by rw [List.map_append]; exact upd_same
      have lL : (ds ++ [sh]).length = f.n + f.e := by unfold Form.e; rw [if_pos h, List.length_append]; simp; omega
      have rb' := rb
      rw [List.append_assoc] at rb' lpk
      generalize hLL : ds ++ [sh] = L at eA rb' lL lpk
      all_goals
        have he1 := e_le f
        refine ⟨(by show 1 ≤ sizeLine; decide), fun p4 f4 => ?_⟩
        have t4 := Same.new (o := .lst [nV 0]) f4
        have eB := t4 _ _ eA
        walk_at "p"
        refine ⟨pp, _, rfl, .inl (SqL.of eB), ?_⟩
        rw [List.length_map]
        walk_at "ps"
        have ha : ((L.length : Nat) : Int) % 2 = ((f.ahead : Nat) : Int) := by
          unfold Form.ahead
          omega
        dsimp only
        rw [ha]
        have hal := ahead_le f
        refine ⟨_, _, _, rfl, rfl, upd_same, by omega, by omega, ?_, fun p5 f5 => ?_⟩
        · exact small_len (by simp; omega)
        rw [show (List.replicate ((f.ahead : Nat) : Int).toNat [V.int 0]).flatten = _ from rep1 (g := nV) 0 f.ahead]
        have t5 := t4.trans (Same.new (o := .lst ((List.replicate f.ahead 0).map nV)) f5)
        walk_at "p"
        refine ⟨_, _, _, _, rfl, rfl, upd_same, t5 _ _ eA, ?_, fun p6 f6 => ?_⟩
        · rw [List.length_map, List.length_map, List.length_replicate]
          exact small_len (by omega)
        rw [← List.map_append]
        have sB := (sA.trans t5).trans (Same.new (o := .lst ((List.replicate f.ahead 0 ++ L).map nV)) f6)
        have lX : (List.replicate f.ahead 0 ++ L).length = f.halves := lpk
        refine ⟨p6, _, rfl, SqL.of upd_same, by rw [lX]; omega, by rw [lX]; omega, fun H7 q7 s7 f7 e7 => ?_⟩
        exact k _ q7 ds (sB.trans s7) (sB.free f7) G (by first | (rw [rb']; exact e7) | (rw [hLL, rb']; exact e7))
    · have hp' : f.packed = false := hp
      walk_at "ps"
      refine ⟨(by show 1 ≤ sizeLine; decide), fun p2 f2 => ?_⟩
      have t2 := Same.new (o := .lst [nV 15]) f2
      have hF2 := (s1.trans t2).teq hF
      walk_at "p"
      refine ⟨_, _, _, _, rfl, rfl, hF2, rfl, ?_⟩
      refine ⟨_, _, _, rfl, rfl, upd_same, by omega, by omega, ?_, fun p3 f3 => ?_⟩
      · exact small_len (by simp; omega)
      rw [show (List.replicate ((f.n : Nat) : Int).toNat [V.int 15]).flatten = _ from rep1 (g := nV) 15 f.n]
      have t3 := t2.trans (Same.new (o := .lst ((List.replicate f.n 15).map nV)) f3)
      have e3 : upd (upd H1 p2 (.lst [nV 15])) p3 (.lst ((List.replicate f.n 15).map nV)) p3 = _ := upd_same
      have p3H : H p3 = none := (s1.trans t2).free f3
      have hF3 := (s1.trans t3).teq hF
      have e1' := t3 _ _ e1
      have sA := s1.trans t3
      have n31 : p1 ≠ p3 := fun z => by
        have q := t2 _ _ e1
        rw [z] at q
        have q2 := f3.symm.trans q
        cases q2
      revert e3 hF3 e1' sA
      generalize hH : upd (upd H1 p2 (.lst [nV 15])) p3 (.lst ((List.replicate f.n 15).map nV)) = H3
      intro e3 hF3 e1' sA
      have hH' : upd (upd H1 p2 (.lst [V.int 15])) p3 (.lst ((List.replicate f.n 15).map nV)) = H3 := hH
      rw [hH']
      clear t3 t2 hH hH'
      have zero15 : ∀ j, j < f.n → (List.replicate f.n 15).getD j 0 = 15 := fun j hj => by
        rw [List.getD_eq_getElem?_getD, List.getElem?_replicate, if_pos hj]; rfl
      walk_at "ps"
      rw [isEnd]
      refine iteD (fun h => ?_) (fun h => ?_)
      rotate_left
      obtain ⟨zs, ez, lz, hz⟩ : ∃ zs : List Nat, List.replicate f.n 15 = zs ∧ zs.length = f.n ∧ ∀ j, j < f.n → zs.getD j 0 = if j + 1 < f.n ∨ f.sg ≠ .end_ then 15 else sh := ⟨_, rfl, List.length_replicate, fun j hj => by rw [zero15 j hj, if_pos (.inr h)]⟩
      rw [ez] at e3
      rotate_left
      walk_at "p"
      walk_at "p"
      walk_at "p"
      refine ⟨_, _, _, f.n - 1, rfl, rfl, e3, ?_, ?_⟩
      · rw [List.length_map, List.length_replicate]
        unfold ixN
        rw [if_neg (by decide), if_pos (by omega)]
        congr 1
        omega
      obtain ⟨zs, ez, lz, hz⟩ : ∃ zs : List Nat, (List.replicate f.n 15).set (f.n - 1) sh = zs ∧ zs.length = f.n ∧ ∀ j, j < f.n → zs.getD j 0 = if j + 1 < f.n ∨ f.sg ≠ .end_ then 15 else sh := ⟨_, rfl, by rw [List.length_set, List.length_replicate], fun j hj => by
        rw [List.getD_eq_getElem?_getD, List.getElem?_set]
        by_cases q : f.n - 1 = j
        · rw [if_pos q, if_pos (by rw [List.length_replicate]; omega), if_neg (by rintro (z | z); omega; exact z h)]; rfl
        · rw [if_neg q, List.getElem?_replicate, if_pos hj, if_pos (.inl (by omega))]; rfl⟩
      have e3n : upd H3 p3 (.lst (((List.replicate f.n 15).map nV).set (f.n - 1) (nV sh))) p3 = some (.lst (zs.map nV)) := upd_is (by rw [← ez, List.map_set])
      have sAn : Same H (upd H3 p3 (.lst (((List.replicate f.n 15).map nV).set (f.n - 1) (nV sh)))) := fun b o eb => by
        rw [upd_ne (ne_of_none eb p3H)]
        exact sA _ _ eb
      have e1n : upd H3 p3 (.lst (((List.replicate f.n 15).map nV).set (f.n - 1) (nV sh))) p1 = some (.lst (ds.map nV)) := (upd_ne n31).trans e1'
      clear e3 sA e1' hF3 zero15
      have e3 := e3n
      have sA := sAn
      have e1' := e1n
      all_goals
        walk_at "ps"
        refine ⟨p3, p1, _, _, rfl, SqL.of e3, SqL.of e1', fun D hD => ?_⟩
        have sd := Same.new (o := .lst []) hD
        have hDH : H D = none := sA.free hD
        refine lc_it (walk_zip (K := K) (a := p3) (b := p1) (xs := zs.map nV) (ys := ds.map nV) (n := f.n) (by rw [List.length_map, List.length_map]; omega)) (fun i H' => Same H H' ∧ H' p3 = some (.lst (zs.map nV)) ∧ H' p1 = some (.lst (ds.map nV)) ∧ H' D = some (.lst (((List.range i).map (byteOf f ds sh)).map nV))) ⟨sA.trans sd, sd _ _ e3, sd _ _ e1', upd_same⟩ (fun i H' _ h => ⟨SqL.of h.2.1, SqL.of h.2.2.1⟩) ?_ ?_
        · rintro i x H4 H5 hi ⟨t1, g1, g2, g3⟩ ⟨TT, z, y, rfl, hT, rfl, hz', hy'⟩
          have hzj : i < zs.length := by omega
          have hdj : i < ds.length := by omega
          dsimp only at hz' hy'
          rw [List.getElem?_map, List.getElem?_eq_getElem hzj] at hz'
          rw [List.getElem?_map, List.getElem?_eq_getElem hdj] at hy'
          obtain rfl := Option.some.inj hz'
          obtain rfl := Option.some.inj hy'
          have sT := Same.new (o := .tup [nV zs[i], nV ds[i]]) hT
          refine ⟨_, _, rfl, SqT.of upd_same, rfl, _, _, rfl, _, _, rfl, rfl, ?_⟩
          refine ⟨rfl, ?_⟩
          refine ⟨_, rfl, ?_⟩
          refine ⟨_, _, rfl, rfl, .inl ⟨by decide, by decide⟩, ?_⟩
          refine ⟨_, rfl, ?_⟩
          refine ⟨_, _, rfl, rfl, ?_⟩
          have n3D : p3 ≠ D := fun z => by rw [z, g3] at g1; injection g1 with g1; injection g1 with g1; have := congrArg List.length g1; rw [List.length_map, List.length_map, List.length_map, List.length_range] at this; omega
          have n1D : p1 ≠ D := fun z => by rw [z, g3] at g2; injection g2 with g1; injection g1 with g1; have := congrArg List.length g1; rw [List.length_map, List.length_map, List.length_map, List.length_range] at this; omega
          refine ⟨_, sT _ _ g3, ?_, fun b o eb => ?_, (upd_ne n3D).trans (sT _ _ g1), (upd_ne n1D).trans (sT _ _ g2), ?_⟩
          · rw [List.length_map, List.length_map, List.length_range]
            exact lt_line (by omega)
          · rw [upd_ne (ne_of_none eb hDH)]
            exact sT _ _ (t1 _ _ eb)
          · refine upd_is ?_
            rw [List.range_succ, List.map_append, List.map_append]
            congr 2
            show [V.int (16 * ((zs[i] : Nat) : Int) + ((ds[i] : Nat) : Int))] = [V.int ((byteOf f ds sh i : Nat) : Int)]
            have h1 := hz i hi
            rw [← getC hzj] at h1
            unfold byteOf
            rw [hp', ← h1, ← getC hdj]
            simp
        · rintro H4 ⟨t1, g1, g2, g3⟩
          refine ⟨_, _, rfl, .inl ⟨SqL.of g3, fun q hq => ?_⟩⟩
          refine k _ q ds (t1.trans (Same.new hq)) (t1.free hq) G (upd_is ?_)
          unfold rowOf
          rw [width_spread hp']
end
end TL
set_option Elab.async false
set_option linter.all false
set_option maxRecDepth 100000
set_option pp.maxSteps 600
set_option maxHeartbeats 4000000
namespace TL
open PySem PySem.Spec PyProof.Rows L2
/-- one question answered, where its answer is plain -/
local macro_rules | `(tactic| walk_at "p") => `(tactic| first
  | refine ⟨_, rfl, ?_⟩
  | refine ⟨_, _, rfl, rfl, ⟨by decide, by decide⟩, ?_⟩
  | refine ⟨_, _, rfl, rfl, (by show (0 : Int) < _; decide), ?_⟩
  | refine ⟨_, _, rfl, rfl, ?_⟩
  | refine ⟨rfl, ?_⟩
  | refine ⟨_, _, _, _, rfl, rfl, (by assumption), rfl, ?_⟩
  | refine .inr ⟨_, rfl, ?_⟩
  | refine .inl ⟨_, rfl, ?_⟩
  | refine iteT ?_
  | refine iteF ?_)
local macro_rules | `(tactic| walk_at "ps") => `(tactic| repeat walk_at "p")

def spPointed (K : PySem.W.Frag) : Sp := fun vs H Q _ => ∃ (a : Addr) (ds : List Nat), vs = [.ref a] ∧ SqL K H a (ds.map nV) ∧ 4 ≤ ds.length ∧ ds.getD 0 0 < 2 ∧ ds.getD 1 0 ≤ 20 ∧ ds.getD 2 0 < 3 ∧ ∀ H' p (f : Form), Same H H' → H p = none → f.n = ds.getD 1 0 + 1 → f.pt ≤ f.n → H' p = some (.tup f.vs) → Q (.ref p) H'
section
variable {P : Program} {w : World} {K : PySem.W.Frag} {mg : Str → Option Value} {base : Heap}
theorem sc_law_dressed : FnScope ["_law_form_here", "_law_number_here", "_law_digit", "_law_some"] ["_law_form_here", "_law_number_here", "_law_digit"] (defScope (top 159)) := ⟨rfl, rfl, rfl, by decide +kernel, rfl, by decide +kernel, by decide +kernel⟩
theorem d_law_dressed (T : TX w K mg) : DefOk P w K mg base 4 150 "_law_dressed" ["_law_form_here", "_law_number_here", "_law_digit"] (spDressed K) := by
  refine mkDef T 141 rfl rfl sc_law_dressed (fun _ _ _ _ _ _ us hl => match us, hl with | [_, _, _], _ => rfl) (fun vs H Q E h => ?_) (fun f cdv A outer s H vs Q E hr h => ?_)
  · obtain ⟨a, f, N, d, rfl, hF, hn, hn2, k⟩ := h
    rfl
  · obtain ⟨a, f, N, d, rfl, hF, hn, hn2, k⟩ := h
    refine ⟨_, 
        (pss_cons (ps_set (i := 3) sc_law_dressed.nd rfl (Or.inl rfl) (pe_lst (pa_cons pe_int (pa_cons pe_int (pa_cons pe_int (pa_cons pe_int (pa_cons pe_int (pa_cons pe_int pa_nil)))))))) 
        (pss_cons (ps_if (pt_cmpR op_gt (pv 1) pe_int (nomark _)) 
          (pss_one (ps_set (i := 3) sc_law_dressed.nd rfl (Or.inl rfl) (pe_lst (pa_cons pe_int (pa_cons pe_int (pa_cons pe_int (pa_cons pe_int pa_nil))))))) pss_nil) 
        (pss_cons (ps_if (pt_cmpR op_lt (pv 1) pe_int (nomark _)) 
          (pss_one (ps_set (i := 3) sc_law_dressed.nd rfl (Or.inl rfl) (pe_lst (pa_cons pe_int (pa_cons pe_int pa_nil))))) pss_nil) 
        (pss_one (ps_ret (pe_callD (d_law_row_with T) (hr.mono (by decide)) (by rfl) (pa_cons (pv 0) (pa_cons (pv 1) (pa_cons (pe_ix ix_list (pv 3) (pe_op op_mod (pv 2) (pe_callB call_len_seq (by rfl) T.len_ (by decide +kernel) (pa_cons (pv 3) pa_nil))) (fun _ _ => rfl)) pa_nil))))))))), ?_⟩
    have rest : ∀ (zs : List Nat) (H2 : Hp), zs.length ≠ 0 → True := fun _ _ _ => trivial
    refine ⟨(by show 6 ≤ sizeLine; decide), fun p1 f1 => ?_⟩
    have s1 := Same.new (o := .lst ([12, 13, 10, 11, 14, 15].map nV)) f1
    have e1 : upd H p1 (.lst ([12, 13, 10, 11, 14, 15].map nV)) p1 = _ := upd_same
    have hF1 := s1.teq hF
    have pick : ∀ zs : List Nat, 0 < zs.length → atI (zs.map nV) ((d : Int) % (zs.length : Int)) = some (nV (zs.getD (d % zs.length) 0)) := fun zs hz => by
      rw [← Int.natCast_emod]
      exact atD (Nat.mod_lt _ hz)
    walk_at "ps"
    refine iteD (fun h => ?_) (fun h => ?_)
    · walk_at "ps"
      refine ⟨(by show 4 ≤ sizeLine; decide), fun p2 f2 => ?_⟩
      have s2 := s1.trans (Same.new (o := .lst ([12, 10, 14, 15].map nV)) f2)
      have e2 : upd (upd H p1 (.lst ([12, 13, 10, 11, 14, 15].map nV))) p2 (.lst ([12, 10, 14, 15].map nV)) p2 = _ := upd_same
      walk_at "ps"
      refine neg_or (by omega) ?_
      walk_at "ps"
      refine ⟨p2, [12, 10, 14, 15].map nV, rfl, .inl (SqL.of e2), ?_⟩
      refine ⟨_, _, rfl, rfl, (by show (0 : Int) < 4; decide), ?_⟩
      refine ⟨_, _, _, _, rfl, rfl, SqL.of e2, pick [12, 10, 14, 15] (by decide), ?_⟩
      have hz : 9 < [12, 10, 14, 15].getD (d % 4) 0 ∧ [12, 10, 14, 15].getD (d % 4) 0 ≤ 15 := by
        have : d % 4 = 0 ∨ d % 4 = 1 ∨ d % 4 = 2 ∨ d % 4 = 3 := by omega
        rcases this with q | q | q | q <;> rw [q] <;> decide
      refine ⟨a, f, N, _, rfl, s2.teq hF, hn, hn2, hz.1, hz.2, fun H3 p3 ds s3 f3 G e3 => ?_⟩
      exact k _ p3 ds _ (s2.trans s3) (s2.free f3) G e3
    · walk_at "ps"
      refine iteD (fun h => ?_) (fun h => ?_)
      · walk_at "ps"
        refine ⟨(by show 2 ≤ sizeLine; decide), fun p2 f2 => ?_⟩
        have s2 := s1.trans (Same.new (o := .lst ([13, 11].map nV)) f2)
        have e2 : upd (upd H p1 (.lst ([12, 13, 10, 11, 14, 15].map nV))) p2 (.lst ([13, 11].map nV)) p2 = _ := upd_same
        walk_at "ps"
        refine ⟨p2, [13, 11].map nV, rfl, .inl (SqL.of e2), ?_⟩
        refine ⟨_, _, rfl, rfl, (by show (0 : Int) < 2; decide), ?_⟩
        refine ⟨_, _, _, _, rfl, rfl, SqL.of e2, pick [13, 11] (by decide), ?_⟩
        have hz : 9 < [13, 11].getD (d % 2) 0 ∧ [13, 11].getD (d % 2) 0 ≤ 15 := by
          have : d % 2 = 0 ∨ d % 2 = 1 := by omega
          rcases this with q | q <;> rw [q] <;> decide
        refine ⟨a, f, N, _, rfl, s2.teq hF, hn, hn2, hz.1, hz.2, fun H3 p3 ds s3 f3 G e3 => ?_⟩
        exact k _ p3 ds _ (s2.trans s3) (s2.free f3) G e3
      · walk_at "ps"
        refine ⟨p1, [12, 13, 10, 11, 14, 15].map nV, rfl, .inl (SqL.of e1), ?_⟩
        refine ⟨_, _, rfl, rfl, (by show (0 : Int) < 6; decide), ?_⟩
        refine ⟨_, _, _, _, rfl, rfl, SqL.of e1, pick [12, 13, 10, 11, 14, 15] (by decide), ?_⟩
        have hz : 9 < [12, 13, 10, 11, 14, 15].getD (d % 6) 0 ∧ [12, 13, 10, 11, 14, 15].getD (d % 6) 0 ≤ 15 := by
          have : d % 6 = 0 ∨ d % 6 = 1 ∨ d % 6 = 2 ∨ d % 6 = 3 ∨ d % 6 = 4 ∨ d % 6 = 5 := by omega
          rcases this with q | q | q | q | q | q <;> rw [q] <;> decide
        refine ⟨a, f, N, _, rfl, hF1, hn, hn2, hz.1, hz.2, fun H3 p3 ds s3 f3 G e3 => ?_⟩
        exact k _ p3 ds _ (s1.trans s3) (s1.free f3) G e3
theorem sc_law_pointed : FnScope ["_law_draws_here", "_law_form_here"] ["_law_draws_here"] (defScope (top 167)) := ⟨rfl, rfl, rfl, by decide +kernel, rfl, by decide +kernel, by decide +kernel⟩
theorem d_law_pointed (T : TX w K mg) : DefOk P w K mg base 2 158 "_law_pointed" ["_law_draws_here"] (spPointed K) := by
  refine mkDef T 149 rfl rfl sc_law_pointed (fun _ _ _ _ _ _ us hl => match us, hl with | [_], _ => rfl) (fun vs H Q E h => ?_) (fun f cdv A outer s H vs Q E hr h => ?_)
  · obtain ⟨a, ds, rfl, hL, h4, h0, h1, h2, k⟩ := h
    rfl
  · obtain ⟨a, ds, rfl, hL, h4, h0, h1, h2, k⟩ := h
    refine ⟨_, 
        (pss_cons (ps_set (i := 1) sc_law_pointed.nd rfl (Or.inl rfl) (pe_callD (d_law_form T) (hr.mono (by decide)) (by rfl) (pa_cons (pe_ix ix_list (pv 0) pe_int (fun _ _ => rfl)) (pa_cons (pe_ix ix_list (pv 0) pe_int (fun _ _ => rfl)) (pa_cons (pe_ix ix_list (pv 0) pe_int (fun _ _ => rfl)) pa_nil))))) 
        (pss_one (ps_ret (pe_op op_catA (pe_slice sl_tupA (pv 1) po_none (po_some pe_int)) (pe_tup (pa_cons (pe_op op_mod (pe_ix ix_list (pv 0) pe_int (fun _ _ => rfl)) (pe_op op_add (pe_ix ix_tup (pv 1) pe_int (fun _ _ => rfl)) pe_int)) pa_nil)))))), ?_⟩
    walk_at "p"
    refine ⟨_, _, _, _, rfl, rfl, hL, atD (j := 0) (by omega), ?_⟩
    walk_at "p"
    refine ⟨_, _, _, _, rfl, rfl, hL, atD (j := 1) (by omega), ?_⟩
    walk_at "p"
    refine ⟨_, _, _, _, rfl, rfl, hL, atD (j := 2) (by omega), ?_⟩
    refine ⟨_, _, _, rfl, h0, h2, h1, fun H1 p1 f s1 f1 en e1 => ?_⟩
    walk_at "ps"
    refine ⟨p1, _, rfl, SqT.of e1, fun hw => absurd hw.2 (by show ¬ (3 : Nat) = 4; decide), fun _ p2 f2 => ?_⟩
    have s2 := Same.new (o := .tup (cutV f.vs none (some 3))) f2
    have e2 : upd H1 p2 (.tup (cutV f.vs none (some 3))) p2 = some (.tup [.str (kindS f.packed), .int (f.n : Int), .str (sgS f.sg)]) := upd_same
    have sA := s1.trans s2
    walk_at "p"
    refine ⟨_, _, _, _, rfl, rfl, sA.leq hL, atD (j := 3) (by omega), ?_⟩
    walk_at "p"
    refine ⟨_, _, _, V.int (f.n : Int), rfl, rfl, s2.teq (SqT.of e1), rfl, ?_⟩
    walk_at "ps"
    refine ⟨(by show (0 : Int) < (f.n : Int) + 1; omega), ?_⟩
    refine ⟨(by show 1 ≤ sizeLine; decide), fun p3 f3 => ?_⟩
    have s3 := Same.new (o := .tup [V.int (((ds.getD 3 0 : Nat) : Int) % ((f.n : Int) + 1))]) f3
    refine ⟨p2, p3, _, _, rfl, rfl, SqT.of (s3 _ _ e2), SqT.of upd_same, (by show 4 ≤ sizeLine; decide), fun h => (by cases h), fun _ h => (by cases h), fun _ _ p4 f4 => ?_⟩
    have sB := sA.trans s3
    refine k _ p4 ⟨f.packed, f.n, f.sg, ds.getD 3 0 % (f.n + 1)⟩ (sB.trans (Same.new f4)) (sB.free f4) en (by show ds.getD 3 0 % (f.n + 1) ≤ f.n; have := Nat.mod_lt (ds.getD 3 0) (show 0 < f.n + 1 by omega); omega) (upd_is ?_)
    show HO.tup [V.str (kindS f.packed), V.int (f.n : Int), V.str (sgS f.sg), V.int (((ds.getD 3 0 : Nat) : Int) % ((f.n : Int) + 1))] = HO.tup [V.str (kindS f.packed), V.int (f.n : Int), V.str (sgS f.sg), V.int ((ds.getD 3 0 % (f.n + 1) : Nat) : Int)]
    rw [Int.natCast_emod]
    rfl
theorem sc_law_hexed : FnScope ["_law_row", "_law_byte"] ["_law_row"] (defScope (top 165)) := ⟨rfl, rfl, rfl, by decide +kernel, rfl, by decide +kernel, by decide +kernel⟩
theorem d_law_hexed (T : TX w K mg) : DefOk P w K mg base 1 156 "_law_hexed" ["_law_row"] (spHexed K) := by
  refine mkDef T 147 rfl rfl sc_law_hexed (fun _ _ _ _ _ _ us hl => match us, hl with | [_], _ => rfl) (fun vs H Q E h => ?_) (fun f cdv A outer s H vs Q E hr h => ?_)
  · obtain ⟨a, bs, rfl, hL, hl, hb, k⟩ := h
    rfl
  · obtain ⟨a, bs, rfl, hL, hl, hb, k⟩ := h
    refine ⟨_, 
        (pss_one (ps_ret (pe_join pe_str (pe_lc (own := [("_law_byte", 1)]) (g := gName 1) (by rfl) sc_law_hexed.nd (pi_tup (pv 0)) (blkOk_by (own := [("_law_byte", 1)]) (N := ["_law_row", "_law_byte"]) (sc := defScope (top 165)) (by decide +kernel)) (fun _ _ _ _ _ => pg_name (i := 1) sc_law_hexed.nd rfl (Or.inl rfl)) (fun _ _ _ _ _ => pts_nil) (fun _ _ _ _ _ => (pe_op op_add_str (pe_ix ix_str pe_str (pe_op op_fdiv (pv 1) pe_int) (fun _ _ => rfl)) (pe_ix ix_str pe_str (pe_op op_mod (pv 1) pe_int) (fun _ _ => rfl)))))))), ?_⟩
    refine ⟨⟨_, rfl⟩, ?_⟩
    walk_at "p"
    refine ⟨_, rfl, ⟨_, hL⟩, fun D hD => ?_⟩
    have sd : Same H (upd H D (.lst [])) := Same.new hD
    refine lc_it (walk_tup (K := K) (a := a) (xs := bs.map nV)) (fun i H' => Same H H' ∧ H' D = some (.lst (((bs.take i).map hexW).map V.str))) ⟨sd, upd_same⟩ (fun i H' _ h => h.1.teq hL) ?_ ?_
    · rintro i x H3 H4 hi ⟨t1, g1⟩ ⟨rfl, hx⟩
      rw [List.getElem?_map] at hx
      obtain ⟨d, hd, rfl⟩ := Option.map_eq_some_iff.mp hx
      have hil : i < bs.length := (List.getElem?_eq_some_iff.mp hd).1
      have h255 := hb d (List.mem_of_getElem? hd)
      refine ⟨rfl, ?_⟩
      refine ⟨_, rfl, ?_⟩
      refine ⟨_, _, rfl, rfl, ⟨by decide, by decide⟩, ?_⟩
      refine ⟨hexS, _, sgn (d / 16), rfl, rfl, (by decide +kernel), ?_, ?_⟩
      · rw [show ((d : Int) / 16) = ((d / 16 : Nat) : Int) by omega]
        exact sgn_at (by omega)
      refine ⟨_, rfl, ?_⟩
      refine ⟨_, _, rfl, rfl, (by show (0 : Int) < _; decide), ?_⟩
      refine ⟨hexS, _, sgn (d % 16), rfl, rfl, (by decide +kernel), ?_, ?_⟩
      · rw [show ((d : Int) % 16) = ((d % 16 : Nat) : Int) by omega]
        exact sgn_at (by omega)
      refine ⟨_, _, rfl, rfl, (by show 2 ≤ sizeLine; decide), ?_⟩
      refine ⟨_, g1, ?_, fun b o eb => ?_, ?_⟩
      · rw [List.length_map, List.length_map, List.length_take]
        exact lt_line (by omega)
      · rw [upd_ne (ne_of_none eb hD)]
        exact t1 _ _ eb
      · refine upd_is ?_
        rw [List.take_succ, hd, List.map_append, List.map_append]
        rfl
    · rintro H3 ⟨t1, g1⟩
      rw [List.length_map, List.take_length] at g1
      refine ⟨_, D, _, rfl, rfl, .inl (SqL.of g1), ?_, ?_⟩
      · have e2 : (" " : Str).length = 1 := by decide +kernel
        rw [hexW_sum, e2, List.length_map]
        omega
      exact k _ t1
end
end TL
set_option Elab.async false
set_option linter.all false
set_option maxRecDepth 100000
set_option pp.maxSteps 600
set_option maxHeartbeats 4000000
namespace TL
open PySem PySem.Spec PyProof.Rows L2
/-- one question answered, where its answer is plain -/
local macro_rules | `(tactic| walk_at "p") => `(tactic| first
  | refine ⟨_, rfl, ?_⟩
  | refine ⟨_, _, rfl, rfl, ⟨by decide, by decide⟩, ?_⟩
  | refine ⟨_, _, rfl, rfl, (by show (0 : Int) < _; decide), ?_⟩
  | refine ⟨_, _, rfl, rfl, ?_⟩
  | refine ⟨rfl, ?_⟩
  | refine ⟨_, _, _, _, rfl, rfl, (by assumption), rfl, ?_⟩
  | refine .inr ⟨_, rfl, ?_⟩
  | refine .inl ⟨_, rfl, ?_⟩
  | refine iteT ?_
  | refine iteF ?_)
local macro_rules | `(tactic| walk_at "ps") => `(tactic| repeat walk_at "p")

def formT (f : Form) : Str := Txt.join " " [kindS f.packed, toS (f.n : Nat), sgS f.sg, toS (f.pt : Nat)]
def spLNumber (K : PySem.W.Frag) : Sp := fun vs H Q _ => ∃ (a : Addr) (f : Form) (way far : Nat), vs = [.ref a, nV way, nV far] ∧ SqT K H a f.vs ∧ 0 < f.n ∧ f.n ≤ 100 ∧ ∀ H' (z : Int), Same H H' → Q (.int z) H'
section
variable {P : Program} {w : World} {K : PySem.W.Frag} {mg : Str → Option Value} {base : Heap}
theorem sc_law_number : FnScope ["_law_form_here", "_law_way", "_law_far", "_law_low", "_law_high", "_law_size", "_law_some", "_law_number_here"] ["_law_form_here", "_law_way", "_law_far"] (defScope (top 160)) := ⟨rfl, rfl, rfl, by decide +kernel, rfl, by decide +kernel, by decide +kernel⟩
theorem d_law_number (T : TX w K mg) : DefOk P w K mg base 3 151 "_law_number" ["_law_form_here", "_law_way", "_law_far"] (spLNumber K) := by
  refine mkDef T 142 rfl rfl sc_law_number (fun _ _ _ _ _ _ us hl => match us, hl with | [_, _, _], _ => rfl) (fun vs H Q E h => ?_) (fun f cdv A outer s H vs Q E hr h => ?_)
  · obtain ⟨a, f, way, far, rfl, hF, hn, hn2, k⟩ := h
    rfl
  · obtain ⟨a, f, way, far, rfl, hF, hn, hn2, k⟩ := h
    refine ⟨_, 
        (pss_cons (ps_asg (pe_callD (d_law_ends T) (hr.mono (by decide)) (by rfl) (pa_cons (pv 0) pa_nil)) (pg_tup rfl (pgs_cons (pg_name (i := 3) sc_law_number.nd rfl (Or.inl rfl)) (pgs_cons (pg_name (i := 4) sc_law_number.nd rfl (Or.inl rfl)) pgs_nil)))) 
        (pss_cons (ps_if (pt_cmpR op_gt (pv 1) pe_int (nomark _)) 
          (pss_one (ps_ret (pe_op op_add (pv 3) (pe_op op_mod (pv 2) (pe_op op_add (pe_op op_sub (pv 4) (pv 3)) pe_int))))) pss_nil) 
        (pss_cons (ps_set (i := 5) sc_law_number.nd rfl (Or.inl rfl) (pe_callD (d_law_power T) (hr.mono (by decide)) (by rfl) (pa_cons pe_int (pa_cons (pe_op op_mod (pv 2) (pe_ix ix_tup (pv 0) pe_int (fun _ _ => rfl))) pa_nil)))) 
        (pss_cons (ps_set (i := 6) sc_law_number.nd rfl (Or.inl rfl) (pe_lst (pa_cons pe_int (pa_cons pe_int (pa_cons (pv 4) (pa_cons (pv 3) (pa_cons (pv 5) (pa_cons (pe_op op_sub (pv 5) pe_int) (pa_cons (pe_op op_mul pe_int (pv 5)) (pa_cons (pe_op op_mul pe_int (pv 5)) (pa_cons (pe_op op_add (pv 5) pe_int) pa_nil))))))))))) 
        (pss_cons (ps_expr (pe_bm PySem.F.plainAttrs_list PySem.F.slot_list_append PySem.F.type_list_append mt_append (pv 6) (pa_cons (pe_op op_mod (pe_op op_fdiv (pv 2) pe_int) (pe_op op_mul pe_int (pv 5))) pa_nil))) 
        (pss_cons (ps_set (i := 7) sc_law_number.nd rfl (Or.inl rfl) (pe_ix ix_list (pv 6) (pv 1) (fun _ _ => rfl))) 
        (pss_cons (ps_if (PW.pt (pw_and (pt_cmpR op_lt (pv 3) pe_int (nomark _)) (pw_and1 (pt_cmpR op_eq (pe_op op_mod (pe_op op_fdiv (pv 2) pe_int) pe_int) pe_int (nomark _))))) 
          (pss_one (ps_set (i := 7) sc_law_number.nd rfl (Or.inl rfl) (pe_op op_sub pe_int (pv 7)))) pss_nil) 
        (pss_one (ps_ret (pe_callB (call_max2 rfl) (by rfl) T.max_ (by decide +kernel) (pa_cons (pv 3) (pa_cons (pe_callB (call_min2 rfl) (by rfl) T.min_ (by decide +kernel) (pa_cons (pv 4) (pa_cons (pv 7) pa_nil))) pa_nil)))))))))))), ?_⟩
    walk_at "ps"
    refine ⟨a, f, rfl, hF, hn, hn2, fun H1 p1 lo hi s1 e1 hlh => ?_⟩
    have hF1 := s1.teq hF
    refine ⟨_, _, rfl, SqT.of e1, rfl, _, _, rfl, _, _, rfl, rfl, ?_⟩
    walk_at "ps"
    refine iteD (fun h => ?_) (fun h => ?_)
    · walk_at "ps"
      refine ⟨by omega, ?_⟩
      walk_at "ps"
      exact k _ _ s1
    have hw : way ≤ 9 := by
      have : ¬ ((way : Int) > 9) := h
      omega
    walk_at "ps"
    refine ⟨by omega, ?_⟩
    refine ⟨10, far % f.n, by show [V.int 10, V.int ((far : Int) % (f.n : Int))] = _; rw [← Int.natCast_emod], by decide, by decide, by have := Nat.mod_lt far hn; omega, fun H2 s2 => ?_⟩
    have hp := pow_pos10 (far % f.n)
    generalize (10 : Int) ^ (far % f.n) = size at *
    walk_at "ps"
    refine ⟨.inl ⟨by decide, by decide⟩, ?_⟩
    walk_at "ps"
    refine ⟨.inl ⟨by decide, by decide⟩, ?_⟩
    walk_at "ps"
    refine ⟨(by show 9 ≤ sizeLine; decide), fun p3 f3 => ?_⟩
    have s3 := Same.new (o := .lst ([0, 1, hi, lo, size, size - 1, 5 * size, 9 * size, size + 1].map V.int)) f3
    have e3 : upd H2 p3 (.lst ([0, 1, hi, lo, size, size - 1, 5 * size, 9 * size, size + 1].map V.int)) p3 = _ := upd_same
    have p3H : H p3 = none := (s1.trans s2).free f3
    have sA := (s1.trans s2).trans s3
    walk_at "p"
    refine ⟨.inl ⟨rfl, _, SqL.of e3⟩, ?_⟩
    walk_at "ps"
    refine ⟨.inl ⟨by decide, by decide⟩, ?_⟩
    refine ⟨_, _, rfl, rfl, (by show (0 : Int) < 10 * size; omega), ?_⟩
    refine ⟨_, _, _, rfl, rfl, e3, (by show 9 < sizeLine; decide), ?_⟩
    generalize hz : ((far : Int) / 16) % (10 * size) = last
    have e4 : upd (upd H2 p3 (.lst ([0, 1, hi, lo, size, size - 1, 5 * size, 9 * size, size + 1].map V.int))) p3 (.lst ([0, 1, hi, lo, size, size - 1, 5 * size, 9 * size, size + 1].map V.int ++ [V.int last])) p3 = some (.lst ([0, 1, hi, lo, size, size - 1, 5 * size, 9 * size, size + 1, last].map V.int)) := upd_same
    have sB : Same H (upd (upd H2 p3 (.lst ([0, 1, hi, lo, size, size - 1, 5 * size, 9 * size, size + 1].map V.int))) p3 (.lst ([0, 1, hi, lo, size, size - 1, 5 * size, 9 * size, size + 1].map V.int ++ [V.int last]))) := fun b o eb => by
      rw [upd_ne (ne_of_none eb p3H)]
      exact sA _ _ eb
    obtain ⟨zz, hzz⟩ : ∃ zz : Int, atI ([0, 1, hi, lo, size, size - 1, 5 * size, 9 * size, size + 1, last].map V.int) (way : Int) = some (V.int zz) := by
      have : way = 0 ∨ way = 1 ∨ way = 2 ∨ way = 3 ∨ way = 4 ∨ way = 5 ∨ way = 6 ∨ way = 7 ∨ way = 8 ∨ way = 9 := by omega
      rcases this with q | q | q | q | q | q | q | q | q | q <;> subst q <;> exact ⟨_, rfl⟩
    dsimp only
    rw [hz]
    walk_at "p"
    walk_at "p"
    refine ⟨_, _, _, _, rfl, rfl, SqL.of e4, hzz, ?_⟩
    walk_at "ps"
    refine iteD (fun h1 => ?_) (fun h1 => ?_)
    · walk_at "ps"
      refine iteD (fun h2 => ?_) (fun h2 => ?_)
      · walk_at "ps"
        refine ⟨_, _, rfl, ?_⟩
        exact ⟨_, _, rfl, k _ _ sB⟩
      · walk_at "ps"
        refine ⟨_, _, rfl, ?_⟩
        exact ⟨_, _, rfl, k _ _ sB⟩
    · walk_at "ps"
      refine ⟨_, _, rfl, ?_⟩
      exact ⟨_, _, rfl, k _ _ sB⟩
end
end TL
set_option Elab.async false
set_option linter.all false
set_option maxRecDepth 100000
set_option pp.maxSteps 600
set_option maxHeartbeats 4000000
namespace TL
open PySem PySem.Spec PyProof.Rows L2
/-- one question answered, where its answer is plain -/
local macro_rules | `(tactic| walk_at "p") => `(tactic| first
  | refine ⟨_, rfl, ?_⟩
  | refine ⟨_, _, rfl, rfl, ⟨by decide, by decide⟩, ?_⟩
  | refine ⟨_, _, rfl, rfl, (by show (0 : Int) < _; decide), ?_⟩
  | refine ⟨_, _, rfl, rfl, ?_⟩
  | refine ⟨rfl, ?_⟩
  | refine ⟨_, _, _, _, rfl, rfl, (by assumption), rfl, ?_⟩
  | refine .inr ⟨_, rfl, ?_⟩
  | refine .inl ⟨_, rfl, ?_⟩
  | refine iteT ?_
  | refine iteF ?_)
local macro_rules | `(tactic| walk_at "ps") => `(tactic| repeat walk_at "p")

def formF (f : Form) : Str := Str.empty ++ kindS f.packed ++ " " ++ toS (f.n : Nat) ++ " " ++ sgS f.sg ++ " " ++ toS (f.pt : Nat)
def spWords (K : PySem.W.Frag) : Sp := fun vs H Q _ => ∃ (a : Addr) (f : Form), vs = [.ref a] ∧ SqT K H a f.vs ∧ f.n < 25 ∧ f.pt < 25 ∧ Q (.str (formF f)) H
def spThing (K : PySem.W.Frag) : Sp := fun vs H Q _ => ∃ (c salt : Int), vs = [.int c, .int salt] ∧ ∀ H' p q r (f : Form) ds sh, Same H H' → H p = none → 0 < f.n → f.n ≤ 12 → f.pt ≤ f.n → Good f ds sh → H' q = some (.tup f.vs) → H' r = some (.tup ((rowOf f ds sh).map nV)) → H' p = some (.tup [.ref q, .ref r]) → Q (.ref p) H'
section
variable {P : Program} {w : World} {K : PySem.W.Frag} {mg : Str → Option Value} {base : Heap}
theorem sc_law_words : FnScope ["_law_form_here"] ["_law_form_here"] (defScope (top 166)) := ⟨rfl, rfl, rfl, by decide +kernel, rfl, by decide +kernel, by decide +kernel⟩
theorem d_law_words (T : TX w K mg) : DefOk P w K mg base 1 157 "_law_words" ["_law_form_here"] (spWords K) := by
  refine mkDef T 148 rfl rfl sc_law_words (fun _ _ _ _ _ _ us hl => match us, hl with | [_], _ => rfl) (fun vs H Q E h => ?_) (fun f cdv A outer s H vs Q E hr h => ?_)
  · obtain ⟨a, f, rfl, hF, hn, hp, k⟩ := h
    rfl
  · obtain ⟨a, f, rfl, hF, hn, hp, k⟩ := h
    refine ⟨_, 
        (pss_one (ps_ret (pe_joined (.cons (pe_fmt (pe_ix ix_tup (pv 0) pe_int (fun _ _ => rfl))) (.cons pe_str (.cons (pe_fmt (pe_ix ix_tup (pv 0) pe_int (fun _ _ => rfl))) (.cons pe_str (.cons (pe_fmt (pe_ix ix_tup (pv 0) pe_int (fun _ _ => rfl))) (.cons pe_str (.cons (pe_fmt (pe_ix ix_tup (pv 0) pe_int (fun _ _ => rfl))) .nil)))))))))), ?_⟩
    have h1 : (kindS f.packed).length ≤ 6 := by cases f.packed <;> decide
    have h2 : (toS (f.n : Nat)).length ≤ 640 := (whole_facts ⟨f.n, hn⟩).2.1
    have h3 : (sgS f.sg).length ≤ 4 := by cases f.sg <;> decide
    have h4 : (toS (f.pt : Nat)).length ≤ 640 := (whole_facts ⟨f.pt, hp⟩).2.1
    have lz : 5000 ≤ sizeLine := by decide
    have bg : ∀ m : Nat, m < 25 → ((m : Nat) : Int).natAbs.log2 < 1920 := by
      intro m hm
      have : ∀ k : Fin 25, ((k.val : Nat) : Int).natAbs.log2 < 1920 := by decide
      exact this ⟨m, hm⟩
    have e0 : Str.empty.length = 0 := rfl
    have es : (Str.ofString " ").length = 1 := by decide
    walk_at "ps"
    refine ⟨(by omega), _, rfl, (by simp only [Str.length_append]; omega), ?_⟩
    refine ⟨_, rfl, (by simp only [Str.length_append]; omega), ?_⟩
    walk_at "ps"
    have h2' : (Str.ofString (toString (f.n : Int))).length ≤ 640 := h2
    have h4' : (Str.ofString (toString (f.pt : Int))).length ≤ 640 := h4
    refine ⟨bg _ hn, _, rfl, (by simp only [Str.length_append]; omega), ?_⟩
    refine ⟨_, rfl, (by simp only [Str.length_append]; omega), ?_⟩
    walk_at "ps"
    refine ⟨(by omega), _, rfl, (by simp only [Str.length_append]; omega), ?_⟩
    refine ⟨_, rfl, (by simp only [Str.length_append]; omega), ?_⟩
    walk_at "ps"
    refine ⟨bg _ hp, _, rfl, (by simp only [Str.length_append]; omega), ?_⟩
    exact k
theorem sc_law_dressed_thing : FnScope ["_law_cell_here", "_law_salt", "_law_draws_here", "_law_form_here"] ["_law_cell_here", "_law_salt"] (defScope (top 170)) := ⟨rfl, rfl, rfl, by decide +kernel, rfl, by decide +kernel, by decide +kernel⟩
theorem d_law_dressed_thing (T : TX w K mg) : DefOk P w K mg base 5 161 "_law_dressed_thing" ["_law_cell_here", "_law_salt"] (spThing K) := by
  refine mkDef T 152 rfl rfl sc_law_dressed_thing (fun _ _ _ _ _ _ us hl => match us, hl with | [_, _], _ => rfl) (fun vs H Q E h => ?_) (fun f cdv A outer s H vs Q E hr h => ?_)
  · obtain ⟨c, salt, rfl, k⟩ := h
    rfl
  · obtain ⟨c, salt, rfl, k⟩ := h
    refine ⟨_, 
        (pss_cons (ps_set (i := 2) sc_law_dressed_thing.nd rfl (Or.inl rfl) (pe_callD (d_law_draws T) (hr.mono (by decide)) (by rfl) (pa_cons (pv 0) (pa_cons (pv 1) (pa_cons (pe_lst (pa_cons pe_int (pa_cons pe_int (pa_cons pe_int (pa_cons pe_int (pa_cons pe_int (pa_cons pe_int (pa_cons (pe_op op_pow pe_int pe_int) pa_nil)))))))) pa_nil))))) 
        (pss_cons (ps_set (i := 3) sc_law_dressed_thing.nd rfl (Or.inl rfl) (pe_callD (d_law_pointed T) (hr.mono (by decide)) (by rfl) (pa_cons (pv 2) pa_nil))) 
        (pss_one (ps_ret (pe_tup (pa_cons (pv 3) (pa_cons (pe_callD (d_law_dressed T) (hr.mono (by decide)) (by rfl) (pa_cons (pv 3) (pa_cons (pe_callD (d_law_number T) (hr.mono (by decide)) (by rfl) (pa_cons (pv 3) (pa_cons (pe_ix ix_list (pv 2) pe_int (fun _ _ => rfl)) (pa_cons (pe_ix ix_list (pv 2) pe_int (fun _ _ => rfl)) pa_nil)))) (pa_cons (pe_ix ix_list (pv 2) pe_int (fun _ _ => rfl)) pa_nil)))) pa_nil))))))), ?_⟩
    walk_at "ps"
    refine ⟨(by show 7 ≤ sizeLine; decide), fun p1 f1 => ?_⟩
    have s1 := Same.new (o := .lst ([2, 12, 3, 13, 16, 12, 10 ^ 14].map nV)) f1
    have e1 : upd H p1 (.lst ([2, 12, 3, 13, 16, 12, 10 ^ 14].map nV)) p1 = _ := upd_same
    refine ⟨c, salt, p1, [2, 12, 3, 13, 16, 12, 10 ^ 14], rfl, SqL.of e1, (by decide), (by decide), fun H2 p2 ds s2 f2 e2 hd => ?_⟩
    have sA : Same H H2 := s1.trans s2
    have f2H : H p2 = none := s1.free f2
    obtain ⟨d0, d1, d2, d3, d4, d5, d6, rfl, b0, b1, b2, b3, b4, b5, b6⟩ : ∃ d0 d1 d2 d3 d4 d5 d6, ds = [d0, d1, d2, d3, d4, d5, d6] ∧ d0 < 2 ∧ d1 < 12 ∧ d2 < 3 ∧ d3 < 13 ∧ d4 < 16 ∧ d5 < 12 ∧ d6 < 10 ^ 14 := by
      match ds, hd with
      | [d0, d1, d2, d3, d4, d5, d6], ⟨b0, b1, b2, b3, b4, b5, b6, _⟩ => exact ⟨d0, d1, d2, d3, d4, d5, d6, rfl, b0, b1, b2, b3, b4, b5, b6⟩
    walk_at "ps"
    refine ⟨p2, [d0, d1, d2, d3, d4, d5, d6], rfl, SqL.of e2, (by show 4 ≤ 7; decide), b0, (by show d1 ≤ 20; omega), b2, fun H3 p3 f s3 f3 en ep e3 => ?_⟩
    have en' : f.n = d1 + 1 := en
    have sB := sA.trans s3
    have L3 := s3.leq (SqL.of (K := K) e2)
    walk_at "ps"
    refine ⟨p3, f, d4, d6, rfl, SqT.of e3, (by omega), (by omega), fun H4 z s4 => ?_⟩
    have L4 := s4.leq L3
    walk_at "ps"
    refine ⟨p3, f, z, d5, rfl, s4.teq (SqT.of e3), (by omega), (by omega), fun H5 p5 rs sh s5 f5 G e5 => ?_⟩
    walk_at "ps"
    refine ⟨(by show 2 ≤ sizeLine; decide), fun p6 f6 => ?_⟩
    have sC := ((sB.trans s4).trans s5)
    refine k _ p6 p3 p5 f rs sh (sC.trans (Same.new f6)) (sC.free f6) (by omega) (by omega) ep G ?_ ?_ upd_same
    · exact ((s4.trans s5).trans (Same.new f6)) _ _ e3
    · exact (Same.new f6) _ _ e5
end
end TL
set_option Elab.async false
set_option linter.all false
set_option maxRecDepth 100000
set_option pp.maxSteps 600
set_option maxHeartbeats 4000000
namespace TL
open PySem PySem.Spec PyProof.Rows L2
/-- one question answered, where its answer is plain -/
local macro_rules | `(tactic| walk_at "p") => `(tactic| first
  | refine ⟨_, rfl, ?_⟩
  | refine ⟨_, _, rfl, rfl, ⟨by decide, by decide⟩, ?_⟩
  | refine ⟨_, _, rfl, rfl, (by show (0 : Int) < _; decide), ?_⟩
  | refine ⟨_, _, rfl, rfl, ?_⟩
  | refine ⟨rfl, ?_⟩
  | refine ⟨_, _, _, _, rfl, rfl, (by assumption), rfl, ?_⟩
  | refine .inr ⟨_, rfl, ?_⟩
  | refine .inl ⟨_, rfl, ?_⟩
  | refine iteT ?_
  | refine iteF ?_)
local macro_rules | `(tactic| walk_at "ps") => `(tactic| repeat walk_at "p")

def spFilled (K : PySem.W.Frag) : Sp := fun vs H Q _ => ∃ (c salt : Int) (a : Addr) (fr : List Nat), vs = [.int c, .int salt, .ref a] ∧ SqT K H a (fr.map nV) ∧ fr.length ≤ 64 ∧ (∀ x ∈ fr, x < 256) ∧ ∀ H' p q (cs : List Nat) (m : Nat), Same H H' → H p = none → H' q = some (.lst (cs.map nV)) → cs.length = 256 → (∀ x ∈ cs, x < 256) → m < 2 → (∀ i, i < fr.length → cs[i]? = fr[i]?) → H' p = some (.tup [.ref q, nV m]) → Q (.ref p) H'
theorem repFact {K : PySem.W.Frag} {H Hb : Hp} {p2 p3 p4 : Addr} {xs : List V} {x : Nat} (s : Same H Hb) (hD : SqL K Hb p2 xs) (f3 : Hb p3 = none) (f4 : upd Hb p3 (.lst [nV x]) p4 = none) (hx : x < 256) :
    Same H (upd (upd Hb p3 (.lst [nV x])) p4 (.lst (List.replicate (256 : Int).toNat [nV x]).flatten)) ∧ SqL K (upd (upd Hb p3 (.lst [nV x])) p4 (.lst (List.replicate (256 : Int).toNat [nV x]).flatten)) p2 xs ∧
    ∃ rs : List Nat, rs.length = 256 ∧ (∀ y ∈ rs, y < 256) ∧ upd (upd Hb p3 (.lst [nV x])) p4 (.lst (List.replicate (256 : Int).toNat [nV x]).flatten) p4 = some (.lst (rs.map nV)) := by
  have t1 := (Same.new (o := .lst [nV x]) f3).trans (Same.new (o := .lst (List.replicate (256 : Int).toNat [nV x]).flatten) f4)
  refine ⟨s.trans t1, t1.leq hD, List.replicate 256 x, List.length_replicate, fun y hy => ?_, ?_⟩
  · rw [List.eq_of_mem_replicate hy]
    exact hx
  · rw [upd_same]
    rfl
theorem preLoop {K : PySem.W.Frag} {H Hb : Hp} {p2 p5 : Addr} {xs : List V} (s : Same H Hb) (hD : SqL K Hb p2 xs) (f5 : Hb p5 = none) : ∃ Hk, Same H Hk ∧ SqL K Hk p2 xs ∧ Hk p5 = none ∧ Same Hk (upd Hb p5 (.lst [])) ∧ upd Hb p5 (.lst []) p5 = some (.lst []) := ⟨Hb, s, hD, f5, Same.new f5, upd_same⟩
theorem powEv (d3 d4 d5 i : Nat) : (((d3 : Int) * (0 + (i : Int)) + d4) * (0 + (i : Int)) + d5) % 65519 / 7 % 256 = ((((d3 * i + d4) * i + d5) % 65519 / 7 % 256 : Nat) : Int) := by
  have h : ((d3 : Int) * (0 + (i : Int)) + d4) * (0 + (i : Int)) + d5 = (((d3 * i + d4) * i + d5 : Nat) : Int) := by
    rw [Int.zero_add, Int.natCast_add, Int.natCast_mul, Int.natCast_add, Int.natCast_mul]
  rw [h]
  generalize (d3 * i + d4) * i + d5 = x
  omega
section
variable {P : Program} {w : World} {K : PySem.W.Frag} {mg : Str → Option Value} {base : Heap}
theorem sc_law_filled : FnScope ["_law_cell_here", "_law_salt", "_law_front_here", "_law_draws_here", "_law_rest", "_law_k", "_law_one"] ["_law_cell_here", "_law_salt", "_law_front_here"] (defScope (top 162)) := ⟨rfl, rfl, rfl, by decide +kernel, rfl, by decide +kernel, by decide +kernel⟩
theorem d_law_filled (T : TX w K mg) : DefOk P w K mg base 3 153 "_law_filled" ["_law_cell_here", "_law_salt", "_law_front_here"] (spFilled K) := by
  refine mkDef T 144 rfl rfl sc_law_filled (fun _ _ _ _ _ _ us hl => match us, hl with | [_, _, _], _ => rfl) (fun vs H Q E h => ?_) (fun f cdv A outer s H vs Q E hr h => ?_)
  · obtain ⟨c, salt, a, fr, rfl, hF, hfl, hfr, k⟩ := h
    rfl
  · obtain ⟨c, salt, a, fr, rfl, hF, hfl, hfr, k⟩ := h
    refine ⟨_, 
        (pss_cons (ps_set (i := 3) sc_law_filled.nd rfl (Or.inl rfl) (pe_callD (d_law_draws T) (hr.mono (by decide)) (by rfl) (pa_cons (pv 0) (pa_cons (pv 1) (pa_cons (pe_lst (pa_cons pe_int (pa_cons pe_int (pa_cons pe_int (pa_cons pe_int (pa_cons pe_int (pa_cons pe_int pa_nil))))))) pa_nil))))) 
        (pss_cons (ps_set (i := 4) sc_law_filled.nd rfl (Or.inl rfl) (pe_op op_rep (pe_lst (pa_cons pe_int pa_nil)) pe_int)) 
        (pss_cons (ps_if (pt_cmpR op_eq (pe_ix ix_list (pv 3) pe_int (fun _ _ => rfl)) pe_int (nomark _)) 
          (pss_one (ps_set (i := 4) sc_law_filled.nd rfl (Or.inl rfl) (pe_op op_rep (pe_lst (pa_cons pe_int pa_nil)) pe_int))) pss_nil) 
        (pss_cons (ps_if (pt_cmpR op_eq (pe_ix ix_list (pv 3) pe_int (fun _ _ => rfl)) pe_int (nomark _)) 
          (pss_one (ps_set (i := 4) sc_law_filled.nd rfl (Or.inl rfl) (pe_op op_rep (pe_lst (pa_cons (pe_ix ix_list (pv 3) pe_int (fun _ _ => rfl)) pa_nil)) pe_int))) pss_nil) 
        (pss_cons (ps_if (pt_cmpR op_gt (pe_ix ix_list (pv 3) pe_int (fun _ _ => rfl)) pe_int (nomark _)) 
          (pss_cons (ps_set (i := 4) sc_law_filled.nd rfl (Or.inl rfl) (pe_lst pa_nil)) 
          (pss_one (ps_for PassesOwn.never rfl (pi_range1 rfl T.range_ (pa_cons pe_int pa_nil)) (pg_name (i := 5) sc_law_filled.nd rfl (Or.inl rfl)) 
            (pss_cons (ps_set (i := 6) sc_law_filled.nd rfl (Or.inl rfl) (pe_op op_add (pe_op op_mul (pe_op op_add (pe_op op_mul (pe_ix ix_list (pv 3) pe_int (fun _ _ => rfl)) (pv 5)) (pe_ix ix_list (pv 3) pe_int (fun _ _ => rfl))) (pv 5)) (pe_ix ix_list (pv 3) pe_int (fun _ _ => rfl)))) 
            (pss_one (ps_expr (pe_bm PySem.F.plainAttrs_list PySem.F.slot_list_append PySem.F.type_list_append mt_append (pv 4) (pa_cons (pe_op op_mod (pe_op op_fdiv (pe_op op_mod (pv 6) pe_int) pe_int) pe_int) pa_nil)))))))) pss_nil) 
        (pss_one (ps_ret (pe_tup (pa_cons (pe_op op_cat (pe_callTy call_list_of (by rfl) T.list_ (by decide +kernel) (pa_cons (pv 2) pa_nil)) (pe_slice sl_list (pv 4) (po_some (pe_callB call_len_seq (by rfl) T.len_ (by decide +kernel) (pa_cons (pv 2) pa_nil))) po_none)) (pa_cons (pe_ix ix_list (pv 3) pe_int (fun _ _ => rfl)) pa_nil)))))))))), ?_⟩
    walk_at "ps"
    refine ⟨(by show 6 ≤ sizeLine; decide), fun p1 f1 => ?_⟩
    have s1 := Same.new (o := .lst ([2, 5, 256, 65519, 65519, 65519].map nV)) f1
    have e1 : upd H p1 (.lst ([2, 5, 256, 65519, 65519, 65519].map nV)) p1 = _ := upd_same
    refine ⟨c, salt, p1, [2, 5, 256, 65519, 65519, 65519], rfl, SqL.of e1, (by decide), (by decide), fun H2 p2 ds s2 f2 e2 hd => ?_⟩
    have sA : Same H H2 := s1.trans s2
    have f2H : H p2 = none := s1.free f2
    obtain ⟨d0, d1, d2, d3, d4, d5, rfl, b0, b1, b2, b3, b4, b5⟩ : ∃ d0 d1 d2 d3 d4 d5, ds = [d0, d1, d2, d3, d4, d5] ∧ d0 < 2 ∧ d1 < 5 ∧ d2 < 256 ∧ d3 < 65519 ∧ d4 < 65519 ∧ d5 < 65519 := by
      match ds, hd with
      | [d0, d1, d2, d3, d4, d5], ⟨b0, b1, b2, b3, b4, b5, _⟩ => exact ⟨d0, d1, d2, d3, d4, d5, rfl, b0, b1, b2, b3, b4, b5⟩
    have hD := SqL.of (K := K) e2
    clear hd e1
    walk_at "ps"
    refine ⟨by decide, fun p3 f3 => ⟨p3, 256, [nV 0], rfl, rfl, upd_same, by decide, by decide, by decide, fun p4 f4 => ?_⟩⟩
    obtain ⟨s4, hD4, rs, hl, hb, e4⟩ := repFact (x := 0) sA hD f3 f4 (by first | decide | assumption)
    walk_at "ps"
    refine iteD (fun h => ?_) (fun h => ?_)
    rotate_left
    rotate_left
    walk_at "ps"
    refine ⟨by decide, fun p3 f3 => ⟨p3, 256, [nV 255], rfl, rfl, upd_same, by decide, by decide, by decide, fun p4 f4 => ?_⟩⟩
    obtain ⟨s4, hD4, rs, hl, hb, e4⟩ := repFact (x := 255) s4 hD4 f3 f4 (by first | decide | assumption)
    all_goals
      walk_at "ps"
      refine iteD (fun h2 => ?_) (fun h2 => ?_)
      rotate_left
      rotate_left
      walk_at "ps"
      refine ⟨(by show 1 ≤ sizeLine; decide), fun p3 f3 => ⟨p3, 256, [nV d2], rfl, rfl, upd_same, by decide, by decide, (by show 1 * 256 ≤ sizeLine; decide), fun p4 f4 => ?_⟩⟩
      obtain ⟨s4, hD4, rs, hl, hb, e4⟩ := repFact (x := d2) s4 hD4 f3 f4 (by first | decide | assumption)
    all_goals
      walk_at "ps"
      refine iteD (fun h3 => ?_) (fun h3 => ?_)
      · refine ⟨by decide, fun p5 f5 => ?_⟩
        obtain ⟨Hk, sk, hDk, fk, sn, en⟩ := preLoop s4 hD4 f5
        walk_at "ps"
        refine ⟨by decide, by decide, for_range (lo := 0) (n := 256) (fun i σ H' => Same Hk H' ∧ H' p5 = some (.lst (((List.range i).map fun k => ((d3 * k + d4) * k + d5) % 65519 / 7 % 256).map nV)) ∧ ∃ v u, σ = [some (.int c), some (.int salt), some (.ref a), some (.ref p2), some (.ref p5), v, u]) ⟨sn, en, _, _, rfl⟩ ?_ ?_⟩
        · rintro i σ H' hi ⟨s5, e5, v, u, rfl⟩
          have hD5 := s5.leq hDk
          walk_at "ps"
          refine ⟨.inr ⟨by omega, by omega⟩, ?_⟩
          walk_at "ps"
          refine ⟨.inr ⟨by omega, by omega⟩, ?_⟩
          walk_at "ps"
          refine ⟨.inl ⟨rfl, _, SqL.of e5⟩, ?_⟩
          walk_at "ps"
          refine ⟨p5, _, _, rfl, rfl, e5, ?_, ?_⟩
          · rw [List.length_map, List.length_map, List.length_range]
            exact Nat.lt_of_lt_of_le hi (by decide)
          walk_at "ps"
          refine ⟨fun b o eb => ?_, ?_, _, _, rfl⟩
          · rw [upd_ne (ne_of_none eb fk)]
            exact s5 b o eb
          · have ev := powEv d3 d4 d5 i
            rw [upd_same, List.range_succ, List.map_append, List.map_append]
            dsimp only
            rw [ev]
            rfl
        · rintro σ H' ⟨s5, e5, v, u, rfl⟩
          have s4 := sk.trans s5
          have hD4 := s5.leq hDk
          have e4 := e5
          obtain ⟨rs, hl, hb, e4⟩ : ∃ rs : List Nat, rs.length = 256 ∧ (∀ y ∈ rs, y < 256) ∧ H' p5 = some (.lst (rs.map nV)) := ⟨_, by rw [List.length_map, List.length_range], fun y hy => by
            obtain ⟨j, _, rfl⟩ := List.mem_map.mp hy
            exact Nat.mod_lt _ (by decide), e5⟩
          have hF4 := s4.teq hF
          walk_at "ps"
          refine ⟨a, _, rfl, .inr hF4, fun l1 g1 => ?_⟩
          have t1 := Same.new (o := .lst (fr.map nV)) g1
          have hF5 := t1.teq hF4
          have hR5 := t1.leq (SqL.of (K := K) e4)
          have hD5 := t1.leq hD4
          walk_at "ps"
          refine ⟨a, _, rfl, .inr hF5, ?_⟩
          rw [List.length_map]
          walk_at "ps"
          refine ⟨_, _, rfl, hR5, fun l2 g2 => ?_⟩
          have t2 := Same.new (o := .lst (cutV (rs.map nV) (some (fr.length : Int)) none)) g2
          refine ⟨l1, l2, _, _, rfl, rfl, t2 _ _ upd_same, upd_same, ?_, fun l3 g3 => ?_⟩
          · have h1 := cutV_length (rs.map nV) (some (fr.length : Int)) none
            have lz : 5000 ≤ sizeLine := by decide
            rw [List.length_map] at h1 ⊢
            omega
          have t3 := Same.new (o := .lst (fr.map nV ++ cutV (rs.map nV) (some (fr.length : Int)) none)) g3
          have hD6 := t3.leq (t2.leq hD5)
          walk_at "ps"
          refine ⟨(by show 2 ≤ sizeLine; decide), fun p6 f6 => ?_⟩
          have sZ := ((s4.trans t1).trans t2).trans t3
          refine k _ p6 l3 (fr ++ rs.drop fr.length) d0 (sZ.trans (Same.new f6)) (sZ.free f6) ?_ ?_ ?_ b0 ?_ upd_same
          · refine (Same.new f6) _ _ (upd_is ?_)
            rw [cut_drop _ _ (by omega), List.map_append]
          · rw [List.length_append, List.length_drop]
            omega
          · intro x hx
            rcases List.mem_append.mp hx with q | q
            · exact hfr x q
            · exact hb x (List.mem_of_mem_drop q)
          · intro i hi
            exact List.getElem?_append_left hi
      · have hF4 := s4.teq hF
        walk_at "ps"
        refine ⟨a, _, rfl, .inr hF4, fun l1 g1 => ?_⟩
        have t1 := Same.new (o := .lst (fr.map nV)) g1
        have hF5 := t1.teq hF4
        have hR5 := t1.leq (SqL.of (K := K) e4)
        have hD5 := t1.leq hD4
        walk_at "ps"
        refine ⟨a, _, rfl, .inr hF5, ?_⟩
        rw [List.length_map]
        walk_at "ps"
        refine ⟨_, _, rfl, hR5, fun l2 g2 => ?_⟩
        have t2 := Same.new (o := .lst (cutV (rs.map nV) (some (fr.length : Int)) none)) g2
        refine ⟨l1, l2, _, _, rfl, rfl, t2 _ _ upd_same, upd_same, ?_, fun l3 g3 => ?_⟩
        · have h1 := cutV_length (rs.map nV) (some (fr.length : Int)) none
          have lz : 5000 ≤ sizeLine := by decide
          rw [List.length_map] at h1 ⊢
          omega
        have t3 := Same.new (o := .lst (fr.map nV ++ cutV (rs.map nV) (some (fr.length : Int)) none)) g3
        have hD6 := t3.leq (t2.leq hD5)
        walk_at "ps"
        refine ⟨(by show 2 ≤ sizeLine; decide), fun p6 f6 => ?_⟩
        have sZ := ((s4.trans t1).trans t2).trans t3
        refine k _ p6 l3 (fr ++ rs.drop fr.length) d0 (sZ.trans (Same.new f6)) (sZ.free f6) ?_ ?_ ?_ b0 ?_ upd_same
        · refine (Same.new f6) _ _ (upd_is ?_)
          rw [cut_drop _ _ (by omega), List.map_append]
        · rw [List.length_append, List.length_drop]
          omega
        · intro x hx
          rcases List.mem_append.mp hx with q | q
          · exact hfr x q
          · exact hb x (List.mem_of_mem_drop q)
        · intro i hi
          exact List.getElem?_append_left hi
end
end TL
set_option Elab.async false
set_option linter.all false
set_option maxRecDepth 100000
set_option maxHeartbeats 4000000
namespace TL
open PySem PySem.Spec PyProof.Rows L2
/-! ### enumerate over a tuple -/
theorem enum_new {v : Value} {o : Obj} {G : Heap → Prop} (B : Begins v o G) : Meets (Builtin.«enumerate.__new__» ⟨[.type "enumerate", v], []⟩) (fun _ R s => G s.heap ∧ R (.ok (.ret (.ref (s.heap.push o).objs.size))) { s with heap := (s.heap.push o).push { cls := .type "enumerate", data := .fields #[.none, .bool false, .ref s.heap.objs.size, rawInt 0, .none, .none] } }) :=
  .of_wp fun pg ww A R s h => by
    obtain ⟨hp, g, d, tk, os⟩ := s
    obtain ⟨h1, h⟩ := h
    have hsub := sub_enumerate
    have q1 : ∀ {A' : Around} {E : Value → Shared → Prop} {Q : Value → Shared → Prop}, Q (.ref hp.objs.size) ⟨hp.push o, g, d, tk, os⟩ → wpAny (PySem.model pg ww) A' (pyIter v) Q E ⟨hp, g, d, tk, os⟩ := fun q => B.iter pg ww _ _ ⟨hp, g, d, tk, os⟩ _ h1 q
    wp_walk using q1
    refine wpAny_stack_any fun st => wpAny_pure ?_
    split
    · rename_i c _ _ _ _ _
      cases (c == Value.type "enumerate") <;> (wp_walk using q1; exact ⟨_, rfl, h⟩)
    · wp_walk using q1
      exact ⟨_, rfl, h⟩
theorem enum_call {pg : Program} {ww : World} {A : Around} {E : Value → Shared → Prop} {s : Shared} {v : Value} {o : Obj} {G : Heap → Prop} {Q : Value → Shared → Prop} (B : Begins v o G) (h1 : G s.heap)
    (h : ∀ h', IsEnum h' (s.heap.objs.size + 1) s.heap.objs.size 0 .none → h'.get? s.heap.objs.size = some o → (∀ b u, s.heap.get? b = some u → h'.get? b = some u) → Q (.ref (s.heap.objs.size + 1)) { s with heap := h' }) :
    wpAny (PySem.model pg ww) A (call (.type "enumerate") [v]) Q E s := by
  refine callType_new F.called_enumerate (by decide) (F.typeCall_enumerate_1 _) (F.newCall_enumerate_1 _) (fun obj => F.args_object_init_2 obj _) F.entry_enumerate_new (enum_new B) ⟨h1, ?_⟩
  have hz : (s.heap.push o).objs.size = s.heap.objs.size + 1 := Heap.size_push ..
  show _ ∧ _
  rw [hz]
  have he : IsEnum ((s.heap.push o).push { cls := .type "enumerate", data := .fields #[.none, .bool false, .ref s.heap.objs.size, rawInt 0, .none, .none] }) (s.heap.objs.size + 1) s.heap.objs.size 0 .none := by
    have q := Heap.get?_push_size (s.heap.push o) (o := { cls := .type "enumerate", data := .fields #[.none, .bool false, .ref s.heap.objs.size, rawInt 0, .none, .none] }) rfl
    rw [hz] at q
    exact q
  exact ⟨⟨_, he, rfl⟩, h _ he (Heap.get?_push_of_some _ (Heap.get?_push_size _ B.free)) fun b u x => Heap.get?_push_of_some _ (Heap.get?_push_of_some _ x)⟩
/-- the tuple at a as it stands at each turn, each item in a new pair -/
def ItEt (K : PySem.W.Frag) (a : Addr) : It where
  go := fun i H => ∃ (xs : List V) (x : V), SqT K H a xs ∧ xs[i]? = some x
  yld := fun i H v H' => ∃ T x, v = .ref T ∧ H T = none ∧ H' = upd H T (.tup [.int (i : Nat), x]) ∧ ∀ xs, SqT K H a xs → xs[i]? = some x
  stop := fun i H => ∃ xs : List V, SqT K H a xs ∧ xs.length = i
theorem turn_et {P : Program} {w : World} {K : PySem.W.Frag} {elts : List Expr} {kk : Nat} {tpos : Pos} (a e it : Addr) :
    Turn P w K (.Tuple elts kk tpos) (ItEt K a) [e, it] e (fun i h => (∃ old, IsEnum h e it ((i : Nat) : Int) old) ∧ h.IsTupleIter it a i ∧ e ≠ it) where
  mem := by simp
  obj := fun i h st b hb => by
    obtain ⟨⟨old, he⟩, ⟨u, hu, hc, hd⟩, _⟩ := st
    rcases (show b = e ∨ b = it by simpa using hb) with z | z <;> subst z
    · exact ⟨_, he, fun v q => nomatch q⟩
    · exact ⟨u, hu, fun v q => by rw [hd] at q; cases q⟩
  keep := fun i h h' st k => by
    obtain ⟨⟨old, he⟩, hi, hne⟩ := st
    exact ⟨⟨old, k e (by simp) _ he⟩, hi.at fun o q => k it (by simp) o q, hne⟩
  item := by
    intro X hP hw hK hc i pins s σ H E I hf st hg
    subst hP hw hK
    obtain ⟨⟨old, he⟩, hit, hne⟩ := st
    obtain ⟨xs, x, hq, hx⟩ := hg
    obtain ⟨its, rv, p, hz⟩ := I.tuple hq
    obtain ⟨u, hu, ru⟩ := rv.get hx
    have hel : e < s.heap.objs.size := Heap.lt_size he
    have hil : it < s.heap.objs.size := by
      obtain ⟨_, q, _⟩ := hit
      exact Heap.lt_size q
    have hp : s.heap.IsTuple a its.toArray := p
    have hea : e ≠ a := fun z => by
      obtain ⟨u, hu, hc, _⟩ := hp
      rw [← z, he] at hu
      cases hu
      have hc : Value.type "enumerate" = Value.type "tuple" := hc
      exact absurd hc (by decide)
    have hai : a ≠ it := fun z => by
      obtain ⟨u, hu, hc, _⟩ := hp
      obtain ⟨v, hv, hd, _⟩ := hit
      rw [z, hv] at hu
      cases hu
      rw [hd] at hc
      exact absurd hc (by decide)
    have D := Draws.tuple (prog := X.prog) (w := X.w) (A := X.A.in1) (show X.A.in1.handled = none from I.ok.hd hc) it a hai its.toArray
    have hlt : i < its.toArray.size := by
      have := (List.getElem?_eq_some_iff.mp hu).1
      simpa using this
    refine wpAny_pyNext_enum_itemC (c := (i : Int)) D he ⟨hit, hp⟩ hlt hne (by simp [hne, hea]) fun y h' tk hy ho hst hT hsz hk => ?_
    obtain ⟨hit', _⟩ := hst
    have ey : y = u := by
      have hy' : its.toArray[i]? = some y := hy
      rw [List.getElem?_toArray, hu] at hy'
      exact (Option.some.inj hy').symm
    subst ey
    refine ⟨_, rfl, wpAny_letOwnedTupleGo_enum (s := { s with heap := h', toks := tk + 1 }) ho fun h'' he' sb => ?_⟩
    have hT2 : h''.get? s.heap.objs.size = some { cls := .type "tuple", data := .seq #[.int i tk, y] } := (sb.2 _ (Nat.ne_of_gt hel)).trans hT
    have new : ObjOk X.prog X.w (upd H s.heap.objs.size (.tup [.int (i : Nat), x])) h'' s.heap.objs.size (.tup [.int (i : Nat), x]) := ⟨by show 2 ≤ sizeLine; decide, [.int i tk, y], .cons ⟨_, rfl⟩ (.cons ru .nil), ⟨_, hT2, rfl, _, rfl⟩⟩
    have I1 : Inv X pins σ (upd H s.heap.objs.size (.tup [.int (i : Nat), x])) { s with heap := h'', toks := tk + 1 } :=
      I.turnedNew (ch := [e, it]) (fun b ob hb q => (sb.2 b (fun z => hb (by simp [z]))).trans (hk b ob (fun z => hb (by simp [z])) (fun z => hb (by simp [z])) q)) hf (Nat.le_refl _) new
    refine ⟨.ref s.heap.objs.size, _, I1, rfl, ⟨_, x, rfl, I.hok.fresh (Nat.le_refl _), rfl, fun ys hy => by rw [I.tuple_inj hy hq]; exact hx⟩, ⟨⟨y, ?_⟩, hit'.at fun o q => (sb.2 it (Ne.symm hne)).trans q, hne⟩, fun b hb => ?_⟩
    · rw [show ((i + 1 : Nat) : Int) = (i : Int) + 1 by omega]
      exact he'
    · have hb' : b < s.heap.objs.size := by
        rcases (show b = e ∨ b = it by simpa using hb) with z | z <;> subst z
        · exact hel
        · exact hil
      rw [upd_ne (Nat.ne_of_lt hb')]
      exact (hf b hb).1
  done := by
    intro X hP hw hK hc i pins s σ H E I hf st hg
    subst hP hw hK
    obtain ⟨⟨old, he⟩, hit, hne⟩ := st
    obtain ⟨xs, hq, hx⟩ := hg
    obtain ⟨its, rv, p, hz⟩ := I.tuple hq
    obtain ⟨f0, f1, f2, f3, f4, f5⟩ := hf it (by simp)
    have hl := rv.length
    have hp : s.heap.IsTuple a its.toArray := p
    have hai : a ≠ it := fun z => by
      obtain ⟨u, hu, hc, _⟩ := hp
      obtain ⟨v, hv, hd, _⟩ := hit
      rw [z, hv] at hu
      cases hu
      rw [hd] at hc
      exact absurd hc (by decide)
    have D := Draws.tuple (prog := X.prog) (w := X.w) (A := X.A.in1) (show X.A.in1.handled = none from I.ok.hd hc) it a hai its.toArray
    have hn : its.toArray.size = i := by simp; omega
    subst hn
    exact wpAny_pyNext_enum_endD D he ⟨hit, hp⟩ fun h' eb => ⟨rfl, I.turned (t' := s.toks) (fun b o hb q => eb b o hb q) f0 f1 f3 f4 f5⟩
  self := fun A i s Q E st h => by
    obtain ⟨⟨_, he⟩, _⟩ := st
    exact wpAny_pyIter_enum he h
def iEt (K : PySem.W.Frag) (ta : TA) : TI := fun σ H R => ta σ H fun vs H1 => ∃ a xs, vs = [.ref a] ∧ SqT K H1 a xs ∧ R (ItEt K a) H1
theorem pi_enumT {X : Cx} {e : Expr} {ta : TA} {p pos tpos : Pos} {elts : List Expr} {kk : Nat} (hg : Gl X "enumerate") (hm : X.mg "enumerate" = none) (ha : PA X [e] ta) (hs : starEach [e] X.env = [(false, eval e X.env)] := by rfl) : PI X (.Tuple elts kk tpos) (.Call (.Name "enumerate" p) [e] [] pos) (iEt X.K ta) := by
  refine ⟨fun pins s σ H R I h => Call_ (ld_blt I hg hm boot_enumerate (PyProof.Rows.callWith_type1 (thn (ha.run pos pins s σ H _ I h) fun us s1 ⟨vs, H1, I1, r1, q1⟩ => ?_) hs rfl))⟩
  obtain ⟨a, xs, ex, hq, q⟩ := q1
  subst ex
  cases r1 with
  | cons r rr =>
    cases rr
    cases r
    obtain ⟨its, rv, p', hz⟩ := I1.tuple hq
    refine enum_call (begins_tuple a its.toArray) p' fun h' he hit hk => wpAny_pyIter_enum he ?_
    have I2 : Inv X pins σ H1 { s1 with heap := h' } := I1.kept (t' := s1.toks) hk
    refine ⟨s1.heap.objs.size + 1, [s1.heap.objs.size + 1, s1.heap.objs.size], _, _, H1, rfl, I2, turn_et a (s1.heap.objs.size + 1) s1.heap.objs.size, ⟨⟨.none, he⟩, ⟨_, hit, rfl, rfl⟩, Nat.succ_ne_self _⟩, fun b hb => ?_, q⟩
    have hle : s1.heap.objs.size ≤ b := by
      rcases (show b = s1.heap.objs.size + 1 ∨ b = s1.heap.objs.size by simpa using hb) with z | z <;> rw [z]
      · exact Nat.le_add_right _ _
      · exact Nat.le_refl _
    exact I1.fpOk hle (I1.hok.fresh hle)
theorem walk_et {K : PySem.W.Frag} {a : Addr} {xs : List V} : Walk (ItEt K a) xs.length (fun H => SqT K H a xs) (YPair (fun i => some (.int (i : Nat))) (fun i => xs[i]?)) := by
  refine ⟨fun i _ hi q => ⟨xs, xs[i], q, by simp [hi]⟩, fun _ q => ⟨xs, q, rfl⟩, fun i H v H' _ q y => ?_⟩
  obtain ⟨T, x, h1, h2, h3, h4⟩ := y
  exact ⟨T, .int (i : Nat), x, h1, h2, h3, rfl, h4 xs q⟩
end TL
set_option Elab.async false
set_option linter.all false
set_option maxRecDepth 100000
set_option pp.maxSteps 600
set_option maxHeartbeats 4000000
namespace TL
open PySem PySem.Spec PyProof.Rows L2
/-- one question answered, where its answer is plain -/
local macro_rules | `(tactic| walk_at "p") => `(tactic| first
  | refine ⟨_, rfl, ?_⟩
  | refine ⟨_, _, rfl, rfl, ⟨by decide, by decide⟩, ?_⟩
  | refine ⟨_, _, rfl, rfl, (by show (0 : Int) < _; decide), ?_⟩
  | refine ⟨_, _, rfl, rfl, ?_⟩
  | refine ⟨rfl, ?_⟩
  | refine ⟨_, _, _, _, rfl, rfl, (by assumption), rfl, ?_⟩
  | refine .inr ⟨_, rfl, ?_⟩
  | refine .inl ⟨_, rfl, ?_⟩
  | refine iteT ?_
  | refine iteF ?_)
local macro_rules | `(tactic| walk_at "ps") => `(tactic| repeat walk_at "p")

def spRun (K : PySem.W.Frag) : Sp := fun vs H Q _ => ∃ (q a : Addr) (rs : List SR) (cs : List Nat) (s : S), vs = [.ref q, .ref a, nV s.m] ∧ PAt H q rs ∧ SqL K H a (cs.map nV) ∧ Rel cs s ∧ (∀ r ∈ rs, RowOk r) ∧
  ∀ H' p b cs', Same H H' → H p = none → H' b = some (.lst (cs'.map nV)) → Rel cs' (exec rs s) → H' p = some (.tup [.ref b, nV (exec rs s).m]) → Q (.ref p) H'
theorem orNat {x y : Nat} (hx : x < 256) (hy : y < 256) : Builtin.bitOr (x : Int) (y : Int) = ((x ||| y : Nat) : Int) := by
  rw [Bits.bitOr_pp (Int.natCast_nonneg x) (Int.natCast_nonneg y), Int.toNat_natCast, Int.toNat_natCast]
section
variable {P : Program} {w : World} {K : PySem.W.Frag} {mg : Str → Option Value} {base : Heap}
theorem sc_law_run : FnScope ["_law_program", "_law_cells", "_law_mark", "_law_tables", "_law_rows", "_law_row", "_law_word", "_law_a", "_law_total"] ["_law_program", "_law_cells", "_law_mark"] (defScope (top 161)) := ⟨rfl, rfl, rfl, by decide +kernel, rfl, by decide +kernel, by decide +kernel⟩
theorem d_law_run (T : TX w K mg) : DefOk P w K mg base 1 152 "_law_run" ["_law_program", "_law_cells", "_law_mark"] (spRun K) := by
  refine mkDef T 143 rfl rfl sc_law_run (fun _ _ _ _ _ _ us hl => match us, hl with | [_, _, _], _ => rfl) (fun vs H Q E h => ?_) (fun f cdv A outer s H vs Q E hr h => ?_)
  · obtain ⟨q, a, rs, cs, s0, rfl, ⟨tt, rt, ts, ps, eq, et, er, hT, hR⟩, hL, hrel, hok, k⟩ := h
    rfl
  · obtain ⟨q, a, rs, cs, s0, rfl, ⟨tt, rt, ts, ps, eq, et, er, hT, hR⟩, hL, hrel, hok, k⟩ := h
    refine ⟨_, 
        (pss_cons (ps_asg (pv 0) (pg_tup rfl (pgs_cons (pg_name (i := 3) sc_law_run.nd rfl (Or.inl rfl)) (pgs_cons (pg_name (i := 4) sc_law_run.nd rfl (Or.inl rfl)) pgs_nil)))) 
        (pss_cons (ps_set (i := 1) sc_law_run.nd rfl (Or.inl rfl) (pe_callTy call_list_of (by rfl) T.list_ (by decide +kernel) (pa_cons (pv 1) pa_nil))) 
        (pss_cons (ps_for PassesOwn.never rfl (pi_tup (pv 4)) (pg_name (i := 5) sc_law_run.nd rfl (Or.inl rfl)) 
          (pss_cons (ps_set (i := 6) sc_law_run.nd rfl (Or.inl rfl) (pe_ix ix_tup (pv 5) pe_int (fun _ _ => rfl))) 
          (pss_cons (ps_set (i := 7) sc_law_run.nd rfl (Or.inl rfl) (pe_ix ix_tup (pv 5) pe_int (fun _ _ => rfl))) 
          (pss_one (ps_if (pt_cmpR op_eq (pv 6) pe_str (nomark _)) 
            (pss_one (ps_asg (pe_ix ix_list (pv 1) (pe_ix ix_tup (pv 5) pe_int (fun _ _ => rfl)) (fun _ _ => rfl)) (pg_sub (pv 1) (pv 7) set_list))) 
            (pss_one (ps_if (pt_cmpR op_eq (pv 6) pe_str (nomark _)) 
              (pss_one (ps_asg (pe_ix ix_tup (pe_ix ix_tup (pv 3) (pe_ix ix_tup (pv 5) pe_int (fun _ _ => rfl)) (fun _ _ => rfl)) (pe_ix ix_list (pv 1) (pv 7) (fun _ _ => rfl)) (fun _ _ => rfl)) (pg_sub (pv 1) (pv 7) set_list))) 
              (pss_one (ps_if (PW.pt (pw_or (pt_cmpR op_eq (pv 6) pe_str (nomark _)) (pw_or1 (pt_cmpR op_eq (pv 6) pe_str (nomark _))))) 
                (pss_cons (ps_set (i := 8) sc_law_run.nd rfl (Or.inl rfl) (pe_op op_add (pe_op op_add (pe_ix ix_list (pv 1) (pv 7) (fun _ _ => rfl)) (pe_ix ix_list (pv 1) (pe_ix ix_tup (pv 5) pe_int (fun _ _ => rfl)) (fun _ _ => rfl))) (pe_op op_mul (pv 2) (pe_callTy call_int1 (by rfl) T.int_ (by decide +kernel) (pa_cons (pe_cmpR op_eq (pv 6) pe_str (nomark _)) pa_nil))))) 
                (pss_cons (ps_asg (pe_op op_mod (pv 8) pe_int) (pg_sub (pv 1) (pv 7) set_list)) 
                (pss_one (ps_set (i := 2) sc_law_run.nd rfl (Or.inl rfl) (pe_op op_fdiv (pv 8) pe_int))))) 
                (pss_one (ps_if (pt_cmpR op_eq (pv 6) pe_str (nomark _)) 
                  (pss_one (ps_asg (pe_ix ix_tup (pv 5) pe_int (fun _ _ => rfl)) (pg_sub (pv 1) (pv 7) set_list))) 
                  (pss_one (ps_if (pt_cmpR op_eq (pv 6) pe_str (nomark _)) 
                    (pss_one (ps_asg (pe_op op_and (pe_ix ix_list (pv 1) (pv 7) (fun _ _ => rfl)) (pe_ix ix_list (pv 1) (pe_ix ix_tup (pv 5) pe_int (fun _ _ => rfl)) (fun _ _ => rfl))) (pg_sub (pv 1) (pv 7) set_list))) 
                    (pss_one (ps_if (pt_cmpR op_eq (pv 6) pe_str (nomark _)) 
                      (pss_one (ps_asg (pe_op op_or (pe_ix ix_list (pv 1) (pv 7) (fun _ _ => rfl)) (pe_ix ix_list (pv 1) (pe_ix ix_tup (pv 5) pe_int (fun _ _ => rfl)) (fun _ _ => rfl))) (pg_sub (pv 1) (pv 7) set_list))) 
                      (pss_one (ps_if (pt_cmpR op_eq (pv 6) pe_str (nomark _)) 
                        (pss_cons (ps_set (i := 8) sc_law_run.nd rfl (Or.inl rfl) (pe_op op_add (pe_op op_mul pe_int (pe_ix ix_list (pv 1) (pv 7) (fun _ _ => rfl))) (pv 2))) 
                        (pss_cons (ps_asg (pe_op op_mod (pv 8) pe_int) (pg_sub (pv 1) (pv 7) set_list)) 
                        (pss_one (ps_set (i := 2) sc_law_run.nd rfl (Or.inl rfl) (pe_op op_fdiv (pv 8) pe_int))))) 
                        (pss_one (ps_if (pt_cmpR op_eq (pv 6) pe_str (nomark _)) 
                          (pss_cons (ps_set (i := 8) sc_law_run.nd rfl (Or.inl rfl) (pe_op op_add (pe_ix ix_list (pv 1) (pv 7) (fun _ _ => rfl)) (pe_op op_mul pe_int (pv 2)))) 
                          (pss_cons (ps_asg (pe_op op_fdiv (pv 8) pe_int) (pg_sub (pv 1) (pv 7) set_list)) 
                          (pss_one (ps_set (i := 2) sc_law_run.nd rfl (Or.inl rfl) (pe_op op_mod (pv 8) pe_int))))) 
                          (pss_one (ps_set (i := 2) sc_law_run.nd rfl (Or.inl rfl) (pv 7)))))))))))))))))))))) 
        (pss_one (ps_ret (pe_tup (pa_cons (pv 1) (pa_cons (pv 2) pa_nil)))))))), ?_⟩
    walk_at "ps"
    refine ⟨_, _, rfl, SqT.of eq, rfl, _, _, rfl, _, _, rfl, rfl, ?_⟩
    walk_at "ps"
    refine ⟨a, _, rfl, .inl hL, fun b fb => ?_⟩
    have s1 := Same.new (o := .lst (cs.map nV)) fb
    have e1 : upd H b (.lst (cs.map nV)) b = _ := upd_same
    walk_at "ps"
    refine ⟨⟨_, SqT.of (s1 _ _ er)⟩, for_tup (K := K) (a := rt) (xs := ps.map V.ref) (fun i σ H' => Same H H' ∧ ∃ cs' : List Nat, H' b = some (.lst (cs'.map nV)) ∧ Rel cs' (exec (rs.take i) s0) ∧ ∃ v5 v6 v7 v8, σ = [some (.ref q), some (.ref b), some (nV (exec (rs.take i) s0).m), some (.ref tt), some (.ref rt), v5, v6, v7, v8]) ⟨s1, cs, e1, hrel, _, _, _, _, rfl⟩ (fun i σ H' _ h => h.1.teq (SqT.of er)) ?_ ?_⟩
    · rintro i x σ H' hx ⟨s2, cs', e2, h2, v5, v6, v7, v8, rfl⟩
      rw [List.getElem?_map] at hx
      obtain ⟨p, hp, rfl⟩ := Option.map_eq_some_iff.mp hx
      have hil : i < rs.length := by
        rw [← hR.length]
        exact (List.getElem?_eq_some_iff.mp hp).1
      obtain ⟨p', hp', er1⟩ := hR.get (List.getElem?_eq_getElem hil)
      obtain rfl : p = p' := Option.some.inj (hp.symm.trans hp')
      have hro := hok rs[i] (List.getElem_mem hil)
      have hlk := lookIn_worths rs
      have hmem := List.getElem_mem hil
      have htk : exec (rs.take (i + 1)) s0 = step rs[i] (exec (rs.take i) s0) := by
        rw [List.take_succ, List.getElem?_eq_getElem hil]
        show List.foldl _ _ _ = _
        rw [List.foldl_append]
        rfl
      rw [htk]
      generalize exec (rs.take i) s0 = z at *
      generalize rs[i] = r at *
      have hP := SqT.of (K := K) (s2 _ _ er1)
      have hC := SqL.of (K := K) e2
      have gt : ∀ j, j < 256 → atI (cs'.map nV) ((j : Nat) : Int) = some (nV (z.c j)) := fun j hj => atI_nat (by rw [List.getElem?_map, h2.at_ j hj]; rfl)
      have ixn : ∀ j, j < 256 → ixN (cs'.map nV).length ((j : Nat) : Int) = some j := fun j hj => by
        rw [List.length_map, h2.len]
        unfold ixN
        rw [if_pos (by omega), if_pos (by omega), Int.toNat_natCast]
      have su : ∀ o : HO, Same H (upd H' b o) := fun o d u eb => by
        rw [upd_ne (ne_of_none eb fb)]
        exact s2 d u eb
      cases r with
      | put a1 k1 =>
        obtain ⟨ha, hk⟩ := hro
        walk_at "ps"
        refine ⟨b, _, _, a1, rfl, rfl, e2, ixn a1 ha, ?_⟩
        walk_at "ps"
        refine ⟨su _, cs'.set a1 k1, upd_is (by rw [List.map_set]), h2.set ha hk h2.mark, _, _, _, _, rfl⟩
      | copy a1 b1 =>
        obtain ⟨ha, hb⟩ := hro
        walk_at "ps"
        refine ⟨_, _, _, _, rfl, rfl, hC, gt b1 hb, ?_⟩
        walk_at "ps"
        refine ⟨b, _, _, a1, rfl, rfl, e2, ixn a1 ha, ?_⟩
        walk_at "ps"
        refine ⟨su _, cs'.set a1 (z.c b1), upd_is (by rw [List.map_set]), h2.set ha (h2.low b1 hb) h2.mark, _, _, _, _, rfl⟩
      | add a1 b1 =>
        obtain ⟨ha, hb⟩ := hro
        walk_at "ps"
        refine ⟨_, _, _, _, rfl, rfl, hC, gt a1 ha, ?_⟩
        walk_at "ps"
        refine ⟨_, _, _, _, rfl, rfl, hC, gt b1 hb, ?_⟩
        walk_at "ps"
        have hm := h2.mark
        have q1 := h2.low a1 ha
        have q2 := h2.low b1 hb
        refine ⟨.inl ⟨by omega, by omega⟩, ?_⟩
        rw [if_neg (by decide)]
        walk_at "ps"
        refine ⟨b, _, _, a1, rfl, rfl, e2, ixn a1 ha, ?_⟩
        walk_at "ps"
        have ev : ((z.c a1 : Int) + (z.c b1 : Int) + (z.m : Int) * 0) % 256 = (((z.c a1 + z.c b1) % 256 : Nat) : Int) := by omega
        have ed : ((z.c a1 : Int) + (z.c b1 : Int) + (z.m : Int) * 0) / 256 = (((z.c a1 + z.c b1) / 256 : Nat) : Int) := by omega
        refine ⟨su _, cs'.set a1 ((z.c a1 + z.c b1) % 256), upd_is (by rw [List.map_set]; dsimp only; rw [ev]; rfl), h2.set (m := (z.c a1 + z.c b1) / 256) ha (Nat.mod_lt _ (by decide)) (by omega), some (V.ref p), some (V.str "add"), some (nV a1), some (.int ((z.c a1 : Int) + (z.c b1 : Int) + (z.m : Int) * 0)), ?_⟩
        show [some (V.ref q), some (V.ref b), some (V.int (((z.c a1 : Int) + (z.c b1 : Int) + (z.m : Int) * 0) / 256)), some (V.ref tt), some (V.ref rt), some (V.ref p), some (V.str "add"), some (nV a1), some (.int ((z.c a1 : Int) + (z.c b1 : Int) + (z.m : Int) * 0))] = _
        rw [ed]
        rfl
      | and_ a1 b1 =>
        obtain ⟨ha, hb⟩ := hro
        walk_at "ps"
        refine ⟨_, _, _, _, rfl, rfl, hC, gt a1 ha, ?_⟩
        walk_at "ps"
        refine ⟨_, _, _, _, rfl, rfl, hC, gt b1 hb, ?_⟩
        walk_at "ps"
        refine ⟨b, _, _, a1, rfl, rfl, e2, ixn a1 ha, ?_⟩
        walk_at "ps"
        refine ⟨su _, cs'.set a1 (z.c a1 &&& z.c b1), upd_is (by rw [List.map_set]; rfl), h2.set ha (Nat.lt_of_le_of_lt Nat.and_le_left (h2.low a1 ha)) h2.mark, _, _, _, _, rfl⟩
      | or_ a1 b1 =>
        obtain ⟨ha, hb⟩ := hro
        walk_at "ps"
        refine ⟨_, _, _, _, rfl, rfl, hC, gt a1 ha, ?_⟩
        walk_at "ps"
        refine ⟨_, _, _, _, rfl, rfl, hC, gt b1 hb, ?_⟩
        walk_at "ps"
        refine ⟨b, _, _, a1, rfl, rfl, e2, ixn a1 ha, ?_⟩
        walk_at "ps"
        refine ⟨su _, cs'.set a1 (z.c a1 ||| z.c b1), upd_is (by rw [List.map_set]; dsimp only; rw [orNat (h2.low a1 ha) (h2.low b1 hb)]; rfl), h2.set ha (Nat.or_lt_two_pow (n := 8) (h2.low a1 ha) (h2.low b1 hb)) h2.mark, _, _, _, _, rfl⟩
      | look a1 w1 =>
        have ha : a1 < 256 := hro
        have hw := hlk a1 w1 hmem
        obtain ⟨tp, htp, htv⟩ := hT.get (i := (worths rs).idxOf w1) (b := w1) (by
          rw [List.getElem?_eq_getElem (List.idxOf_lt_length_of_mem hw), List.getElem_idxOf])
        have gT : atI (ts.map V.ref) (((worths rs).idxOf w1 : Nat) : Int) = some (.ref tp) := atI_nat (by rw [List.getElem?_map, htp]; rfl)
        have gV : atI (tableV w1) ((z.c a1 : Nat) : Int) = some (nV (w1.ap (z.c a1))) := atI_nat (by
          unfold tableV
          rw [List.getElem?_map, List.getElem?_range (h2.low a1 ha)]
          rfl)
        walk_at "ps"
        refine ⟨_, _, _, _, rfl, rfl, SqT.of (s2 _ _ et), gT, ?_⟩
        walk_at "ps"
        refine ⟨_, _, _, _, rfl, rfl, hC, gt a1 ha, ?_⟩
        refine ⟨_, _, _, _, rfl, rfl, SqT.of (s2 _ _ htv), gV, ?_⟩
        walk_at "ps"
        refine ⟨b, _, _, a1, rfl, rfl, e2, ixn a1 ha, ?_⟩
        walk_at "ps"
        refine ⟨su _, cs'.set a1 (w1.ap (z.c a1)), upd_is (by rw [List.map_set]), h2.set ha (ap_low w1 _ (h2.low a1 ha)) h2.mark, _, _, _, _, rfl⟩
      | right a1 =>
        have ha : a1 < 256 := hro
        walk_at "ps"
        refine ⟨_, _, _, _, rfl, rfl, hC, gt a1 ha, ?_⟩
        walk_at "ps"
        have hm := h2.mark
        have q1 := h2.low a1 ha
        refine ⟨.inl ⟨by decide, by decide⟩, ?_⟩
        walk_at "ps"
        refine ⟨b, _, _, a1, rfl, rfl, e2, ixn a1 ha, ?_⟩
        walk_at "ps"
        have ev : ((z.c a1 : Int) + 256 * (z.m : Int)) / 2 = (((z.c a1 + 256 * z.m) / 2 : Nat) : Int) := by omega
        have ed : ((z.c a1 : Int) + 256 * (z.m : Int)) % 2 = (((z.c a1 + 256 * z.m) % 2 : Nat) : Int) := by omega
        refine ⟨su _, cs'.set a1 ((z.c a1 + 256 * z.m) / 2), upd_is (by rw [List.map_set]; dsimp only; rw [ev]; rfl), h2.set (m := (z.c a1 + 256 * z.m) % 2) ha (by omega) (by omega), some (V.ref p), some (V.str "right"), some (nV a1), some (.int ((z.c a1 : Int) + 256 * (z.m : Int))), ?_⟩
        show [some (V.ref q), some (V.ref b), some (V.int (((z.c a1 : Int) + 256 * (z.m : Int)) % 2)), some (V.ref tt), some (V.ref rt), some (V.ref p), some (V.str "right"), some (nV a1), some (.int ((z.c a1 : Int) + 256 * (z.m : Int)))] = _
        rw [ed]
        rfl
    · rintro σ H' ⟨s2, cs', e2, h2, v5, v6, v7, v8, rfl⟩
      have et : rs.take (ps.map V.ref).length = rs := by rw [List.length_map, hR.length, List.take_length]
      rw [et] at h2 ⊢
      walk_at "ps"
      refine ⟨(by show 2 ≤ sizeLine; decide), fun p hp => ?_⟩
      exact k _ p b cs' (s2.trans (Same.new hp)) (s2.free hp) ((Same.new hp) _ _ e2) h2 upd_same
end
end TL
set_option Elab.async false
set_option linter.all false
set_option maxRecDepth 100000
set_option maxHeartbeats 4000000
namespace TL
open PySem PySem.Spec PyProof.Rows L2
/-! ### the law's lines -/
theorem str_ext {a b : Str} (h : tl a = tl b) : a = b := by
  obtain ⟨x⟩ := a
  obtain ⟨y⟩ := b
  have h : x.toList = y.toList := h
  rw [Array.toList_inj] at h
  rw [h]
def LName (x : Str) : Prop := x = "one" ∨ x = "two" ∨ x = "a"
/-- a word of a line -/
def Wd (x : Str) : Prop := x ≠ "" ∧ 32 ∉ tl x ∧ x.length ≤ 640
theorem LName.wd {x : Str} (h : LName x) : Wd x := by
  rcases h with rfl | rfl | rfl <;> exact ⟨by decide, by decide, by decide⟩
theorem LName.ok {x : Str} (h : LName x) : nameOk x = true := by
  rcases h with rfl | rfl | rfl <;> decide +kernel
theorem wd_n {n : Nat} (h : n < 25) : Wd (toS (n : Nat)) := by
  have f : ∀ n : Fin 25, toS (n.val : Nat) ≠ "" ∧ 32 ∉ tl (toS (n.val : Nat)) ∧ (toS (n.val : Nat)).length ≤ 640 := by decide +kernel
  exact f ⟨n, h⟩
theorem wd_i {i : Int} (h1 : -12 ≤ i) (h2 : i ≤ 12) : Wd (toS i) := by
  have f : ∀ n : Fin 25, toS ((n.val : Int) - 12) ≠ "" ∧ 32 ∉ tl (toS ((n.val : Int) - 12)) ∧ (toS ((n.val : Int) - 12)).length ≤ 640 := by decide +kernel
  have := f ⟨(i + 12).toNat, by omega⟩
  rw [show (((⟨(i + 12).toNat, by omega⟩ : Fin 25).val : Int) - 12) = i by show (((i + 12).toNat : Nat) : Int) - 12 = i; omega] at this
  exact this
theorem wd_kind (b : Bool) : Wd (kindS b) := by cases b <;> exact ⟨by decide, by decide, by decide⟩
theorem wd_sg (s : Sg) : Wd (sgS s) := by cases s <;> exact ⟨by decide, by decide, by decide⟩
theorem wd_rule (r : Rule) : Wd (ruleS r) := by cases r <;> exact ⟨by decide, by decide, by decide⟩
theorem wd_hex {b : Nat} (h : b ≤ 255) : Wd (hexW b) := by
  refine ⟨fun z => ?_, ?_, by show 2 ≤ 640; decide⟩
  · have := congrArg Str.length z
    exact absurd this (by show ¬ 2 = 0; decide)
  · show 32 ∉ [sgn (b / 16), sgn (b % 16)]
    simp only [List.mem_cons, List.not_mem_nil, or_false, not_or]
    exact ⟨fun h => sgn_ne (by omega) h.symm, fun h => sgn_ne (by omega) h.symm⟩
theorem line_len (wd : Str) (pts : List Pt) (h : ∀ x ∈ lineW wd pts, Wd x) (hl : (lineW wd pts).length ≤ 100) : (lineS wd pts).length ≤ 90000 := by
  unfold lineS
  rw [join_eq]
  have h1 := StrLaws.join_length_le " " (lineW wd pts)
  have e2 : (" " : Str).length = 1 := by decide +kernel
  have h3 : ∀ xs : List Str, (∀ x ∈ xs, Wd x) → (xs.map (·.length)).sum ≤ 640 * xs.length := by
    intro xs
    induction xs with
    | nil => intro _; exact Nat.le_refl _
    | cons x xs ih =>
      intro hx
      have a := ih fun y hy => hx y (by simp [hy])
      have b := (hx x (by simp)).2.2
      rw [List.map_cons, List.sum_cons, List.length_cons]
      omega
  have h4 := h3 _ h
  rw [e2] at h1
  omega
/-- all that a line is asked for -/
structure LineOk (c : Cmd) : Prop where
  pts : ∀ pt ∈ c.pts, pt.ok
  words : ∀ x ∈ lineW c.wd c.pts, x ≠ "" ∧ 32 ∉ tl x
  len : (lineS c.wd c.pts).length ≤ 90000
theorem LineOk.of {c : Cmd} (h1 : ∀ pt ∈ c.pts, pt.ok) (h2 : ∀ x ∈ lineW c.wd c.pts, Wd x) (h3 : (lineW c.wd c.pts).length ≤ 100) : LineOk c :=
  ⟨h1, fun x hx => ⟨(h2 x hx).1, (h2 x hx).2.1⟩, line_len _ _ h2 h3⟩
theorem tl_lit (a b : Str) (h : tl a = tl b ++ [32]) : ∀ c : Str, tl (a ++ c) = tl b ++ ([32] ++ tl c) := fun c => by
  rw [tl_append, h, List.append_assoc]
theorem tl_one : tl (" " : Str) = [32] := by decide
theorem tl_line (x y : Str) (zs : List Str) : tl (Txt.join " " (x :: y :: zs)) = tl x ++ ([32] ++ tl (Txt.join " " (y :: zs))) := by
  rw [join_eq, join_eq, tl_join, tl_join, tl_one]
  rfl
theorem tl_last (x : Str) : tl (Txt.join " " [x]) = tl x := by
  rw [join_eq, tl_join]
  rfl
theorem tl_formF (f : Form) : tl (formF f) = tl (kindS f.packed) ++ ([32] ++ (tl (toS (f.n : Nat)) ++ ([32] ++ (tl (sgS f.sg) ++ ([32] ++ tl (toS (f.pt : Nat))))))) := by
  unfold formF
  simp only [tl_append, tl_one, List.append_assoc]
  rfl
theorem lay_line {x : Str} {f : Form} {bs : List Nat} (hb : bs ≠ []) : ("lay " : Str) ++ x ++ " " ++ formF f ++ " " ++ hexT bs = lineS "lay" [.name x, .shape f, .bytes bs] := by
  apply str_ext
  obtain ⟨b, bs, rfl⟩ := List.exists_cons_of_ne_nil hb
  show _ = tl (Txt.join " " ("lay" :: x :: kindS f.packed :: toS (f.n : Nat) :: sgS f.sg :: toS (f.pt : Nat) :: hexW b :: ((bs.map hexW) ++ [])))
  rw [List.append_nil, tl_line, tl_line, tl_line, tl_line, tl_line, tl_line]
  simp only [tl_append, tl_one, tl_formF, List.append_assoc]
  rfl
theorem turn_line (g : Form) : ("turn a two " : Str) ++ formF g = lineS "turn" [.name "a", .one "two", .shape g] := by
  apply str_ext
  show _ = tl (Txt.join " " ["turn", "a", "two", kindS g.packed, toS (g.n : Nat), sgS g.sg, toS (g.pt : Nat)])
  rw [tl_line, tl_line, tl_line, tl_line, tl_line, tl_line, tl_last]
  simp only [tl_append, tl_formF]
  rfl
theorem move_line (i : Int) (r : Rule) : Str.empty ++ ("move a two " : Str) ++ toS i ++ " " ++ ruleS r = lineS "move" [.name "a", .one "two", .by_ i, .rule r] := by
  apply str_ext
  show _ = tl (Txt.join " " ["move", "a", "two", toS i, ruleS r])
  rw [tl_line, tl_line, tl_line, tl_line, tl_last]
  simp only [tl_append, tl_one, List.append_assoc]
  rfl
theorem bytes_line (y : Str) : ("bytes " : Str) ++ y = lineS "bytes" [.one y] := by
  apply str_ext
  show _ = tl (Txt.join " " ["bytes", y])
  rw [tl_line, tl_last]
  simp only [tl_append]
  rfl
theorem two_line (wd a y z l : Str) (h : tl l = tl wd ++ ([32] ++ (tl a ++ ([32] ++ (tl y ++ ([32] ++ tl z)))))) : l = Txt.join " " [wd, a, y, z] := by
  apply str_ext
  rw [tl_line, tl_line, tl_line, tl_last, h]
theorem order_line : ("order one two" : Str) = lineS "order" [.one "one", .one "two"] := by
  apply str_ext
  show _ = tl (Txt.join " " ["order", "one", "two"])
  rw [tl_line, tl_line, tl_last]
  rfl
theorem lay_ok {x : Str} {f : Form} {ds : List Nat} {sh : Nat} (hx : LName x) (ok : EntOk f ds sh) (hp : f.pt ≤ f.n) : LineOk (.lay x f ds sh) := by
  obtain ⟨r1, r2, r3⟩ := row_facts ok
  have h12 := ok.n12
  refine .of (fun pt hpt => ?_) (fun y hy => ?_) ?_
  · have hpt : pt ∈ [Pt.name x, .shape f, .bytes (rowOf f ds sh)] := hpt
    simp only [List.mem_cons, List.not_mem_nil, or_false] at hpt
    rcases hpt with rfl | rfl | rfl
    · exact hx.ok
    · exact ⟨by omega, by omega⟩
    · exact ⟨r1, by omega, r3⟩
  · have hy : y ∈ ("lay" :: x :: kindS f.packed :: toS (f.n : Nat) :: sgS f.sg :: toS (f.pt : Nat) :: ((rowOf f ds sh).map hexW ++ []) : List Str) := hy
    rw [List.append_nil] at hy
    simp only [List.mem_cons] at hy
    rcases hy with rfl | rfl | rfl | rfl | rfl | rfl | hy
    · exact ⟨by decide, by decide, by decide⟩
    · exact hx.wd
    · exact wd_kind _
    · exact wd_n (by omega)
    · exact wd_sg _
    · exact wd_n (by omega)
    · obtain ⟨b, hb, rfl⟩ := List.mem_map.mp hy
      exact wd_hex (r3 b hb)
  · show ("lay" :: x :: kindS f.packed :: toS (f.n : Nat) :: sgS f.sg :: toS (f.pt : Nat) :: ((rowOf f ds sh).map hexW ++ []) : List Str).length ≤ 100
    simp only [List.length_cons, List.length_append, List.length_map, List.length_nil]
    omega
theorem bytes_ok {y : Str} (e : Ent) (hy : LName y) : LineOk (.bytes y e) := by
  refine .of (fun pt hpt => ?_) (fun x hx => ?_) (by show 2 ≤ 100; decide)
  · rw [List.mem_singleton.mp (show pt ∈ [Pt.one y] from hpt)]
    exact hy.ok
  · have hx : x ∈ (["bytes", y] : List Str) := hx
    simp only [List.mem_cons, List.not_mem_nil, or_false] at hx
    rcases hx with rfl | rfl
    · exact ⟨by decide, by decide, by decide⟩
    · exact hy.wd
theorem two_ok {op : Nat} {x y z : Str} (e e2 : Ent) (hx : LName x) (hy : LName y) (hz : LName z) : LineOk (.two op x y z e e2) := by
  refine .of (fun pt hpt => ?_) (fun q hq => ?_) (by show 4 ≤ 100; decide)
  · have hpt : pt ∈ [Pt.name x, .one y, .one z] := hpt
    simp only [List.mem_cons, List.not_mem_nil, or_false] at hpt
    rcases hpt with rfl | rfl | rfl
    · exact hx.ok
    · exact hy.ok
    · exact hz.ok
  · have hq : q ∈ ([twoS op, x, y, z] : List Str) := hq
    simp only [List.mem_cons, List.not_mem_nil, or_false] at hq
    rcases hq with rfl | rfl | rfl | rfl
    · match op with
      | 0 => exact ⟨by decide, by decide, by decide⟩
      | 1 => exact ⟨by decide, by decide, by decide⟩
      | _ + 2 => exact ⟨by show ("times" : Str) ≠ ""; decide, by show 32 ∉ tl "times"; decide, by show ("times" : Str).length ≤ 640; decide⟩
    · exact hx.wd
    · exact hy.wd
    · exact hz.wd
theorem order_ok {y z : Str} (e e2 : Ent) (hy : LName y) (hz : LName z) : LineOk (.order y z e e2) := by
  refine .of (fun pt hpt => ?_) (fun q hq => ?_) (by show 3 ≤ 100; decide)
  · have hpt : pt ∈ [Pt.one y, .one z] := hpt
    simp only [List.mem_cons, List.not_mem_nil, or_false] at hpt
    rcases hpt with rfl | rfl
    · exact hy.ok
    · exact hz.ok
  · have hq : q ∈ (["order", y, z] : List Str) := hq
    simp only [List.mem_cons, List.not_mem_nil, or_false] at hq
    rcases hq with rfl | rfl | rfl
    · exact ⟨by decide, by decide, by decide⟩
    · exact hy.wd
    · exact hz.wd
theorem move_ok {x y : Str} {i : Int} {r : Rule} (e : Ent) (hx : LName x) (hy : LName y) (h1 : -12 ≤ i) (h2 : i ≤ 12) : LineOk (.move x y i r e) := by
  refine .of (fun pt hpt => ?_) (fun q hq => ?_) (by show 5 ≤ 100; decide)
  · have hpt : pt ∈ [Pt.name x, .one y, .by_ i, .rule r] := hpt
    simp only [List.mem_cons, List.not_mem_nil, or_false] at hpt
    rcases hpt with rfl | rfl | rfl | rfl
    · exact hx.ok
    · exact hy.ok
    · exact ⟨h1, h2⟩
    · trivial
  · have hq : q ∈ (["move", x, y, toS i, ruleS r] : List Str) := hq
    simp only [List.mem_cons, List.not_mem_nil, or_false] at hq
    rcases hq with rfl | rfl | rfl | rfl | rfl
    · exact ⟨by decide, by decide, by decide⟩
    · exact hx.wd
    · exact hy.wd
    · exact wd_i h1 h2
    · exact wd_rule r
theorem turn_ok {x y : Str} {g : Form} (e : Ent) (hx : LName x) (hy : LName y) (h1 : g.n ≤ 12) (h2 : g.pt ≤ g.n) : LineOk (.turn x y g e) := by
  refine .of (fun pt hpt => ?_) (fun q hq => ?_) (by show 7 ≤ 100; decide)
  · have hpt : pt ∈ [Pt.name x, .one y, .shape g] := hpt
    simp only [List.mem_cons, List.not_mem_nil, or_false] at hpt
    rcases hpt with rfl | rfl | rfl
    · exact hx.ok
    · exact hy.ok
    · exact ⟨by omega, by omega⟩
  · have hq : q ∈ (["turn", x, y, kindS g.packed, toS (g.n : Nat), sgS g.sg, toS (g.pt : Nat)] : List Str) := hq
    simp only [List.mem_cons, List.not_mem_nil, or_false] at hq
    rcases hq with rfl | rfl | rfl | rfl | rfl | rfl | rfl
    · exact ⟨by decide, by decide, by decide⟩
    · exact hx.wd
    · exact hy.wd
    · exact wd_kind _
    · exact wd_n (by omega)
    · exact wd_sg _
    · exact wd_n (by omega)
/-! ### the signs of a row -/
def ixS (c : Nat) : Nat := hexS.cps.toList.idxOf c
theorem ix_sgn {i : Nat} (h : i < 16) : ixS (sgn i) = i := by
  have : ∀ i : Fin 16, ixS (sgn i.val) = i.val := by decide +kernel
  exact this ⟨i, h⟩
/-- a sign of a row's text -/
def Sn (c : Nat) : Prop := c = 32 ∨ ∃ i, i < 16 ∧ c = sgn i
def ixsOf (cs : List Nat) : List Nat := (cs.filter fun c => decide (c ≠ 32)).map ixS
theorem ixs_app (a b : List Nat) : ixsOf (a ++ b) = ixsOf a ++ ixsOf b := by
  unfold ixsOf
  rw [List.filter_append, List.map_append]
theorem ixs_sp : ixsOf [32] = [] := rfl
theorem ixs_hex {b : Nat} (h : b ≤ 255) : ixsOf (tl (hexW b)) = [b / 16, b % 16] := by
  have h1 := sgn_ne (i := b / 16) (by omega)
  have h2 := sgn_ne (i := b % 16) (by omega)
  show ixsOf [sgn (b / 16), sgn (b % 16)] = _
  unfold ixsOf
  simp only [List.filter_cons, List.filter_nil, h1, h2, ne_eq, not_false_eq_true, decide_true, if_true, List.map_cons, List.map_nil, ix_sgn (show b / 16 < 16 by omega), ix_sgn (show b % 16 < 16 by omega)]
theorem sn_hex {b : Nat} (h : b ≤ 255) : ∀ c ∈ tl (hexW b), Sn c := fun c hc => by
  have hc : c ∈ [sgn (b / 16), sgn (b % 16)] := hc
  simp only [List.mem_cons, List.not_mem_nil, or_false] at hc
  rcases hc with rfl | rfl
  · exact .inr ⟨_, by omega, rfl⟩
  · exact .inr ⟨_, by omega, rfl⟩
theorem signs_of : ∀ (bs : List Nat), (∀ b ∈ bs, b ≤ 255) → ixsOf (tl (hexT bs)) = split2 bs ∧ ∀ c ∈ tl (hexT bs), Sn c
  | [], _ => ⟨rfl, fun c hc => by
    have hc : c ∈ ([] : List Nat) := hc
    cases hc⟩
  | [b], h => by
    have e : tl (hexT [b]) = tl (hexW b) := tl_last _
    rw [e]
    exact ⟨ixs_hex (h b (by simp)), sn_hex (h b (by simp))⟩
  | b :: b2 :: bs, h => by
    have e : tl (hexT (b :: b2 :: bs)) = tl (hexW b) ++ ([32] ++ tl (hexT (b2 :: bs))) := tl_line _ _ _
    obtain ⟨i1, i2⟩ := signs_of (b2 :: bs) fun x hx => h x (by simp [hx])
    rw [e, ixs_app, ixs_app, ixs_sp, i1, ixs_hex (h b (by simp))]
    refine ⟨rfl, fun c hc => ?_⟩
    rw [List.mem_append, List.mem_append, List.mem_singleton] at hc
    rcases hc with hc | hc | hc
    · exact sn_hex (h b (by simp)) c hc
    · exact .inl hc
    · exact i2 c hc
theorem bytes_split : ∀ bs : List Nat, bytes2 (split2 bs) = bs
  | [] => rfl
  | b :: bs => by
    show (16 * (b / 16) + b % 16) :: bytes2 (split2 bs) = _
    rw [bytes_split bs]
    congr 1
    omega
theorem split_len (bs : List Nat) : (split2 bs).length = 2 * bs.length := by
  induction bs with
  | nil => rfl
  | cons b bs ih =>
    show (split2 bs).length + 2 = _
    rw [ih, List.length_cons]
    omega
theorem keptRow_pt (f : Form) (q : Nat) (M : Int) : keptRow ⟨f.packed, f.n, f.sg, q⟩ M = keptRow f M := by
  obtain ⟨pk, n, sg, pt⟩ := f
  rfl
theorem mark_eq (f : Form) (N : Int) : markS f N = toS ((if fitsZ f N then 0 else 1 : Nat) : Nat) := by
  unfold markS
  split <;> decide
end TL
set_option Elab.async false
set_option linter.all false
set_option maxRecDepth 100000
set_option pp.maxSteps 600
set_option maxHeartbeats 4000000
namespace TL
open PySem PySem.Spec PyProof.Rows L2
/-- one question answered, where its answer is plain -/
local macro_rules | `(tactic| walk_at "p") => `(tactic| first
  | refine ⟨_, rfl, ?_⟩
  | refine ⟨_, _, rfl, rfl, ⟨by decide, by decide⟩, ?_⟩
  | refine ⟨_, _, rfl, rfl, (by show (0 : Int) < _; decide), ?_⟩
  | refine ⟨_, _, rfl, rfl, ?_⟩
  | refine ⟨rfl, ?_⟩
  | refine ⟨_, _, _, _, rfl, rfl, (by assumption), rfl, ?_⟩
  | refine .inr ⟨_, rfl, ?_⟩
  | refine .inl ⟨_, rfl, ?_⟩
  | refine iteT ?_
  | refine iteF ?_)
local macro_rules | `(tactic| walk_at "ps") => `(tactic| repeat walk_at "p")

theorem cut_head (m : Nat) (cs : List Nat) : cutV (cs.map nV) none (some (m : Int)) = (cs.take m).map nV := cut_take m cs
def spAfter (K : PySem.W.Frag) : Sp := fun vs H Q _ => ∃ (q a : Addr) (rs : List SR) (fr : List Nat) (c salt : Int) (n : Nat), vs = [.ref q, .ref a, .int c, .int salt, nV n] ∧ PAt H q rs ∧ (∀ r ∈ rs, RowOk r) ∧ SqT K H a (fr.map nV) ∧ fr.length ≤ 64 ∧ (∀ x ∈ fr, x < 256) ∧
  ∀ H' p t (z : S) (cs : List Nat), Same H H' → (∀ i, i < fr.length → z.c i = fr.getD i 0) → Rel cs (exec rs z) → H' t = some (.tup ((cs.take n).map nV)) → H' p = some (.tup [.ref t, nV (exec rs z).m]) → Q (.ref p) H'
theorem PAt.same {H H' : Hp} {q : Addr} {rs : List SR} (s : Same H H') (h : PAt H q rs) : PAt H' q rs := by
  obtain ⟨tt, rt, ts, ps, e1, e2, e3, h1, h2⟩ := h
  exact ⟨tt, rt, ts, ps, s _ _ e1, s _ _ e2, s _ _ e3, h1.imp fun _ _ _ e => s _ _ e, h2.imp fun _ _ _ e => s _ _ e⟩
def zOf (cs : List Nat) (m : Nat) : S := ⟨fun i => cs.getD i 0, m⟩
theorem rel_of {cs : List Nat} {m : Nat} (hl : cs.length = 256) (hb : ∀ x ∈ cs, x < 256) (hm : m < 2) : Rel cs (zOf cs m) := by
  refine ⟨hl, fun i hi => ?_, fun i hi => ?_, by show m ≤ 1; omega⟩
  · show _ = some (cs.getD i 0)
    rw [List.getD_eq_getElem?_getD, List.getElem?_eq_getElem (by omega)]
    rfl
  · show cs.getD i 0 < 256
    rw [List.getD_eq_getElem?_getD, List.getElem?_eq_getElem (by omega)]
    exact hb _ (List.getElem_mem _)
def spLTell (K : PySem.W.Frag) : Sp := fun vs H Q _ => ∃ (D : Dk) (E : List Ent) (c : Cmd), vs = [.ref D.d, .str (lineS c.wd c.pts)] ∧ DAt K H D E ∧ E.length < 50 ∧ (∀ pt ∈ c.pts, pt.ok) ∧ (∀ x ∈ lineW c.wd c.pts, x ≠ "" ∧ 32 ∉ tl x) ∧ (lineS c.wd c.pts).length ≤ 90000 ∧ c.ok E ∧ All2 (Look E) (onesOf c.pts) c.es ∧
  ∀ H' p, Dx D H H' → After K H' D E c.new → H' p = some (.tup [.str "told", .str c.ans]) → Q (.ref p) H'
def spAnswered (K : PySem.W.Frag) : Sp := fun vs H Q _ => ∃ (D : Dk) (E : List Ent) (c : Cmd) (t : Addr), vs = [.ref D.d, .str (lineS c.wd c.pts), .ref t] ∧ H t = some (.tup [.str "told", .str c.ans]) ∧ DAt K H D E ∧ E.length < 50 ∧ (∀ pt ∈ c.pts, pt.ok) ∧ (∀ x ∈ lineW c.wd c.pts, x ≠ "" ∧ 32 ∉ tl x) ∧ (lineS c.wd c.pts).length ≤ 90000 ∧ c.ok E ∧ All2 (Look E) (onesOf c.pts) c.es ∧
  ∀ H', Dx D H H' → After K H' D E c.new → Q (.bl true) H'
theorem After.same {K : PySem.W.Frag} {H H' : Hp} {D : Dk} {E : List Ent} {g : Option (Addr → Ent)} (s : Same H H') (h : After K H D E g) : After K H' D E g := by
  cases g with
  | none => exact DAt.same h s
  | some g =>
    obtain ⟨a, h⟩ := h
    exact ⟨a, h.same s⟩
section
variable {P : Program} {w : World} {K : PySem.W.Frag} {mg : Str → Option Value} {base : Heap}
theorem sc_law_after : FnScope ["_law_program", "_law_front_here", "_law_cell_here", "_law_salt", "_law_many", "_law_cells", "_law_mark"] ["_law_program", "_law_front_here", "_law_cell_here", "_law_salt", "_law_many"] (defScope (top 163)) := ⟨rfl, rfl, rfl, by decide +kernel, rfl, by decide +kernel, by decide +kernel⟩
theorem d_law_after (T : TX w K mg) : DefOk P w K mg base 4 154 "_law_after" ["_law_program", "_law_front_here", "_law_cell_here", "_law_salt", "_law_many"] (spAfter K) := by
  refine mkDef T 145 rfl rfl sc_law_after (fun _ _ _ _ _ _ us hl => match us, hl with | [_, _, _, _, _], _ => rfl) (fun vs H Q E h => ?_) (fun f cdv A outer s H vs Q E hr h => ?_)
  · obtain ⟨q, a, rs, fr, c, salt, n, rfl, hP, hok, hF, hfl, hfr, k⟩ := h
    rfl
  · obtain ⟨q, a, rs, fr, c, salt, n, rfl, hP, hok, hF, hfl, hfr, k⟩ := h
    refine ⟨_, 
        (pss_cons (ps_asg (pe_callD (d_law_filled T) (hr.mono (by decide)) (by rfl) (pa_cons (pv 2) (pa_cons (pv 3) (pa_cons (pv 1) pa_nil)))) (pg_tup rfl (pgs_cons (pg_name (i := 5) sc_law_after.nd rfl (Or.inl rfl)) (pgs_cons (pg_name (i := 6) sc_law_after.nd rfl (Or.inl rfl)) pgs_nil)))) 
        (pss_cons (ps_asg (pe_callD (d_law_run T) (hr.mono (by decide)) (by rfl) (pa_cons (pv 0) (pa_cons (pv 5) (pa_cons (pv 6) pa_nil)))) (pg_tup rfl (pgs_cons (pg_name (i := 5) sc_law_after.nd rfl (Or.inl rfl)) (pgs_cons (pg_name (i := 6) sc_law_after.nd rfl (Or.inl rfl)) pgs_nil)))) 
        (pss_one (ps_ret (pe_tup (pa_cons (pe_callTy call_tuple_of (by rfl) T.tuple_ (by decide +kernel) (pa_cons (pe_slice sl_list (pv 5) po_none (po_some (pv 4))) pa_nil)) (pa_cons (pv 6) pa_nil))))))), ?_⟩
    walk_at "ps"
    refine ⟨c, salt, a, fr, rfl, hF, hfl, hfr, fun H1 p1 q1 cs m s1 f1 e1 hl hb hm hfc e2 => ?_⟩
    refine ⟨_, _, rfl, SqT.of e2, rfl, _, _, rfl, _, _, rfl, rfl, ?_⟩
    walk_at "ps"
    have hr := rel_of hl hb hm
    refine ⟨q, q1, rs, cs, zOf cs m, rfl, hP.same s1, SqL.of e1, hr, hok, fun H2 p2 b cs' s2 f2 e3 hr2 e4 => ?_⟩
    refine ⟨_, _, rfl, SqT.of e4, rfl, _, _, rfl, _, _, rfl, rfl, ?_⟩
    walk_at "ps"
    refine ⟨_, _, rfl, SqL.of e3, fun p3 f3 => ?_⟩
    have s3 := Same.new (o := .lst (cutV (cs'.map nV) none (some (n : Int)))) f3
    refine ⟨p3, _, rfl, .inl ⟨SqL.of upd_same, fun p4 f4 => ?_⟩⟩
    have s4 := Same.new (o := .tup (cutV (cs'.map nV) none (some (n : Int)))) f4
    walk_at "ps"
    refine ⟨(by show 2 ≤ sizeLine; decide), fun p5 f5 => ?_⟩
    refine k _ p5 p4 (zOf cs m) cs' ((((s1.trans s2).trans s3).trans s4).trans (Same.new f5)) (fun i hi => ?_) hr2 ?_ upd_same
    · show cs.getD i 0 = _
      rw [List.getD_eq_getElem?_getD, List.getD_eq_getElem?_getD, hfc i hi]
    · rw [← cut_head]
      exact (Same.new f5) _ _ upd_same
theorem sc_law_tell : FnScope ["_law_desk", "_law_line", "_law_found"] ["_law_desk", "_law_line"] (defScope (top 168)) := ⟨rfl, rfl, rfl, by decide +kernel, rfl, by decide +kernel, by decide +kernel⟩
theorem d_law_tell (T : TX w K mg) : DefOk P w K mg base 8 159 "_law_tell" ["_law_desk", "_law_line"] (spLTell K) := by
  refine mkDef T 150 rfl rfl sc_law_tell (fun _ _ _ _ _ _ us hl => match us, hl with | [_, _], _ => rfl) (fun vs H Q E h => ?_) (fun f cdv A outer s H vs Q E hr h => ?_)
  · obtain ⟨D, E, c, rfl, hD, hfew, hok, hw, hl, hc, hlk, k⟩ := h
    rfl
  · obtain ⟨D, E, c, rfl, hD, hfew, hok, hw, hl, hc, hlk, k⟩ := h
    refine ⟨_, 
        (pss_cons (ps_set (i := 2) sc_law_tell.nd rfl (Or.inl rfl) pe_non) 
        (pss_cons (ps_try_thru0 
          (pss_one (ps_set (i := 2) sc_law_tell.nd rfl (Or.inl rfl) (pe_tup (pa_cons pe_str (pa_cons (pe_methD (T.methD (by decide)) (n_tell T) (hr.mono (by decide)) (pv 0) (pa_cons (pv 1) pa_nil)) pa_nil)))))) 
        (pss_one (ps_ret (pv 2))))), ?_⟩
    walk_at "ps"
    obtain ⟨nd, ul, hd, hn⟩ := hD.obj
    refine ⟨_, _, _, rfl, hd, rfl, ?_⟩
    walk_at "ps"
    refine ⟨D, E, c, rfl, hD, hfew, hok, hw, hl, hc, hlk, fun H1 x1 a1 => ?_⟩
    refine ⟨(by show 2 ≤ sizeLine; decide), fun p2 f2 => ?_⟩
    walk_at "ps"
    exact k _ p2 (x1.trans (Dx.of (Same.new f2))) (a1.same (Same.new f2)) upd_same
theorem sc_law_answered : FnScope ["_law_desk", "_law_line", "_law_due", "_law_found"] ["_law_desk", "_law_line", "_law_due"] (defScope (top 169)) := ⟨rfl, rfl, rfl, by decide +kernel, rfl, by decide +kernel, by decide +kernel⟩
theorem d_law_answered (T : TX w K mg) : DefOk P w K mg base 9 160 "_law_answered" ["_law_desk", "_law_line", "_law_due"] (spAnswered K) := by
  refine mkDef T 151 rfl rfl sc_law_answered (fun _ _ _ _ _ _ us hl => match us, hl with | [_, _, _], _ => rfl) (fun vs H Q E h => ?_) (fun f cdv A outer s H vs Q E hr h => ?_)
  · obtain ⟨D, E, c, t, rfl, ht, hD, hfew, hok, hw, hl, hc, hlk, k⟩ := h
    rfl
  · obtain ⟨D, E, c, t, rfl, ht, hD, hfew, hok, hw, hl, hc, hlk, k⟩ := h
    refine ⟨_, 
        (pss_cons (ps_set (i := 3) sc_law_answered.nd rfl (Or.inl rfl) (pe_callD (d_law_tell T) (hr.mono (by decide)) (by rfl) (pa_cons (pv 0) (pa_cons (pv 1) pa_nil)))) 
        (pss_cons (ps_if (pt_cmpR op_ne (pe_callB RZ.call_isTy (by rfl) T.isinstance_ (by decide +kernel) (pa_cons (pe_ix ix_tup (pv 3) pe_int (fun _ _ => rfl)) (pa_cons (pe_bltn (v := .ty "str") (by rfl) T.str_ (by decide +kernel) rfl) pa_nil))) (pe_callB RZ.call_isTy (by rfl) T.isinstance_ (by decide +kernel) (pa_cons (pe_ix ix_tup (pv 2) pe_int (fun _ _ => rfl)) (pa_cons (pe_bltn (v := .ty "str") (by rfl) T.str_ (by decide +kernel) rfl) pa_nil))) (nomark _)) 
          (pss_one (ps_ret pe_bl)) pss_nil) 
        (pss_one (ps_ret (pe_and (pe_cmpR op_eq (pe_ix ix_tup (pv 3) pe_int (fun _ _ => rfl)) (pe_ix ix_tup (pv 2) pe_int (fun _ _ => rfl)) (nomark _)) (pe_one (pe_cmpR op_eq (pe_ix ix_tup (pv 3) pe_int (fun _ _ => rfl)) (pe_ix ix_tup (pv 2) pe_int (fun _ _ => rfl)) (nomark _)))))))), ?_⟩
    walk_at "ps"
    refine ⟨D, E, c, rfl, hD, hfew, hok, hw, hl, hc, hlk, fun H1 p1 x1 a1 e1 => ?_⟩
    have ht1 := hD.tup x1 ht
    walk_at "ps"
    refine ⟨_, _, _, V.str c.ans, rfl, rfl, SqT.of e1, rfl, ?_⟩
    walk_at "ps"
    refine ⟨_, "str", rfl, RZ.Ty4.str _, ?_⟩
    walk_at "ps"
    refine ⟨_, _, _, V.str c.ans, rfl, rfl, SqT.of ht1, rfl, ?_⟩
    walk_at "ps"
    refine ⟨_, "str", rfl, RZ.Ty4.str _, ?_⟩
    walk_at "ps"
    refine ⟨_, _, _, V.str "told", rfl, rfl, SqT.of e1, rfl, ?_⟩
    walk_at "ps"
    refine ⟨_, _, _, V.str "told", rfl, rfl, SqT.of ht1, rfl, ?_⟩
    refine ⟨rfl, ?_⟩
    refine ⟨_, rfl, ?_⟩
    refine iteT ?_
    refine ⟨_, rfl, ?_⟩
    refine ⟨_, _, _, V.str c.ans, rfl, rfl, SqT.of e1, rfl, ?_⟩
    walk_at "ps"
    refine ⟨_, _, _, V.str c.ans, rfl, rfl, SqT.of ht1, rfl, ?_⟩
    refine ⟨rfl, ?_⟩
    refine qv (congrArg V.bl (decide_eq_true rfl)) ?_
    exact k _ x1 a1
end
end TL
set_option Elab.async false
set_option linter.all false
set_option maxRecDepth 100000
set_option pp.maxSteps 600
set_option maxHeartbeats 4000000
namespace TL
open PySem PySem.Spec PyProof.Rows L2
/-- one question answered, where its answer is plain -/
local macro_rules | `(tactic| walk_at "p") => `(tactic| first
  | refine ⟨_, rfl, ?_⟩
  | refine ⟨_, _, rfl, rfl, ⟨by decide, by decide⟩, ?_⟩
  | refine ⟨_, _, rfl, rfl, (by show (0 : Int) < _; decide), ?_⟩
  | refine ⟨_, _, rfl, rfl, ?_⟩
  | refine ⟨rfl, ?_⟩
  | refine ⟨_, _, _, _, rfl, rfl, (by assumption), rfl, ?_⟩
  | refine .inr ⟨_, rfl, ?_⟩
  | refine .inl ⟨_, rfl, ?_⟩
  | refine iteT ?_
  | refine iteF ?_)
local macro_rules | `(tactic| walk_at "ps") => `(tactic| repeat walk_at "p")

def Ent.row (e : Ent) : List Nat := rowOf e.2.2.1 e.2.2.2.1 e.2.2.2.2
def spFrontL (K : PySem.W.Frag) : Sp := fun vs H Q _ => ∃ (D : Dk) (E : List Ent) (na : Addr) (ns : List Str) (es : List Ent), vs = [.ref D.d, .ref na] ∧ SqT K H na (ns.map V.str) ∧ (∀ y ∈ ns, LName y) ∧ ns.length ≤ 2 ∧ DAt K H D E ∧ E.length < 50 ∧ All2 (Look E) ns es ∧
  ∀ H' p, Dx D H H' → DAt K H' D E → H' p = some (.tup ((es.flatMap Ent.row).map nV)) → Q (.ref p) H'
def spAlike (K : PySem.W.Frag) : Sp := fun vs H Q _ => ∃ (D : Dk) (E : List Ent) (c : Cmd) (x : Str) (q a fa : Addr) (rs : List SR) (fr row : List Nat) (cell : Int) (g : Form) (mk : Nat) (mkE : Addr → Ent),
  vs = [.ref D.d, .str (lineS c.wd c.pts), .str x, .ref q, .ref a, .int cell, .ref fa] ∧ DAt K H D E ∧ E.length < 49 ∧ LineOk c ∧ c.ok E ∧ All2 (Look E) (onesOf c.pts) c.es ∧ LName x ∧ (∀ e ∈ E, e.1 ≠ x) ∧ PAt H q rs ∧ (∀ r ∈ rs, RowOk r) ∧ SqT K H a (fr.map nV) ∧ fr.length ≤ 64 ∧ (∀ y ∈ fr, y < 256) ∧
  SqT K H fa g.vs ∧ 0 < g.n ∧ g.n ≤ 100 ∧ Does rs fr row mk ∧ row.length = g.width ∧ row.length ≤ 256 ∧ (∀ b ∈ row, b ≤ 255) ∧ c.ans = toS (mk : Nat) ∧ mk < 2 ∧ c.new = some mkE ∧ (∀ b, (mkE b).1 = x ∧ Ent.row (mkE b) = row) ∧ ∀ H', Q (.bl true) H'
theorem look_new {E : List Ent} {e : Ent} {x : Str} (h : ∀ e ∈ E, e.1 ≠ x) (he : e.1 = x) : Look (E ++ [e]) x e := by
  unfold Look
  rw [List.find?_append]
  have h1 : E.find? (fun e => decide (e.1 = x)) = none := by
    rw [List.find?_eq_none]
    intro e he
    have := h e he
    simpa using this
  rw [h1]
  simp [he]
section
variable {P : Program} {w : World} {K : PySem.W.Frag} {mg : Str → Option Value} {base : Heap}
theorem sc_law_front : FnScope ["_law_desk", "_law_words_here", "_law_found", "_law_name", "_law_text", "_law_halves", "_law_sign"] ["_law_desk", "_law_words_here"] (defScope (top 171)) := ⟨rfl, rfl, rfl, by decide +kernel, rfl, by decide +kernel, by decide +kernel⟩
theorem d_law_front (T : TX w K mg) : DefOk P w K mg base 8 162 "_law_front" ["_law_desk", "_law_words_here"] (spFrontL K) := by
  refine mkDef T 153 rfl rfl sc_law_front (fun _ _ _ _ _ _ us hl => match us, hl with | [_, _], _ => rfl) (fun vs H Q E h => ?_) (fun f cdv A outer s H vs Q E hr h => ?_)
  · obtain ⟨D, E, na, ns, es, rfl, hN, hok, hl, hD, hfew, hlk, k⟩ := h
    rfl
  · obtain ⟨D, E, na, ns, es, rfl, hN, hok, hl, hD, hfew, hlk, k⟩ := h
    refine ⟨_, 
        (pss_cons (ps_set (i := 2) sc_law_front.nd rfl (Or.inl rfl) (pe_tup pa_nil)) 
        (pss_cons (ps_for PassesOwn.never rfl (pi_tup (pv 1)) (pg_name (i := 3) sc_law_front.nd rfl (Or.inl rfl)) 
          (pss_cons (ps_set (i := 4) sc_law_front.nd rfl (Or.inl rfl) (pe_methD (T.methD (by decide)) (n_tell T) (hr.mono (by decide)) (pv 0) (pa_cons (pe_op op_add_str pe_str (pv 3)) pa_nil))) 
          (pss_cons (ps_setLc (i := 5) (own := [("_law_sign", 6)]) (g := gName 6) (by rfl) sc_law_front.nd rfl rfl (sw_true rfl rfl rfl (by decide +kernel)) (pi_str (pv 4)) (blkOk_by (own := [("_law_sign", 6)]) (N := ["_law_desk", "_law_words_here", "_law_found", "_law_name", "_law_text", "_law_halves", "_law_sign"]) (sc := defScope (top 171)) (by decide +kernel)) (fun _ _ _ _ _ => pg_name (i := 6) sc_law_front.nd rfl (Or.inl rfl)) (fun _ _ _ _ _ => pts_one (pt_cmpR op_ne (pv 6) pe_str (nomark _))) (fun _ _ _ _ _ => (pe_m1 PySem.F.slot_str_index PySem.F.type_str_index mt_sindex pe_str (pv 6)))) 
          (pss_one (ps_set (i := 2) sc_law_front.nd rfl (Or.inl rfl) (pe_op op_catA (pv 2) (pe_callD (d_law_by_halves T) (hr.mono (by decide)) (by rfl) (pa_cons (pv 5) pa_nil)))))))) 
        (pss_one (ps_ret (pv 2))))), ?_⟩
    walk_at "ps"
    refine ⟨(by show 0 ≤ sizeLine; decide), fun p0 f0 => ?_⟩
    have s0 := Same.new (o := .tup []) f0
    have ln := hlk.length
    walk_at "ps"
    refine ⟨⟨_, s0.teq hN⟩, for_tup (K := K) (a := na) (xs := ns.map V.str) (fun i σ H' => Dx D H H' ∧ DAt K H' D E ∧ ∃ q, H' q = some (.tup (((es.take i).flatMap Ent.row).map nV)) ∧ ∃ v3 v4 v5 v6, σ = [some (.ref D.d), some (.ref na), some (.ref q), v3, v4, v5, v6]) ⟨Dx.of s0, hD.same s0, p0, upd_same, _, _, _, _, rfl⟩ (fun i σ H' _ h => hD.sq h.1 hN) ?_ ?_⟩
    · rintro i x σ H0 hx ⟨x0, d0, q, eq, v3, v4, v5, v6, rfl⟩
      rw [List.getElem?_map] at hx
      obtain ⟨y, hy, rfl⟩ := Option.map_eq_some_iff.mp hx
      have hil := (List.getElem?_eq_some_iff.mp hy).1
      obtain ⟨y', hy', hL⟩ := hlk.get (i := i) (b := es[i]'(by omega)) (List.getElem?_eq_getElem (by omega))
      obtain rfl : y = y' := Option.some.inj (hy.symm.trans hy')
      have hes : es[i]? = some (es[i]'(by omega)) := List.getElem?_eq_getElem (by omega)
      have hyn := hok y (List.mem_of_getElem? hy)
      have htk : (es.take (i + 1)).flatMap Ent.row = (es.take i).flatMap Ent.row ++ Ent.row (es[i]'(by omega)) := by
        rw [List.take_succ, hes, List.flatMap_append]
        simp
      have hfl : ((es.take i).flatMap Ent.row).length ≤ 14 * (es.take i).length := by
        have hall : ∀ e ∈ es.take i, (Ent.row e).length ≤ 14 := fun e he => by
          obtain ⟨j, hj⟩ := List.mem_iff_getElem?.mp (List.mem_of_mem_take he)
          have hjl := (List.getElem?_eq_some_iff.mp hj).1
          obtain ⟨y2, _, hL2⟩ := hlk.get (i := j) hj
          exact (row_facts (d0.things e (List.mem_of_find?_eq_some hL2)).2).2.1
        revert hall
        generalize es.take i = l
        intro hall
        induction l with
        | nil => exact Nat.le_refl _
        | cons e l ih =>
          have a := ih fun y hy => hall y (by simp [hy])
          have b := hall e (by simp)
          rw [List.flatMap_cons, List.length_append, List.length_cons]
          omega
      have hfl2 : (es.take i).length ≤ 2 := by rw [List.length_take]; omega
      generalize es[i]'(by omega) = e at *
      have hB := bytes_ok e hyn
      obtain ⟨hT, hE⟩ := d0.things e (List.mem_of_find?_eq_some hL)
      obtain ⟨r1, r2, r3⟩ := row_facts hE
      obtain ⟨nd, ul, hd, hn⟩ := d0.obj
      walk_at "ps"
      refine ⟨_, _, _, rfl, hd, rfl, ?_⟩
      walk_at "ps"
      refine ⟨small_len (by have := hyn.wd.2.2; show 6 + y.length ≤ 100000; omega), ?_⟩
      refine ⟨D, E, .bytes y e, (by rw [bytes_line]; rfl), d0, hfew, hB.pts, hB.words, hB.len, trivial, ⟨hL, trivial⟩, fun H1 x1 d1 => ?_⟩
      have d1 : DAt K H1 D E := d1
      obtain ⟨g1, g2⟩ := signs_of (rowOf e.2.2.1 e.2.2.2.1 e.2.2.2.2) r3
      have eq1 := d0.tup x1 eq
      have tx : Cmd.ans (.bytes y e) = hexT (rowOf e.2.2.1 e.2.2.2.1 e.2.2.2.2) := rfl
      have hlen := hexT_len (rowOf e.2.2.1 e.2.2.2.1 e.2.2.2.2)
      rw [tx]
      have hrow : Ent.row e = rowOf e.2.2.1 e.2.2.2.1 e.2.2.2.2 := rfl
      rw [hrow] at htk
      generalize rowOf e.2.2.1 e.2.2.2.1 e.2.2.2.2 = row at *
      generalize hexT row = text at *
      walk_at "ps"
      intro L fL
      have sL := Same.new (o := .lst []) fL
      refine lc_it (walk_str (z := text)) (fun i H' => Same H1 H' ∧ H' L = some (.lst ((ixsOf ((tl text).take i)).map nV))) ⟨sL, upd_same⟩ (fun _ _ _ _ => trivial) ?_ ?_
      · rintro i x H3 H4 hi ⟨t1, g3⟩ ⟨rfl, c, hc, rfl⟩
        have hc' : (tl text)[i]? = some c := by
          show text.cps.toList[i]? = some c
          rw [Array.getElem?_toList]
          exact hc
        have htk2 : (tl text).take (i + 1) = (tl text).take i ++ [c] := by rw [List.take_succ, hc']; rfl
        rw [htk2]
        have hcm := g2 c (List.mem_of_getElem? hc')
        refine ⟨rfl, ?_⟩
        refine ⟨_, rfl, ?_⟩
        refine ⟨rfl, _, rfl, ?_⟩
        refine iteND (fun h => ?_) (fun h => ?_)
        · obtain ⟨j, hj, rfl⟩ : ∃ j, j < 16 ∧ c = sgn j := by
            rcases hcm with rfl | hcm
            · exact absurd rfl h
            · exact hcm
          have h32 := sgn_ne hj
          refine ⟨⟨_, rfl⟩, ?_⟩
          refine ⟨_, rfl, ?_⟩
          refine ⟨hexS, _, j, [], rfl, rfl, sgn_occ hj, ?_⟩
          refine ⟨_, g3, ?_, fun b o eb => ?_, ?_⟩
          · rw [List.length_map]
            unfold ixsOf
            rw [List.length_map]
            have h1 := List.length_filter_le (fun c => decide (c ≠ 32)) ((tl text).take i)
            rw [List.length_take] at h1
            have hi2 : i < text.length := hi
            exact lt_line (by omega)
          · rw [upd_ne (ne_of_none eb fL)]
            exact t1 _ _ eb
          · refine upd_is ?_
            rw [ixs_app, List.map_append]
            have : ixsOf [sgn j] = [j] := by
              unfold ixsOf
              simp only [List.filter_cons, List.filter_nil, h32, ne_eq, not_false_eq_true, decide_true, if_true, List.map_cons, List.map_nil, ix_sgn hj]
            rw [this]
            rfl
        · have h' : (⟨#[c]⟩ : Str) = " " := by injection h
          have h2 : [c] = [32] := congrArg tl h'
          obtain rfl : c = 32 := by injection h2
          rw [ixs_app, ixs_sp, List.append_nil]
          exact ⟨t1, g3⟩
      · rintro H3 ⟨t1, g3⟩
        rw [List.take_of_length_le (Nat.le_of_eq (show (tl text).length = text.cps.size from Array.length_toList)), g1] at g3
        have xA := (x0.trans x1).trans (Dx.of t1)
        walk_at "ps"
        refine ⟨L, split2 row, rfl, SqL.of g3, (by rw [split_len]; omega), (by rw [split_len]; omega), fun H5 p5 s5 f5 e5 => ?_⟩
        rw [bytes_split] at e5
        have xB := xA.trans (Dx.of s5)
        have dB := (d1.same t1).same s5
        refine ⟨q, p5, _, _, rfl, rfl, SqT.of (s5 _ _ (t1 _ _ eq1)), SqT.of e5, small_len (by rw [List.length_map, List.length_map]; omega), fun h => ?_, fun _ h => ?_, fun _ _ p6 f6 => ?_⟩
        · have h0 : (es.take i).flatMap Ent.row = [] := List.map_eq_nil_iff.mp h
          refine ⟨xB, dB, p5, ?_, _, _, _, _, rfl⟩
          rw [htk, h0, List.nil_append]
          exact e5
        · exact absurd (List.map_eq_nil_iff.mp h) r1
        · refine ⟨xB.trans (Dx.of (Same.new f6)), dB.same (Same.new f6), p6, ?_, _, _, _, _, rfl⟩
          rw [htk, List.map_append]
          exact upd_same
    · rintro σ H0 ⟨x0, d0, q, eq, v3, v4, v5, v6, rfl⟩
      rw [List.length_map, ln, List.take_length] at eq
      walk_at "ps"
      exact k _ q x0 d0 eq
theorem sc_law_done_alike : FnScope ["_law_desk", "_law_line", "_law_name", "_law_program", "_law_front_here", "_law_cell_here", "_law_form_here", "_law_room_here", "_law_cells", "_law_mark"] ["_law_desk", "_law_line", "_law_name", "_law_program", "_law_front_here", "_law_cell_here", "_law_form_here"] (defScope (top 172)) := ⟨rfl, rfl, rfl, by decide +kernel, rfl, by decide +kernel, by decide +kernel⟩
theorem d_law_done_alike (T : TX w K mg) : DefOk P w K mg base 10 163 "_law_done_alike" ["_law_desk", "_law_line", "_law_name", "_law_program", "_law_front_here", "_law_cell_here", "_law_form_here"] (spAlike K) := by
  refine mkDef T 154 rfl rfl sc_law_done_alike (fun _ _ _ _ _ _ us hl => match us, hl with | [_, _, _, _, _, _, _], _ => rfl) (fun vs H Q E h => ?_) (fun f cdv A outer s H vs Q E hr h => ?_)
  · obtain ⟨D, E, c, x, q, a, fa, rs, fr, row, cell, g, mk, mkE, rfl, hD, hfew, hln, hc, hlk, hx, hxE, hP, hok, hF, hfl, hfr, hG, hg, hg2, hdo, hrw, hr256, hrb, hans, hmk, hnew, hE, k⟩ := h
    rfl
  · obtain ⟨D, E, c, x, q, a, fa, rs, fr, row, cell, g, mk, mkE, rfl, hD, hfew, hln, hc, hlk, hx, hxE, hP, hok, hF, hfl, hfr, hG, hg, hg2, hdo, hrw, hr256, hrb, hans, hmk, hnew, hE, k⟩ := h
    refine ⟨_, 
        (pss_cons (ps_set (i := 7) sc_law_done_alike.nd rfl (Or.inl rfl) (pe_callD (d_law_room T) (hr.mono (by decide)) (by rfl) (pa_cons (pv 6) pa_nil))) 
        (pss_cons (ps_asg (pe_callD (d_law_after T) (hr.mono (by decide)) (by rfl) (pa_cons (pv 3) (pa_cons (pv 4) (pa_cons (pv 5) (pa_cons pe_int (pa_cons (pv 7) pa_nil)))))) (pg_tup rfl (pgs_cons (pg_name (i := 8) sc_law_done_alike.nd rfl (Or.inl rfl)) (pgs_cons (pg_name (i := 9) sc_law_done_alike.nd rfl (Or.inl rfl)) pgs_nil)))) 
        (pss_cons (ps_if (pt_not (pt_val (pe_callD (d_law_answered T) (hr.mono (by decide)) (by rfl) (pa_cons (pv 0) (pa_cons (pv 1) (pa_cons (pe_tup (pa_cons pe_str (pa_cons (pe_callTy call_str_int (by rfl) T.str_ (by decide +kernel) (pa_cons (pv 9) pa_nil)) pa_nil))) pa_nil)))))) 
          (pss_one (ps_ret pe_bl)) pss_nil) 
        (pss_one (ps_ret (pe_callD (d_law_answered T) (hr.mono (by decide)) (by rfl) (pa_cons (pv 0) (pa_cons (pe_op op_add_str pe_str (pv 2)) (pa_cons (pe_tup (pa_cons pe_str (pa_cons (pe_callD (d_law_hexed T) (hr.mono (by decide)) (by rfl) (pa_cons (pv 8) pa_nil)) pa_nil))) pa_nil))))))))), ?_⟩
    walk_at "ps"
    refine ⟨fa, g, rfl, hG, hg, hg2, fun H1 s1 => ?_⟩
    walk_at "ps"
    refine ⟨q, a, rs, fr, cell, 557, row.length, (by rw [hrw]; rfl), hP.same s1, hok, s1.teq hF, hfl, hfr, fun H2 p2 t2 z cs s2 hz hrel e2 e3 => ?_⟩
    have sA := s1.trans s2
    obtain ⟨hd1, hd2⟩ := hdo z hz
    rw [hrel.take hr256 hd1] at e2
    rw [hd2] at e3
    have hlog : ((mk : Nat) : Int).natAbs.log2 < 1920 := by
      have : mk = 0 ∨ mk = 1 := by omega
      rcases this with rfl | rfl <;> decide
    refine ⟨_, _, rfl, SqT.of e3, rfl, _, _, rfl, _, _, rfl, rfl, ?_⟩
    walk_at "ps"
    refine ⟨hlog, ?_⟩
    refine ⟨(by show 2 ≤ sizeLine; decide), fun p3 f3 => ?_⟩
    have s3 := Same.new (o := .tup [V.str "told", V.str (toS (mk : Nat))]) f3
    have sB := sA.trans s3
    refine ⟨D, E, c, p3, rfl, (by rw [hans]; exact upd_same), hD.same sB, (by omega), hln.pts, hln.words, hln.len, hc, hlk, fun H3 x3 a3 => ?_⟩
    rw [hnew] at a3
    obtain ⟨b, d3⟩ := a3
    obtain ⟨hb1, hb2⟩ := hE b
    have hB := bytes_ok (mkE b) hx
    have e2' := (hD.same sB).tup x3 (s3 _ _ e2)
    walk_at "ps"
    refine ⟨small_len (by have := hx.wd.2.2; show 6 + x.length ≤ 100000; omega), ?_⟩
    walk_at "ps"
    refine ⟨t2, row, rfl, SqT.of e2', (by omega), hrb, fun H4 s4 => ?_⟩
    refine ⟨(by show 2 ≤ sizeLine; decide), fun p5 f5 => ?_⟩
    refine ⟨D, E ++ [mkE b], .bytes x (mkE b), p5, (by rw [bytes_line]; rfl), ?_, (d3.same s4).same (Same.new f5), (by rw [List.length_append]; simp; omega), hB.pts, hB.words, hB.len, trivial, ⟨look_new hxE hb1, trivial⟩, fun H5 x5 a5 => k _⟩
    show _ = some (HO.tup [V.str "told", V.str (hexT (Ent.row (mkE b)))])
    rw [hb2]
    exact upd_same
end
end TL
set_option Elab.async false
set_option linter.all false
set_option maxRecDepth 100000
set_option pp.maxSteps 600
set_option maxHeartbeats 4000000
namespace TL
open PySem PySem.Spec PyProof.Rows L2
/-- one question answered, where its answer is plain -/
local macro_rules | `(tactic| walk_at "p") => `(tactic| first
  | refine ⟨_, rfl, ?_⟩
  | refine ⟨_, _, rfl, rfl, ⟨by decide, by decide⟩, ?_⟩
  | refine ⟨_, _, rfl, rfl, (by show (0 : Int) < _; decide), ?_⟩
  | refine ⟨_, _, rfl, rfl, ?_⟩
  | refine ⟨rfl, ?_⟩
  | refine ⟨_, _, _, _, rfl, rfl, (by assumption), rfl, ?_⟩
  | refine .inr ⟨_, rfl, ?_⟩
  | refine .inl ⟨_, rfl, ?_⟩
  | refine iteT ?_
  | refine iteF ?_)
local macro_rules | `(tactic| walk_at "ps") => `(tactic| repeat walk_at "p")

def spLaw (K : PySem.W.Frag) : Sp := fun vs H Q _ => ∃ (a : Addr) (zs : List Int), vs = [.ref a] ∧ SqL K H a (zs.map V.int) ∧ ∀ H', Q (.bl true) H'
theorem str_len (x : Str) : x.length = (tl x).length := rfl
theorem formF_len {f : Form} (h1 : f.n < 25) (h2 : f.pt < 25) : (formF f).length ≤ 3000 := by
  have a := (wd_kind f.packed).2.2
  have b := (wd_n h1).2.2
  have c := (wd_sg f.sg).2.2
  have d := (wd_n h2).2.2
  rw [str_len] at a b c d ⊢
  rw [tl_formF]
  simp only [List.length_append, List.length_cons, List.length_nil]
  omega
/-- a deed of the desk and the rows that do it, alike -/
structure Deed (E : List Ent) (c : Cmd) (rs : List SR) (fr row : List Nat) (mk : Nat) (g : Form) : Prop where
  line : LineOk c
  ok : c.ok E
  look : All2 (Look E) (onesOf c.pts) c.es
  fresh : ∀ e ∈ E, e.1 ≠ "a"
  rows : ∀ r ∈ rs, RowOk r
  fr64 : fr.length ≤ 64
  fr256 : ∀ y ∈ fr, y < 256
  n0 : 0 < g.n
  n12 : g.n ≤ 12
  does : Does rs fr row mk
  width : row.length = g.width
  r255 : ∀ b ∈ row, b ≤ 255
  ans : c.ans = toS (mk : Nat)
  mk2 : mk < 2
  new : ∃ mkE, c.new = some mkE ∧ ∀ b, (mkE b).1 = "a" ∧ Ent.row (mkE b) = row
theorem spAlike.of {K : PySem.W.Frag} {H : Hp} {Q : VK} {X : XK} {D : Dk} {E : List Ent} {c : Cmd} {q a fa : Addr} {rs : List SR} {fr row : List Nat} {cell : Int} {g : Form} {mk : Nat} {l : Str} (d : Deed E c rs fr row mk g) (hl : l = lineS c.wd c.pts) (hD : DAt K H D E) (hE : E.length < 49) (hP : PAt H q rs) (hF : SqT K H a (fr.map nV)) (hG : SqT K H fa g.vs) (k : ∀ H', Q (.bl true) H') :
    spAlike K [.ref D.d, .str l, .str "a", .ref q, .ref a, .int cell, .ref fa] H Q X := by
  subst hl
  obtain ⟨mkE, h1, h2⟩ := d.new
  have w := width_le g d.n12
  exact ⟨D, E, c, "a", q, a, fa, rs, fr, row, cell, g, mk, mkE, rfl, hD, hE, d.line, d.ok, d.look, .inr (.inr rfl), d.fresh, hP, d.rows, hF, d.fr64, d.fr256, hG, d.n0, Nat.le_trans d.n12 (by decide), d.does, d.width, (by rw [d.width]; omega), d.r255, d.ans, d.mk2, h1, h2, k⟩
theorem deed_made {E : List Ent} {c : Cmd} {rs : List SR} {fr : List Nat} {g : Form} {N : Int} (line : LineOk c) (ok : c.ok E) (look : All2 (Look E) (onesOf c.pts) c.es) (fresh : ∀ e ∈ E, e.1 ≠ "a") (rows : ∀ r ∈ rs, RowOk r) (fr64 : fr.length ≤ 64) (fr256 : ∀ y ∈ fr, y < 256) (n0 : 0 < g.n) (n12 : g.n ≤ 12)
    (does : Does rs fr (keptRow g (foldedZ g N)) (if fitsZ g N then 0 else 1)) (ans : c.ans = markS g N) (new : c.new = some fun b => madeE "a" b g N) : Deed E c rs fr (keptRow g (foldedZ g N)) (if fitsZ g N then 0 else 1) g := by
  obtain ⟨_, _, r3⟩ := row_facts (made_ok N n0 n12)
  exact ⟨line, ok, look, fresh, rows, fr64, fr256, n0, n12, does, keptRow_length _ _, r3, by rw [ans, mark_eq], by split <;> decide, _, new, fun b => ⟨rfl, rfl⟩⟩
section
variable {a1 a2 : Addr} {f g : Form} {ds es : List Nat} {sh th : Nat}
abbrev eOne (a1 : Addr) (f : Form) (ds : List Nat) (sh : Nat) : Ent := ("one", a1, f, ds, sh)
abbrev eTwo (a2 : Addr) (f : Form) (es : List Nat) (th : Nat) : Ent := ("two", a2, f, es, th)
theorem look_one : Look [eOne a1 f ds sh, eTwo a2 f es th] "one" (eOne a1 f ds sh) := rfl
theorem look_two : Look [eOne a1 f ds sh, eTwo a2 f es th] "two" (eTwo a2 f es th) := rfl
theorem fresh_a : ∀ e ∈ [eOne a1 f ds sh, eTwo a2 f es th], e.1 ≠ "a" := by
  intro e he
  simp only [List.mem_cons, List.not_mem_nil, or_false] at he
  rcases he with rfl | rfl
  · show ("one" : Str) ≠ "a"; decide
  · show ("two" : Str) ≠ "a"; decide
theorem pair_facts (h1 : EntOk f ds sh) (h2 : EntOk f es th) : (rowOf f ds sh ++ rowOf f es th).length ≤ 64 ∧ ∀ y ∈ rowOf f ds sh ++ rowOf f es th, y < 256 := by
  obtain ⟨_, l1, b1⟩ := row_facts h1
  obtain ⟨_, l2, b2⟩ := row_facts h2
  refine ⟨by rw [List.length_append]; omega, fun y hy => ?_⟩
  rcases List.mem_append.mp hy with hy | hy
  · have := b1 y hy; omega
  · have := b2 y hy; omega
theorem lname1 : LName "one" := .inl rfl
theorem lname2 : LName "two" := .inr (.inl rfl)
theorem lnameA : LName "a" := .inr (.inr rfl)
theorem deed_sum (hp : f.pt ≤ f.n) (h1 : EntOk f ds sh) (h2 : EntOk f es th) : Deed [eOne a1 f ds sh, eTwo a2 f es th] (.two 0 "a" "one" "two" (eOne a1 f ds sh) (eTwo a2 f es th)) (bSum f).rows (rowOf f ds sh ++ rowOf f es th) (keptRow f (foldedZ f (readZ f ds sh + readZ f es th))) (if fitsZ f (readZ f ds sh + readZ f es th) then 0 else 1) f := by
  obtain ⟨p1, p2⟩ := pair_facts h1 h2
  exact deed_made (two_ok _ _ lnameA lname1 lname2) ⟨by decide, rfl, fun h => absurd h (by decide), hp, fresh_a⟩ ⟨look_one, look_two, trivial⟩ fresh_a (rows_sum h1.n12) p1 p2 h1.n0 h1.n12 (does_sum h1.n0 h1.n12 h1.good h2.good) rfl rfl
theorem deed_less (hp : f.pt ≤ f.n) (h1 : EntOk f ds sh) (h2 : EntOk f es th) : Deed [eOne a1 f ds sh, eTwo a2 f es th] (.two 1 "a" "one" "two" (eOne a1 f ds sh) (eTwo a2 f es th)) (bDifference f).rows (rowOf f ds sh ++ rowOf f es th) (keptRow f (foldedZ f (readZ f ds sh - readZ f es th))) (if fitsZ f (readZ f ds sh - readZ f es th) then 0 else 1) f := by
  obtain ⟨p1, p2⟩ := pair_facts h1 h2
  exact deed_made (two_ok _ _ lnameA lname1 lname2) ⟨by decide, rfl, fun h => absurd h (by decide), hp, fresh_a⟩ ⟨look_one, look_two, trivial⟩ fresh_a (rows_difference h1.n12) p1 p2 h1.n0 h1.n12 (does_difference h1.n0 h1.n12 h1.good h2.good) rfl rfl
abbrev longer (f : Form) : Form := ⟨f.packed, f.n + f.n, f.sg, f.pt + f.pt⟩
theorem deed_times (hp : f.pt ≤ f.n) (h6 : f.n ≤ 6) (h1 : EntOk f ds sh) (h2 : EntOk f es th) : Deed [eOne a1 f ds sh, eTwo a2 f es th] (.two 2 "a" "one" "two" (eOne a1 f ds sh) (eTwo a2 f es th)) (bProduct f f.n).rows (rowOf f ds sh ++ rowOf f es th) (keptRow (longer f) (foldedZ (longer f) (readZ f ds sh * readZ f es th))) (if fitsZ (longer f) (readZ f ds sh * readZ f es th) then 0 else 1) (longer f) := by
  obtain ⟨p1, p2⟩ := pair_facts h1 h2
  have n0 := h1.n0
  exact deed_made (two_ok _ _ lnameA lname1 lname2) ⟨by decide, rfl, fun _ => h6, hp, fresh_a⟩ ⟨look_one, look_two, trivial⟩ fresh_a (rows_product (by omega)) p1 p2 (by show 0 < f.n + f.n; omega) (by show f.n + f.n ≤ 12; omega) (does_product h1.n0 h6 h1.good h2.good) rfl rfl
theorem one_facts (h2 : EntOk f es th) : (rowOf f es th).length ≤ 64 ∧ ∀ y ∈ rowOf f es th, y < 256 := by
  obtain ⟨_, l2, b2⟩ := row_facts h2
  exact ⟨by omega, fun y hy => by have := b2 y hy; omega⟩
theorem deed_move {i : Int} {r : Rule} (h6 : f.n ≤ 6) (hi : i.natAbs ≤ f.n) (h2 : EntOk f es th) : Deed [eOne a1 f ds sh, eTwo a2 f es th] (.move "a" "two" i r (eTwo a2 f es th)) (bMoved f i r).rows (rowOf f es th) (keptRow f (foldedZ f (roundedZ (readZ f es th) i r))) (if fitsZ f (roundedZ (readZ f es th) i r) then 0 else 1) f := by
  obtain ⟨p1, p2⟩ := one_facts h2
  exact deed_made (move_ok _ lnameA lname2 (by omega) (by omega)) ⟨hi, by omega, by omega, fresh_a⟩ ⟨look_two, trivial⟩ fresh_a (rows_moved h2.n12 (by omega)) p1 p2 h2.n0 h2.n12 (does_moved h2.n0 h2.n12 (by omega) h2.good) rfl rfl
theorem deed_turn (g0 : 0 < g.n) (g12 : g.n ≤ 12) (gp : g.pt ≤ g.n) (h2 : EntOk f es th) : Deed [eOne a1 f ds sh, eTwo a2 f es th] (.turn "a" "two" g (eTwo a2 f es th)) (bRekept f g).rows (rowOf f es th) (keptRow g (foldedZ g (readZ f es th))) (if fitsZ g (readZ f es th) then 0 else 1) g := by
  obtain ⟨p1, p2⟩ := one_facts h2
  exact deed_made (turn_ok _ lnameA lname2 g12 gp) ⟨g0, g12, gp, fresh_a⟩ ⟨look_two, trivial⟩ fresh_a (rows_rekept h2.n12 g12) p1 p2 g0 g12 (does_rekept h2.n0 h2.n12 g0 g12 h2.good) rfl rfl
theorem sum_line : ("sum a one two" : Str) = lineS (Cmd.two 0 "a" "one" "two" (eOne a1 f ds sh) (eTwo a2 f es th)).wd (Cmd.two 0 "a" "one" "two" (eOne a1 f ds sh) (eTwo a2 f es th)).pts := two_line "sum" "a" "one" "two" _ rfl
theorem less_line : ("less a one two" : Str) = lineS (Cmd.two 1 "a" "one" "two" (eOne a1 f ds sh) (eTwo a2 f es th)).wd (Cmd.two 1 "a" "one" "two" (eOne a1 f ds sh) (eTwo a2 f es th)).pts := two_line "less" "a" "one" "two" _ rfl
theorem times_line : ("times a one two" : Str) = lineS (Cmd.two 2 "a" "one" "two" (eOne a1 f ds sh) (eTwo a2 f es th)).wd (Cmd.two 2 "a" "one" "two" (eOne a1 f ds sh) (eTwo a2 f es th)).pts := two_line "times" "a" "one" "two" _ rfl
end
theorem dx_same {D : Dk} {Hd H0 H' : Hp} (s : Same Hd H0) (n1 : Hd D.d = none) (n2 : Hd D.pl = none) (x : Dx D H0 H') : Same Hd H' := fun a o e => x a o (ne_of_none e n1) (ne_of_none e n2) (s a o e)
end TL
set_option Elab.async false
set_option linter.all false
set_option maxRecDepth 100000
set_option pp.maxSteps 600
set_option maxHeartbeats 4000000
namespace TL
open PySem PySem.Spec PyProof.Rows L2
/-- one question answered, where its answer is plain -/
local macro_rules | `(tactic| walk_at "p") => `(tactic| first
  | refine ⟨_, rfl, ?_⟩
  | refine ⟨_, _, rfl, rfl, ⟨by decide, by decide⟩, ?_⟩
  | refine ⟨_, _, rfl, rfl, (by show (0 : Int) < _; decide), ?_⟩
  | refine ⟨_, _, rfl, rfl, ?_⟩
  | refine ⟨rfl, ?_⟩
  | refine ⟨_, _, _, _, rfl, rfl, (by assumption), rfl, ?_⟩
  | refine .inr ⟨_, rfl, ?_⟩
  | refine .inl ⟨_, rfl, ?_⟩
  | refine iteT ?_
  | refine iteF ?_)
local macro_rules | `(tactic| walk_at "ps") => `(tactic| repeat walk_at "p")

/-- the entries after i turns of the law's loop -/
def Ents (f : Form) (i : Nat) (E : List Ent) : Prop := E.map (·.1) = (["one", "two"] : List Str).take i ∧ ∀ e ∈ E, e.2.2.1 = f
theorem Ents.two {f : Form} {E : List Ent} (h : Ents f 2 E) : ∃ a1 ds sh a2 es th, E = [eOne a1 f ds sh, eTwo a2 f es th] := by
  obtain ⟨h1, h2⟩ := h
  match E, h1, h2 with
  | [(x1, a1, f1, ds, sh), (x2, a2, f2, es, th)], h1, h2 =>
    have e1 : f1 = f := h2 (x1, a1, f1, ds, sh) (by simp)
    have e2 : f2 = f := h2 (x2, a2, f2, es, th) (by simp)
    injection h1 with h1 h3
    injection h3 with h3 _
    have h1 : x1 = "one" := h1
    have h3 : x2 = "two" := h3
    subst e1 e2 h1 h3
    exact ⟨a1, ds, sh, a2, es, th, rfl⟩
theorem ents_fresh {f : Form} {E : List Ent} {i : Nat} {y : Str} (h : Ents f i E) (hy : (["one", "two"] : List Str)[i]? = some y) : (∀ e ∈ E, e.1 ≠ y) ∧ E.length ≤ 1 ∧ LName y := by
  obtain ⟨h1, h2⟩ := h
  have hi := (List.getElem?_eq_some_iff.mp hy).1
  have hi : i < 2 := hi
  have l := congrArg List.length h1
  rw [List.length_map, List.length_take] at l
  have l2 : E.length ≤ 1 := by omega
  have : i = 0 ∨ i = 1 := by omega
  rcases this with rfl | rfl
  · obtain rfl : "one" = y := Option.some.inj hy
    refine ⟨fun e he => ?_, l2, lname1⟩
    have : e.1 ∈ E.map (·.1) := List.mem_map_of_mem he
    rw [h1] at this
    cases this
  · obtain rfl : "two" = y := Option.some.inj hy
    refine ⟨fun e he => ?_, l2, lname2⟩
    have : e.1 ∈ E.map (·.1) := List.mem_map_of_mem he
    rw [h1] at this
    have : e.1 ∈ (["one"] : List Str) := this
    rw [List.mem_singleton.mp this]
    decide
theorem ents_next {f : Form} {E : List Ent} {i : Nat} {y : Str} (h : Ents f i E) (hy : (["one", "two"] : List Str)[i]? = some y) (a : Addr) (ds : List Nat) (sh : Nat) : Ents f (i + 1) (E ++ [(y, a, f, ds, sh)]) := by
  obtain ⟨h1, h2⟩ := h
  refine ⟨?_, fun e he => ?_⟩
  · rw [List.map_append, h1, List.take_succ, hy]
    rfl
  · rcases List.mem_append.mp he with he | he
    · exact h2 e he
    · rw [List.mem_singleton.mp he]
section
variable {P : Program} {w : World} {K : PySem.W.Frag} {mg : Str → Option Value}
/-- the law as the end takes it: one function object, kept over every base -/
def LawOk (P : Program) (w : World) (K : PySem.W.Frag) (mg : Str → Option Value) (k i : Nat) (x : Str) (ps : List Str) (sp : Sp) : Prop :=
  ∃ fd : FuncData, mg x = some (.ref (adr K i)) ∧ (∀ (s : Shared) (us : List Value), us.length = ps.length → BindsTo s fd ⟨us, []⟩ (ps.zip us)) ∧ ∀ base : Heap, FnOk P w K mg base CX0 k (adr K i) fd ps sp
theorem mkLaw (T : TX w K mg) (i : Nat) {x n : Str} {j : Nat} {N ps : List Str} {k : Nat} {sp : Sp} (hx : keyQ[i + 9]? = some x) (hd : valQ[i]? = some (dq n j)) (S : FnScope N ps (defScope (top j)))
    (hb : ∀ (kV doc pm : Value) (an : Option Addr) (cdv ct : Value) (us : List Value), us.length = ps.length → bindArgs (PySem.W.fnOf n n (defArgs (top j)) (defBody (top j)) (defScope (top j)) .none kV doc pm an cdv ct) ⟨us, []⟩ = pure (ps.zip us))
    (len : ∀ vs H Q E, sp vs H Q E → vs.length = ps.length)
    (body : ∀ (base : Heap) (f : Addr) (cdv : Value) (A : Around) (outer : List Env) (s : Shared) (H : Hp) (vs : List V) (Q : VK) (E : XK), Room k (A.deeper (envOfC n (defScope (top j)) s.heap.objs.size f cdv)) → sp vs H Q E →
      ∃ t, PSs (cxOf CX0 P w K mg base N n (defScope (top j)) f cdv A outer s H E).nox (defBody (top j)) t ∧ t { nx := fun _ H' => Q .non H', rt := Q } (start N vs) H) : LawOk P w K mg (k + 1) (i + 9) x ps sp := by
  obtain ⟨fd, hm, F⟩ := T.fnD i hx hd
  have F' : Fun K n n (top j) (adr K (i + 9)) fd := fun_ofD F
  exact ⟨fd, hm, fun s us hl => FunD.bindsA F hb s us hl, fun base => F'.ok S len (body base _)⟩
theorem sc_law : FnScope ["_law_script", "_law_which", "_law_by", "_law_rule", "_law_base", "_law_form_here", "_law_row", "_law_desk", "_law_k", "_law_name", "_law_name_draw", "_law_dress", "_law_far", "_law_line", "_law_pair", "_law_cell_here", "_law_cells", "_law_mark", "_law_due", "_law_longer", "_law_front_here"] ["_law_script"] (defScope (top 173)) := ⟨rfl, rfl, rfl, by decide +kernel, rfl, by decide +kernel, by decide +kernel⟩
theorem d_law (T : TX w K mg) : LawOk P w K mg 11 164 "law" ["_law_script"] (spLaw K) := by
  refine mkLaw T 155 rfl rfl sc_law (fun _ _ _ _ _ _ us hl => match us, hl with | [_], _ => rfl) (fun vs H Q E h => ?_) (fun base f cdv A outer s H vs Q E hr h => ?_)
  · obtain ⟨a, zs, rfl, hL, k⟩ := h
    rfl
  · obtain ⟨a, zs, rfl, hL, k⟩ := h
    refine ⟨_, 
        (pss_cons (ps_asg (pe_callD (d_law_draws T) (hr.mono (by decide)) (by rfl) (pa_cons (pe_callD (d_law_cell T) (hr.mono (by decide)) (by rfl) (pa_cons (pv 0) (pa_cons pe_int pa_nil))) (pa_cons pe_int (pa_cons (pe_lst (pa_cons pe_int (pa_cons pe_int (pa_cons pe_int pa_nil)))) pa_nil)))) (pg_unl rfl (pgs_cons (pg_name (i := 1) sc_law.nd rfl (Or.inl rfl)) (pgs_cons (pg_name (i := 2) sc_law.nd rfl (Or.inl rfl)) (pgs_cons (pg_name (i := 3) sc_law.nd rfl (Or.inl rfl)) pgs_nil))))) 
        (pss_cons (ps_set (i := 4) sc_law.nd rfl (Or.inl rfl) (pe_callD (d_law_pointed T) (hr.mono (by decide)) (by rfl) (pa_cons (pe_callD (d_law_draws T) (hr.mono (by decide)) (by rfl) (pa_cons (pe_callD (d_law_cell T) (hr.mono (by decide)) (by rfl) (pa_cons (pv 0) (pa_cons pe_int pa_nil))) (pa_cons pe_int (pa_cons (pe_lst (pa_cons pe_int (pa_cons pe_int (pa_cons pe_int (pa_cons pe_int pa_nil))))) pa_nil)))) pa_nil))) 
        (pss_cons (ps_asg (pe_callD (d_law_dressed_thing T) (hr.mono (by decide)) (by rfl) (pa_cons (pe_callD (d_law_cell T) (hr.mono (by decide)) (by rfl) (pa_cons (pv 0) (pa_cons pe_int pa_nil))) (pa_cons pe_int pa_nil))) (pg_tup rfl (pgs_cons (pg_name (i := 5) sc_law.nd rfl (Or.inl rfl)) (pgs_cons (pg_name (i := 6) sc_law.nd rfl (Or.inl rfl)) pgs_nil)))) 
        (pss_cons (ps_set (i := 3) sc_law.nd rfl (Or.inl rfl) (pe_ix ix_tup (pe_tup (pa_cons pe_str (pa_cons pe_str (pa_cons pe_str (pa_cons pe_str (pa_cons pe_str (pa_cons pe_str pa_nil))))))) (pv 3) (fun _ _ => rfl))) 
        (pss_cons (ps_set (i := 7) sc_law.nd rfl (Or.inl rfl) (pe_make0D T.mkD (n___init__ T) (hr.mono (by decide)) (T.obj 120 rfl rfl))) 
        (pss_cons (ps_for PassesOwn.never rfl (pi_enumT (by rfl) T.enumerate_ (pa_cons (pe_tup (pa_cons pe_str (pa_cons pe_str pa_nil))) pa_nil)) (pg_tup rfl (pgs_cons (pg_name (i := 8) sc_law.nd rfl (Or.inl rfl)) (pgs_cons (pg_name (i := 9) sc_law.nd rfl (Or.inl rfl)) pgs_nil))) 
          (pss_cons (ps_asg (pe_callD (d_law_draws T) (hr.mono (by decide)) (by rfl) (pa_cons (pe_callD (d_law_cell T) (hr.mono (by decide)) (by rfl) (pa_cons (pv 0) (pa_cons (pe_op op_add pe_int (pv 8)) pa_nil))) (pa_cons pe_int (pa_cons (pe_lst (pa_cons pe_int (pa_cons pe_int (pa_cons (pe_op op_pow pe_int pe_int) pa_nil)))) pa_nil)))) (pg_unl rfl (pgs_cons (pg_name (i := 10) sc_law.nd rfl (Or.inl rfl)) (pgs_cons (pg_name (i := 11) sc_law.nd rfl (Or.inl rfl)) (pgs_cons (pg_name (i := 12) sc_law.nd rfl (Or.inl rfl)) pgs_nil))))) 
          (pss_cons (ps_set (i := 6) sc_law.nd rfl (Or.inl rfl) (pe_callD (d_law_dressed T) (hr.mono (by decide)) (by rfl) (pa_cons (pv 4) (pa_cons (pe_callD (d_law_number T) (hr.mono (by decide)) (by rfl) (pa_cons (pv 4) (pa_cons (pv 10) (pa_cons (pv 12) pa_nil)))) (pa_cons (pv 11) pa_nil))))) 
          (pss_cons (ps_set (i := 13) sc_law.nd rfl (Or.inl rfl) (pe_op op_add_str (pe_op op_add_str (pe_op op_add_str (pe_op op_add_str (pe_op op_add_str pe_str (pv 9)) pe_str) (pe_callD (d_law_words T) (hr.mono (by decide)) (by rfl) (pa_cons (pv 4) pa_nil))) pe_str) (pe_callD (d_law_hexed T) (hr.mono (by decide)) (by rfl) (pa_cons (pv 6) pa_nil)))) 
          (pss_one (ps_if (pt_not (pt_val (pe_callD (d_law_answered T) (hr.mono (by decide)) (by rfl) (pa_cons (pv 7) (pa_cons (pv 13) (pa_cons (pe_tup (pa_cons pe_str (pa_cons pe_str pa_nil))) pa_nil)))))) 
            (pss_one (ps_ret pe_bl)) pss_nil)))))) 
        (pss_cons (ps_set (i := 14) sc_law.nd rfl (Or.inl rfl) (pe_callD (d_law_front T) (hr.mono (by decide)) (by rfl) (pa_cons (pv 7) (pa_cons (pe_tup (pa_cons pe_str (pa_cons pe_str pa_nil))) pa_nil)))) 
        (pss_cons (ps_set (i := 15) sc_law.nd rfl (Or.inl rfl) (pe_callD (d_law_cell T) (hr.mono (by decide)) (by rfl) (pa_cons (pv 0) (pa_cons pe_int pa_nil)))) 
        (pss_cons (ps_if (pt_cmpR op_eq (pv 1) pe_int (nomark _)) 
          (pss_one (ps_ret (pe_callD (d_law_done_alike T) (hr.mono (by decide)) (by rfl) (pa_cons (pv 7) (pa_cons pe_str (pa_cons pe_str (pa_cons (pe_callD (d_sum_rows T) (hr.mono (by decide)) (by rfl) (pa_cons (pv 4) pa_nil)) (pa_cons (pv 14) (pa_cons (pv 15) (pa_cons (pv 4) pa_nil)))))))))) pss_nil) 
        (pss_cons (ps_if (pt_cmpR op_eq (pv 1) pe_int (nomark _)) 
          (pss_one (ps_ret (pe_callD (d_law_done_alike T) (hr.mono (by decide)) (by rfl) (pa_cons (pv 7) (pa_cons pe_str (pa_cons pe_str (pa_cons (pe_callD (d_difference_rows T) (hr.mono (by decide)) (by rfl) (pa_cons (pv 4) pa_nil)) (pa_cons (pv 14) (pa_cons (pv 15) (pa_cons (pv 4) pa_nil)))))))))) pss_nil) 
        (pss_cons (ps_if (pt_cmpR op_eq (pv 1) pe_int (nomark _)) 
          (pss_cons (ps_asg (pe_callD (d_law_after T) (hr.mono (by decide)) (by rfl) (pa_cons (pe_callD (d_compare_rows T) (hr.mono (by decide)) (by rfl) (pa_cons (pv 4) pa_nil)) (pa_cons (pv 14) (pa_cons (pv 15) (pa_cons pe_int (pa_cons pe_int pa_nil)))))) (pg_tup rfl (pgs_cons (pg_name (i := 16) sc_law.nd rfl (Or.inl rfl)) (pgs_cons (pg_name (i := 17) sc_law.nd rfl (Or.inl rfl)) pgs_nil)))) 
          (pss_cons (ps_set (i := 18) sc_law.nd rfl (Or.inl rfl) (pe_ix ix_tup (pe_tup (pa_cons pe_str (pa_cons pe_str (pa_cons pe_str pa_nil)))) (pe_op op_mod (pe_ix ix_tup (pv 16) pe_int (fun _ _ => rfl)) pe_int) (fun _ _ => rfl))) 
          (pss_one (ps_ret (pe_and (pe_cmpR op_lt (pe_ix ix_tup (pv 16) pe_int (fun _ _ => rfl)) pe_int (nomark _)) (pe_and (pe_cmpR op_eq (pv 17) pe_int (nomark _)) (pe_one (pe_callD (d_law_answered T) (hr.mono (by decide)) (by rfl) (pa_cons (pv 7) (pa_cons pe_str (pa_cons (pe_tup (pa_cons pe_str (pa_cons (pv 18) pa_nil))) pa_nil))))))))))) pss_nil) 
        (pss_cons (ps_if (pt_cmpR op_eq (pv 1) pe_int (nomark _)) 
          (pss_cons (ps_set (i := 19) sc_law.nd rfl (Or.inl rfl) (pe_tup (pa_cons (pe_ix ix_tup (pv 4) pe_int (fun _ _ => rfl)) (pa_cons (pe_op op_mul pe_int (pe_ix ix_tup (pv 4) pe_int (fun _ _ => rfl))) (pa_cons (pe_ix ix_tup (pv 4) pe_int (fun _ _ => rfl)) (pa_cons (pe_op op_mul pe_int (pe_ix ix_tup (pv 4) pe_int (fun _ _ => rfl))) pa_nil)))))) 
          (pss_one (ps_ret (pe_callD (d_law_done_alike T) (hr.mono (by decide)) (by rfl) (pa_cons (pv 7) (pa_cons pe_str (pa_cons pe_str (pa_cons (pe_callD (d_product_rows T) (hr.mono (by decide)) (by rfl) (pa_cons (pv 4) (pa_cons (pe_ix ix_tup (pv 4) pe_int (fun _ _ => rfl)) pa_nil))) (pa_cons (pv 14) (pa_cons (pv 15) (pa_cons (pv 19) pa_nil))))))))))) pss_nil) 
        (pss_cons (ps_set (i := 20) sc_law.nd rfl (Or.inl rfl) (pe_callD (d_law_front T) (hr.mono (by decide)) (by rfl) (pa_cons (pv 7) (pa_cons (pe_tup (pa_cons pe_str pa_nil)) pa_nil)))) 
        (pss_cons (ps_if (pt_cmpR op_eq (pv 1) pe_int (nomark _)) 
          (pss_cons (ps_set (i := 12) sc_law.nd rfl (Or.inl rfl) (pe_op op_sub (pe_op op_mod (pv 2) (pe_op op_add (pe_op op_mul pe_int (pe_ix ix_tup (pv 4) pe_int (fun _ _ => rfl))) pe_int)) (pe_ix ix_tup (pv 4) pe_int (fun _ _ => rfl)))) 
          (pss_cons (ps_set (i := 13) sc_law.nd rfl (Or.inl rfl) (pe_joined (.cons pe_str (.cons (pe_fmt (pv 12)) (.cons pe_str (.cons (pe_fmt (pv 3)) .nil)))))) 
          (pss_one (ps_ret (pe_callD (d_law_done_alike T) (hr.mono (by decide)) (by rfl) (pa_cons (pv 7) (pa_cons (pv 13) (pa_cons pe_str (pa_cons (pe_callD (d_moved_rows T) (hr.mono (by decide)) (by rfl) (pa_cons (pv 4) (pa_cons (pv 12) (pa_cons (pv 3) pa_nil)))) (pa_cons (pv 20) (pa_cons (pv 15) (pa_cons (pv 4) pa_nil)))))))))))) pss_nil) 
        (pss_cons (ps_set (i := 13) sc_law.nd rfl (Or.inl rfl) (pe_op op_add_str pe_str (pe_callD (d_law_words T) (hr.mono (by decide)) (by rfl) (pa_cons (pv 5) pa_nil)))) 
        (pss_one (ps_ret (pe_callD (d_law_done_alike T) (hr.mono (by decide)) (by rfl) (pa_cons (pv 7) (pa_cons (pv 13) (pa_cons pe_str (pa_cons (pe_callD (d_rekept_rows T) (hr.mono (by decide)) (by rfl) (pa_cons (pv 4) (pa_cons (pv 5) pa_nil))) (pa_cons (pv 20) (pa_cons (pv 15) (pa_cons (pv 5) pa_nil))))))))))))))))))))))))), ?_⟩
    refine ⟨_, rfl, ?_⟩
    refine ⟨a, zs, 0, rfl, hL, by decide, fun H1 c0 s1 => ?_⟩
    skip
    refine ⟨(by show 3 ≤ sizeLine; decide), fun p1 f1 => ?_⟩
    have s2 := s1.trans (Same.new (o := .lst ([6, 13, 6].map nV)) f1)
    refine ⟨c0, 559, p1, [6, 13, 6], rfl, SqL.of upd_same, (by decide), (by decide), fun H2 q1 ds s3 f2 e1 hd => ?_⟩
    obtain ⟨which, by_, rl, rfl, b0, b1, b2⟩ : ∃ d0 d1 d2, ds = [d0, d1, d2] ∧ d0 < 6 ∧ d1 < 13 ∧ d2 < 6 := by
      match ds, hd with
      | [d0, d1, d2], ⟨b0, b1, b2, _⟩ => exact ⟨d0, d1, d2, rfl, b0, b1, b2⟩
    clear hd
    refine ⟨q1, _, rfl, SqL.of e1, rfl, _, _, rfl, _, _, rfl, _, _, rfl, rfl, ?_⟩
    have sA := s2.trans s3
    clear s1 s2 s3 e1 f1 f2
    refine ⟨_, rfl, ?_⟩
    refine ⟨a, zs, 1, rfl, sA.leq hL, by decide, fun H3 c1 s1 => ?_⟩
    skip
    refine ⟨(by show 4 ≤ sizeLine; decide), fun p2 f2 => ?_⟩
    have s2 := (sA.trans s1).trans (Same.new (o := .lst ([2, 6, 3, 13].map nV)) f2)
    refine ⟨c1, 561, p2, [2, 6, 3, 13], rfl, SqL.of upd_same, (by decide), (by decide), fun H4 q2 ds s4 f4 e2 hd => ?_⟩
    obtain ⟨d0, d1, d2, d3, rfl, m0, m1, m2, m3⟩ : ∃ d0 d1 d2 d3, ds = [d0, d1, d2, d3] ∧ d0 < 2 ∧ d1 < 6 ∧ d2 < 3 ∧ d3 < 13 := by
      match ds, hd with
      | [d0, d1, d2, d3], ⟨m0, m1, m2, m3, _⟩ => exact ⟨d0, d1, d2, d3, rfl, m0, m1, m2, m3⟩
    refine ⟨q2, [d0, d1, d2, d3], rfl, SqL.of e2, (by show 4 ≤ 4; decide), m0, (by show d1 ≤ 20; omega), m2, fun H5 fa f' s5 f5 en ep e5 => ?_⟩
    have en : f'.n = d1 + 1 := en
    have hn0 : 0 < f'.n := by omega
    have hn6 : f'.n ≤ 6 := by omega
    have sB := (s2.trans s4).trans s5
    clear hd en m0 m1 m2 m3 s2 s4 s5 e2 f2 f4 s1
    refine ⟨_, rfl, ?_⟩
    refine ⟨a, zs, 2, rfl, sB.leq hL, by decide, fun H6 c2 s6 => ?_⟩
    skip
    refine ⟨c2, 563, rfl, fun H7 p3 ga r3 g gs gh s7 f7 g0 g12 gp gG e7 e8 e9 => ?_⟩
    refine ⟨_, _, rfl, SqT.of e9, rfl, _, _, rfl, _, _, rfl, rfl, ?_⟩
    have sC := (sB.trans s6).trans s7
    have hF := SqT.of (K := K) (s7 _ _ (s6 _ _ e5))
    have hG := SqT.of (K := K) e7
    clear e5 e7 e8 e9 f5 f7 s6 s7 sA sB
    skip
    refine ⟨(by show 6 ≤ sizeLine; decide), fun p4 f4 => ?_⟩
    obtain ⟨r, hr⟩ : ∃ r : Rule, atI ([V.str "cut", V.str "up", V.str "half", V.str "even", V.str "floor", V.str "ceil"]) (rl : Int) = some (V.str (ruleS r)) := by
      have : rl = 0 ∨ rl = 1 ∨ rl = 2 ∨ rl = 3 ∨ rl = 4 ∨ rl = 5 := by omega
      rcases this with rfl | rfl | rfl | rfl | rfl | rfl
      · exact ⟨.cut, rfl⟩
      · exact ⟨.up, rfl⟩
      · exact ⟨.half, rfl⟩
      · exact ⟨.even, rfl⟩
      · exact ⟨.floor, rfl⟩
      · exact ⟨.ceil, rfl⟩
    refine ⟨_, rfl, ?_⟩
    refine ⟨_, _, _, _, rfl, rfl, SqT.of upd_same, hr, ?_⟩
    have s4 := Same.new (o := .tup [V.str "cut", V.str "up", V.str "half", V.str "even", V.str "floor", V.str "ceil"]) f4
    have hF := s4.teq hF
    have hG := s4.teq hG
    have hL := (sC.trans s4).leq hL
    revert hF hG hL
    generalize upd H7 p4 _ = Hd
    intro hF hG hL
    clear s4 sC f4 hr b2
    refine fun d dx nd ndx ndd => ⟨d, dx, rfl, upd_same, fun H0 D e1 e2 e3 hD => ⟨rfl, ?_⟩⟩
    have n1 : Hd D.d = none := by rw [e1]; exact nd
    have n2 : Hd D.pl = none := by
      cases e : Hd D.pl with
      | none => rfl
      | some o =>
        have h1 := ne_of_none e nd
        have h2 := ne_of_none e ndx
        rw [upd_ne h1, upd_ne h2, e] at e3
        cases e3
    have s0 : Same Hd H0 := fun b o e => e2 b o (ne_of_none e nd) (by rw [upd_ne (ne_of_none e nd), upd_ne (ne_of_none e ndx)]; exact e)
    subst e1
    clear e2 e3
    have hD : DAt K H0 D [] := hD
    refine ⟨(by show 2 ≤ sizeLine; decide), fun pn fn => ?_⟩
    have sn := Same.new (o := .tup [V.str "one", V.str "two"]) fn
    have hD1 := hD.same sn
    have hpn : upd H0 pn (.tup [V.str "one", V.str "two"]) pn = some (.tup [V.str "one", V.str "two"]) := upd_same
    have s1 := s0.trans sn
    revert hD1 hpn s1
    generalize upd H0 pn _ = HL
    intro hD1 hpn s1
    clear hD sn fn s0
    refine ⟨pn, [V.str "one", V.str "two"], rfl, SqT.of hpn, ?_⟩
    refine for_it (walk_et (K := K) (a := pn) (xs := [V.str "one", V.str "two"])) (fun i σ H' => Dx D HL H' ∧ ∃ E, DAt K H' D E ∧ Ents f' i E ∧ ∃ v6 v8 v9 v10 v11 v12 v13, σ = [some (.ref a), some (nV which), some (nV by_), some (.str (ruleS r)), some (.ref fa), some (.ref ga), v6, some (.ref D.d), v8, v9, v10, v11, v12, v13, none, none, none, none, none, none, none]) ⟨Dx.refl _ _, [], hD1, ⟨rfl, fun e he => nomatch he⟩, _, _, _, _, _, _, _, rfl⟩ (fun i σ H' _ h => hD1.sq h.1 (SqT.of hpn)) ?_ ?_
    · rintro i x σ H2 H3 hi ⟨x2, E, d2, hE, v6, v8, v9, v10, v11, v12, v13, rfl⟩ ⟨t, u, y, rfl, ht, rfl, hu, hy⟩
      obtain rfl : V.int (i : Nat) = u := Option.some.inj hu
      have hi : i < 2 := hi
      obtain ⟨y, hy', rfl⟩ : ∃ z, (["one", "two"] : List Str)[i]? = some z ∧ y = V.str z := by
        have : i = 0 ∨ i = 1 := by omega
        rcases this with rfl | rfl
        · exact ⟨_, rfl, (Option.some.inj hy).symm⟩
        · exact ⟨_, rfl, (Option.some.inj hy).symm⟩
      obtain ⟨hxE, hEl, hyn⟩ := ents_fresh hE hy'
      have st := Same.new (o := .tup [V.int (i : Nat), V.str y]) ht
      have x3 := x2.trans (Dx.of st)
      have d3 := d2.same st
      have et : upd H2 t (.tup [V.int (i : Nat), V.str y]) t = some (.tup [V.int (i : Nat), V.str y]) := upd_same
      revert x3 d3 et
      generalize upd H2 t _ = H3
      intro x3 d3 et
      clear st ht x2 d2
      have sS := dx_same s1 n1 n2 x3
      refine ⟨_, _, rfl, SqT.of et, rfl, _, _, rfl, _, _, rfl, rfl, ?_⟩
      refine ⟨_, rfl, ?_⟩
      refine ⟨_, rfl, ?_⟩
      refine ⟨_, _, rfl, rfl, ?_⟩
      refine ⟨a, zs, 3 + i, (by show [V.ref a, V.int ((3 : Int) + ((i : Nat) : Int))] = [V.ref a, V.int ((3 + i : Nat) : Int)]; rw [Int.natCast_add]; rfl), sS.leq hL, by omega, fun H4 c3 s4 => ?_⟩
      refine ⟨_, _, rfl, rfl, ⟨by decide, by decide⟩, ?_⟩
      refine ⟨(by show 3 ≤ sizeLine; decide), fun p1 f1 => ?_⟩
      have s5 := s4.trans (Same.new (o := .lst ([16, 12, 10 ^ 14].map nV)) f1)
      refine ⟨c3, 565, p1, [16, 12, 10 ^ 14], rfl, SqL.of upd_same, (by decide), (by decide), fun H5 q3 ds s6 f6 e6 hd => ?_⟩
      obtain ⟨nd, dr, far, rfl, b0, b1, b2⟩ : ∃ d0 d1 d2, ds = [d0, d1, d2] ∧ d0 < 16 ∧ d1 < 12 ∧ d2 < 10 ^ 14 := by
        match ds, hd with
        | [d0, d1, d2], ⟨b0, b1, b2, _⟩ => exact ⟨d0, d1, d2, rfl, b0, b1, b2⟩
      clear hd
      refine ⟨q3, _, rfl, SqL.of e6, rfl, _, _, rfl, _, _, rfl, _, _, rfl, rfl, ?_⟩
      have s7 := s5.trans s6
      clear s4 s5 s6 e6 f1 f6 b0 b1 b2
      refine ⟨_, rfl, ?_⟩
      refine ⟨_, rfl, ?_⟩
      refine ⟨_, rfl, ?_⟩
      refine ⟨_, rfl, ?_⟩
      refine ⟨fa, f', nd, far, rfl, (sS.trans s7).teq hF, hn0, (by omega), fun H6 z s8 => ?_⟩
      refine ⟨_, rfl, ?_⟩
      refine ⟨fa, f', z, dr, rfl, ((sS.trans s7).trans s8).teq hF, hn0, (by omega), fun H7 rp rs sh s9 f9 G e9 => ?_⟩
      have sT := (s7.trans s8).trans s9
      have x4 := x3.trans (Dx.of sT)
      have d4 := d3.same sT
      have sU := sS.trans sT
      clear s7 s8 s9 sT d3 x3 sS f9
      have hok : EntOk f' rs sh := ⟨hn0, by omega, G⟩
      obtain ⟨r1, r2, r3⟩ := row_facts hok
      have la : ("lay " : Str).length = 4 := by decide
      have lb : (" " : Str).length = 1 := by decide
      have ly := hyn.wd.2.2
      have lf := formF_len (f := f') (by omega) (by omega)
      have lh := hexT_len (rowOf f' rs sh)
      refine ⟨_, rfl, ?_⟩
      refine ⟨_, _, rfl, rfl, ?_⟩
      refine ⟨small_len (by rw [la]; omega), ?_⟩
      refine ⟨_, _, rfl, rfl, ?_⟩
      refine ⟨small_len (by rw [Str.length_append, la, lb]; omega), ?_⟩
      refine ⟨_, rfl, ?_⟩
      refine ⟨fa, f', rfl, sU.teq hF, (by omega), (by omega), ?_⟩
      refine ⟨_, _, rfl, rfl, ?_⟩
      refine ⟨small_len (by rw [Str.length_append, Str.length_append, la, lb]; omega), ?_⟩
      refine ⟨_, _, rfl, rfl, ?_⟩
      refine ⟨small_len (by rw [Str.length_append, Str.length_append, Str.length_append, la, lb]; omega), ?_⟩
      refine ⟨_, rfl, ?_⟩
      refine ⟨rp, rowOf f' rs sh, rfl, SqT.of e9, (by omega), r3, fun H8 s10 => ?_⟩
      refine ⟨_, _, rfl, rfl, ?_⟩
      refine ⟨small_len (by rw [Str.length_append, Str.length_append, Str.length_append, Str.length_append, la, lb]; omega), ?_⟩
      refine ⟨_, rfl, ?_⟩
      refine ⟨_, rfl, ?_⟩
      refine ⟨(by show 2 ≤ sizeLine; decide), fun tp ft => ?_⟩
      have hln := lay_ok hyn hok ep
      refine ⟨D, E, .lay y f' rs sh, tp, (by rw [lay_line r1]; rfl), upd_same, (d4.same s10).same (Same.new ft), (by omega), hln.pts, hln.words, hln.len, ⟨hok, ep, hxE⟩, trivial, fun H9 x9 a9 => ?_⟩
      obtain ⟨b, d9⟩ := a9
      have x10 := (x4.trans (Dx.of s10)).trans ((Dx.of (Same.new ft)).trans x9)
      refine ⟨_, rfl, ?_⟩
      refine iteF ?_
      exact ⟨x10, _, d9, ents_next hE hy' b rs sh, _, _, _, _, _, _, _, rfl⟩
    · rintro σ H2 ⟨x2, E, d2, hE, v6, v8, v9, v10, v11, v12, v13, rfl⟩
      obtain ⟨a1, ds, sh, a2, es, th, rfl⟩ := hE.two
      have ok1 : EntOk f' ds sh := (d2.things (eOne a1 f' ds sh) (by simp)).2
      have ok2 : EntOk f' es th := (d2.things (eTwo a2 f' es th) (by simp)).2
      clear hD1 hpn hE
      refine ⟨_, rfl, ?_⟩
      refine ⟨(by show 2 ≤ sizeLine; decide), fun p1 f1 => ?_⟩
      have s3 := Same.new (o := .tup [V.str "one", V.str "two"]) f1
      refine ⟨D, [eOne a1 f' ds sh, eTwo a2 f' es th], p1, ["one", "two"], [eOne a1 f' ds sh, eTwo a2 f' es th], rfl, SqT.of upd_same, (fun y hy => ?_), by decide, d2.same s3, (by show 2 < 50; decide), ⟨look_one, look_two, trivial⟩, fun H3 pp x3 d3 e3 => ?_⟩
      · simp only [List.mem_cons, List.not_mem_nil, or_false] at hy
        rcases hy with rfl | rfl
        · exact lname1
        · exact lname2
      have e3 : H3 pp = some (.tup ((rowOf f' ds sh ++ rowOf f' es th).map nV)) := by
        rw [e3]
        show some (HO.tup ((rowOf f' ds sh ++ (rowOf f' es th ++ [])).map nV)) = _
        rw [List.append_nil]
      have x4 := (x2.trans (Dx.of s3)).trans x3
      have sS := dx_same s1 n1 n2 x4
      clear x2 x3 s3 f1 d2
      refine ⟨_, rfl, ?_⟩
      refine ⟨a, zs, 5, rfl, sS.leq hL, by decide, fun H4 c5 s4 => ?_⟩
      have d4 := d3.same s4
      have e4 := SqT.of (K := K) (s4 _ _ e3)
      have sT := sS.trans s4
      have hF4 := sT.teq hF
      have hG4 := sT.teq hG
      have x5 := x4.trans (Dx.of s4)
      clear e3 d3 s4 sS x4
      refine ⟨_, rfl, ?_⟩
      refine ⟨rfl, ?_⟩
      refine ⟨_, rfl, ?_⟩
      refine iteD (fun w0 => ?_) (fun w0 => ?_)
      · walk_at "ps"
        refine ⟨fa, f', rfl, hF4, hn0, (by omega), fun H5 q s5 hP => ?_⟩
        refine ⟨_, rfl, ?_⟩
        refine ⟨_, rfl, ?_⟩
        refine ⟨_, rfl, ?_⟩
        exact spAlike.of (X := E) (deed_sum ep ok1 ok2) sum_line (d4.same s5) (by show 2 < 49; decide) hP (s5.teq e4) (s5.teq hF4) k
      refine ⟨_, rfl, ?_⟩
      refine ⟨rfl, ?_⟩
      refine ⟨_, rfl, ?_⟩
      refine iteD (fun w1 => ?_) (fun w1 => ?_)
      · walk_at "ps"
        refine ⟨fa, f', rfl, hF4, hn0, (by omega), fun H5 q s5 hP => ?_⟩
        refine ⟨_, rfl, ?_⟩
        refine ⟨_, rfl, ?_⟩
        refine ⟨_, rfl, ?_⟩
        exact spAlike.of (X := E) (deed_less ep ok1 ok2) less_line (d4.same s5) (by show 2 < 49; decide) hP (s5.teq e4) (s5.teq hF4) k
      refine ⟨_, rfl, ?_⟩
      refine ⟨rfl, ?_⟩
      refine ⟨_, rfl, ?_⟩
      refine iteD (fun w2 => ?_) (fun w2 => ?_)
      · walk_at "ps"
        refine ⟨fa, f', rfl, hF4, hn0, (by omega), fun H5 q s5 hP => ?_⟩
        refine ⟨_, rfl, ?_⟩
        refine ⟨_, rfl, ?_⟩
        obtain ⟨pf1, pf2⟩ := pair_facts ok1 ok2
        refine ⟨q, pp, (bCompare f').rows, rowOf f' ds sh ++ rowOf f' es th, c5, 557, 1, rfl, hP, rows_compare (by omega), s5.teq e4, pf1, pf2, fun H6 p6 t6 z cs s6 hz hrel e6 e7 => ?_⟩
        obtain ⟨hd1, hd2⟩ := does_compare hn0 (by omega) ok1.good ok2.good z hz
        have ht := hrel.take (by show 1 ≤ 256; decide) hd1
        have ht : cs.take 1 = _ := ht
        rw [ht] at e6
        rw [hd2] at e7
        obtain ⟨o, due, ho, ho3, hdue, hans⟩ : ∃ (o : Nat) (due : Str), (if readZ f' ds sh < readZ f' es th then 0 else if readZ f' ds sh = readZ f' es th then 1 else 2) = o ∧ o < 3 ∧ atI [V.str "less", V.str "alike", V.str "greater"] ((o : Int) % 3) = some (V.str due) ∧ Cmd.ans (.order "one" "two" (eOne a1 f' ds sh) (eTwo a2 f' es th)) = due := by
          by_cases h1 : readZ f' ds sh < readZ f' es th
          · refine ⟨0, "less", if_pos h1, by decide, rfl, ?_⟩
            show (if readZ f' ds sh < readZ f' es th then ("less" : Str) else if readZ f' ds sh = readZ f' es th then "alike" else "greater") = _
            rw [if_pos h1]
          · by_cases h2 : readZ f' ds sh = readZ f' es th
            · refine ⟨1, "alike", by rw [if_neg h1, if_pos h2], by decide, rfl, ?_⟩
              show (if readZ f' ds sh < readZ f' es th then ("less" : Str) else if readZ f' ds sh = readZ f' es th then "alike" else "greater") = _
              rw [if_neg h1, if_pos h2]
            · refine ⟨2, "greater", by rw [if_neg h1, if_neg h2], by decide, rfl, ?_⟩
              show (if readZ f' ds sh < readZ f' es th then ("less" : Str) else if readZ f' ds sh = readZ f' es th then "alike" else "greater") = _
              rw [if_neg h1, if_neg h2]
        rw [ho] at e6
        refine ⟨_, _, rfl, SqT.of e7, rfl, _, _, rfl, _, _, rfl, rfl, ?_⟩
        skip
        refine ⟨(by show 3 ≤ sizeLine; decide), fun p8 f8 => ?_⟩
        have s8 := Same.new (o := .tup [V.str "less", V.str "alike", V.str "greater"]) f8
        refine ⟨_, rfl, ?_⟩
        refine ⟨_, _, _, nV o, rfl, rfl, SqT.of (s8 _ _ e6), rfl, ?_⟩
        refine ⟨_, _, rfl, rfl, (by show (0 : Int) < _; decide), ?_⟩
        refine ⟨_, _, _, V.str due, rfl, rfl, SqT.of upd_same, hdue, ?_⟩
        refine ⟨_, rfl, ?_⟩
        refine ⟨_, _, _, nV o, rfl, rfl, SqT.of (s8 _ _ e6), rfl, ?_⟩
        refine ⟨_, _, rfl, rfl, ?_⟩
        refine ⟨_, rfl, ?_⟩
        refine iteD (fun _ => ?_) (fun h => absurd h (by omega))
        refine ⟨_, rfl, ?_⟩
        refine ⟨rfl, ?_⟩
        refine ⟨_, rfl, ?_⟩
        refine ⟨_, rfl, ?_⟩
        refine ⟨_, rfl, ?_⟩
        refine ⟨(by show 2 ≤ sizeLine; decide), fun p9 f9 => ?_⟩
        have hln := order_ok (eOne a1 f' ds sh) (eTwo a2 f' es th) lname1 lname2
        refine ⟨D, [eOne a1 f' ds sh, eTwo a2 f' es th], .order "one" "two" (eOne a1 f' ds sh) (eTwo a2 f' es th), p9, (by rw [order_line]; rfl), (by rw [hans]; exact upd_same), ((((d4.same s5).same s6).same s8).same (Same.new f9)), (by show 2 < 50; decide), hln.pts, hln.words, hln.len, rfl, ⟨look_one, look_two, trivial⟩, fun H9 x9 a9 => k _⟩
      refine ⟨_, rfl, ?_⟩
      refine ⟨rfl, ?_⟩
      refine ⟨_, rfl, ?_⟩
      refine iteD (fun w3 => ?_) (fun w3 => ?_)
      · walk_at "ps"
        refine ⟨.inl ⟨by decide, by decide⟩, ?_⟩
        refine ⟨_, rfl, ?_⟩
        refine ⟨_, _, _, _, rfl, rfl, (by assumption), rfl, ?_⟩
        refine ⟨_, rfl, ?_⟩
        refine ⟨_, _, _, _, rfl, rfl, (by assumption), rfl, ?_⟩
        refine ⟨_, _, rfl, rfl, ?_⟩
        refine ⟨.inl ⟨by decide, by decide⟩, ?_⟩
        skip
        refine ⟨(by show 4 ≤ sizeLine; decide), fun p5 f5 => ?_⟩
        have s5 := Same.new (o := .tup [V.str (kindS f'.packed), V.int (2 * (f'.n : Int)), V.str (sgS f'.sg), V.int (2 * (f'.pt : Int))]) f5
        have e5 : upd H4 p5 (.tup [V.str (kindS f'.packed), V.int (2 * (f'.n : Int)), V.str (sgS f'.sg), V.int (2 * (f'.pt : Int))]) p5 = some (.tup (longer f').vs) := upd_is (by
          show HO.tup [V.str (kindS f'.packed), V.int (2 * (f'.n : Int)), V.str (sgS f'.sg), V.int (2 * (f'.pt : Int))] = HO.tup [V.str (kindS f'.packed), V.int ((f'.n + f'.n : Nat) : Int), V.str (sgS f'.sg), V.int ((f'.pt + f'.pt : Nat) : Int)]
          rw [show ((f'.n + f'.n : Nat) : Int) = 2 * (f'.n : Int) by omega, show ((f'.pt + f'.pt : Nat) : Int) = 2 * (f'.pt : Int) by omega])
        refine ⟨_, rfl, ?_⟩
        refine ⟨_, rfl, ?_⟩
        refine ⟨_, rfl, ?_⟩
        refine ⟨_, _, _, V.int (f'.n : Int), rfl, rfl, s5.teq hF4, rfl, ?_⟩
        refine ⟨fa, f', f'.n, rfl, s5.teq hF4, hn0, hn0, by omega, fun H6 q s6 hP => ?_⟩
        refine ⟨_, rfl, ?_⟩
        refine ⟨_, rfl, ?_⟩
        refine ⟨_, rfl, ?_⟩
        exact spAlike.of (X := E) (deed_times ep hn6 ok1 ok2) times_line ((d4.same s5).same s6) (by show 2 < 49; decide) hP (s6.teq (s5.teq e4)) (SqT.of (s6 _ _ e5)) k
      refine ⟨_, rfl, ?_⟩
      refine ⟨(by show 1 ≤ sizeLine; decide), fun p6 f6 => ?_⟩
      have s6 := Same.new (o := .tup [V.str "two"]) f6
      refine ⟨D, [eOne a1 f' ds sh, eTwo a2 f' es th], p6, ["two"], [eTwo a2 f' es th], rfl, SqT.of upd_same, (fun y hy => ?_), by decide, d4.same s6, (by show 2 < 50; decide), ⟨look_two, trivial⟩, fun H7 p7 x7 d7 e7 => ?_⟩
      · rw [List.mem_singleton.mp hy]
        exact lname2
      have e7 : H7 p7 = some (.tup ((rowOf f' es th).map nV)) := by
        rw [e7]
        show some (HO.tup ((rowOf f' es th ++ []).map nV)) = _
        rw [List.append_nil]
      have x8 := (x5.trans (Dx.of s6)).trans x7
      have sS := dx_same s1 n1 n2 x8
      refine ⟨_, rfl, ?_⟩
      refine ⟨rfl, ?_⟩
      refine ⟨_, rfl, ?_⟩
      refine iteD (fun w4 => ?_) (fun w4 => ?_)
      · have hF7 := sS.teq hF
        have hpos : (0 : Int) < 2 * (f'.n : Int) + 1 := by omega
        have hm1 := Int.emod_nonneg (by_ : Int) (show 2 * (f'.n : Int) + 1 ≠ 0 by omega)
        have hm2 := Int.emod_lt_of_pos (by_ : Int) hpos
        refine ⟨_, rfl, ?_⟩
        refine ⟨_, rfl, ?_⟩
        refine ⟨_, _, _, _, rfl, rfl, (by assumption), rfl, ?_⟩
        refine ⟨_, _, rfl, rfl, ?_⟩
        refine ⟨.inl ⟨by decide, by decide⟩, ?_⟩
        refine ⟨_, _, rfl, rfl, ?_⟩
        refine ⟨_, _, rfl, rfl, ?_⟩
        refine ⟨hpos, ?_⟩
        refine ⟨_, rfl, ?_⟩
        refine ⟨_, _, _, _, rfl, rfl, (by assumption), rfl, ?_⟩
        refine ⟨_, _, rfl, rfl, ?_⟩
        refine ⟨_, rfl, ?_⟩
        have hi1 : -(f'.n : Int) ≤ (by_ : Int) % (2 * (f'.n : Int) + 1) - (f'.n : Int) := by omega
        have hi2 : (by_ : Int) % (2 * (f'.n : Int) + 1) - (f'.n : Int) ≤ (f'.n : Int) := by omega
        dsimp only
        generalize (by_ : Int) % (2 * (f'.n : Int) + 1) - (f'.n : Int) = far at *
        have lm : ("move a two " : Str).length = 11 := by decide
        have lb : (" " : Str).length = 1 := by decide
        have l0 : Str.empty.length = 0 := rfl
        have lw : (Str.ofString (toString far)).length ≤ 640 := (wd_i (i := far) (by omega) (by omega)).2.2
        have lr := (wd_rule r).2.2
        have lz : 5000 ≤ sizeLine := by decide
        have bg : far.natAbs.log2 < 1920 := by
          have h : ∀ n : Fin 13, n.val.log2 < 1920 := by decide
          exact h ⟨far.natAbs, by omega⟩
        refine ⟨(by simp only [Str.length_append]; omega), ?_⟩
        refine ⟨_, rfl, ?_⟩
        refine .inr ⟨_, rfl, ?_⟩
        refine ⟨bg, _, rfl, (by simp only [Str.length_append]; omega), ?_⟩
        refine ⟨_, rfl, (by simp only [Str.length_append]; omega), ?_⟩
        refine ⟨_, rfl, ?_⟩
        refine .inl ⟨_, rfl, ?_⟩
        refine ⟨(by omega), _, rfl, (by simp only [Str.length_append]; omega), ?_⟩
        refine ⟨_, rfl, ?_⟩
        refine ⟨_, rfl, ?_⟩
        refine ⟨_, rfl, ?_⟩
        refine ⟨_, rfl, ?_⟩
        refine ⟨_, rfl, ?_⟩
        refine ⟨fa, f', far, r, rfl, hF7, hn0, by omega, by omega, fun H8 q s8 hP => ?_⟩
        refine ⟨_, rfl, ?_⟩
        refine ⟨_, rfl, ?_⟩
        refine ⟨_, rfl, ?_⟩
        exact spAlike.of (X := E) (deed_move hn6 (by omega) ok2) (move_line far r) (d7.same s8) (by show 2 < 49; decide) hP (SqT.of (s8 _ _ e7)) (s8.teq hF7) k
      have la : ("turn a two " : Str).length = 11 := by decide
      have lf := formF_len (f := g) (by omega) (by omega)
      have hG7 := sS.teq hG
      refine ⟨_, rfl, ?_⟩
      refine ⟨ga, g, rfl, hG7, (by omega), (by omega), ?_⟩
      refine ⟨_, _, rfl, rfl, ?_⟩
      refine ⟨small_len (by rw [la]; omega), ?_⟩
      refine ⟨_, rfl, ?_⟩
      refine ⟨_, rfl, ?_⟩
      refine ⟨_, rfl, ?_⟩
      refine ⟨_, rfl, ?_⟩
      refine ⟨fa, f', ga, g, rfl, sS.teq hF, hG7, hn0, by omega, g0, by omega, fun H8 q s8 hP => ?_⟩
      refine ⟨_, rfl, ?_⟩
      refine ⟨_, rfl, ?_⟩
      refine ⟨_, rfl, ?_⟩
      exact spAlike.of (X := E) (deed_turn g0 g12 gp ok2) (turn_line g) (d7.same s8) (by show 2 < 49; decide) hP (SqT.of (s8 _ _ e7)) (s8.teq hG7) k
end
end TL
set_option Elab.async false
set_option linter.all false
set_option maxRecDepth 100000
set_option maxHeartbeats 0
namespace TL
open PySem PySem.W PySem.Spec PyProof.Rows HandSHeadRun L2
theorem law_facts {P : Program} {w : World} {K : PySem.W.Frag} {h : Heap} {mg : PySem.Str → Option Value} {fa : Addr} (X : K.In h) (G : h.Ns mainGlobals mg) (hfa : mg ("law" : PySem.Str) = some (.ref fa)) (c : obsK K = valK w) :
    ∃ fd : FuncData, (∀ (s : Shared) (v : Value), BindsTo s fd ⟨[v], []⟩ [("_law_script", v)]) ∧ ∀ base : Heap, FnOk P w K mg base CX0 11 fa fd ["_law_script"] (spLaw K) := by
  have T : TX w K mg := ⟨c, h, X, G⟩
  obtain ⟨fd, hm, hb, F⟩ := d_law (P := P) T
  rw [hfa] at hm
  cases hm
  exact ⟨fd, fun s v => hb s [v] rfl, F⟩
end TL
open PySem PySem.W PySem.Calls PyProof.Rows
theorem PySem.Challenge.cw_tensloft_k96_whole_desk_and_rows_holds : PySem.Challenge.rw_tensloft_k96_whole_desk_and_rows.Holds := by
  refine TL.law_front fun said => ?_
  refine HandSHeadRun.head_any (r := OpenLaw.row PySem.Challenge.rw_tensloft_k96_whole_desk_and_rows) (q := TL.topV) (H := TL.hookQ) (ob := TL.ob) (M := 20000) (loose := TL.names) (d := HandSHeadRun.topDef (OpenLaw.row PySem.Challenge.rw_tensloft_k96_whole_desk_and_rows).prog 173) (kwd := []) TL.ob_eq
    (by kernel_rfl) (fun s => by kernel_rfl) TL.run_all (by kernel_rfl) (by kernel_rfl) (by kernel_rfl) (by rfl) said (by decide +kernel) TL.law_bare ?hw ?hc
  case hw => w_witness2
  case hc =>
    refine L2.walk_ofE (l := PySem.Challenge.rw_tensloft_k96_whole_desk_and_rows) (n := 63) (k := 11) (x := "_law_script") (CX := L2.CX0) rfl (by decide) (by kernel_rfl) ⟨rfl, by decide, by decide⟩ ?F (fun _ _ _ _ z => z)
    intro w mg fa h Y G hmg0
    obtain ⟨K, KX, c⟩ := Y
    have hmg : mg ("law" : PySem.Str) = some (.ref fa) := by
      have e : (HandSHeadRun.topDef (OpenLaw.row PySem.Challenge.rw_tensloft_k96_whole_desk_and_rows).prog 173).name = ("law" : PySem.Str) := by kernel_rfl
      rw [← e]
      exact hmg0
    obtain ⟨fd, hb, hF⟩ := TL.law_facts (P := (PySem.Challenge.rw_tensloft_k96_whole_desk_and_rows).prog) (w := w) KX G hmg c
    exact ⟨K, fd, TL.spLaw K, KX, hb, fun H a ns hl _ hS => ⟨a, ns, rfl, hS, fun _ => rfl⟩, fun base _ _ => hF base⟩
